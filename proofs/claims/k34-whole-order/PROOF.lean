import PyProof.Rows.All
import Wide.All
import OpenK.AllK
import Wide.FinOn
import HandS.ForMost
import HandS.Walk
import HandS.Zip
import HandS.Wide
import HandS.IsInst
import HandS.TupLe
import HandS.TupSets
import HandS.Codes
import PySem.Challenge.RW_gaugewright_k34_whole_order_of_sets
import HandS.SortOrd
import KE.GoesMore
import PyProof.LongRange
set_option Elab.async false
set_option linter.all false
set_option maxRecDepth 100000
set_option maxHeartbeats 4000000
namespace Gw
open PySem PySem.Spec PyProof.Rows L2
/-! ### the text by places -/
def top (i : Nat) : Stmt := PySem.Challenge.pw_gaugewright_k34_whole_order_of_sets.main.body.getD i (.Pass ⟨0, 0, 0, 0⟩)
abbrev sWhole : Stmt := top 5
abbrev sSize : Stmt := top 6
abbrev sIsSet : Stmt := top 8
abbrev sHow : Stmt := top 9
abbrev sWorth : Stmt := top 11
abbrev sKeeps : Stmt := top 12
abbrev sCorner : Stmt := top 14
abbrev sLowest : Stmt := top 15
abbrev sHighest : Stmt := top 16
abbrev sReach : Stmt := top 17
abbrev sCheck : Stmt := top 20
abbrev sRisen : Stmt := top 21
abbrev sWays : Stmt := top 22
abbrev sIdle : Stmt := top 23
abbrev sSpread : Stmt := top 24
abbrev sKept : Stmt := top 25
abbrev sTimes : Stmt := top 26
abbrev sBInit : Stmt := inClass (top 27) 0
abbrev sBOn : Stmt := inClass (top 27) 1
abbrev sNth : Stmt := top 28
abbrev sNum : Stmt := top 29
abbrev sCell : Stmt := top 31
abbrev sNext : Stmt := top 32
abbrev sPen : Stmt := top 33
abbrev sDraw : Stmt := top 34
abbrev sNumber : Stmt := top 35
abbrev sNames : Stmt := top 36
abbrev sCounted : Stmt := top 37
abbrev sEnds : Stmt := top 38
abbrev sTerms : Stmt := top 39
abbrev sGap : Stmt := top 40
abbrev sIdled : Stmt := top 41
abbrev sSet : Stmt := top 42
abbrev sLWorth : Stmt := top 43
abbrev sLKeeps : Stmt := top 44
abbrev sRight : Stmt := top 45
abbrev sSets : Stmt := top 46
abbrev sNone : Stmt := top 47
abbrev sLaw : Stmt := top 48
/-! ### each def's names by slot -/
theorem sc_whole : FnScope ["thing"] ["thing"] (defScope sWhole) := ⟨rfl, rfl, rfl, by decide +kernel, rfl, by decide +kernel, by decide +kernel⟩
theorem sc_size : FnScope ["one"] ["one"] (defScope sSize) := ⟨rfl, rfl, rfl, by decide +kernel, rfl, by decide +kernel, by decide +kernel⟩
theorem sc_isset : FnScope ["drawing", "thing", "part", "number"] ["drawing", "thing"] (defScope sIsSet) := ⟨rfl, rfl, rfl, by decide +kernel, rfl, by decide +kernel, by decide +kernel⟩
theorem sc_how : FnScope ["drawing", "found", "part"] ["drawing"] (defScope sHow) := ⟨rfl, rfl, rfl, by decide +kernel, rfl, by decide +kernel, by decide +kernel⟩
theorem sc_worth : FnScope ["gap", "numbers", "part", "by"] ["gap", "numbers"] (defScope sWorth) := ⟨rfl, rfl, rfl, by decide +kernel, rfl, by decide +kernel, by decide +kernel⟩
theorem sc_keeps : FnScope ["gap", "numbers"] ["gap", "numbers"] (defScope sKeeps) := ⟨rfl, rfl, rfl, by decide +kernel, rfl, by decide +kernel, by decide +kernel⟩
theorem sc_corner : FnScope ["drawing", "gap", "up", "numbers", "place", "by", "part"] ["drawing", "gap", "up"] (defScope sCorner) := ⟨rfl, rfl, rfl, by decide +kernel, rfl, by decide +kernel, by decide +kernel⟩
theorem sc_lowest : FnScope ["drawing", "gap"] ["drawing", "gap"] (defScope sLowest) := ⟨rfl, rfl, rfl, by decide +kernel, rfl, by decide +kernel, by decide +kernel⟩
theorem sc_highest : FnScope ["drawing", "gap"] ["drawing", "gap"] (defScope sHighest) := ⟨rfl, rfl, rfl, by decide +kernel, rfl, by decide +kernel, by decide +kernel⟩
theorem sc_reach : FnScope ["drawing", "gap"] ["drawing", "gap"] (defScope sReach) := ⟨rfl, rfl, rfl, by decide +kernel, rfl, by decide +kernel, by decide +kernel⟩
theorem sc_check : FnScope ["drawing", "gap", "least", "greatest"] ["drawing", "gap"] (defScope sCheck) := ⟨rfl, rfl, rfl, by decide +kernel, rfl, by decide +kernel, by decide +kernel⟩
theorem sc_risen : FnScope ["ways", "by", "room", "found", "rise", "here", "gone"] ["ways", "by", "room"] (defScope sRisen) := ⟨rfl, rfl, rfl, by decide +kernel, rfl, by decide +kernel, by decide +kernel⟩
theorem sc_ways : FnScope ["drawing", "terms", "found", "place", "by"] ["drawing", "terms"] (defScope sWays) := ⟨rfl, rfl, rfl, by decide +kernel, rfl, by decide +kernel, by decide +kernel⟩
theorem sc_idle : FnScope ["drawing", "gap", "first", "there", "place", "by", "part"] ["drawing", "gap", "first"] (defScope sIdle) := ⟨rfl, rfl, rfl, by decide +kernel, rfl, by decide +kernel, by decide +kernel⟩
theorem sc_spread : FnScope ["drawing", "gap", "least", "apart", "found", "rise", "ways"] ["drawing", "gap"] (defScope sSpread) := ⟨rfl, rfl, rfl, by decide +kernel, rfl, by decide +kernel, by decide +kernel⟩
theorem sc_kept : FnScope ["drawing", "gap", "number", "sets_here"] ["drawing", "gap"] (defScope sKept) := ⟨rfl, rfl, rfl, by decide +kernel, rfl, by decide +kernel, by decide +kernel⟩
theorem sc_times : FnScope ["gap", "place", "part", "by"] ["gap", "place"] (defScope sTimes) := ⟨rfl, rfl, rfl, by decide +kernel, rfl, by decide +kernel, by decide +kernel⟩
theorem sc_binit : FnScope ["self", "drawing", "gap", "first", "terms", "ways", "term"] ["self", "drawing", "gap", "first"] (defScope sBInit) := ⟨rfl, rfl, rfl, by decide +kernel, rfl, by decide +kernel, by decide +kernel⟩
theorem sc_bon : FnScope ["self", "ahead", "first", "last"] ["self", "ahead"] (defScope sBOn) := ⟨rfl, rfl, rfl, by decide +kernel, rfl, by decide +kernel, by decide +kernel⟩
theorem sc_nth : FnScope ["drawing", "gap", "number", "numbers", "ahead", "left", "place", "part", "by", "behind", "here"] ["drawing", "gap", "number"] (defScope sNth) := ⟨rfl, rfl, rfl, by decide +kernel, rfl, by decide +kernel, by decide +kernel⟩
theorem sc_num : FnScope ["drawing", "gap", "thing", "found", "ahead", "place", "part", "by", "behind", "here"] ["drawing", "gap", "thing"] (defScope sNum) := ⟨rfl, rfl, rfl, by decide +kernel, rfl, by decide +kernel, by decide +kernel⟩
theorem sc_cell : FnScope ["script", "k"] ["script", "k"] (defScope sCell) := ⟨rfl, rfl, rfl, by decide +kernel, rfl, by decide +kernel, by decide +kernel⟩
theorem sc_next : FnScope ["seed"] ["seed"] (defScope sNext) := ⟨rfl, rfl, rfl, by decide +kernel, rfl, by decide +kernel, by decide +kernel⟩
theorem sc_pen : FnScope ["cell", "left"] ["cell"] (defScope sPen) := ⟨rfl, rfl, rfl, by decide +kernel, rfl, by decide +kernel, by decide +kernel⟩
theorem sc_draw : FnScope ["pen", "many", "found"] ["pen", "many"] (defScope sDraw) := ⟨rfl, rfl, rfl, by decide +kernel, rfl, by decide +kernel, by decide +kernel⟩
theorem sc_number : FnScope ["pen", "way"] ["pen"] (defScope sNumber) := ⟨rfl, rfl, rfl, by decide +kernel, rfl, by decide +kernel, by decide +kernel⟩
theorem sc_names : FnScope ["pen", "letters", "way", "first", "names", "word", "at", "k"] ["pen"] (defScope sNames) := ⟨rfl, rfl, rfl, by decide +kernel, rfl, by decide +kernel, by decide +kernel⟩
theorem sc_counted : FnScope ["pen", "names", "wides", "drawing", "k", "low"] ["pen"] (defScope sCounted) := ⟨rfl, rfl, rfl, by decide +kernel, rfl, by decide +kernel, by decide +kernel⟩
theorem sc_ends : FnScope ["drawing", "terms", "least", "most", "part", "times", "ends"] ["drawing", "terms"] (defScope sEnds) := ⟨rfl, rfl, rfl, by decide +kernel, rfl, by decide +kernel, by decide +kernel⟩
theorem sc_terms : FnScope ["pen", "drawing", "some", "terms", "part"] ["pen", "drawing"] (defScope sTerms) := ⟨rfl, rfl, rfl, by decide +kernel, rfl, by decide +kernel, by decide +kernel⟩
theorem sc_gap : FnScope ["pen", "drawing", "terms", "least", "most", "wide", "low", "high"] ["pen", "drawing"] (defScope sGap) := ⟨rfl, rfl, rfl, by decide +kernel, rfl, by decide +kernel, by decide +kernel⟩
theorem sc_idled : FnScope ["pen", "drawing", "gap", "there", "found", "k", "name", "low", "high", "part", "times"] ["pen", "drawing", "gap"] (defScope sIdled) := ⟨rfl, rfl, rfl, by decide +kernel, rfl, by decide +kernel, by decide +kernel⟩
theorem sc_set : FnScope ["pen", "drawing", "one", "name", "low", "high", "some"] ["pen", "drawing"] (defScope sSet) := ⟨rfl, rfl, rfl, by decide +kernel, rfl, by decide +kernel, by decide +kernel⟩
theorem sc_lworth : FnScope ["gap", "one", "total", "part", "times"] ["gap", "one"] (defScope sLWorth) := ⟨rfl, rfl, rfl, by decide +kernel, rfl, by decide +kernel, by decide +kernel⟩
theorem sc_lkeeps : FnScope ["gap", "one"] ["gap", "one"] (defScope sLKeeps) := ⟨rfl, rfl, rfl, by decide +kernel, rfl, by decide +kernel, by decide +kernel⟩
theorem sc_right : FnScope ["drawing", "gap", "number", "one"] ["drawing", "gap", "number"] (defScope sRight) := ⟨rfl, rfl, rfl, by decide +kernel, rfl, by decide +kernel, by decide +kernel⟩
theorem sc_sets : FnScope ["drawing", "gap", "sets", "good", "numbers", "k", "one"] ["drawing", "gap", "sets"] (defScope sSets) := ⟨rfl, rfl, rfl, by decide +kernel, rfl, by decide +kernel, by decide +kernel⟩
theorem sc_none : FnScope ["drawing", "gap", "number", "sets", "one", "other", "here"] ["drawing", "gap", "number", "sets"] (defScope sNone) := ⟨rfl, rfl, rfl, by decide +kernel, rfl, by decide +kernel, by decide +kernel⟩
theorem sc_law : FnScope ["script", "cell", "pen", "drawing", "gap", "least", "most", "sets", "every", "number", "turn"] ["script"] (defScope sLaw) := ⟨rfl, rfl, rfl, by decide +kernel, rfl, by decide +kernel, by decide +kernel⟩
end Gw

/-! ### own rules over the hand layer -/
namespace GwR
open PySem PySem.Spec PyProof.Rows L2
/-! #### for over a list or a tuple -/
def iSeq (K : PySem.W.Frag) (tl : TE) : TI := fun σ H R => tl σ H fun x H1 => ∃ a, x = .ref a ∧ (((∃ xs, SqL K H1 a xs) ∧ R (Itl K a) H1) ∨ ((∃ xs, SqT K H1 a xs) ∧ R (Itt K a) H1))
theorem pi_seq {X : Cx} {tg l : Expr} {tl : TE} (hl : PE X l tl) : PI X tg l (iSeq X.K tl) := by
  refine ⟨fun pins s σ H R I h => ?_⟩
  refine thn (hl.run pins s σ H _ I h) fun v s1 ⟨x, H1, I1, r1, q1⟩ => ?_
  obtain ⟨a, e, q1⟩ := q1
  subst e
  cases r1
  rcases q1 with ⟨⟨xs, hq⟩, q⟩ | ⟨⟨xs, hq⟩, q⟩
  · obtain ⟨its, rv, p, hz⟩ := I1.list hq
    refine wpAny_pyIter_list p.isList ?_
    refine ⟨s1.heap.objs.size, [s1.heap.objs.size], _, _, H1, rfl, I1.kept (t' := s1.toks) fun b o e => Heap.get?_push_of_some _ e, turn_list a _, ⟨_, Heap.get?_push_size _ rfl, rfl, rfl⟩, fun b hb => ?_, q⟩
    have e : b = s1.heap.objs.size := by simpa using hb
    subst e
    exact I1.fpOk (Nat.le_refl _) (I1.hok.fresh (Nat.le_refl _))
  · obtain ⟨its, rv, p, hz⟩ := I1.tuple hq
    refine wpAny_pyIter_tuple (show s1.heap.IsTuple a its.toArray from p) ?_
    refine ⟨s1.heap.objs.size, [s1.heap.objs.size], _, _, H1, rfl, I1.kept (t' := s1.toks) fun b o e => Heap.get?_push_of_some _ e, turn_tuple a _, ⟨_, Heap.get?_push_size _ rfl, rfl, rfl⟩, fun b hb => ?_, q⟩
    have e : b = s1.heap.objs.size := by simpa using hb
    subst e
    exact I1.fpOk (Nat.le_refl _) (I1.hok.fresh (Nat.le_refl _))
/-! #### range(a, b) of ints of any size -/
theorem turn_long {P : Program} {w : World} {K : PySem.W.Frag} {tg : Expr} (it : Addr) (lo : Int) (n : Nat) : Turn P w K tg (Itr lo n) [it] it (fun i h => IsLongIter h it (lo + (i : Nat) * 1) ((n : Int) - (i : Nat)) 1) where
  mem := by simp
  obj := fun i h st b hb => by
    have e : b = it := by simpa using hb
    subst e
    exact ⟨_, st, fun v z => by
      have z' : Data.fields _ = Data.cell v := z
      cases z'⟩
  keep := fun i h h' st k => k it (by simp) _ st
  item := by
    intro X hP hw hK hc i pins s σ H E I hf st hg
    subst hP hw hK
    obtain ⟨f0, f1, f2, f3, f4, f5⟩ := hf it (by simp)
    have W := Walks.longrange (prog := X.prog) (w := X.w) (I.ok.hd hc) it lo 1 n
    refine W.item i s _ _ hg st fun v h' tk hv st' kk => ?_
    obtain ⟨t, rfl⟩ := hv
    have I1 : Inv X pins σ H { s with heap := h', toks := tk } := I.turned (fun b o hb e => kk b o (by simpa using hb) e) f0 f1 f3 f4 f5
    refine ⟨_, rfl, go_of (s := { s with heap := h', toks := tk }) (n := "longrange_iterator") st' rfl rfl (by decide) ⟨.int (lo + i), H, I1, ⟨t, ?_⟩, ⟨rfl, rfl⟩, st', fun b hb => (hf b hb).1⟩⟩
    rw [Int.mul_one]
  done := by
    intro X hP hw hK hc i pins s σ H E I hf st hg
    subst hP hw hK
    obtain ⟨f0, f1, f2, f3, f4, f5⟩ := hf it (by simp)
    exact wpAny_pyNext_long_end (I.ok.hd hc) st (by have : n ≤ i := hg; omega) fun h' eb => ⟨rfl, I.turned (t' := s.toks) (fun b o hb e => eb b o hb e) f0 f1 f3 f4 f5⟩
  self := fun _ _ _ _ _ st h => wpAny_pyIter_longiter st h
def iRngB (ta : TA) : TI := fun σ H R => ta σ H fun vs H1 => ∃ i j : Int, vs = [.int i, .int j] ∧ R (Itr i (j - i).toNat) H1
theorem range_itB {X : Cx} {tg : Expr} {pins : List (Addr × Obj)} {σ : L2.St} {H : Hp} {s : Shared} {R : It → Hp → Prop} {E : Value → Shared → Prop} {lo hi : Int} {t u v : Tok} {tk : Nat} (I : Inv X pins σ H s)
    (q : R (Itr lo (hi - lo).toNat) H) : wpAny (model X.prog X.w) X.A (pyIter (.ref s.heap.objs.size)) (PIE X pins σ tg R) E { s with heap := s.heap.push { cls := .type "range", data := .fields #[.int lo t, .int hi u, .int 1 v] }, toks := tk } := by
  have e1 : lo + ((0 : Nat) : Int) * 1 = lo := by simp
  have e2 : (((hi - lo).toNat : Nat) : Int) - ((0 : Nat) : Int) = Builtin.Range.rangeSize lo hi 1 := by rw [rangeSize_one]; split <;> omega
  have I1 : Inv X pins σ H { s with heap := s.heap.push { cls := .type "range", data := .fields #[.int lo t, .int hi u, .int 1 v] }, toks := tk } := I.kept fun b o e => Heap.get?_push_of_some _ e
  by_cases hs : Builtin.Range.small lo hi 1 = true
  · refine wpAny_pyIter_range (IsRange.new ..) hs ?_
    refine pi_one (tk := tk) I1 _ (turn_range _ lo (hi - lo).toNat) ?_ q
    show IsRangeIter _ _ (lo + ((0 : Nat) : Int) * 1) ((((hi - lo).toNat : Nat) : Int) - ((0 : Nat) : Int)) 1
    rw [e1, e2]
    exact Heap.get?_push_size _ rfl
  · refine wpAny_pyIter_longrange (IsRange.new ..) (by simpa using hs) ?_
    refine pi_one (tk := tk) I1 _ (turn_long _ lo (hi - lo).toNat) ?_ q
    show IsLongIter _ _ (lo + ((0 : Nat) : Int) * 1) ((((hi - lo).toNat : Nat) : Int) - ((0 : Nat) : Int)) 1
    rw [e1, e2]
    exact Heap.get?_push_size _ rfl
theorem pi_rangeB {X : Cx} {tg a b : Expr} {ta : TA} {p pos : Pos} (hg : Gl X "range") (hm : X.mg "range" = none) (ha : PA X [a, b] ta) (hs : starEach [a, b] X.env = [(false, eval a X.env), (false, eval b X.env)] := by rfl) (hs2 : starEach [b] X.env = [(false, eval b X.env)] := by rfl) :
    PI X tg (.Call (.Name "range" p) [a, b] [] pos) (iRngB ta) := by
  refine ⟨fun pins s σ H R I h => ?_⟩
  refine Call_ (ld_blt I hg hm boot_range (PyProof.Rows.callWith_type1 (thn (ha.run pos pins s σ H _ I h) fun us s1 ⟨vs, H1, I1, r1, q1⟩ => ?_) (by rw [hs, hs2]) (by rw [hs2]; rfl)))
  obtain ⟨i, j, e, q⟩ := q1
  subst e
  cases r1 with
  | cons r rr =>
    cases rr with
    | cons r' rr =>
      cases rr
      obtain ⟨t, rfl⟩ := r
      obtain ⟨t', rfl⟩ := r'
      exact call_range_2 (range_itB I1 q)
/-! #### enumerate(tuple) -/
theorem meets_enumerate_newT (l : Addr) (items : Array Value) (n : Nat) (dct : Option Addr) (sl : Array (Option Value)) :
    Meets (Builtin.«enumerate.__new__» ⟨[.type "enumerate", .ref l], []⟩) (fun _ R s => s.heap.get? l = some { cls := .type "tuple", dict := dct, data := .seq items n, slots := sl } ∧
      R (.ok (.ret (.ref (s.heap.push { cls := .type "tuple_iterator", data := .fields #[.ref l, .int 0 0] }).objs.size)))
        { s with heap := (s.heap.push { cls := .type "tuple_iterator", data := .fields #[.ref l, .int 0 0] }).push { cls := .type "enumerate", data := .fields #[.none, .bool false, .ref s.heap.objs.size, rawInt 0, .none, .none] } }) :=
  .of_wp fun prog w A R s h => by
    obtain ⟨hp, g, d, tk, os⟩ := s; obtain ⟨hl, h⟩ := h
    have hsub := sub_enumerate
    have hL : Heap.IsTuple (Shared.heap ⟨hp, g, d, tk, os⟩) l items := ⟨_, hl, rfl, n, rfl⟩
    wp_walk using AutoSeq1.wpAny_loadPart' hl
    refine wpAny_stack_any fun st => wpAny_pure ?_
    split
    · rename_i c _ _ _ _ _
      cases (c == Value.type "enumerate")
      · wp_walk using AutoSeq1.wpAny_loadPart' hl, wpAny_pyIter_tuple hL
        exact ⟨_, rfl, h⟩
      · wp_walk using AutoSeq1.wpAny_loadPart' hl, wpAny_pyIter_tuple hL
        exact ⟨_, rfl, h⟩
    · wp_walk using AutoSeq1.wpAny_loadPart' hl, wpAny_pyIter_tuple hL
      exact ⟨_, rfl, h⟩
theorem call_enumerate_tuple {prog : Program} {w : World} {A : Around} {E : Value → Shared → Prop} {s : Shared} {l : Addr} {items : Array Value} {Q : Value → Shared → Prop} (hL : s.heap.IsTuple l items)
    (h : ∀ h', IsEnum h' (s.heap.objs.size + 1) s.heap.objs.size 0 .none → h'.IsTupleIter s.heap.objs.size l 0 → h'.objs.size = s.heap.objs.size + 2 →
      (∀ b o, s.heap.get? b = some o → h'.get? b = some o) → Q (.ref (s.heap.objs.size + 1)) { s with heap := h' }) :
    wpAny (model prog w) A (call (.type "enumerate") [.ref l]) Q E s := by
  obtain ⟨⟨c, dct, dt, sl⟩, hl, hc, n, hd⟩ := hL
  replace hc : c = .type "tuple" := hc
  replace hd : dt = .seq items n := hd
  subst hc hd
  refine callType_new F.called_enumerate (by decide) (F.typeCall_enumerate_1 _) (F.newCall_enumerate_1 _) (fun obj => F.args_object_init_2 obj _) F.entry_enumerate_new
    (meets_enumerate_newT l items n dct sl) ⟨hl, ?_⟩
  have hz : (s.heap.push { cls := .type "tuple_iterator", data := .fields #[.ref l, .int 0 0] }).objs.size = s.heap.objs.size + 1 := Heap.size_push ..
  show _ ∧ _
  rw [hz]
  have he : IsEnum ((s.heap.push { cls := .type "tuple_iterator", data := .fields #[.ref l, .int 0 0] }).push
      { cls := .type "enumerate", data := .fields #[.none, .bool false, .ref s.heap.objs.size, rawInt 0, .none, .none] }) (s.heap.objs.size + 1) s.heap.objs.size 0 .none := by
    have := Heap.get?_push_size (s.heap.push { cls := .type "tuple_iterator", data := .fields #[.ref l, .int 0 0] })
      (o := { cls := .type "enumerate", data := .fields #[.none, .bool false, .ref s.heap.objs.size, rawInt 0, .none, .none] }) rfl
    rw [hz] at this; exact this
  refine ⟨⟨_, he, rfl⟩, h _ he ⟨_, Heap.get?_push_of_some _ (Heap.get?_push_size _ rfl), rfl, rfl⟩ (by rw [Heap.size_push, hz]) fun b o x => Heap.get?_push_of_some _ (Heap.get?_push_of_some _ x)⟩
/-- the tuple at a, each item in a new pair -/
def IteT (K : PySem.W.Frag) (a : Addr) : It :=
  ⟨fun i H => ∃ (xs : List V) (x : V), SqT K H a xs ∧ xs[i]? = some x, fun i H v H' => ∃ T x, v = .ref T ∧ H T = none ∧ H' = upd H T (.tup [.int (i : Nat), x]) ∧ ∀ xs, SqT K H a xs → xs[i]? = some x, fun i H => ∃ xs : List V, SqT K H a xs ∧ xs.length ≤ i⟩
theorem turn_enumT {P : Program} {w : World} {K : PySem.W.Frag} {elts : List Expr} {kk : Nat} {tpos : Pos} (a e it : Addr) (hai : a ≠ it) :
    Turn P w K (.Tuple elts kk tpos) (IteT K a) [e, it] e (fun i h => (∃ old, IsEnum h e it ((i : Nat) : Int) old) ∧ h.IsTupleIter it a i ∧ e ≠ it) where
  mem := by simp
  obj := fun i h st b hb => by
    obtain ⟨⟨old, he⟩, ⟨o, ho, hc, hd⟩, _⟩ := st
    have e' : b = e ∨ b = it := by simpa using hb
    rcases e' with z | z
    · rw [z]; exact ⟨_, he, fun v q => nomatch q⟩
    · rw [z]; exact ⟨o, ho, fun v q => by rw [hd] at q; cases q⟩
  keep := fun i h h' st k => let ⟨⟨old, he⟩, hi, hne⟩ := st; ⟨⟨old, k e (by simp) _ he⟩, hi.at fun o q => k it (by simp) o q, hne⟩
  item := by
    intro X hP hw hK hc i pins s σ H E I hf st hg
    subst hP hw hK
    obtain ⟨⟨old, he⟩, hit, hne⟩ := st
    obtain ⟨xs, x, hq, hx⟩ := hg
    obtain ⟨its, rv, p, hz⟩ := I.tuple hq
    obtain ⟨u, hu, ru⟩ := rv.get hx
    have p' : s.heap.IsTuple a its.toArray := p
    have hel : e < s.heap.objs.size := Heap.lt_size he
    have hil : it < s.heap.objs.size := by obtain ⟨_, q, _⟩ := hit; exact Heap.lt_size q
    have hea : e ≠ a := fun q => by
      obtain ⟨o, ho, hcls, _⟩ := p'
      rw [← q, he] at ho
      cases ho
      exact absurd (Value.type.inj hcls) (by decide)
    have hil' : i < its.toArray.size := by
      obtain ⟨z, _⟩ := List.getElem?_eq_some_iff.mp hu
      simpa using z
    refine PySem.wpAny_pyNext_enum_itemD (Draws.tuple (A := X.A.in1) (show X.A.in1.handled = Option.none from I.ok.hd hc) it a hai its.toArray) he ⟨hit, p'⟩ hil' hne (by simp [hne, hea]) fun x' h' tk hx' ho hit' hT hsz hk => ?_
    have ex : x' = u := by
      have z : its.toArray[i]? = some u := by simpa using hu
      rw [z] at hx'
      exact (Option.some.inj hx').symm
    subst ex
    refine ⟨_, rfl, wpAny_letOwnedTupleGo_enum (s := { s with heap := h', toks := tk + 1 }) ho fun h'' he' sb => ?_⟩
    have hT2 : h''.get? s.heap.objs.size = some { cls := .type "tuple", data := .seq #[.int i tk, x'] } := (sb.2 _ (Nat.ne_of_gt hel)).trans hT
    have new : ObjOk X.prog X.w (upd H s.heap.objs.size (.tup [.int (i : Nat), x])) h'' s.heap.objs.size (.tup [.int (i : Nat), x]) :=
      ⟨by show 2 ≤ sizeLine; decide, [.int i tk, x'], .cons ⟨_, rfl⟩ (.cons ru .nil), ⟨_, hT2, rfl, _, rfl⟩⟩
    have I1 : Inv X pins σ (upd H s.heap.objs.size (.tup [.int (i : Nat), x])) { s with heap := h'', toks := tk + 1 } :=
      I.turnedNew (ch := [e, it]) (fun b ob hb q => (sb.2 b (fun z => hb (by simp [z]))).trans (hk b ob (fun z => hb (by simp [z])) (fun z => hb (by simp [z])) q)) hf (Nat.le_refl _) new
    refine ⟨.ref s.heap.objs.size, _, I1, rfl, ⟨_, x, rfl, I.hok.fresh (Nat.le_refl _), rfl, fun ys hy => by rw [I.tuple_inj hy hq]; exact hx⟩, ⟨⟨x', ?_⟩, hit'.1.at fun o q => (sb.2 it (Ne.symm hne)).trans q, hne⟩, fun b hb => ?_⟩
    · have e1 : ((i + 1 : Nat) : Int) = (i : Int) + 1 := by omega
      rw [e1]; exact he'
    · have hb' : b < s.heap.objs.size := by
        have e' : b = e ∨ b = it := by simpa using hb
        rcases e' with z | z
        · rw [z]; exact hel
        · rw [z]; exact hil
      rw [upd_ne (Nat.ne_of_lt hb')]
      exact (hf b hb).1
  done := by
    intro X hP hw hK hc i pins s σ H E I hf st hg
    subst hP hw hK
    obtain ⟨⟨old, he⟩, hit, hne⟩ := st
    obtain ⟨xs, hq, hx⟩ := hg
    obtain ⟨its, rv, p, hz⟩ := I.tuple hq
    obtain ⟨f0, f1, f2, f3, f4, f5⟩ := hf it (by simp)
    have hl := rv.length
    have hT : s.TypeIs (.ref e) "enumerate" := ⟨_, he, rfl⟩
    unfold pyNext
    refine wpAny_bind (wpAny_attempt (wpAny_callSpecial?_slot (name := Str.ofString "__next__") hT F.slot_enumerate_next
      (wpAny_call_entry F.slot_enumerate_next hT F.entry_enumerate_next ?_ (F.args_enumerate_next_1 _))))
    show wpAny _ _ (field (.ref e) 2 >>= _) _ _ _
    refine wpAny_bind (wpAny_field he rfl (x := .ref it) rfl ?_)
    refine wpAny_bind (PySem.wpAny_nextOf_tuple_end (I.ok.hd hc) hit (show s.heap.IsTuple a its.toArray from p) (by simp; omega) fun h' x eb hx' => ?_)
    obtain ⟨o, ho, hcc⟩ := hx'
    refine wpAny_bind (wpAny_isInstance (T := "StopIteration") (b := true) ⟨o, ho, hcc⟩ isSubtype_stop ?_)
    exact wpAny_pure ⟨rfl, I.turned (t' := s.toks) (fun b o hb q => eb b o hb q) f0 f1 f3 f4 f5⟩
  self := fun A i s Q E st h => let ⟨⟨_, he⟩, _⟩ := st; wpAny_pyIter_enum he h
def iEnumT (K : PySem.W.Frag) (ta : TA) : TI := fun σ H R => ta σ H fun vs H1 => ∃ a xs, vs = [.ref a] ∧ SqT K H1 a xs ∧ R (IteT K a) H1
theorem pi_enumT {X : Cx} {e : Expr} {ta : TA} {p pos tpos : Pos} {elts : List Expr} {kk : Nat} (hg : Gl X "enumerate") (hm : X.mg "enumerate" = none) (ha : PA X [e] ta) (hs : starEach [e] X.env = [(false, eval e X.env)] := by rfl) :
    PI X (.Tuple elts kk tpos) (.Call (.Name "enumerate" p) [e] [] pos) (iEnumT X.K ta) := by
  refine ⟨fun pins s σ H R I h => ?_⟩
  refine Call_ (ld_blt I hg hm boot_enumerate (PyProof.Rows.callWith_type1 (thn (ha.run pos pins s σ H _ I h) fun us s1 ⟨vs, H1, I1, r1, q1⟩ => ?_) hs rfl))
  obtain ⟨a, xs, ex, hq, q⟩ := q1
  subst ex
  cases r1 with
  | cons r rr =>
    cases rr
    cases r
    obtain ⟨its, rv, p', hz⟩ := I1.tuple hq
    have p2 : s1.heap.IsTuple a its.toArray := p'
    have hal : a ≠ s1.heap.objs.size := by
      obtain ⟨o, ho, _⟩ := id p2
      exact Nat.ne_of_lt (Heap.lt_size ho)
    refine call_enumerate_tuple p2 fun h' he hit hsz hk => wpAny_pyIter_enum he ?_
    have I2 : Inv X pins σ H1 { s1 with heap := h' } := I1.kept (t' := s1.toks) hk
    refine ⟨s1.heap.objs.size + 1, [s1.heap.objs.size + 1, s1.heap.objs.size], _, _, H1, rfl, I2, turn_enumT a (s1.heap.objs.size + 1) s1.heap.objs.size hal, ⟨⟨.none, he⟩, hit, Nat.succ_ne_self _⟩, fun b hb => ?_, q⟩
    have e' : b = s1.heap.objs.size + 1 ∨ b = s1.heap.objs.size := by simpa using hb
    have hle : s1.heap.objs.size ≤ b := by
      rcases e' with z | z
      · rw [z]; exact Nat.le_add_right _ _
      · rw [z]; exact Nat.le_refl _
    exact I1.fpOk hle (I1.hok.fresh hle)
theorem walk_enumT {K : PySem.W.Frag} {a : Addr} {xs : List V} : Walk (IteT K a) xs.length (fun H => SqT K H a xs) (YPair (fun i => some (.int (i : Nat))) (fun i => xs[i]?)) := by
  refine ⟨fun i _ hi q => ⟨xs, xs[i], q, by simp [hi]⟩, fun _ q => ⟨xs, q, Nat.le_refl _⟩, fun i H v H' _ q y => ?_⟩
  obtain ⟨T, x, h1, h2, h3, h4⟩ := y
  exact ⟨T, .int (i : Nat), x, h1, h2, h3, rfl, h4 xs q⟩
theorem walk_zipT {K : PySem.W.Frag} {a b : Addr} {xs ys : List V} {n : Nat} (hn : n = xs.length) (hm : n = ys.length) : Walk (RZ.ItzT K a b) n (fun H => SqT K H a xs ∧ SqT K H b ys) (YPair (fun i => xs[i]?) (fun i => ys[i]?)) := by
  refine ⟨fun i _ hi q => ?_, fun _ q => ⟨xs, ys, q.1, q.2, by omega⟩, fun i H v H' _ q y => ?_⟩
  · have h1 : i < xs.length := by omega
    have h2 : i < ys.length := by omega
    exact ⟨xs, ys, xs[i], ys[i], q.1, q.2, by simp [h1], by simp [h2]⟩
  · obtain ⟨T, x, z, h1, h2, h3, h4, h5⟩ := y
    exact ⟨T, x, z, h1, h2, h3, h4 xs q.1, h5 ys q.2⟩
/-! #### t >= u of tuples of ints -/
theorem lexAt_ge (ns ms : List Int) (hl : ns.length = ms.length) : ∀ k i : Nat, i + k = ns.length →
    Ob.lexAt (fun j => decide (ns.getD j 0 = ms.getD j 0)) (fun j => decide (ms.getD j 0 ≤ ns.getD j 0)) true i k = !HT.lexLt (ns.drop i) (ms.drop i) := by
  intro k
  induction k with
  | zero =>
    intro i hi
    rw [Ob.lexAt_zero, List.drop_of_length_le (by omega), List.drop_of_length_le (by omega)]
    rfl
  | succ k ih =>
    intro i hi
    have h1 : i < ns.length := by omega
    have h2 : i < ms.length := by omega
    have g1 : ns.getD i 0 = ns[i] := by rw [List.getD_eq_getElem?_getD, List.getElem?_eq_getElem h1] <;> rfl
    have g2 : ms.getD i 0 = ms[i] := by rw [List.getD_eq_getElem?_getD, List.getElem?_eq_getElem h2] <;> rfl
    rw [Ob.lexAt_succ, ih (i + 1) (by omega), List.drop_eq_getElem_cons h1, List.drop_eq_getElem_cons h2, HT.lexLt_cons, g1, g2]
    by_cases e : ns[i] = ms[i]
    · rw [decide_eq_true e, if_pos rfl, if_pos e]
    · rw [decide_eq_false e, if_neg Bool.false_ne_true, if_neg e]
      by_cases q : ms[i] ≤ ns[i]
      · rw [decide_eq_true q, decide_eq_false (by omega)]; rfl
      · rw [decide_eq_false q, decide_eq_true (by omega)]; rfl
def rGeT (K : PySem.W.Frag) : R2 := fun x y H Q => ∃ (a b : Addr) (ns ms : List Int), x = .ref a ∧ y = .ref b ∧ SqT K H a (ns.map V.int) ∧ SqT K H b (ms.map V.int) ∧ ns.length = ms.length ∧ Q (.bl (!HT.lexLt ns ms)) H
theorem op_geT {X : Cx} (hu : X.A.units < cLine) : OpR X (compareOp .GtE) (rGeT X.K) := by
  intro pins s σ H x y v u Q I rx ry h
  obtain ⟨a, b, ns, ms, rfl, rfl, ha, hb, hlen, q⟩ := h
  cases rx
  cases ry
  obtain ⟨its, r1, p1, _⟩ := I.tuple ha
  obtain ⟨its2, r2, p2, _⟩ := I.tuple hb
  have i1 : IntsAre its ns := Vals.ints r1
  have i2 : IntsAre its2 ms := Vals.ints r2
  have e1 : its.toArray.size = ns.length := by rw [List.size_toArray]; exact i1.length
  have e2 : its2.toArray.size = ms.length := by rw [List.size_toArray]; exact i2.length
  have at1 : ∀ j (h1 : j < its.toArray.size), ∃ t, its.toArray[j] = .int (ns.getD j 0) t := fun j h1 => PyProof.Rows.IntsAre.int_at i1 _ _ (by simp at h1; simp [h1])
  have at2 : ∀ j (h1 : j < its2.toArray.size), ∃ t, its2.toArray[j] = .int (ms.getD j 0) t := fun j h1 => PyProof.Rows.IntsAre.int_at i2 _ _ (by simp at h1; simp [h1])
  have R := Ob.RcOp.tuples_ge (A := X.A) (s := s) (e := fun j => decide (ns.getD j 0 = ms.getD j 0)) (r := fun j => decide (ms.getD j 0 ≤ ns.getD j 0)) p1 p2 hu (fun j h1 h2 => by
    obtain ⟨t, et⟩ := at1 j h1
    obtain ⟨t', et'⟩ := at2 j h2
    rw [et, et']
    have z : (ns.getD j 0 == ms.getD j 0) = decide (ns.getD j 0 = ms.getD j 0) := by
      by_cases q : ns.getD j 0 = ms.getD j 0
      · rw [decide_eq_true q]; exact beq_iff_eq.mpr q
      · rw [decide_eq_false q]; exact beq_eq_false_iff_ne.mpr q
    rw [← z]
    exact SeqAt.EqAt.int_int _ _ _ _) (fun j h1 h2 _ => by
    obtain ⟨t, et⟩ := at1 j h1
    obtain ⟨t', et'⟩ := at2 j h2
    rw [et, et']
    exact Ob.RcOp.ge_int _ _ _ _)
  rw [e1, e2, decide_eq_true (by omega : ns.length ≥ ms.length), show min ns.length ms.length = ns.length by omega, lexAt_ge ns ms hlen ns.length 0 (by omega), List.drop_zero, List.drop_zero] at R
  have z : wpAny (model X.prog X.w) X.A (compareOp .GtE (.ref a) (.ref b)) (EP X pins σ Q) X.xe s := R X.prog X.w X.xe (EP X pins σ Q) ⟨.bl _, H, I, rfl, q⟩
  exact z
/-! #### text * int: one sign, a few times: some text -/
theorem op_mulS {X : Cx} : OpR X (binaryOp .Mult) (fun x y H Q => ∃ (z : Str) (n : Int), x = .str z ∧ y = .int n ∧ z.length = 1 ∧ 1 ≤ n ∧ n ≤ 1000 ∧ ∀ r : Str, Q (.str r) H) := by
  intro pins s σ H x y v u Q I rx ry h
  obtain ⟨z, n, rfl, rfl, hz, h1, h2, q⟩ := h
  obtain ⟨t, rfl⟩ := rx
  obtain ⟨t', rfl⟩ := ry
  refine P.mul_str ?_ (fun _ _ => ?_) (fun _ _ => ?_) ?_
  · rw [decide_eq_false (by omega), decide_eq_false (by omega)]; rfl
  · rw [hz]
    have : (1 : Int) ≤ (2 ^ 63 - 1) / n := Int.le_ediv_of_mul_le (by omega) (by omega)
    omega
  · rw [hz]
    have : ¬ 1 * n.toNat > sizeLine := by rw [sizeLine_eq]; omega
    exact decide_eq_false this
  · rw [if_neg (by omega)]
    by_cases e : (n == 1 || z.length == 0) = true
    · rw [if_pos e]
      exact ⟨.str z, H, I, ⟨_, rfl⟩, q z⟩
    · rw [if_neg e]
      have hn : n.toNat ≤ 1000 := by omega
      have hc : z.cps.size = 1 := hz
      refine ⟨?_, .str _, H, I.tok _, ⟨_, rfl⟩, q _⟩
      show (List.foldl (· ++ ·) #[] (List.replicate n.toNat z.cps)).size ≤ sizeLine
      have L : ∀ (k : Nat) (acc : Array Nat), (List.foldl (· ++ ·) acc (List.replicate k z.cps)).size = acc.size + k := by
        intro k
        induction k with
        | zero => intro acc; simp
        | succ k ih =>
          intro acc
          rw [List.replicate_succ, List.foldl_cons, ih, Array.size_append, hc]
          omega
      rw [L, sizeLine_eq]
      simp
      omega
/-! #### sorted(list of tuples of ints): some arrangement -/
theorem lexLt_asym : ∀ x y : List Int, HT.lexLt x y = true → HT.lexLt y x = false
  | [], [], h => by simp [HT.lexLt] at h
  | [], _ :: _, _ => rfl
  | _ :: _, [], h => by simp [HT.lexLt] at h
  | x :: xs, y :: ys, h => by
    rw [HT.lexLt_cons] at h ⊢
    by_cases e : x = y
    · rw [if_pos e] at h
      rw [if_pos e.symm]
      exact lexLt_asym xs ys h
    · rw [if_neg e] at h
      rw [if_neg (fun q => e q.symm)]
      have := of_decide_eq_true h
      exact decide_eq_false (by omega)
theorem lexLt_tr : ∀ x y z : List Int, HT.lexLt y x = false → HT.lexLt z y = false → HT.lexLt z x = false
  | [], _, z, _, _ => by cases z <;> rfl
  | _ :: _, [], _, h, _ => by simp [HT.lexLt] at h
  | _ :: _, _ :: _, [], _, h => by simp [HT.lexLt] at h
  | x :: xs, y :: ys, z :: zs, h1, h2 => by
    rw [HT.lexLt_cons] at h1 h2 ⊢
    by_cases e1 : y = x
    · rw [if_pos e1] at h1
      subst e1
      by_cases e2 : z = y
      · rw [if_pos e2] at h2 ⊢
        exact lexLt_tr xs ys zs h1 h2
      · rw [if_neg e2] at h2 ⊢
        exact h2
    · rw [if_neg e1] at h1
      have a := of_decide_eq_false h1
      by_cases e2 : z = y
      · subst e2
        rw [if_neg e1]
        exact h1
      · rw [if_neg e2] at h2
        have b := of_decide_eq_false h2
        rw [if_neg (by omega)]
        exact decide_eq_false (by omega)
theorem lexLt_irr (x : List Int) : HT.lexLt x x = false := by
  cases h : HT.lexLt x x with
  | false => rfl
  | true => rw [lexLt_asym x x h] at h; cases h
theorem lexLt_tri : ∀ x y : List Int, x = y ∨ HT.lexLt x y = true ∨ HT.lexLt y x = true
  | [], [] => .inl rfl
  | [], _ :: _ => .inr (.inl rfl)
  | _ :: _, [] => .inr (.inr rfl)
  | x :: xs, y :: ys => by
    rw [HT.lexLt_cons, HT.lexLt_cons]
    by_cases e : x = y
    · subst e
      rw [if_pos rfl, if_pos rfl]
      rcases lexLt_tri xs ys with h | h | h
      · exact .inl (by rw [h])
      · exact .inr (.inl h)
      · exact .inr (.inr h)
    · rw [if_neg e, if_neg (fun q => e q.symm)]
      by_cases l : x < y
      · exact .inr (.inl (decide_eq_true l))
      · exact .inr (.inr (decide_eq_true (by omega)))
section
variable {prog : Program} {w : World} {A : Around} {E : Value → Shared → Prop} {s : Shared} {Q : Bool → Shared → Prop}
theorem lex_L {b fin : Bool} {xs ys : List Value} {ns ms : List Int} (i : Nat) (hx : IntsAre xs ns) (hy : IntsAre ys ms) (hf : fin = decide (ns.length < ms.length))
    (h : Q (HT.lexLt ns ms) s) : PySem.W.KatLex prog w A b fin Q (xs.zip ys) i s := by
  induction hx generalizing ys ms i with
  | nil =>
    cases hy with
    | nil =>
      have : fin = false := by rw [hf]; rfl
      subst this
      exact PySem.W.kat_nil h
    | cons q u hy =>
      have : fin = true := by rw [hf]; simp
      subst this
      exact PySem.W.kat_nil h
  | @cons p t xs ns hx ih =>
    cases hy with
    | nil =>
      have : fin = false := by rw [hf]; simp
      subst this
      exact PySem.W.kat_nil h
    | @cons q u ys ms hy =>
      have hf' : fin = decide (ns.length < ms.length) := by
        rw [hf]
        simp
      show PySem.W.KatLex prog w A b fin Q ((Value.int p t, Value.int q u) :: xs.zip ys) i s
      refine PySem.W.kat_cons (wpAny_eqBool_int ?_)
      rw [HT.lexLt_cons] at h
      by_cases e : p = q
      · subst e
        rw [beq_self_eq_true]
        rw [if_pos rfl] at h
        exact PySem.W.kat_yes (ih (i + 1) hy hf' h)
      · rw [show (p == q) = false from beq_eq_false_iff_ne.mpr e]
        rw [if_neg e] at h
        exact PySem.W.kat_no (TS.oneLt_ints _ h)
end
def TupsL (h : Heap) (vs : List Value) : Prop := ∀ v, v ∈ vs → ∃ ns, TS.TupInts h v ns ∧ 1 ≤ ns.length
theorem TupsL.keeps {h h' : Heap} {vs : List Value} (x : TupsL h vs) (k : ∀ b o, h.get? b = some o → o.cls = .type "tuple" → h'.get? b = some o) : TupsL h' vs := fun v hv =>
  let ⟨ns, t, r⟩ := x v hv; ⟨ns, t.keeps k, r⟩
theorem firsts_L {h : Heap} : ∀ vs : List Value, TupsL h vs → ∃ fs, PySem.W.KatTups h vs fs ∧ fs.length = vs.length ∧ ∀ f, f ∈ fs → ∃ n t, f = Value.int n t
  | [], _ => ⟨[], PySem.W.KatTups.nil, rfl, fun f hf => by simp at hf⟩
  | v :: vs, x => by
    obtain ⟨fs, k, hl, hi⟩ := firsts_L vs fun u hu => x u (List.mem_cons_of_mem _ hu)
    obtain ⟨ns, ⟨a, xs, rfl, ⟨o, ho, hc, n, hdt⟩, i⟩, hn⟩ := x v (List.mem_cons_self ..)
    obtain ⟨y, ys, e⟩ : ∃ y ys, xs.toList = y :: ys := by
      cases q : xs.toList with
      | nil =>
        rw [q] at i
        have l := i.length
        rw [List.length_nil] at l
        omega
      | cons y ys => exact ⟨y, ys, rfl⟩
    obtain ⟨m, t, hy⟩ := i.all y (by rw [e]; exact List.mem_cons_self ..)
    refine ⟨y :: fs, PySem.W.KatTups.cons ho hc hdt ?_ k, by simp [hl], ?_⟩
    · have z := congrArg (fun l : List Value => l[0]?) e
      simpa using z
    · intro f hf
      rcases List.mem_cons.mp hf with rfl | hf
      · exact ⟨m, t, hy⟩
      · exact hi f hf
def ltL (h : Heap) (v u : Value) : Bool := HT.lexLt (TS.intsOf h v) (TS.intsOf h u)
theorem swo_L (h : Heap) : SrtO.Swo (ltL h) := ⟨fun x y => lexLt_asym _ _, fun x y z => lexLt_tr _ _ _⟩
section
variable {prog : Program} {w : World} {A : Around} {E : Value → Shared → Prop} {s : Shared}
theorem tups_sortable {h0 : Heap} {a : Addr} {vs : List Value} (hne : 0 < vs.length) (hp : TupsL h0 vs) (h01 : ∀ b o, h0.get? b = some o → o.cls = .type "tuple" → s.heap.get? b = some o) (ha : ∀ o, s.heap.get? a = some o → o.cls ≠ .type "tuple") : SrtO.SortableO prog w A s a vs (ltL h0) := by
  intro h' keep
  have kk : ∀ b o, h0.get? b = some o → o.cls = .type "tuple" → h'.get? b = some o := fun b o e c => keep b o (fun z => by subst z; exact ha o (h01 _ _ e c) c) (h01 _ _ e c)
  have hp' : TupsL h' vs := hp.keeps kk
  obtain ⟨fs, h1, h2, h3⟩ := firsts_L vs hp'
  refine ⟨tuples' true, fun Q E hq => ?_, ?_⟩
  · refine PySem.W.kat_kind (T := .type "int") h1 (by omega) (fun f hm => ?_) (by rfl) ?_
    · obtain ⟨x, t, rfl⟩ := h3 f hm
      exact PySem.W.Looks.now
    · have e : (Value.type "int" != Value.type "tuple") = true := by first | decide +kernel | rfl | decide
      rw [e]
      exact hq
  · intro p q hm hm'
    obtain ⟨ns, tp, lp⟩ := hp _ hm
    obtain ⟨ms, tq, lq⟩ := hp _ hm'
    have e1 : TS.intsOf h0 p.1 = ns := tp.ints
    have e2 : TS.intsOf h0 q.1 = ms := tq.ints
    show wpAny (model prog w) A (keyLt' (tuples' true) p.1 q.1) (fun r s' => s' = { s with heap := h' } ∧ r = HT.lexLt (TS.intsOf h0 p.1) (TS.intsOf h0 q.1)) (fun _ _ => False) { s with heap := h' }
    rw [e1, e2]
    obtain ⟨a, xs, ea, ⟨o, ho, hc, n, hdt⟩, i⟩ := tp.keeps kk
    obtain ⟨a', ys, ea', ⟨o', ho', hc', n', hdt'⟩, i'⟩ := tq.keeps kk
    rw [ea, ea']
    refine PySem.W.kat_lt ho hdt ho' hdt' ?_
    refine lex_L 0 i i' ?_ ⟨rfl, rfl⟩
    have l1 := i.length
    have l2 := i'.length
    rw [Array.length_toList] at l1 l2
    rw [l1, l2]
end
/-- sorted(xs), xs a list of tuples of ints, none empty: a new list of the same -/
def rSortL (K : PySem.W.Frag) : List V → Hp → VK → Prop := fun vs H Q => ∃ (a : Addr) (xs : List V), vs = [V.ref a] ∧ SqL K H a xs ∧ (∀ x ∈ xs, ∃ ns, TupI K H x ns ∧ 1 ≤ ns.length) ∧
  ∀ (ys : List V) (p : Addr), ys.Perm xs → H p = none → Q (.ref p) (upd H p (.lst ys))
theorem cr_sortL {X : Cx} : CallR X (.builtin "sorted") (rSortL X.K) := by
  intro pins s σ H vs us Q I r h
  obtain ⟨a, xs, rfl, hs, hx, q⟩ := h
  obtain ⟨its, rv, hl, hz⟩ := I.list hs
  rw [Vals.ref1 r]
  obtain ⟨e1, e2⟩ := bkV_refs rv fun x m => by
    obtain ⟨ns, ⟨t, e, _⟩, _⟩ := hx x m
    exact ⟨t, e⟩
  have hT : TupsL s.heap its := fun v hv => by
    obtain ⟨t, rfl⟩ := e2 v hv
    have hm : V.ref t ∈ xs := by
      rw [e1]
      exact List.mem_map.mpr ⟨_, hv, rfl⟩
    obtain ⟨ns, ⟨t', e, ht⟩, hn⟩ := hx _ hm
    cases e
    exact ⟨ns, tupI_raw I ht, hn⟩
  refine SrtO.sorted_ord (swo_L s.heap) hl.isList (by rw [← rv.length]; exact hz) (fun h2 h₁ a' ha' kk => ?_) fun out h1 h2 => ?_
  · refine tups_sortable (s := { s with heap := h₁ }) (by omega) hT (fun b o e _ => (kk b o e).2) fun o e => ?_
    have e' : some o = some (seqObj "list" its.toArray 0) := e.symm.trans ha'
    cases e'
    intro c
    exact absurd (Value.type.inj c) (by decide)
  · obtain ⟨ep, he'⟩ := PyProof.Rows.sortedAll_at s.heap its out.toArray
    have h3 : ∀ u ∈ out, ∃ a, u = Value.ref a := fun u hu => e2 u (h2.perm.mem_iff.mp hu)
    have hp : (out.map bkV).Perm xs := by
      rw [e1]
      exact h2.perm.map bkV
    have hlen : (out.map bkV).length ≤ sizeLine := by
      rw [hp.length_eq]
      exact hz
    exact ⟨.ref _, upd H (s.heap.objs.size + 1) (.lst (out.map bkV)), I.laid (t' := s.toks) (fun _ _ => PyProof.Rows.sortedAll_old) (Nat.le_succ _) ⟨hlen, out, ep, bkV_vals h3, he'⟩, rfl, q _ _ hp (I.hok.fresh (Nat.le_succ _))⟩
end GwR

namespace Gw
open PySem PySem.Spec PyProof.Rows L2
/-! ### what never changes stays -/
def Imm (H H' : Hp) : Prop := ∀ b o, ¬ Mut (some o) → H b = some o → H' b = some o
/-- all but what stands at p is as it was -/
def SameX (p : Addr) (H H' : Hp) : Prop := ∀ b o, b ≠ p → H b = some o → H' b = some o
section
variable {K : PySem.W.Frag} {H H' H1 H2 : Hp} {p a : Addr} {o : HO} {xs : List V}
theorem Imm.refl (H : Hp) : Imm H H := fun _ _ _ h => h
theorem Imm.trans (x : Imm H H1) (y : Imm H1 H2) : Imm H H2 := fun b o m h => y b o m (x b o m h)
theorem same_imm (s : Same H H') : Imm H H' := fun b o _ h => s b o h
theorem same_upd (h : H p = none) : Same H (upd H p o) := fun b x e => by
  rw [upd_ne (ne_of_none e h)]
  exact e
theorem SameX.imm (s : SameX p H H') (m : Mut (H p)) : Imm H H' := fun b o n h => s b o (fun e => by
  subst e
  rw [h] at m
  exact n m) h
theorem SameX.trans (x : SameX p H H1) (y : SameX p H1 H2) : SameX p H H2 := fun b o n h => y b o n (x b o n h)
theorem SameX.refl (p : Addr) (H : Hp) : SameX p H H := fun _ _ _ h => h
theorem same_x (s : Same H H') : SameX p H H' := fun b o _ h => s b o h
theorem samex_upd : SameX p H (upd H p o) := fun b x n e => by
  rw [upd_ne n]
  exact e
/-- p was not there before -/
theorem Same.upd_new (s : Same H H1) (hp : H p = none) : Same H (upd H1 p o) := fun b x e => by
  rw [upd_ne (ne_of_none e hp)]
  exact s b x e
theorem SameX.same (s : SameX p H H') (hp : H p = none) : Same H H' := fun b o e => s b o (ne_of_none e hp) e
theorem Same.transX (s : Same H H1) (x : SameX p H1 H2) (hp : H p = none) : Same H H2 := fun b o e => x b o (ne_of_none e hp) (s b o e)
theorem tup_imm (i : Imm H H') (h : SqT K H a xs) : SqT K H' a xs := by
  rcases h with (h | ⟨o, h⟩) | h
  · exact .inl (.inl (i _ _ (fun z => z) h))
  · exact .inl (.inr ⟨o, i _ _ (fun z => z) h⟩)
  · exact .inr h
theorem tup_same (i : Same H H') (h : SqT K H a xs) : SqT K H' a xs := tup_imm (same_imm i) h
theorem upd_none {q : Addr} (h : upd H p o q = none) : q ≠ p ∧ H q = none := by
  by_cases e : q = p
  · subst e
    rw [upd_same] at h
    cases h
  · rw [upd_ne e] at h
    exact ⟨e, h⟩
end
/-! ### two lists beside each other -/
theorem paired_get {α β : Type} {F : α → β → Prop} : ∀ {l : List α} {m : List β}, Paired F l m → ∀ {i : Nat} {a : α}, l[i]? = some a → ∃ b, m[i]? = some b ∧ F a b
  | _, _, .nil, i, a, h => by simp at h
  | _, _, .cons r t, 0, a, h => by
    have e := Option.some.inj h
    subst e
    exact ⟨_, rfl, r⟩
  | _, _, .cons r t, i + 1, a, h => paired_get t (i := i) (a := a) h
theorem paired_get' {α β : Type} {F : α → β → Prop} : ∀ {l : List α} {m : List β}, Paired F l m → ∀ {i : Nat} {b : β}, m[i]? = some b → ∃ a, l[i]? = some a ∧ F a b
  | _, _, .nil, i, a, h => by simp at h
  | _, _, .cons r t, 0, a, h => by
    have e := Option.some.inj h
    subst e
    exact ⟨_, rfl, r⟩
  | _, _, .cons r t, i + 1, a, h => paired_get' t (i := i) (b := a) h
theorem paired_len {α β : Type} {F : α → β → Prop} {l : List α} {m : List β} (h : Paired F l m) : l.length = m.length := Paired.length h
/-! ### drawings, gaps, sets as they stand -/
abbrev Dr := List (V × Int × Int)
abbrev Tm := List (Nat × Int)
def PartV (K : PySem.W.Frag) (H : Hp) (v : V) (q : V × Int × Int) : Prop := ∃ a, v = .ref a ∧ SqT K H a [q.1, .int q.2.1, .int q.2.2]
def DrAt (K : PySem.W.Frag) (H : Hp) (d : Addr) (D : Dr) : Prop := ∃ xs, SqT K H d xs ∧ Paired (PartV K H) xs D
def TermV (K : PySem.W.Frag) (H : Hp) (v : V) (q : Nat × Int) : Prop := ∃ a, v = .ref a ∧ SqT K H a [.int (q.1 : Nat), .int q.2]
def GapAt (K : PySem.W.Frag) (H : Hp) (g : Addr) (T : Tm) (lo hi : Int) : Prop := ∃ t xs, SqT K H g [.ref t, .int lo, .int hi] ∧ SqT K H t xs ∧ Paired (TermV K H) xs T
section
variable {K : PySem.W.Frag} {H H' : Hp}
theorem DrAt.imm {d : Addr} {D : Dr} (i : Imm H H') (h : DrAt K H d D) : DrAt K H' d D :=
  let ⟨xs, h1, h2⟩ := h
  ⟨xs, tup_imm i h1, Paired.mapP h2 fun _ _ ⟨a, e, t⟩ => ⟨a, e, tup_imm i t⟩⟩
theorem GapAt.imm {g : Addr} {T : Tm} {lo hi : Int} (i : Imm H H') (h : GapAt K H g T lo hi) : GapAt K H' g T lo hi :=
  let ⟨t, xs, h1, h2, h3⟩ := h
  ⟨t, xs, tup_imm i h1, tup_imm i h2, Paired.mapP h3 fun _ _ ⟨a, e, t⟩ => ⟨a, e, tup_imm i t⟩⟩
theorem DrAt.same {d : Addr} {D : Dr} (i : Same H H') (h : DrAt K H d D) : DrAt K H' d D := h.imm (same_imm i)
theorem GapAt.same {g : Addr} {T : Tm} {lo hi : Int} (i : Same H H') (h : GapAt K H g T lo hi) : GapAt K H' g T lo hi := h.imm (same_imm i)
end
def dlo (D : Dr) (i : Nat) : Int := ((D[i]?).map (·.2.1)).getD 0
def dhi (D : Dr) (i : Nat) : Int := ((D[i]?).map (·.2.2)).getD 0
theorem dlo_at {D : Dr} {i : Nat} {q : V × Int × Int} (h : D[i]? = some q) : dlo D i = q.2.1 := by unfold dlo; rw [h]; rfl
theorem dhi_at {D : Dr} {i : Nat} {q : V × Int × Int} (h : D[i]? = some q) : dhi D i = q.2.2 := by unfold dhi; rw [h]; rfl
/-- the drawing's spans are no empty ones and of at most so many numbers -/
structure DOk (D : Dr) : Prop where
  ne : 1 ≤ D.length
  le : D.length ≤ 8
  sp : ∀ q ∈ D, q.2.1 ≤ q.2.2 ∧ q.2.2 - q.2.1 + 1 < 2 ^ 140
/-- terms of a drawing of n parts -/
structure TOk (n : Nat) (T : Tm) : Prop where
  up : T.Pairwise (fun a b => a.1 < b.1)
  ok : ∀ t ∈ T, t.1 < n ∧ t.2 ≠ 0 ∧ -3 ≤ t.2 ∧ t.2 ≤ 3
/-! ### rules with the written part named (for blocks) -/
section
variable {X : Cx} (K : PySem.W.Frag)
theorem ixT (e : X.K = K := by rfl) : IxR X (rIxT K) := e ▸ ix_tup
theorem ixL (e : X.K = K := by rfl) : IxR X (rIxL K) := e ▸ ix_list
theorem ltT (hu : X.A.units < cLine) (e : X.K = K := by rfl) : OpR X (compareOp .Lt) (rLtT K) := e ▸ op_ltT hu
theorem notInS (e : X.K = K := by rfl) : OpR X (compareOp .NotIn) (rIn K true) := e ▸ op_notIn_seq
theorem blk {N : List Str} {sc scope : Scope} (own : List (Str × Nat)) (h : blkC N sc scope own = true) : BlkOk N sc scope own := blkOk_by h
/-- the target a, b of a block -/
abbrev g2 (i j : Nat) : TG := gTup K 2 (gCons (gName i) (gCons (gName j) gNil))
end
/-! ### list bits -/
theorem take_more {α : Type} : ∀ {l : List α} {i : Nat} {x : α}, l[i]? = some x → l.take (i + 1) = l.take i ++ [x]
  | [], i, x, h => by simp at h
  | a :: l, 0, x, h => by
    have e : a = x := Option.some.inj h
    subst e
    rfl
  | a :: l, i + 1, x, h => by
    have ih := take_more (l := l) (i := i) (x := x) h
    show a :: l.take (i + 1) = a :: l.take i ++ [x]
    rw [ih]
    rfl
theorem lt_of_get {α : Type} {l : List α} {i : Nat} {x : α} (h : l[i]? = some x) : i < l.length := (List.getElem?_eq_some_iff.mp h).1
theorem mem_of_get {α : Type} {l : List α} {i : Nat} {x : α} (h : l[i]? = some x) : x ∈ l := List.mem_of_getElem? h
theorem room1000 {n : Nat} (h : n ≤ 1000) : n < sizeLine := small1000 h
end Gw

namespace Gw
open PySem PySem.Spec PyProof.Rows L2 GwR
/-- a def of the text, where it stands -/
structure Df (K : PySem.W.Frag) (mg : Str → Option Value) (x : Str) (st : Stmt) (ps : List Str) : Type where
  f : Addr
  fd : FuncData
  F : Fun K x x st f fd
  g : mg x = some (.ref f)
  b : Binds K fd ps []
/-- a method of the class at C -/
structure Mf (K : PySem.W.Frag) (C : Addr) (m q : Str) (st : Stmt) (ps : List Str) : Type where
  f : Addr
  fd : FuncData
  F : Fun K m q st f fd
  b : Binds K fd ps []
/-- what the top has left -/
structure All (K : PySem.W.Frag) (mg : Str → Option Value) : Type where
  whole : Df K mg "is_whole" sWhole ["thing"]
  size : Df K mg "size_of" sSize ["one"]
  isset : Df K mg "is_set" sIsSet ["drawing", "thing"]
  how : Df K mg "how_many" sHow ["drawing"]
  worth : Df K mg "worth_of" sWorth ["gap", "numbers"]
  keeps : Df K mg "keeps" sKeeps ["gap", "numbers"]
  corner : Df K mg "corner" sCorner ["drawing", "gap", "up"]
  lowest : Df K mg "lowest" sLowest ["drawing", "gap"]
  highest : Df K mg "highest" sHighest ["drawing", "gap"]
  reach : Df K mg "reach" sReach ["drawing", "gap"]
  check : Df K mg "check_reach" sCheck ["drawing", "gap"]
  risen : Df K mg "risen" sRisen ["ways", "by", "room"]
  ways : Df K mg "ways_of" sWays ["drawing", "terms"]
  idle : Df K mg "idle" sIdle ["drawing", "gap", "first"]
  spread : Df K mg "spread" sSpread ["drawing", "gap"]
  kept : Df K mg "kept_count" sKept ["drawing", "gap"]
  times : Df K mg "times_at" sTimes ["gap", "place"]
  nth : Df K mg "nth" sNth ["drawing", "gap", "number"]
  num : Df K mg "number_of" sNum ["drawing", "gap", "thing"]
  cell : Df K mg "_law_cell_at" sCell ["script", "k"]
  next : Df K mg "_law_next" sNext ["seed"]
  pen : Df K mg "_law_pen" sPen ["cell"]
  draw : Df K mg "_law_draw" sDraw ["pen", "many"]
  number : Df K mg "_law_number" sNumber ["pen"]
  names : Df K mg "_law_names" sNames ["pen"]
  counted : Df K mg "_law_counted" sCounted ["pen"]
  ends : Df K mg "_law_ends" sEnds ["drawing", "terms"]
  terms : Df K mg "_law_terms" sTerms ["pen", "drawing"]
  gap : Df K mg "_law_gap" sGap ["pen", "drawing"]
  idled : Df K mg "_law_idled" sIdled ["pen", "drawing", "gap"]
  set : Df K mg "_law_set" sSet ["pen", "drawing"]
  lworth : Df K mg "_law_worth" sLWorth ["gap", "one"]
  lkeeps : Df K mg "_law_keeps" sLKeeps ["gap", "one"]
  right : Df K mg "_law_number_right" sRight ["drawing", "gap", "number"]
  sets : Df K mg "_law_sets_right" sSets ["drawing", "gap", "sets"]
  none_ : Df K mg "_law_none_between" sNone ["drawing", "gap", "number", "sets"]
  law : Df K mg "law" sLaw ["script"]
  C : Addr
  gC : mg "Behind" = some (.ref C)
  cl : Cls K C
  nLow : NoAttr K C "low"
  nHigh : NoAttr K C "high"
  nLeast : NoAttr K C "least"
  nApart : NoAttr K C "apart"
  nSums : NoAttr K C "sums"
  init : Mf K C "__init__" "Behind.__init__" sBInit ["self", "drawing", "gap", "first"]
  mkc : Mk K C init.f
  on : Mf K C "ways_on" "Behind.ways_on" sBOn ["self", "ahead"]
  mon : Meth K C "ways_on" on.f
  most : ∃ t, mg "MOST_WORTHS" = some (.int 400 t)
  b_sum : mg "sum" = none
  b_isi : mg "isinstance" = none
  b_int : mg "int" = none
  b_bool : mg "bool" = none
  b_tuple : mg "tuple" = none
  b_len : mg "len" = none
  b_zip : mg "zip" = none
  b_range : mg "range" = none
  b_enum : mg "enumerate" = none
  b_abs : mg "abs" = none
  b_max : mg "max" = none
  b_min : mg "min" = none
  b_sorted : mg "sorted" = none
end Gw

namespace Gw
open PySem PySem.Spec PyProof.Rows L2 GwR
section
variable {P : Program} {w : World} {K : PySem.W.Frag} {mg : Str → Option Value} {base : Heap}
/-! ### is_whole, size_of -/
def spWhole : Sp := fun vs H Q _ => ∃ i : Int, vs = [.int i] ∧ Q (.bl true) H
theorem ok_whole (T : All K mg) : FnOk P w K mg base CX0 1 T.whole.f T.whole.fd ["thing"] spWhole := by
  refine T.whole.F.ok sc_whole (fun vs H Q E h => ?_) (fun cdv A outer s H vs Q E hr h => ?_)
  · obtain ⟨i, rfl, _⟩ := h
    rfl
  · obtain ⟨i, rfl, q⟩ := h
    refine ⟨_, pss_one (ps_ret (pe_and (pe_callB call_isi (by rfl) T.b_isi (by decide +kernel) (pa_cons (pv 0) (pa_cons (pe_bltn (v := .ty "int") (by rfl) T.b_int (by decide +kernel) rfl) pa_nil)))
      (pe_one (pe_not (pe_callB call_isi (by rfl) T.b_isi (by decide +kernel) (pa_cons (pv 0) (pa_cons (pe_bltn (v := .ty "bool") (by rfl) T.b_bool (by decide +kernel) rfl) pa_nil))))))), ?_⟩
    refine ⟨_, rfl, .int i, .ty "int", _, _, true, rfl, .ty "int", .base (.int i), kit_ty (by decide +kernel), true, rfl, iteT ?_⟩
    exact ⟨_, rfl, .int i, .ty "bool", _, _, false, rfl, .ty "bool", .base (.int i), kit_ty (by decide +kernel), false, rfl, q⟩
def spSize (K : PySem.W.Frag) : Sp := fun vs H Q _ => ∃ (a : Addr) (lo hi : Int), vs = [.ref a] ∧ SqT K H a [.int lo, .int hi] ∧ Q (.int (hi - lo + 1)) H
theorem ok_size (T : All K mg) : FnOk P w K mg base CX0 1 T.size.f T.size.fd ["one"] (spSize K) := by
  refine T.size.F.ok sc_size (fun vs H Q E h => ?_) (fun cdv A outer s H vs Q E hr h => ?_)
  · obtain ⟨a, lo, hi, rfl, _⟩ := h
    rfl
  · obtain ⟨a, lo, hi, rfl, ha, q⟩ := h
    refine ⟨_, pss_one (ps_ret (pe_op op_add (pe_op op_sub (pe_ix ix_tup (pv 0) pe_int (fun _ _ => rfl)) (pe_ix ix_tup (pv 0) pe_int (fun _ _ => rfl))) pe_int)), ?_⟩
    exact ⟨_, rfl, a, _, 1, .int hi, rfl, rfl, ha, rfl, _, rfl, a, _, 0, .int lo, rfl, rfl, ha, rfl, hi, lo, rfl, rfl, _, 1, rfl, rfl, q⟩
/-! ### how_many -/
def sizes (D : Dr) : Int := D.foldl (fun z q => z * (q.2.2 - q.2.1 + 1)) 1
def spHow (K : PySem.W.Frag) : Sp := fun vs H Q _ => ∃ (a : Addr) (xs : List V) (D : Dr), vs = [.ref a] ∧ SqL K H a xs ∧ Paired (PartV K H) xs D ∧ (∀ q ∈ D, q.2.1 ≤ q.2.2 ∧ q.2.2 - q.2.1 + 1 < 2 ^ 140) ∧ D.length ≤ 8 ∧ ∀ H', Same H H' → Q (.int (sizes D)) H'
theorem sizes_more {D : Dr} {i : Nat} {q : V × Int × Int} (h : D[i]? = some q) : sizes (D.take (i + 1)) = sizes (D.take i) * (q.2.2 - q.2.1 + 1) := by
  unfold sizes
  rw [take_more h, List.foldl_append]
  rfl
theorem sizes_lt {D : Dr} (hD : ∀ q ∈ D, q.2.1 ≤ q.2.2 ∧ q.2.2 - q.2.1 + 1 < 2 ^ 140) : ∀ i, i ≤ D.length → 1 ≤ sizes (D.take i) ∧ (sizes (D.take i)).natAbs < 2 ^ (140 * i + 1)
  | 0, _ => by simp [sizes]
  | i + 1, hi => by
    obtain ⟨h1, h2⟩ := sizes_lt hD i (by omega)
    have g : D[i]? = some D[i] := List.getElem?_eq_getElem (by omega)
    obtain ⟨q1, q2⟩ := hD _ (mem_of_get g)
    rw [sizes_more g]
    refine ⟨?_, ?_⟩
    · have := Int.mul_le_mul h1 (show (1 : Int) ≤ D[i].2.2 - D[i].2.1 + 1 by omega) (by decide) (by omega)
      simpa using this
    · have e : 140 * (i + 1) + 1 = 140 * i + 1 + 140 := by omega
      rw [e]
      refine wide_lt h2 ?_
      have : (D[i].2.2 - D[i].2.1 + 1).natAbs < (2 ^ 140 : Int).natAbs := by
        omega
      simpa using this
theorem ok_how (T : All K mg) : FnOk P w K mg base CX0 2 T.how.f T.how.fd ["drawing"] (spHow K) := by
  have GS : FnOk P w K mg base CX0 1 T.size.f T.size.fd ["one"] (spSize K) := ok_size T
  refine T.how.F.ok sc_how (fun vs H Q E h => ?_) (fun cdv A outer s H vs Q E hr h => ?_)
  · obtain ⟨a, xs, D, rfl, _⟩ := h
    rfl
  · obtain ⟨a, xs, D, rfl, ha, hp, hD, hl, q⟩ := h
    refine ⟨_, pss_cons (ps_set (i := 1) sc_how.nd rfl (.inl rfl) pe_int)
      (pss_cons (ps_for PassesOwn.never rfl (pi_list (pv 0)) (pg_name (i := 2) sc_how.nd rfl (.inl rfl))
        (pss_one (ps_set (i := 1) sc_how.nd rfl (.inl rfl) (pe_op op_mulW (pv 1) (pe_call GS hr (by rfl) T.size.g T.size.F.kp T.size.b .nil pass0 (pa_cons (pe_slice sl_tup (pv 2) (po_some pe_int) po_none) pa_nil))))))
      (pss_one (ps_ret (pv 1)))), ?_⟩
    refine ⟨_, rfl, a, rfl, ⟨_, ha⟩, for_list (K := K) (a := a) (xs := xs) (fun i σ H' => Same H H' ∧ ∃ v, σ = [some (.ref a), some (.int (sizes (D.take i))), v])
      ⟨Same.refl H, none, rfl⟩ (fun i σ H' _ ⟨s1, _⟩ => s1.seq ha) ?_ ?_⟩
    · rintro i v σ H' hi ⟨s1, v2, rfl⟩
      obtain ⟨⟨n, lo, hi'⟩, hq, b, rfl, hb⟩ := paired_get hp hi
      obtain ⟨q1, q2⟩ := hD _ (mem_of_get hq)
      have hlt := lt_of_get hq
      obtain ⟨z1, z2⟩ := sizes_lt hD i (by omega)
      refine ⟨_, rfl, .ref b, rfl, 1, rfl, b, _, rfl, tup_same s1 hb, fun z => absurd z.1 (by show ¬ HT.sIx 3 0 (some 1) = 0; decide), fun p np => ?_⟩
      refine ⟨p, lo, hi', rfl, SqT.of upd_same, _, _, rfl, rfl, ?_, Same.upd_new s1 (s1.free np), some (.ref b), ?_⟩
      · refine wide_mul (a := 140 * i + 1) (b := 140) z2 ?_ (by omega) (by omega) (by omega)
        have : (hi' - lo + 1).natAbs < (2 ^ 140 : Int).natAbs := by
          have q1' : lo ≤ hi' := q1
          have q2' : hi' - lo + 1 < 2 ^ 140 := q2
          omega
        simpa using this
      · rw [sizes_more hq]
        rfl
    · rintro σ H' ⟨s1, v2, rfl⟩
      refine ⟨_, rfl, ?_⟩
      rw [List.take_of_length_le (Nat.le_of_eq (paired_len hp).symm)]
      exact q _ s1
/-! ### worth_of, keeps -/
def worth (T : Tm) (x : List Int) : Int := (T.map fun t => t.2 * x.getD t.1 0).sum
def spWorth (K : PySem.W.Frag) : Sp := fun vs H Q _ => ∃ (g n : Addr) (T : Tm) (lo hi : Int) (x : List Int), vs = [.ref g, .ref n] ∧ GapAt K H g T lo hi ∧ SqT K H n (x.map V.int) ∧ TOk x.length T ∧ T.length ≤ 1000 ∧
  ∀ H', Same H H' → Q (.int (worth T x)) H'
theorem ok_worth (A0 : All K mg) : FnOk P w K mg base CX0 1 A0.worth.f A0.worth.fd ["gap", "numbers"] (spWorth K) := by
  refine A0.worth.F.ok sc_worth (fun vs H Q E h => ?_) (fun cdv A outer s H vs Q E hr h => ?_)
  · obtain ⟨g, n, T, lo, hi, x, rfl, _⟩ := h
    rfl
  · obtain ⟨g, n, T, lo, hi, x, rfl, ⟨t, xs, hg, ht, hp⟩, hn, hok, hlen, q⟩ := h
    refine ⟨_, pss_one (ps_ret (pe_callB (cr_sum rfl) (by rfl) A0.b_sum (by decide +kernel) (pa_cons
      (pe_lc (own := [("part", 2), ("by", 3)]) (g := g2 K 2 3) (tt := tYes) rfl sc_worth.nd (pi_tup (pe_ix ix_tup (pv 0) pe_int (fun _ _ => rfl)))
        (blkOk_by (N := ["gap", "numbers", "part", "by"]) (sc := defScope sWorth) (own := [("part", 2), ("by", 3)]) (by decide +kernel)) (fun _ _ _ _ _ => pg_tup rfl (pgs_cons (pg_name (i := 2) sc_worth.nd rfl (Or.inl rfl)) (pgs_cons (pg_name (i := 3) sc_worth.nd rfl (Or.inl rfl)) pgs_nil))) (fun _ _ _ _ _ => pts_nil)
        (fun _ _ _ _ _ => pe_op op_mul (pv 3) (pe_ix (ixT K) (pv 1) (pv 2) (fun _ _ => rfl)))) pa_nil))), ?_⟩
    refine ⟨_, rfl, g, _, 0, _, rfl, rfl, hg, rfl, t, rfl, ⟨_, ht⟩, fun D hD => lc_tup (K := K) (a := t) (xs := xs) (fun i H' => Same H H' ∧ H' D = some (.lst (((T.take i).map fun t => t.2 * x.getD t.1 0).map V.int)))
      ⟨same_upd hD, upd_same⟩ (fun i H' _ ⟨s1, _⟩ => tup_same s1 ht) ?_ ?_⟩
    · rintro i v H' hi ⟨s1, hl⟩
      obtain ⟨⟨p, b⟩, hT, a, rfl, ha⟩ := paired_get hp hi
      have hb := hok.ok _ (mem_of_get hT)
      obtain ⟨hb1, hb2, hb3, hb4⟩ := hb
      have hx : x[p]? = some (x.getD p 0) := by
        rw [List.getD_eq_getElem?_getD, List.getElem?_eq_getElem hb1] <;> rfl
      refine ⟨a, _, rfl, tup_same s1 ha, rfl, _, _, rfl, _, _, rfl, rfl, rfl, ?_⟩
      refine ⟨_, rfl, .ref n, rfl, _, rfl, n, _, _, .int (x.getD p 0), rfl, rfl, tup_same s1 hn, atI_nat (by rw [List.getElem?_map, hx]; rfl), b, _, rfl, rfl, .inl ⟨by omega, by omega⟩, ?_⟩
      refine ⟨_, hl, ?_, Same.upd_new s1 hD, ?_⟩
      · rw [List.length_map, List.length_map]
        exact room1000 (Nat.le_trans (by rw [List.length_take]; omega) hlen)
      · rw [upd_same, take_more hT, List.map_append, List.map_append]
        rfl
    · rintro H' ⟨s1, hl⟩
      refine ⟨D, _, rfl, SqL.of hl, ?_⟩
      rw [List.take_of_length_le (Nat.le_of_eq (paired_len hp).symm)]
      exact q _ s1
def keepsB (T : Tm) (lo hi : Int) (x : List Int) : Bool := decide (lo ≤ worth T x) && decide (worth T x ≤ hi)
def spKeeps (K : PySem.W.Frag) : Sp := fun vs H Q _ => ∃ (g n : Addr) (T : Tm) (lo hi : Int) (x : List Int), vs = [.ref g, .ref n] ∧ GapAt K H g T lo hi ∧ SqT K H n (x.map V.int) ∧ TOk x.length T ∧ T.length ≤ 1000 ∧
  ∀ H', Same H H' → Q (.bl (keepsB T lo hi x)) H'
theorem ok_keeps (A0 : All K mg) : FnOk P w K mg base CX0 2 A0.keeps.f A0.keeps.fd ["gap", "numbers"] (spKeeps K) := by
  have GW : FnOk P w K mg base CX0 1 A0.worth.f A0.worth.fd ["gap", "numbers"] (spWorth K) := ok_worth A0
  refine A0.keeps.F.ok sc_keeps (fun vs H Q E h => ?_) (fun cdv A outer s H vs Q E hr h => ?_)
  · obtain ⟨g, n, T, lo, hi, x, rfl, _⟩ := h
    rfl
  · obtain ⟨g, n, T, lo, hi, x, rfl, hgap, hn, hok, hlen, q⟩ := h
    obtain ⟨t, xs, hg, ht, hp⟩ := id hgap
    refine ⟨_, pss_one (ps_ret (pe_chain op_le op_le (pe_ix ix_tup (pv 0) pe_int (fun _ _ => rfl))
      (pe_call GW hr (by rfl) A0.worth.g A0.worth.F.kp A0.worth.b .nil pass0 (pa_cons (pv 0) (pa_cons (pv 1) pa_nil))) (pe_ix ix_tup (pv 0) pe_int (fun _ _ => rfl)))), ?_⟩
    refine ⟨_, rfl, g, _, 1, _, rfl, rfl, hg, rfl, _, rfl, _, rfl, g, n, T, lo, hi, x, rfl, hgap, hn, hok, hlen, fun H' s1 => ⟨_, _, rfl, rfl, _, rfl, ?_⟩⟩
    by_cases c : lo ≤ worth T x
    · rw [decide_eq_true c]
      refine iteT ⟨_, rfl, g, _, 2, _, rfl, rfl, tup_same s1 hg, rfl, _, _, rfl, rfl, ?_⟩
      have e : keepsB T lo hi x = decide (worth T x ≤ hi) := by
        unfold keepsB
        rw [decide_eq_true c, Bool.true_and]
      show Q (.bl (decide (worth T x ≤ hi))) H'
      rw [← e]
      exact q _ s1
    · rw [decide_eq_false c]
      refine iteF ?_
      have e : keepsB T lo hi x = false := by
        unfold keepsB
        rw [decide_eq_false c, Bool.false_and]
      show Q (.bl false) H'
      rw [← e]
      exact q _ s1
end
end Gw

namespace Gw
open PySem PySem.Spec PyProof.Rows L2 GwR
/-! ### corner: the mathematics -/
def cornF (D : Dr) (up : Bool) (ns : List Int) (t : Nat × Int) : List Int := if decide (0 < t.2) = up then ns.set t.1 (dhi D t.1) else ns
def cornL (D : Dr) (T : Tm) (up : Bool) : List Int := T.foldl (cornF D up) (D.map (·.2.1))
theorem cornF_len {D : Dr} {up : Bool} {ns : List Int} {t : Nat × Int} : (cornF D up ns t).length = ns.length := by
  unfold cornF
  split
  · rw [List.length_set]
  · rfl
theorem fold_len {D : Dr} {up : Bool} : ∀ {T : Tm} {ns : List Int}, (T.foldl (cornF D up) ns).length = ns.length
  | [], _ => rfl
  | t :: T, ns => by rw [List.foldl_cons, fold_len, cornF_len]
theorem cornL_len {D : Dr} {T : Tm} {up : Bool} : (cornL D T up).length = D.length := by
  unfold cornL
  rw [fold_len, List.length_map]
theorem fold_out {D : Dr} {up : Bool} {p : Nat} : ∀ {T : Tm} {ns : List Int}, (∀ t ∈ T, t.1 ≠ p) → (T.foldl (cornF D up) ns).getD p 0 = ns.getD p 0
  | [], _, _ => rfl
  | t :: T, ns, h => by
    rw [List.foldl_cons, fold_out fun u hu => h u (List.mem_cons_of_mem _ hu)]
    have hp := h t List.mem_cons_self
    unfold cornF
    split
    · rw [List.getD_eq_getElem?_getD, List.getD_eq_getElem?_getD, List.getElem?_set_ne hp]
    · rfl
theorem fold_in {D : Dr} {up : Bool} : ∀ {T : Tm} {ns : List Int} {t : Nat × Int}, T.Pairwise (fun a b => a.1 < b.1) → t ∈ T → t.1 < ns.length → (T.foldl (cornF D up) ns).getD t.1 0 = if decide (0 < t.2) = up then dhi D t.1 else ns.getD t.1 0
  | u :: T, ns, t, hp, hm, hl => by
    rw [List.foldl_cons]
    have hp' := List.pairwise_cons.mp hp
    rcases List.mem_cons.mp hm with e | hm
    · subst e
      rw [fold_out fun v hv e => Nat.ne_of_gt (hp'.1 v hv) e]
      unfold cornF
      split
      · rw [List.getD_eq_getElem?_getD, List.getElem?_set_self hl]
        rfl
      · rfl
    · rw [fold_in hp'.2 hm (by rw [cornF_len]; exact hl)]
      have hne : u.1 ≠ t.1 := Nat.ne_of_lt (hp'.1 t hm)
      have e : (cornF D up ns u).getD t.1 0 = ns.getD t.1 0 := by
        unfold cornF
        split
        · rw [List.getD_eq_getElem?_getD, List.getD_eq_getElem?_getD, List.getElem?_set_ne hne]
        · rfl
      rw [e]
def low1 (D : Dr) (t : Nat × Int) : Int := if 0 < t.2 then t.2 * dlo D t.1 else t.2 * dhi D t.1
def high1 (D : Dr) (t : Nat × Int) : Int := if 0 < t.2 then t.2 * dhi D t.1 else t.2 * dlo D t.1
def leastT (D : Dr) (T : Tm) : Int := (T.map (low1 D)).sum
def greatT (D : Dr) (T : Tm) : Int := (T.map (high1 D)).sum
theorem map_lo {D : Dr} {p : Nat} : (D.map (·.2.1)).getD p 0 = dlo D p := by
  rw [List.getD_eq_getElem?_getD, List.getElem?_map]
  rfl
theorem worth_low {D : Dr} {T : Tm} (h : TOk D.length T) : worth T (cornL D T false) = leastT D T := by
  unfold worth leastT
  refine congrArg List.sum (List.map_congr_left fun t ht => ?_)
  have e := fold_in (D := D) (up := false) (ns := D.map (·.2.1)) h.up ht (by rw [List.length_map]; exact (h.ok t ht).1)
  rw [map_lo] at e
  unfold cornL low1
  rw [e]
  by_cases c : 0 < t.2
  · rw [if_pos c, decide_eq_true c, if_neg (by decide)]
  · rw [if_neg c, decide_eq_false c, if_pos rfl]
theorem worth_high {D : Dr} {T : Tm} (h : TOk D.length T) : worth T (cornL D T true) = greatT D T := by
  unfold worth greatT
  refine congrArg List.sum (List.map_congr_left fun t ht => ?_)
  have e := fold_in (D := D) (up := true) (ns := D.map (·.2.1)) h.up ht (by rw [List.length_map]; exact (h.ok t ht).1)
  rw [map_lo] at e
  unfold cornL high1
  rw [e]
  by_cases c : 0 < t.2
  · rw [if_pos c, decide_eq_true c, if_pos rfl]
  · rw [if_neg c, decide_eq_false c, if_neg (by decide)]
theorem tlen {n : Nat} {T : Tm} (h : TOk n T) : T.length ≤ n := by
  have : ∀ (T : Tm) (m : Nat), T.Pairwise (fun a b => a.1 < b.1) → (∀ t ∈ T, m ≤ t.1 ∧ t.1 < n) → T.length + m ≤ n ∨ T = [] := by
    intro T
    induction T with
    | nil => intro m _ _; exact .inr rfl
    | cons t T ih =>
      intro m hp hb
      have hp' := List.pairwise_cons.mp hp
      have ht := hb t List.mem_cons_self
      rcases ih (t.1 + 1) hp'.2 (fun u hu => ⟨hp'.1 u hu, (hb u (List.mem_cons_of_mem _ hu)).2⟩) with q | q
      · refine .inl ?_
        rw [List.length_cons]
        omega
      · subst q
        refine .inl ?_
        show 0 + 1 + m ≤ n
        omega
  rcases this T 0 h.up (fun t ht => ⟨Nat.zero_le _, (h.ok t ht).1⟩) with q | q
  · omega
  · subst q
    exact Nat.zero_le _
section
variable {P : Program} {w : World} {K : PySem.W.Frag} {mg : Str → Option Value} {base : Heap}
/-! ### corner -/
def spCorner (K : PySem.W.Frag) : Sp := fun vs H Q _ => ∃ (d g : Addr) (D : Dr) (T : Tm) (lo hi : Int) (up : Bool), vs = [.ref d, .ref g, .bl up] ∧ DrAt K H d D ∧ GapAt K H g T lo hi ∧ TOk D.length T ∧ D.length ≤ 1000 ∧
  ∀ H' p, Same H H' → SqT K H' p ((cornL D T up).map V.int) → Q (.ref p) H'
theorem ok_corner (A0 : All K mg) : FnOk P w K mg base CX0 1 A0.corner.f A0.corner.fd ["drawing", "gap", "up"] (spCorner K) := by
  refine A0.corner.F.ok sc_corner (fun vs H Q E h => ?_) (fun cdv A outer s H vs Q E hr h => ?_)
  · obtain ⟨d, g, D, T, lo, hi, up, rfl, _⟩ := h
    rfl
  · obtain ⟨d, g, D, T, lo, hi, up, rfl, ⟨ds, hd, hdp⟩, ⟨t, ts, hg, ht, htp⟩, hok, hlen, q⟩ := h
    refine ⟨_, pss_cons (ps_setLc (i := 3) (own := [("part", 6)]) (g := gName 6) (tt := tYes) rfl sc_corner.nd rfl rfl (sw_true rfl rfl rfl (by decide +kernel)) (pi_tup (pv 0))
        (blkOk_by (N := ["drawing", "gap", "up", "numbers", "place", "by", "part"]) (sc := defScope sCorner) (own := [("part", 6)]) (by decide +kernel)) (fun _ _ _ _ _ => pg_name (i := 6) sc_corner.nd rfl (Or.inl rfl)) (fun _ _ _ _ _ => pts_nil)
        (fun _ _ _ _ _ => pe_ix (ixT K) (pv 6) pe_int (fun _ _ => rfl)))
      (pss_cons (ps_for PassesOwn.never rfl (pi_tup (pe_ix ix_tup (pv 1) pe_int (fun _ _ => rfl))) (pg_tup rfl (pgs_cons (pg_name (i := 4) sc_corner.nd rfl (.inl rfl)) (pgs_cons (pg_name (i := 5) sc_corner.nd rfl (.inl rfl)) pgs_nil)))
        (pss_one (ps_if (pt_cmpR op_eq (pe_cmpR op_gt (pv 5) pe_int (nomark _)) (pv 2) (nomark _))
          (pss_one (ps_asg (pe_ix ix_tup (pe_ix ix_tup (pv 0) (pv 4) (fun _ _ => rfl)) pe_int (fun _ _ => rfl)) (pg_sub (pv 3) (pv 4) set_list))) pss_nil)))
      (pss_one (ps_ret (pe_callTy call_tuple_of (by rfl) A0.b_tuple (by decide +kernel) (pa_cons (pv 3) pa_nil))))), ?_⟩
    refine ⟨_, rfl, d, rfl, ⟨_, hd⟩, fun L hL => lc_tup (K := K) (a := d) (xs := ds) (fun i H' => Same H H' ∧ H' L = some (.lst (((D.take i).map (·.2.1)).map V.int)))
      ⟨same_upd hL, upd_same⟩ (fun i H' _ ⟨s1, _⟩ => tup_same s1 hd) ?_ ?_⟩
    · rintro i v H' hi ⟨s1, hl⟩
      obtain ⟨⟨n, l, h⟩, hD, a, rfl, ha⟩ := paired_get hdp hi
      refine ⟨rfl, _, rfl, a, _, 1, .int l, rfl, rfl, tup_same s1 ha, rfl, _, hl, ?_, Same.upd_new s1 hL, ?_⟩
      · rw [List.length_map, List.length_map]
        exact room1000 (Nat.le_trans (by rw [List.length_take]; omega) hlen)
      · rw [upd_same, take_more hD, List.map_append, List.map_append]
        rfl
    · rintro H1 ⟨s1, hl⟩
      rw [List.take_of_length_le (Nat.le_of_eq (paired_len hdp).symm)] at hl
      -- the loop
      refine ⟨_, rfl, g, _, 0, _, rfl, rfl, tup_same s1 hg, rfl, t, rfl, ⟨_, tup_same s1 ht⟩, for_tup (K := K) (a := t) (xs := ts) (fun i σ H' => Same H H' ∧ H' L = some (.lst (((T.take i).foldl (cornF D up) (D.map (·.2.1))).map V.int)) ∧ ∃ v4 v5,
          σ = [some (.ref d), some (.ref g), some (.bl up), some (.ref L), v4, v5, none])
        ⟨s1, hl, none, none, rfl⟩ (fun i σ H' _ ⟨s2, _⟩ => tup_same s2 ht) ?_ ?_⟩
      · rintro i v σ H' hi ⟨s2, hl2, v4, v5, rfl⟩
        obtain ⟨⟨p, b⟩, hT, a, rfl, ha⟩ := paired_get htp hi
        obtain ⟨hb1, hb2, hb3, hb4⟩ := hok.ok _ (mem_of_get hT)
        have step : (T.take (i + 1)).foldl (cornF D up) (D.map (·.2.1)) = cornF D up ((T.take i).foldl (cornF D up) (D.map (·.2.1))) (p, b) := by
          rw [take_more hT, List.foldl_append]
          rfl
        refine ⟨a, _, rfl, tup_same s2 ha, rfl, _, _, rfl, _, _, rfl, rfl, ?_⟩
        refine ⟨_, rfl, _, _, rfl, rfl, _, rfl, rfl, _, rfl, ?_⟩
        by_cases c : decide (0 < b) = up
        · have c' : decide (V.bl (decide (0 < b)) = V.bl up) = true := decide_eq_true (by rw [c])
          rw [c']
          refine iteT ?_
          obtain ⟨⟨n, l, h⟩, hD⟩ : ∃ q, D[p]? = some q := ⟨_, List.getElem?_eq_getElem hb1⟩
          obtain ⟨v, hv, a2, rfl, ha2⟩ := paired_get' hdp hD
          refine ⟨_, rfl, _, rfl, d, _, _, .ref a2, rfl, rfl, tup_same s2 hd, atI_nat hv, a2, _, 2, .int h, rfl, rfl, tup_same s2 ha2, rfl, ?_⟩
          refine ⟨_, rfl, _, rfl, L, _, _, p, rfl, rfl, hl2, ?_, ?_, ?_, _, _, rfl⟩
          · rw [List.length_map, fold_len, List.length_map]
            unfold ixN
            have hb1' : (p : Int) < (D.length : Int) := by
              have : p < D.length := hb1
              omega
            rw [if_pos (Int.natCast_nonneg _), if_pos hb1']
            rfl
          · exact Same.upd_new s2 hL
          · rw [upd_same, step]
            unfold cornF
            have c2 : decide (0 < ((p, b) : Nat × Int).2) = up := c
            rw [if_pos c2, List.map_set]
            show some (HO.lst (List.set _ p (V.int h))) = _
            rw [dhi_at hD]
        · have c' : decide (V.bl (decide (0 < b)) = V.bl up) = false := decide_eq_false (fun z => c (V.bl.inj z))
          rw [c']
          refine iteF ⟨s2, ?_, _, _, rfl⟩
          rw [step, hl2]
          unfold cornF
          have c2 : ¬ decide (0 < ((p, b) : Nat × Int).2) = up := c
          rw [if_neg c2]
      · rintro σ H' ⟨s2, hl2, v4, v5, rfl⟩
        rw [List.take_of_length_le (Nat.le_of_eq (paired_len htp).symm)] at hl2
        refine ⟨_, rfl, L, _, rfl, .inl ⟨SqL.of hl2, fun p np => q _ p (Same.upd_new s2 (s2.free np)) (SqT.of upd_same)⟩⟩
def spEnd (K : PySem.W.Frag) (up : Bool) : Sp := fun vs H Q _ => ∃ (d g : Addr) (D : Dr) (T : Tm) (lo hi : Int), vs = [.ref d, .ref g] ∧ DrAt K H d D ∧ GapAt K H g T lo hi ∧ TOk D.length T ∧ D.length ≤ 1000 ∧
  ∀ H' p, Same H H' → SqT K H' p ((cornL D T up).map V.int) → Q (.ref p) H'
theorem ok_lowest (A0 : All K mg) : FnOk P w K mg base CX0 2 A0.lowest.f A0.lowest.fd ["drawing", "gap"] (spEnd K false) := by
  have GC : FnOk P w K mg base CX0 1 A0.corner.f A0.corner.fd ["drawing", "gap", "up"] (spCorner K) := ok_corner A0
  refine A0.lowest.F.ok sc_lowest (fun vs H Q E h => ?_) (fun cdv A outer s H vs Q E hr h => ?_)
  · obtain ⟨d, g, D, T, lo, hi, rfl, _⟩ := h
    rfl
  · obtain ⟨d, g, D, T, lo, hi, rfl, h1, h2, h3, h4, q⟩ := h
    refine ⟨_, pss_one (ps_ret (pe_call GC hr (by rfl) A0.corner.g A0.corner.F.kp A0.corner.b .nil pass0 (pa_cons (pv 0) (pa_cons (pv 1) (pa_cons pe_bl pa_nil))))), ?_⟩
    exact ⟨_, rfl, _, rfl, d, g, D, T, lo, hi, false, rfl, h1, h2, h3, h4, q⟩
theorem ok_highest (A0 : All K mg) : FnOk P w K mg base CX0 2 A0.highest.f A0.highest.fd ["drawing", "gap"] (spEnd K true) := by
  have GC : FnOk P w K mg base CX0 1 A0.corner.f A0.corner.fd ["drawing", "gap", "up"] (spCorner K) := ok_corner A0
  refine A0.highest.F.ok sc_highest (fun vs H Q E h => ?_) (fun cdv A outer s H vs Q E hr h => ?_)
  · obtain ⟨d, g, D, T, lo, hi, rfl, _⟩ := h
    rfl
  · obtain ⟨d, g, D, T, lo, hi, rfl, h1, h2, h3, h4, q⟩ := h
    refine ⟨_, pss_one (ps_ret (pe_call GC hr (by rfl) A0.corner.g A0.corner.F.kp A0.corner.b .nil pass0 (pa_cons (pv 0) (pa_cons (pv 1) (pa_cons pe_bl pa_nil))))), ?_⟩
    exact ⟨_, rfl, _, rfl, d, g, D, T, lo, hi, true, rfl, h1, h2, h3, h4, q⟩
/-! ### reach -/
def spReach (K : PySem.W.Frag) : Sp := fun vs H Q _ => ∃ (d g : Addr) (D : Dr) (T : Tm) (lo hi : Int), vs = [.ref d, .ref g] ∧ DrAt K H d D ∧ GapAt K H g T lo hi ∧ TOk D.length T ∧ D.length ≤ 8 ∧
  ∀ H' p, Same H H' → SqT K H' p [.int (leastT D T), .int (greatT D T)] → Q (.ref p) H'
theorem ok_reach (A0 : All K mg) : FnOk P w K mg base CX0 3 A0.reach.f A0.reach.fd ["drawing", "gap"] (spReach K) := by
  have GL : FnOk P w K mg base CX0 2 A0.lowest.f A0.lowest.fd ["drawing", "gap"] (spEnd K false) := ok_lowest A0
  have GH : FnOk P w K mg base CX0 2 A0.highest.f A0.highest.fd ["drawing", "gap"] (spEnd K true) := ok_highest A0
  have GW : FnOk P w K mg base CX0 1 A0.worth.f A0.worth.fd ["gap", "numbers"] (spWorth K) := ok_worth A0
  refine A0.reach.F.ok sc_reach (fun vs H Q E h => ?_) (fun cdv A outer s H vs Q E hr h => ?_)
  · obtain ⟨d, g, D, T, lo, hi, rfl, _⟩ := h
    rfl
  · obtain ⟨d, g, D, T, lo, hi, rfl, h1, h2, h3, h4, q⟩ := h
    have hr1 : Room 1 _ := hr.mono (by decide)
    have hT : T.length ≤ 1000 := Nat.le_trans (tlen h3) (by omega)
    refine ⟨_, pss_one (ps_ret (pe_tup (pa_cons (pe_call GW hr1 (by rfl) A0.worth.g A0.worth.F.kp A0.worth.b .nil pass0 (pa_cons (pv 1) (pa_cons (pe_call GL hr (by rfl) A0.lowest.g A0.lowest.F.kp A0.lowest.b .nil pass0 (pa_cons (pv 0) (pa_cons (pv 1) pa_nil))) pa_nil)))
      (pa_cons (pe_call GW hr1 (by rfl) A0.worth.g A0.worth.F.kp A0.worth.b .nil pass0 (pa_cons (pv 1) (pa_cons (pe_call GH hr (by rfl) A0.highest.g A0.highest.F.kp A0.highest.b .nil pass0 (pa_cons (pv 0) (pa_cons (pv 1) pa_nil))) pa_nil))) pa_nil)))), ?_⟩
    refine ⟨_, rfl, _, rfl, _, rfl, d, g, D, T, lo, hi, rfl, h1, h2, h3, by omega, fun H1 p1 s1 e1 => ?_⟩
    refine ⟨g, p1, T, lo, hi, _, rfl, h2.same s1, e1, by rw [cornL_len]; exact h3, hT, fun H2 s2 => ?_⟩
    have s02 := s1.trans s2
    refine ⟨_, rfl, _, rfl, _, rfl, d, g, D, T, lo, hi, rfl, h1.same s02, h2.same s02, h3, by omega, fun H3 p3 s3 e3 => ?_⟩
    refine ⟨g, p3, T, lo, hi, _, rfl, h2.same (s02.trans s3), e3, by rw [cornL_len]; exact h3, hT, fun H4 s4 => ?_⟩
    refine ⟨by show 2 ≤ sizeLine; decide, fun p np => q _ p ((s02.trans (s3.trans s4)).trans (same_upd np)) ?_⟩
    rw [worth_low h3, worth_high h3]
    exact SqT.of upd_same
/-! ### check_reach -/
def spCheck (K : PySem.W.Frag) : Sp := fun vs H Q _ => ∃ (d g : Addr) (D : Dr) (T : Tm) (lo hi : Int), vs = [.ref d, .ref g] ∧ DrAt K H d D ∧ GapAt K H g T lo hi ∧ TOk D.length T ∧ D.length ≤ 8 ∧ greatT D T - leastT D T + 1 ≤ 400 ∧
  ∀ H', Same H H' → Q .non H'
theorem ok_check (A0 : All K mg) : FnOk P w K mg base CX0 4 A0.check.f A0.check.fd ["drawing", "gap"] (spCheck K) := by
  have GR : FnOk P w K mg base CX0 3 A0.reach.f A0.reach.fd ["drawing", "gap"] (spReach K) := ok_reach A0
  refine A0.check.F.ok sc_check (fun vs H Q E h => ?_) (fun cdv A outer s H vs Q E hr h => ?_)
  · obtain ⟨d, g, D, T, lo, hi, rfl, _⟩ := h
    rfl
  · obtain ⟨d, g, D, T, lo, hi, rfl, h1, h2, h3, h4, h5, q⟩ := h
    obtain ⟨tk, hmost⟩ := A0.most
    refine ⟨_, pss_cons (ps_asg (pe_call GR hr (by rfl) A0.reach.g A0.reach.F.kp A0.reach.b .nil pass0 (pa_cons (pv 0) (pa_cons (pv 1) pa_nil))) (pg_tup rfl (pgs_cons (pg_name (i := 2) sc_check.nd rfl (.inl rfl)) (pgs_cons (pg_name (i := 3) sc_check.nd rfl (.inl rfl)) pgs_nil))))
      (pss_one (ps_if (pt_cmpR op_gt (pe_op op_add (pe_op op_sub (pv 3) (pv 2)) pe_int) (pe_glob (v := .int 400) rfl hmost ⟨_, rfl⟩) (nomark _)) (pss_never) pss_nil)), ?_⟩
    refine ⟨_, rfl, _, rfl, d, g, D, T, lo, hi, rfl, h1, h2, h3, h4, fun H1 p1 s1 e1 => ?_⟩
    refine ⟨p1, _, rfl, e1, rfl, _, _, rfl, _, _, rfl, rfl, ?_⟩
    refine ⟨_, rfl, _, rfl, _, _, rfl, rfl, _, 1, rfl, rfl, _, 400, rfl, rfl, _, rfl, ?_⟩
    rw [decide_eq_false (by omega)]
    exact iteF (q _ s1)
/-! ### is_set -/
def Valid (D : Dr) (x : List Int) : Prop := Paired (fun (q : V × Int × Int) v => q.2.1 ≤ v ∧ v ≤ q.2.2) D x
theorem tup_ty {H : Hp} {a : Addr} {xs : List V} (h : SqT K H a xs) : TyX K H (.ref a) (.type "tuple") := by
  rcases h with (h | ⟨o, h⟩) | ⟨o, _, _, e, c, _⟩
  · exact .base (.tup h)
  · exact .fTuple h
  · exact .kTuple e c
def spIsSet (K : PySem.W.Frag) : Sp := fun vs H Q _ => ∃ (d n : Addr) (D : Dr) (x : List Int), vs = [.ref d, .ref n] ∧ DrAt K H d D ∧ SqT K H n (x.map V.int) ∧ Valid D x ∧ ∀ H', Same H H' → Q (.bl true) H'
theorem ok_isset (A0 : All K mg) : FnOk P w K mg base CX0 2 A0.isset.f A0.isset.fd ["drawing", "thing"] (spIsSet K) := by
  have GW : FnOk P w K mg base CX0 1 A0.whole.f A0.whole.fd ["thing"] spWhole := ok_whole A0
  refine A0.isset.F.ok sc_isset (fun vs H Q E h => ?_) (fun cdv A outer s H vs Q E hr h => ?_)
  · obtain ⟨d, n, D, x, rfl, _⟩ := h
    rfl
  · obtain ⟨d, n, D, x, rfl, ⟨ds, hd, hdp⟩, hn, hv, q⟩ := h
    have hlx : x.length = ds.length := by rw [paired_len hdp, paired_len hv]
    refine ⟨_, pss_cons (ps_if (PW.pt (pw_or (pt_not (pt_val (pe_callB call_isi (by rfl) A0.b_isi (by decide +kernel) (pa_cons (pv 1) (pa_cons (pe_bltn (v := .ty "tuple") (by rfl) A0.b_tuple (by decide +kernel) rfl) pa_nil)))))
        (pw_or1 (pt_cmpR op_ne (pe_callB call_len_seq (by rfl) A0.b_len PySem.boot_len (pa_cons (pv 1) pa_nil)) (pe_callB call_len_seq (by rfl) A0.b_len PySem.boot_len (pa_cons (pv 0) pa_nil)) (nomark _))))) (pss_one (ps_ret pe_bl)) pss_nil)
      (pss_cons (ps_for PassesOwn.never rfl (RZ.pi_zipA (by rfl) A0.b_zip (pa_cons (pv 0) (pa_cons (pv 1) pa_nil))) (pg_tup rfl (pgs_cons (pg_name (i := 2) sc_isset.nd rfl (.inl rfl)) (pgs_cons (pg_name (i := 3) sc_isset.nd rfl (.inl rfl)) pgs_nil)))
        (pss_one (ps_if (PW.pt (pw_or (pt_not (pt_val (pe_call GW hr (by rfl) A0.whole.g A0.whole.F.kp A0.whole.b .nil pass0 (pa_cons (pv 3) pa_nil))))
          (pw_or (pt_cmpR op_lt (pv 3) (pe_ix ix_tup (pv 2) pe_int (fun _ _ => rfl)) (nomark _)) (pw_or1 (pt_cmpR op_gt (pv 3) (pe_ix ix_tup (pv 2) pe_int (fun _ _ => rfl)) (nomark _)))))) (pss_one (ps_ret pe_bl)) pss_nil)))
      (pss_one (ps_ret pe_bl))), ?_⟩
    refine ⟨_, rfl, .ref n, .ty "tuple", _, _, true, rfl, .ty "tuple", tup_ty hn, kit_ty (by decide +kernel), true, rfl, iteF ?_⟩
    refine ⟨_, rfl, n, _, rfl, .inr hn, _, rfl, d, _, rfl, .inr hd, rfl, _, rfl, ?_⟩
    have e : (!decide (V.int ((x.map V.int).length : Nat) = V.int (ds.length : Nat))) = false := by
      rw [decide_eq_true (by rw [List.length_map, hlx])]
      rfl
    rw [e]
    refine iteF ?_
    refine ⟨_, rfl, _, rfl, d, n, ds, x.map V.int, rfl, .inr ⟨hd, hn, for_it (walk_zipT (n := ds.length) rfl (by rw [List.length_map, hlx])) (fun i σ H' => Same H H' ∧ ∃ v2 v3, σ = [some (.ref d), some (.ref n), v2, v3])
      ⟨Same.refl H, none, none, rfl⟩ (fun i σ H' _ ⟨s1, _⟩ => ⟨tup_same s1 hd, tup_same s1 hn⟩) ?_ ?_⟩⟩
    · rintro i v σ H' H2 hi ⟨s1, v2, v3, rfl⟩ ⟨T, a, b, rfl, nT, rfl, ha, hb⟩
      have s2 := Same.upd_new (o := .tup [a, b]) s1 (s1.free nT)
      obtain ⟨⟨nm, l, h⟩, hD, a2, rfl, ha2⟩ := paired_get hdp ha
      obtain ⟨z, hz, z1, z2⟩ := paired_get hv hD
      have eb : b = .int z := by
        have hb' : (x.map V.int)[i]? = some b := hb
        rw [List.getElem?_map, hz] at hb'
        exact (Option.some.inj hb').symm
      subst eb
      refine ⟨T, _, rfl, SqT.of upd_same, rfl, _, _, rfl, _, _, rfl, rfl, ?_⟩
      refine ⟨_, rfl, z, rfl, true, rfl, iteF ?_⟩
      have z1' : l ≤ z := z1
      have z2' : z ≤ h := z2
      refine ⟨_, rfl, _, rfl, a2, _, 1, .int l, rfl, rfl, tup_same s2 ha2, rfl, z, l, rfl, rfl, _, rfl, ?_⟩
      rw [decide_eq_false (by omega)]
      refine iteF ?_
      refine ⟨_, rfl, _, rfl, a2, _, 2, .int h, rfl, rfl, tup_same s2 ha2, rfl, z, h, rfl, rfl, _, rfl, ?_⟩
      rw [decide_eq_false (by omega)]
      exact iteF ⟨s2, _, _, rfl⟩
    · rintro σ H' ⟨s1, v2, v3, rfl⟩
      exact q _ s1
end
end Gw

namespace Gw
open PySem PySem.Spec PyProof.Rows L2 GwR
/-! ### sums -/
def sumN : Nat → (Nat → Int) → Int
  | 0, _ => 0
  | n + 1, f => sumN n f + f n
theorem sumN_congr {n : Nat} {f g : Nat → Int} (h : ∀ j, j < n → f j = g j) : sumN n f = sumN n g := by
  induction n with
  | zero => rfl
  | succ n ih =>
    show sumN n f + f n = sumN n g + g n
    rw [ih fun j hj => h j (by omega), h n (by omega)]
theorem sumN_zero {n : Nat} {f : Nat → Int} (h : ∀ j, j < n → f j = 0) : sumN n f = 0 := by
  induction n with
  | zero => rfl
  | succ n ih =>
    show sumN n f + f n = 0
    rw [ih fun j hj => h j (by omega), h n (by omega)]
    rfl
theorem sumN_first {n : Nat} {f : Nat → Int} : sumN (n + 1) f = f 0 + sumN n (fun j => f (j + 1)) := by
  induction n with
  | zero =>
    show 0 + f 0 = f 0 + 0
    omega
  | succ n ih =>
    show sumN (n + 1) f + f (n + 1) = f 0 + (sumN n (fun j => f (j + 1)) + f (n + 1))
    rw [ih]
    omega
theorem sumN_add {n : Nat} {f g : Nat → Int} : sumN n (fun j => f j + g j) = sumN n f + sumN n g := by
  induction n with
  | zero => rfl
  | succ n ih =>
    show sumN n (fun j => f j + g j) + (f n + g n) = (sumN n f + f n) + (sumN n g + g n)
    rw [ih]
    omega
theorem sumN_mul {n : Nat} {c : Int} {f : Nat → Int} : sumN n (fun j => c * f j) = c * sumN n f := by
  induction n with
  | zero => show (0 : Int) = c * 0; rw [Int.mul_zero]
  | succ n ih =>
    show sumN n (fun j => c * f j) + c * f n = c * (sumN n f + f n)
    rw [ih, Int.mul_add]
theorem sumN_const {n : Nat} {c : Int} : sumN n (fun _ => c) = (n : Int) * c := by
  induction n with
  | zero => show (0 : Int) = 0 * c; rw [Int.zero_mul]
  | succ n ih =>
    show sumN n (fun _ => c) + c = ((n + 1 : Nat) : Int) * c
    rw [ih, show ((n + 1 : Nat) : Int) = (n : Int) + 1 by omega, Int.add_mul, Int.one_mul]
theorem sumN_split {n m : Nat} {f : Nat → Int} : sumN (n + m) f = sumN n f + sumN m (fun j => f (n + j)) := by
  induction m with
  | zero => show sumN n f = sumN n f + 0; omega
  | succ m ih =>
    show sumN (n + m) f + f (n + m) = sumN n f + (sumN m (fun j => f (n + j)) + f (n + m))
    rw [ih]
    omega
theorem sumN_rev {n : Nat} {f : Nat → Int} : sumN n f = sumN n (fun j => f (n - 1 - j)) := by
  induction n with
  | zero => rfl
  | succ n ih =>
    rw [sumN_first (f := fun j => f (n + 1 - 1 - j))]
    show sumN n f + f n = f (n + 1 - 1 - 0) + sumN n (fun j => f (n + 1 - 1 - (j + 1)))
    rw [ih, show n + 1 - 1 - 0 = n by omega, Int.add_comm]
    refine congrArg (f n + ·) (sumN_congr fun j hj => ?_)
    rw [show n + 1 - 1 - (j + 1) = n - 1 - j by omega]
theorem sumN_nonneg {n : Nat} {f : Nat → Int} (h : ∀ j, j < n → 0 ≤ f j) : 0 ≤ sumN n f := by
  induction n with
  | zero => exact Int.le_refl _
  | succ n ih =>
    have a := ih fun j hj => h j (by omega)
    have b := h n (by omega)
    show 0 ≤ sumN n f + f n
    omega
theorem sumN_le {n : Nat} {f g : Nat → Int} (h : ∀ j, j < n → f j ≤ g j) : sumN n f ≤ sumN n g := by
  induction n with
  | zero => exact Int.le_refl _
  | succ n ih =>
    have a := ih fun j hj => h j (by omega)
    have b := h n (by omega)
    show sumN n f + f n ≤ sumN n g + g n
    omega
theorem sumN_swap {n m : Nat} {f : Nat → Nat → Int} : sumN n (fun i => sumN m (fun j => f i j)) = sumN m (fun j => sumN n (fun i => f i j)) := by
  induction n with
  | zero => exact (sumN_zero fun _ _ => rfl).symm
  | succ n ih =>
    show sumN n (fun i => sumN m (fun j => f i j)) + sumN m (fun j => f n j) = sumN m (fun j => sumN n (fun i => f i j) + f n j)
    rw [ih, sumN_add]
/-! ### ways by rises -/
/-- a list, nought beyond its ends -/
def wI (ws : List Int) (r : Int) : Int := if 0 ≤ r then ws.getD r.toNat 0 else 0
theorem wI_neg {ws : List Int} {r : Int} (h : r < 0) : wI ws r = 0 := by
  unfold wI
  rw [if_neg (by omega)]
theorem wI_nat {ws : List Int} {i : Nat} : wI ws (i : Int) = ws.getD i 0 := by
  unfold wI
  rw [if_pos (Int.natCast_nonneg _)]
  rfl
theorem wI_ge {ws : List Int} {r : Int} (h : (ws.length : Int) ≤ r) : wI ws r = 0 := by
  unfold wI
  split
  · rw [List.getD_eq_getElem?_getD, List.getElem?_eq_none (by omega)]
    rfl
  · rfl
theorem wI_get {ws : List Int} {i : Nat} (h : i < ws.length) : ws[i]? = some (wI ws (i : Int)) := by
  rw [wI_nat, List.getD_eq_getElem?_getD, List.getElem?_eq_getElem h]
  rfl
/-- m steps of b at most -/
def cv (ws : List Int) (b m : Nat) (r : Int) : Int := sumN (m + 1) (fun j => wI ws (r - (b : Int) * (j : Int)))
theorem mulNN {b j : Nat} : 0 ≤ (b : Int) * (j : Int) := Int.mul_nonneg (Int.natCast_nonneg _) (Int.natCast_nonneg _)
theorem cv_neg {ws : List Int} {b m : Nat} {r : Int} (h : r < 0) : cv ws b m r = 0 := sumN_zero fun j _ => wI_neg (by
  have := @mulNN b j
  omega)
theorem cv_step {ws : List Int} {b m : Nat} {r : Int} : cv ws b m r = wI ws r + cv ws b m (r - (b : Int)) - wI ws (r - (b : Int) * ((m : Int) + 1)) := by
  unfold cv
  rw [sumN_first]
  have e1 : sumN (m + 1) (fun j => wI ws (r - (b : Int) - (b : Int) * (j : Int))) = sumN m (fun j => wI ws (r - (b : Int) * ((j + 1 : Nat) : Int))) + wI ws (r - (b : Int) * ((m : Int) + 1)) := by
    show sumN m (fun j => wI ws (r - (b : Int) - (b : Int) * (j : Int))) + wI ws (r - (b : Int) - (b : Int) * (m : Int)) = _
    have e : ∀ j : Nat, r - (b : Int) - (b : Int) * (j : Int) = r - (b : Int) * ((j + 1 : Nat) : Int) := fun j => by
      rw [show ((j + 1 : Nat) : Int) = (j : Int) + 1 by omega, Int.mul_add, Int.mul_one]
      omega
    rw [e m, show ((m + 1 : Nat) : Int) = (m : Int) + 1 by omega]
    refine congrArg (· + wI ws (r - (b : Int) * ((m : Int) + 1))) (sumN_congr fun j _ => by rw [e j])
  rw [e1]
  have e0 : r - (b : Int) * ((0 : Nat) : Int) = r := by
    rw [show ((0 : Nat) : Int) = 0 by rfl, Int.mul_zero, Int.sub_zero]
  rw [e0]
  omega
def risL (ws : List Int) (b m : Nat) : List Int := (List.range (ws.length + b * m)).map (fun r : Nat => cv ws b m (r : Int))
theorem risL_len {ws : List Int} {b m : Nat} : (risL ws b m).length = ws.length + b * m := by
  unfold risL
  rw [List.length_map, List.length_range]
theorem wI_risL {ws : List Int} {b m : Nat} {r : Int} : wI (risL ws b m) r = cv ws b m r := by
  by_cases h : r < 0
  · rw [wI_neg h, cv_neg h]
  · obtain ⟨i, rfl⟩ : ∃ i : Nat, r = (i : Int) := ⟨r.toNat, by omega⟩
    by_cases hi : i < ws.length + b * m
    · rw [wI_nat, List.getD_eq_getElem?_getD]
      unfold risL
      rw [List.getElem?_map, List.getElem?_range hi]
      rfl
    · rw [wI_ge (by rw [risL_len]; omega)]
      refine (sumN_zero fun j hj => wI_ge ?_).symm
      have h1 : b * j ≤ b * m := Nat.mul_le_mul_left _ (by omega)
      have h2 : (b : Int) * (j : Int) = ((b * j : Nat) : Int) := by rw [Int.natCast_mul]
      omega
theorem cv_nonneg {ws : List Int} {b m : Nat} (h : ∀ r, 0 ≤ wI ws r) (r : Int) : 0 ≤ cv ws b m r := sumN_nonneg fun j _ => h _
theorem cv_le {ws : List Int} {b m : Nat} {B : Int} (h : ∀ r, wI ws r ≤ B) (r : Int) : cv ws b m r ≤ ((m + 1 : Nat) : Int) * B := by
  rw [← sumN_const (n := m + 1) (c := B)]
  exact sumN_le fun j _ => h _
/-- the rooms of the terms' parts, the ways of their rises -/
def roomT (D : Dr) (t : Nat × Int) : Nat := (dhi D t.1 - dlo D t.1).toNat
def wayF (D : Dr) (ws : List Int) (t : Nat × Int) : List Int := risL ws t.2.natAbs (roomT D t)
def wayL (D : Dr) (T : Tm) : List Int := T.foldl (wayF D) [1]
theorem wayL_more {D : Dr} {T : Tm} {i : Nat} {t : Nat × Int} (h : T[i]? = some t) : wayL D (T.take (i + 1)) = wayF D (wayL D (T.take i)) t := by
  unfold wayL
  rw [take_more h, List.foldl_append]
  rfl
theorem way_fold_len {D : Dr} : ∀ {T : Tm} {ws : List Int}, (T.foldl (wayF D) ws).length = ws.length + (T.map fun t => t.2.natAbs * roomT D t).sum
  | [], ws => by simp
  | t :: T, ws => by
    rw [List.foldl_cons, way_fold_len]
    unfold wayF
    rw [risL_len, List.map_cons, List.sum_cons]
    omega
theorem wayL_len {D : Dr} {T : Tm} : (wayL D T).length = 1 + (T.map fun t => t.2.natAbs * roomT D t).sum := way_fold_len
theorem sum_take_le : ∀ (l : List Nat) (i : Nat), (l.take i).sum ≤ l.sum
  | [], i => by simp
  | a :: l, 0 => by simp
  | a :: l, i + 1 => by
    rw [List.take_succ_cons, List.sum_cons, List.sum_cons]
    have := sum_take_le l i
    omega
theorem wayL_len_take {D : Dr} {T : Tm} {i : Nat} : (wayL D (T.take i)).length ≤ (wayL D T).length := by
  rw [wayL_len, wayL_len, List.map_take]
  have := sum_take_le (T.map fun t => t.2.natAbs * roomT D t) i
  omega
theorem wI_one {r : Int} : wI [1] r = if r = 0 then 1 else 0 := by
  by_cases h : r < 0
  · rw [wI_neg h, if_neg (by omega)]
  · obtain ⟨i, rfl⟩ : ∃ i : Nat, r = (i : Int) := ⟨r.toNat, by omega⟩
    rw [wI_nat]
    cases i with
    | zero => rfl
    | succ i =>
      rw [if_neg (by omega)]
      rfl
theorem way_bd {D : Dr} : ∀ {T : Tm} {ws : List Int} {B : Int}, (∀ t ∈ T, roomT D t ≤ 1000) → (∀ r, 0 ≤ wI ws r ∧ wI ws r ≤ B) → 0 ≤ B → ∀ r, 0 ≤ wI (T.foldl (wayF D) ws) r ∧ wI (T.foldl (wayF D) ws) r ≤ 1001 ^ T.length * B
  | [], ws, B, _, h, _ => fun r => by
    have := h r
    simpa using this
  | t :: T, ws, B, hr, h, hB => fun r => by
    have hb : ∀ r, 0 ≤ wI (wayF D ws t) r ∧ wI (wayF D ws t) r ≤ 1001 * B := fun r => by
      unfold wayF
      rw [wI_risL]
      refine ⟨cv_nonneg (fun r => (h r).1) r, Int.le_trans (cv_le (B := B) (fun r => (h r).2) r) ?_⟩
      have := hr t List.mem_cons_self
      exact Int.mul_le_mul_of_nonneg_right (by omega) hB
    have := way_bd (T := T) (ws := wayF D ws t) (B := 1001 * B) (fun u hu => hr u (List.mem_cons_of_mem _ hu)) hb (Int.mul_nonneg (by decide) hB) r
    rw [List.foldl_cons, List.length_cons, Int.pow_succ, Int.mul_assoc]
    exact this
theorem wayL_bd {D : Dr} {T : Tm} (h : ∀ t ∈ T, roomT D t ≤ 1000) (r : Int) : 0 ≤ wI (wayL D T) r ∧ wI (wayL D T) r ≤ 1001 ^ T.length := by
  have := way_bd (D := D) (T := T) (ws := [1]) (B := 1) h (fun r => by rw [wI_one]; split <;> decide) (by decide) r
  rw [Int.mul_one] at this
  exact this
/-! ### picking by place -/
def sel {α : Type} (c : Nat → Bool) : Nat → List α → List α
  | _, [] => []
  | k, x :: l => if c k = true then x :: sel c (k + 1) l else sel c (k + 1) l
theorem sel_snoc {α : Type} {c : Nat → Bool} {x : α} : ∀ {l : List α} {k : Nat}, sel c k (l ++ [x]) = sel c k l ++ (if c (k + l.length) = true then [x] else [])
  | [], k => by
    show (if c k = true then [x] else []) = [] ++ (if c (k + 0) = true then [x] else [])
    rfl
  | y :: l, k => by
    have ih := sel_snoc (c := c) (x := x) (l := l) (k := k + 1)
    have e : k + 1 + l.length = k + (y :: l).length := by rw [List.length_cons]; omega
    rw [e] at ih
    show (if c k = true then y :: sel c (k + 1) (l ++ [x]) else sel c (k + 1) (l ++ [x])) = (if c k = true then y :: sel c (k + 1) l else sel c (k + 1) l) ++ _
    rw [ih]
    split <;> rfl
theorem sel_paired {α β : Type} {F : α → β → Prop} {c : Nat → Bool} : ∀ {l : List α} {m : List β} {k : Nat}, Paired F l m → Paired F (sel c k l) (sel c k m)
  | _, _, _, .nil => .nil
  | x :: l, y :: m, k, .cons r t => by
    have ih := sel_paired (c := c) (k := k + 1) t
    show Paired F (if c k = true then x :: sel c (k + 1) l else sel c (k + 1) l) (if c k = true then y :: sel c (k + 1) m else sel c (k + 1) m)
    split
    · exact .cons r ih
    · exact ih
theorem sel_mem {α : Type} {c : Nat → Bool} : ∀ {l : List α} {k : Nat} {x : α}, x ∈ sel c k l → x ∈ l
  | [], k, x, h => by simp [sel] at h
  | y :: l, k, x, h => by
    unfold sel at h
    split at h
    · rcases List.mem_cons.mp h with e | h
      · exact e ▸ List.mem_cons_self
      · exact List.mem_cons_of_mem _ (sel_mem h)
    · exact List.mem_cons_of_mem _ (sel_mem h)
theorem sel_len {α : Type} {c : Nat → Bool} : ∀ {l : List α} {k : Nat}, (sel c k l).length ≤ l.length
  | [], k => Nat.le_refl _
  | y :: l, k => by
    unfold sel
    have := sel_len (c := c) (l := l) (k := k + 1)
    split
    · rw [List.length_cons, List.length_cons]; omega
    · rw [List.length_cons]; omega
def idleC (T : Tm) (first : Nat) (k : Nat) : Bool := decide (first ≤ k) && !(T.any fun t => decide (t.1 = k))
def idleZ (D : Dr) (T : Tm) (first : Nat) : Int := sizes (sel (idleC T first) 0 D)
/-! ### spread, kept_count, times_at -/
def spreadL (ws : List Int) (least apart : Int) (n : Nat) : List (Int × Int) := ((List.range n).filter fun r => decide (0 < wI ws (r : Nat))).map fun r : Nat => (least + (r : Int), wI ws (r : Int) * apart)
theorem spreadL_more {ws : List Int} {least apart : Int} {n : Nat} : spreadL ws least apart (n + 1) = spreadL ws least apart n ++ (if 0 < wI ws (n : Int) then [(least + (n : Int), wI ws (n : Int) * apart)] else []) := by
  unfold spreadL
  rw [List.range_succ, List.filter_append, List.map_append]
  by_cases h : 0 < wI ws (n : Int)
  · have e : List.filter (fun r : Nat => decide (0 < wI ws (r : Int))) [n] = [n] := by simp [h]
    rw [if_pos h, e]
    rfl
  · have e : List.filter (fun r : Nat => decide (0 < wI ws (r : Int))) [n] = [] := by simp [h]
    rw [if_neg h, e]
    rfl
def inB (lo hi z : Int) : Bool := decide (lo ≤ z) && decide (z ≤ hi)
def keptS (S : List (Int × Int)) (lo hi : Int) : Int := ((S.filter fun q => inB lo hi q.1).map (·.2)).sum
def keptZ (D : Dr) (T : Tm) (lo hi : Int) : Int := keptS (spreadL (wayL D T) (leastT D T) (idleZ D T 0) (wayL D T).length) lo hi
def coef (T : Tm) (p : Nat) : Int := ((T.filter fun t => decide (t.1 = p)).map (·.2)).sum
end Gw

namespace Gw
open PySem PySem.Spec PyProof.Rows L2 GwR
/-- a loop over a list or a tuple that stays -/
theorem for_seq {K : PySem.W.Frag} {a : Addr} {xs : List V} {g : TG} {tb : TS} {D : Ends} {σ : L2.St} {H : Hp} (hq : SqL K H a xs ∨ SqT K H a xs) (Pv : Nat → L2.St → Hp → Prop) (h0 : Pv 0 σ H) (hl : ∀ i σ H', Pv i σ H' → Same H H')
    (hs : ∀ i x σ H', xs[i]? = some x → Pv i σ H' → g x σ H' fun σ2 H2 => tb { D with nx := Pv (i + 1), ct := Pv (i + 1), bk := D.nx } σ2 H2) (hd : ∀ σ H', Pv xs.length σ H' → D.nx σ H') :
    ((∃ xs, SqL K H a xs) ∧ ∃ W : Nat → Nat → L2.St → Hp → Prop, (∃ m, W 0 m σ H) ∧ ∀ i m σ H, W i m σ H →
      ((Itl K a).stop i H ∧ D.nx σ H) ∨ ((Itl K a).go i H ∧ ∃ N : L2.St → Hp → Prop, (∀ σ' H', N σ' H' → ∃ m', m' < m ∧ W (i + 1) m' σ' H') ∧ ∀ x H', (Itl K a).yld i H x H' → g x σ H' fun σ2 H2 => tb { D with nx := N, ct := N, bk := D.nx } σ2 H2)) ∨
    ((∃ xs, SqT K H a xs) ∧ ∃ W : Nat → Nat → L2.St → Hp → Prop, (∃ m, W 0 m σ H) ∧ ∀ i m σ H, W i m σ H →
      ((Itt K a).stop i H ∧ D.nx σ H) ∨ ((Itt K a).go i H ∧ ∃ N : L2.St → Hp → Prop, (∀ σ' H', N σ' H' → ∃ m', m' < m ∧ W (i + 1) m' σ' H') ∧ ∀ x H', (Itt K a).yld i H x H' → g x σ H' fun σ2 H2 => tb { D with nx := N, ct := N, bk := D.nx } σ2 H2)) := by
  rcases hq with hq | hq
  · refine .inl ⟨⟨_, hq⟩, for_it (walk_list (xs := xs)) Pv h0 (fun i σ H' _ p => (hl i σ H' p).seq hq) (fun i x σ H1 H2 hi p y => ?_) hd⟩
    obtain ⟨e, y⟩ := y
    subst e
    exact hs i x σ _ y p
  · refine .inr ⟨⟨_, hq⟩, for_it (walk_tup (xs := xs)) Pv h0 (fun i σ H' _ p => tup_same (hl i σ H' p) hq) (fun i x σ H1 H2 hi p y => ?_) hd⟩
    obtain ⟨e, y⟩ := y
    subst e
    exact hs i x σ _ y p
section
variable {P : Program} {w : World} {K : PySem.W.Frag} {mg : Str → Option Value} {base : Heap}
/-! ### risen -/
def spRisen (K : PySem.W.Frag) : Sp := fun vs H Q _ => ∃ (a : Addr) (ws : List Int) (b m : Nat), vs = [.ref a, .int (b : Nat), .int (m : Nat)] ∧ SqL K H a (ws.map V.int) ∧ 1 ≤ b ∧ b ≤ 3 ∧ ws.length + b * m ≤ 1000 ∧
  ∀ H' p, Same H H' → H p = none → H' p = some (.lst ((risL ws b m).map V.int)) → Q (.ref p) H'
theorem ok_risen (A0 : All K mg) : FnOk P w K mg base CX0 1 A0.risen.f A0.risen.fd ["ways", "by", "room"] (spRisen K) := by
  refine A0.risen.F.ok sc_risen (fun vs H Q E h => ?_) (fun cdv A outer s H vs Q E hr h => ?_)
  · obtain ⟨a, ws, b, m, rfl, _⟩ := h
    rfl
  · obtain ⟨a, ws, b, m, rfl, ha, hb1, hb3, hlen, q⟩ := h
    have hbm : (b : Int) * (m : Int) = ((b * m : Nat) : Int) := by rw [Int.natCast_mul]
    refine ⟨_, pss_cons (ps_set (i := 3) sc_risen.nd rfl (.inl rfl) (pe_lst pa_nil))
      (pss_cons (ps_for PassesOwn.never rfl (pi_range1 (by rfl) A0.b_range (pa_cons (pe_op op_add (pe_callB call_len_seq (by rfl) A0.b_len PySem.boot_len (pa_cons (pv 0) pa_nil)) (pe_op op_mul (pv 1) (pv 2))) pa_nil)) (pg_name (i := 4) sc_risen.nd rfl (.inl rfl))
        (pss_cons (ps_set (i := 5) sc_risen.nd rfl (.inl rfl) pe_int)
        (pss_cons (ps_if (pt_cmpR op_lt (pv 4) (pe_callB call_len_seq (by rfl) A0.b_len PySem.boot_len (pa_cons (pv 0) pa_nil)) (nomark _)) (pss_one (ps_set (i := 5) sc_risen.nd rfl (.inl rfl) (pe_ix ix_list (pv 0) (pv 4) (fun _ _ => rfl)))) pss_nil)
        (pss_cons (ps_if (pt_cmpR op_ge (pv 4) (pv 1) (nomark _)) (pss_one (ps_set (i := 5) sc_risen.nd rfl (.inl rfl) (pe_op op_add (pv 5) (pe_ix ix_list (pv 3) (pe_op op_sub (pv 4) (pv 1)) (fun _ _ => rfl))))) pss_nil)
        (pss_cons (ps_set (i := 6) sc_risen.nd rfl (.inl rfl) (pe_op op_sub (pv 4) (pe_op op_mul (pv 1) (pe_op op_add (pv 2) pe_int))))
        (pss_cons (ps_if (pt_cmpR op_ge (pv 6) pe_int (nomark _)) (pss_one (ps_set (i := 5) sc_risen.nd rfl (.inl rfl) (pe_op op_sub (pv 5) (pe_ix ix_list (pv 0) (pv 6) (fun _ _ => rfl))))) pss_nil)
        (pss_one (ps_expr (pe_bm PySem.F.plainAttrs_list PySem.F.slot_list_append PySem.F.type_list_append mt_append (pv 3) (pa_cons (pv 5) pa_nil))))))))))
      (pss_one (ps_ret (pv 3)))), ?_⟩
    refine ⟨Nat.zero_le _, fun L hL => ?_⟩
    have hn : (((ws.map V.int).length : Nat) : Int) + (b : Int) * (m : Int) = ((ws.length + b * m : Nat) : Int) := by rw [List.length_map, hbm]; omega
    refine ⟨_, rfl, a, _, rfl, .inl ((same_upd hL).seq ha), _, rfl, _, rfl, _, _, rfl, rfl, .inl ⟨by omega, by omega⟩, _, _, rfl, rfl, _, rfl, by omega, by omega, ?_⟩
    rw [hn]
    show ∃ W : Nat → Nat → L2.St → Hp → Prop, _
    refine for_range (lo := 0) (n := (((ws.length + b * m : Nat) : Int)).toNat) (fun i σ H' => Same H H' ∧ H' L = some (.lst (((List.range i).map fun r : Nat => cv ws b m (r : Int)).map V.int)) ∧ ∃ v4 v5 v6, σ = [some (.ref a), some (.int (b : Nat)), some (.int (m : Nat)), some (.ref L), v4, v5, v6])
      ⟨same_upd hL, upd_same, none, none, none, rfl⟩ ?_ ?_
    · rintro i σ H' hi ⟨s1, hl, v4, v5, v6, rfl⟩
      have hi' : i < ws.length + b * m := by
        rw [Int.toNat_natCast] at hi
        exact hi
      have hw : SqL K H' a (ws.map V.int) := s1.seq ha
      have e0 : (0 : Int) + (i : Int) = (i : Int) := by omega
      rw [e0]
      have fin : ∀ (z : Int) (v6 : Option V), z = cv ws b m (i : Int) → ∃ (l : Addr) (xs : List V) (y : V), V.ref L = .ref l ∧ [V.int z] = [y] ∧ H' l = some (.lst xs) ∧ xs.length < sizeLine ∧
          (Same H (upd H' l (.lst (xs ++ [y]))) ∧ (upd H' l (.lst (xs ++ [y]))) L = some (.lst (((List.range (i + 1)).map fun r : Nat => cv ws b m (r : Int)).map V.int)) ∧ ∃ v4 v5 w6, [some (V.ref a), some (V.int (b : Nat)), some (V.int (m : Nat)), some (V.ref L), some (V.int (i : Int)), some (V.int z), v6] = [some (V.ref a), some (V.int (b : Nat)), some (V.int (m : Nat)), some (V.ref L), v4, v5, w6]) := fun z v6 e => by
        refine ⟨L, _, _, rfl, rfl, hl, ?_, Same.upd_new s1 hL, ?_, _, _, _, rfl⟩
        · rw [List.length_map, List.length_map, List.length_range]
          exact room1000 (by omega)
        · rw [upd_same, e, List.range_succ, List.map_append, List.map_append]
          rfl
      have step := @cv_step ws b m (i : Int)
      have L1 : ∀ {z : Int} {j : Nat}, z = (j : Int) → j < ws.length → atI (ws.map V.int) z = some (V.int (wI ws (j : Int))) := fun {z j} e hj => at_of e (by rw [List.getElem?_map, wI_get hj]; rfl)
      have L2 : ∀ {z : Int} {j : Nat}, z = (j : Int) → j < i → atI (((List.range i).map fun r : Nat => cv ws b m (r : Int)).map V.int) z = some (V.int (cv ws b m (j : Int))) := fun {z j} e hj => at_of e (by
        rw [List.getElem?_map, List.getElem?_map, List.getElem?_range hj]; rfl)
      have hb1m : (b : Int) * ((m : Int) + 1) = ((b * m + b : Nat) : Int) := by rw [Int.mul_add, hbm, Int.mul_one]; omega
      rw [hb1m] at step
      refine ⟨_, rfl, _, rfl, a, _, rfl, .inl hw, (i : Int), _, rfl, rfl, _, rfl, ?_⟩
      rw [List.length_map]
      by_cases c1 : (i : Int) < (ws.length : Nat)
      · rw [decide_eq_true c1]
        refine iteT ⟨_, rfl, _, rfl, a, _, _, _, rfl, rfl, hw, L1 rfl (by omega), ?_⟩
        refine ⟨_, rfl, _, rfl, (i : Int), (b : Int), rfl, rfl, _, rfl, ?_⟩
        by_cases c2 : (b : Int) ≤ (i : Int)
        · rw [decide_eq_true c2]
          refine iteT ⟨_, rfl, _, rfl, _, rfl, _, rfl, (i : Int), (b : Int), rfl, rfl, L, _, _, _, rfl, rfl, SqL.of hl, L2 (j := i - b) (by omega) (by omega), _, _, rfl, rfl, ?_⟩
          refine ⟨_, rfl, _, rfl, _, rfl, (m : Int), 1, rfl, rfl, (b : Int), _, rfl, rfl, .inl ⟨by omega, by omega⟩, (i : Int), _, rfl, rfl, ?_⟩
          refine ⟨_, rfl, _, 0, rfl, rfl, _, rfl, ?_⟩
          rw [hb1m]
          have e2 : ((i - b : Nat) : Int) = (i : Int) - (b : Int) := by omega
          by_cases c3 : (0 : Int) ≤ (i : Int) - ((b * m + b : Nat) : Int)
          · rw [decide_eq_true c3]
            refine iteT ⟨_, rfl, _, rfl, _, rfl, a, _, _, _, rfl, rfl, hw, L1 (j := i - (b * m + b)) (by omega) (by omega), _, _, rfl, rfl, ?_⟩
            refine ⟨_, rfl, .inl ⟨rfl, _, SqL.of hl⟩, _, rfl, fin _ _ ?_⟩
            have e3 : ((i - (b * m + b) : Nat) : Int) = (i : Int) - ((b * m + b : Nat) : Int) := by omega
            rw [e2, e3]
            exact step.symm
          · rw [decide_eq_false c3]
            refine iteF ⟨_, rfl, .inl ⟨rfl, _, SqL.of hl⟩, _, rfl, fin _ _ ?_⟩
            rw [e2]
            rw [wI_neg (r := (i : Int) - ((b * m + b : Nat) : Int)) (by omega)] at step
            omega
        · rw [decide_eq_false c2]
          refine iteF ?_
          refine ⟨_, rfl, _, rfl, _, rfl, (m : Int), 1, rfl, rfl, (b : Int), _, rfl, rfl, .inl ⟨by omega, by omega⟩, (i : Int), _, rfl, rfl, ?_⟩
          refine ⟨_, rfl, _, 0, rfl, rfl, _, rfl, ?_⟩
          rw [hb1m]
          rw [decide_eq_false (by omega)]
          refine iteF ⟨_, rfl, .inl ⟨rfl, _, SqL.of hl⟩, _, rfl, fin _ _ ?_⟩
          rw [wI_neg (r := (i : Int) - ((b * m + b : Nat) : Int)) (by omega), cv_neg (r := (i : Int) - (b : Int)) (by omega)] at step
          omega
      · rw [decide_eq_false c1]
        refine iteF ?_
        have w0 : wI ws (i : Int) = 0 := wI_ge (by omega)
        rw [w0] at step
        refine ⟨_, rfl, _, rfl, (i : Int), (b : Int), rfl, rfl, _, rfl, ?_⟩
        by_cases c2 : (b : Int) ≤ (i : Int)
        · rw [decide_eq_true c2]
          refine iteT ⟨_, rfl, _, rfl, _, rfl, _, rfl, (i : Int), (b : Int), rfl, rfl, L, _, _, _, rfl, rfl, SqL.of hl, L2 (j := i - b) (by omega) (by omega), _, _, rfl, rfl, ?_⟩
          refine ⟨_, rfl, _, rfl, _, rfl, (m : Int), 1, rfl, rfl, (b : Int), _, rfl, rfl, .inl ⟨by omega, by omega⟩, (i : Int), _, rfl, rfl, ?_⟩
          refine ⟨_, rfl, _, 0, rfl, rfl, _, rfl, ?_⟩
          rw [hb1m]
          have e2 : ((i - b : Nat) : Int) = (i : Int) - (b : Int) := by omega
          by_cases c3 : (0 : Int) ≤ (i : Int) - ((b * m + b : Nat) : Int)
          · rw [decide_eq_true c3]
            refine iteT ⟨_, rfl, _, rfl, _, rfl, a, _, _, _, rfl, rfl, hw, L1 (j := i - (b * m + b)) (by omega) (by omega), _, _, rfl, rfl, ?_⟩
            refine ⟨_, rfl, .inl ⟨rfl, _, SqL.of hl⟩, _, rfl, fin _ _ ?_⟩
            have e3 : ((i - (b * m + b) : Nat) : Int) = (i : Int) - ((b * m + b : Nat) : Int) := by omega
            rw [e2, e3]
            exact step.symm
          · rw [decide_eq_false c3]
            refine iteF ⟨_, rfl, .inl ⟨rfl, _, SqL.of hl⟩, _, rfl, fin _ _ ?_⟩
            rw [e2]
            rw [wI_neg (r := (i : Int) - ((b * m + b : Nat) : Int)) (by omega)] at step
            omega
        · rw [decide_eq_false c2]
          refine iteF ?_
          refine ⟨_, rfl, _, rfl, _, rfl, (m : Int), 1, rfl, rfl, (b : Int), _, rfl, rfl, .inl ⟨by omega, by omega⟩, (i : Int), _, rfl, rfl, ?_⟩
          refine ⟨_, rfl, _, 0, rfl, rfl, _, rfl, ?_⟩
          rw [hb1m]
          rw [decide_eq_false (by omega)]
          refine iteF ⟨_, rfl, .inl ⟨rfl, _, SqL.of hl⟩, _, rfl, fin _ _ ?_⟩
          rw [wI_neg (r := (i : Int) - ((b * m + b : Nat) : Int)) (by omega), cv_neg (r := (i : Int) - (b : Int)) (by omega)] at step
          omega
    · rintro σ H' ⟨s1, hl, v4, v5, v6, rfl⟩
      refine ⟨_, rfl, q _ L s1 hL ?_⟩
      rw [hl]
      rfl
/-! ### ways_of -/
def spWays (K : PySem.W.Frag) : Sp := fun vs H Q _ => ∃ (d t : Addr) (D : Dr) (ts : List V) (T : Tm), vs = [.ref d, .ref t] ∧ DrAt K H d D ∧ (SqL K H t ts ∨ SqT K H t ts) ∧ Paired (TermV K H) ts T ∧ TOk D.length T ∧ (∀ q ∈ D, q.2.1 ≤ q.2.2) ∧ (wayL D T).length ≤ 1000 ∧
  ∀ H' p, Same H H' → H p = none → H' p = some (.lst ((wayL D T).map V.int)) → Q (.ref p) H'
theorem ok_ways (A0 : All K mg) : FnOk P w K mg base CX0 2 A0.ways.f A0.ways.fd ["drawing", "terms"] (spWays K) := by
  have GR : FnOk P w K mg base CX0 1 A0.risen.f A0.risen.fd ["ways", "by", "room"] (spRisen K) := ok_risen A0
  refine A0.ways.F.ok sc_ways (fun vs H Q E h => ?_) (fun cdv A outer s H vs Q E hr h => ?_)
  · obtain ⟨d, t, D, ts, T, rfl, _⟩ := h
    rfl
  · obtain ⟨d, t, D, ts, T, rfl, ⟨ds, hd, hdp⟩, ht, htp, hok, hD, hlen, q⟩ := h
    refine ⟨_, pss_cons (ps_set (i := 2) sc_ways.nd rfl (.inl rfl) (pe_lst (pa_cons pe_int pa_nil)))
      (pss_cons (ps_for PassesOwn.never rfl (pi_seq (pv 1)) (pg_tup rfl (pgs_cons (pg_name (i := 3) sc_ways.nd rfl (.inl rfl)) (pgs_cons (pg_name (i := 4) sc_ways.nd rfl (.inl rfl)) pgs_nil)))
        (pss_one (ps_set (i := 2) sc_ways.nd rfl (.inl rfl) (pe_call GR hr (by rfl) A0.risen.g A0.risen.F.kp A0.risen.b .nil pass0 (pa_cons (pv 2) (pa_cons (pe_callB call_abs (by rfl) A0.b_abs (by decide +kernel) (pa_cons (pv 4) pa_nil))
          (pa_cons (pe_op op_sub (pe_ix ix_tup (pe_ix ix_tup (pv 0) (pv 3) (fun _ _ => rfl)) pe_int (fun _ _ => rfl)) (pe_ix ix_tup (pe_ix ix_tup (pv 0) (pv 3) (fun _ _ => rfl)) pe_int (fun _ _ => rfl))) pa_nil)))))))
      (pss_one (ps_ret (pv 2)))), ?_⟩
    refine ⟨by show 1 ≤ sizeLine; decide, fun L0 hL0 => ?_⟩
    have s0 : Same H (upd H L0 (.lst [V.int 1])) := same_upd hL0
    refine ⟨_, rfl, t, rfl, for_seq (xs := ts) (ht.elim (fun z => .inl (s0.seq z)) (fun z => .inr (tup_same s0 z))) (fun i σ H' => Same (upd H L0 (.lst [V.int 1])) H' ∧ ∃ L v3 v4, H L = none ∧ H' L = some (.lst ((wayL D (T.take i)).map V.int)) ∧ σ = [some (.ref d), some (.ref t), some (.ref L), v3, v4])
      ⟨Same.refl _, L0, none, none, hL0, by rw [upd_same]; rfl, rfl⟩ (fun i σ H' h => h.1) ?_ ?_⟩
    · rintro i v σ H' hi ⟨s1, L, v3, v4, nL, hl, rfl⟩
      have s1' : Same H H' := s0.trans s1
      obtain ⟨⟨p, b⟩, hT, a, rfl, ha⟩ := paired_get htp hi
      obtain ⟨hb1, hb2, hb3, hb4⟩ := hok.ok _ (mem_of_get hT)
      obtain ⟨⟨n, l, h⟩, hDp⟩ : ∃ q, D[p]? = some q := ⟨_, List.getElem?_eq_getElem hb1⟩
      obtain ⟨v, hv, a2, rfl, ha2⟩ := paired_get' hdp hDp
      have hlh : l ≤ h := hD _ (mem_of_get hDp)
      have hb2' : b ≠ 0 := hb2
      have hb3' : -3 ≤ b := hb3
      have hb4' : b ≤ 3 := hb4
      have hroom : roomT D (p, b) = (h - l).toNat := by
        unfold roomT
        rw [dlo_at hDp, dhi_at hDp]
      have hlen2 : (wayL D (T.take (i + 1))).length ≤ 1000 := Nat.le_trans wayL_len_take hlen
      rw [wayL_more hT] at hlen2
      unfold wayF at hlen2
      rw [risL_len, hroom] at hlen2
      refine ⟨a, _, rfl, tup_same s1' ha, rfl, _, _, rfl, _, _, rfl, rfl, ?_⟩
      refine ⟨_, rfl, _, rfl, b, rfl, _, rfl, _, rfl, d, _, _, .ref a2, rfl, rfl, tup_same s1' hd, atI_nat hv, a2, _, 2, .int h, rfl, rfl, tup_same s1' ha2, rfl,
        _, rfl, _, rfl, d, _, _, .ref a2, rfl, rfl, tup_same s1' hd, atI_nat hv, a2, _, 1, .int l, rfl, rfl, tup_same s1' ha2, rfl, h, l, rfl, rfl, ?_⟩
      have e1 : (if b < 0 then -b else b) = ((b.natAbs : Nat) : Int) := by split <;> omega
      have e2 : h - l = (((h - l).toNat : Nat) : Int) := by omega
      rw [e1]
      refine ⟨L, wayL D (T.take i), b.natAbs, (h - l).toNat, (by show [V.ref L, V.int (b.natAbs : Nat), V.int (h - l)] = _; rw [← e2]), SqL.of hl, by omega, by omega, hlen2, fun H2 p2 s2 n2 h2 => ?_⟩
      refine ⟨s1.trans s2, p2, _, _, s1'.free n2, ?_, rfl⟩
      rw [h2, wayL_more hT]
      unfold wayF
      rw [hroom]
    · rintro σ H' ⟨s1, L, v3, v4, nL, hl, rfl⟩
      rw [List.take_of_length_le (Nat.le_of_eq (paired_len htp).symm)] at hl
      exact ⟨_, rfl, q _ L (s0.trans s1) nL hl⟩
/-! ### idle -/
def spIdle (K : PySem.W.Frag) : Sp := fun vs H Q _ => ∃ (d g : Addr) (D : Dr) (T : Tm) (lo hi : Int) (first : Nat), vs = [.ref d, .ref g, .int (first : Nat)] ∧ DrAt K H d D ∧ GapAt K H g T lo hi ∧ DOk D ∧ T.length ≤ 1000 ∧
  ∀ H', Same H H' → Q (.int (idleZ D T first)) H'
theorem ok_idle (A0 : All K mg) : FnOk P w K mg base CX0 3 A0.idle.f A0.idle.fd ["drawing", "gap", "first"] (spIdle K) := by
  have GH : FnOk P w K mg base CX0 2 A0.how.f A0.how.fd ["drawing"] (spHow K) := ok_how A0
  refine A0.idle.F.ok sc_idle (fun vs H Q E h => ?_) (fun cdv A outer s H vs Q E hr h => ?_)
  · obtain ⟨d, g, D, T, lo, hi, first, rfl, _⟩ := h
    rfl
  · obtain ⟨d, g, D, T, lo, hi, first, rfl, ⟨ds, hd, hdp⟩, ⟨t, ts, hg, ht, htp⟩, hD, hlen, q⟩ := h
    refine ⟨_, pss_cons (ps_set (i := 3) sc_idle.nd rfl (.inr rfl)
        (pe_lc (own := [("place", 4), ("by", 5)]) (g := g2 K 4 5) (tt := tYes) rfl sc_idle.nd (pi_tup (pe_ix ix_tup (pv 1) pe_int (fun _ _ => rfl)))
          (blkOk_by (N := ["drawing", "gap", "first", "there", "place", "by", "part"]) (sc := defScope sIdle) (own := [("place", 4), ("by", 5)]) (by decide +kernel))
          (fun _ _ _ _ _ => pg_tup rfl (pgs_cons (pg_name (i := 4) sc_idle.nd rfl (Or.inl rfl)) (pgs_cons (pg_name (i := 5) sc_idle.nd rfl (Or.inl rfl)) pgs_nil))) (fun _ _ _ _ _ => pts_nil)
          (fun _ _ _ _ _ => pv 4)))
      (pss_one (ps_ret (pe_call GH hr (by rfl) A0.how.g A0.how.F.kp A0.how.b .nil pass0 (pa_cons
        (pe_lc (own := [("place", 4), ("part", 6)]) (g := g2 K 4 6) (tt := tAnd (tTest (tOp (rI0 fun i j => .bl (decide (j ≤ i))) (tVar 4) (tVar 2))) (tTest (tOp (rIn K true) (tVar 4) (tVar 3)))) rfl sc_idle.nd (pi_enumT (by rfl) A0.b_enum (pa_cons (pv 0) pa_nil))
          (blkOk_by (N := ["drawing", "gap", "first", "there", "place", "by", "part"]) (sc := defScope sIdle) (own := [("place", 4), ("part", 6)]) (by decide +kernel))
          (fun _ _ _ _ _ => pg_tup rfl (pgs_cons (pg_name (i := 4) sc_idle.nd rfl (Or.inl rfl)) (pgs_cons (pg_name (i := 6) sc_idle.nd rfl (Or.inl rfl)) pgs_nil)))
          (fun _ _ _ _ _ => pts_one (PW.pt (pw_and (pt_cmpR op_ge (pv 4) (pv 2) (nomark _)) (pw_and1 (pt_cmpR (notInS K) (pv 4) (pv 3) (by rfl))))))
          (fun _ _ _ _ _ => pv 6)) pa_nil)))), ?_⟩
    refine ⟨_, rfl, g, _, 0, _, rfl, rfl, hg, rfl, t, rfl, ⟨_, ht⟩, fun L hL => lc_tup (K := K) (a := t) (xs := ts) (fun i H' => Same H H' ∧ H' L = some (.lst ((T.take i).map fun t => V.int (t.1 : Nat))))
      ⟨same_upd hL, upd_same⟩ (fun i H' _ ⟨s1, _⟩ => tup_same s1 ht) ?_ ?_⟩
    · rintro i v H' hi ⟨s1, hl⟩
      obtain ⟨⟨p, b⟩, hT, a, rfl, ha⟩ := paired_get htp hi
      refine ⟨a, _, rfl, tup_same s1 ha, rfl, _, _, rfl, _, _, rfl, rfl, rfl, ?_⟩
      refine ⟨_, rfl, _, hl, ?_, Same.upd_new s1 hL, ?_⟩
      · rw [List.length_map]
        exact room1000 (Nat.le_trans (by rw [List.length_take]; omega) hlen)
      · rw [upd_same, take_more hT, List.map_append]
        rfl
    · rintro H1 ⟨s1, hl⟩
      rw [List.take_of_length_le (Nat.le_of_eq (paired_len htp).symm)] at hl
      refine ⟨_, rfl, d, ds, rfl, tup_same s1 hd, fun M hM => lc_it (walk_enumT (K := K) (a := d) (xs := ds)) (fun i H' => Same H H' ∧ H' L = some (.lst (T.map fun t => V.int (t.1 : Nat))) ∧ H' M = some (.lst (sel (idleC T first) 0 (ds.take i))))
        ⟨Same.upd_new s1 (s1.free hM), by rw [upd_ne (ne_of_none hl hM)]; exact hl, upd_same⟩ (fun i H' _ ⟨s2, _⟩ => tup_same s2 hd) ?_ ?_⟩
      · rintro i v H2 H3 hi ⟨s2, hl2, hm⟩ ⟨Tp, x, y, rfl, nT, rfl, hx, hy⟩
        have ex : x = .int (i : Nat) := (Option.some.inj hx).symm
        subst ex
        have hy' : ds[i]? = some y := hy
        have nTL : L ≠ Tp := ne_of_none hl2 nT
        have nTM : M ≠ Tp := ne_of_none hm nT
        have hl3 : (upd H2 Tp (.tup [.int (i : Nat), y])) L = some (.lst (T.map fun t => V.int (t.1 : Nat))) := by rw [upd_ne nTL]; exact hl2
        have hm3 : (upd H2 Tp (.tup [.int (i : Nat), y])) M = some (.lst (sel (idleC T first) 0 (ds.take i))) := by rw [upd_ne nTM]; exact hm
        have s3 : Same H (upd H2 Tp (.tup [.int (i : Nat), y])) := Same.upd_new s2 (s2.free nT)
        have esel : sel (idleC T first) 0 (ds.take (i + 1)) = sel (idleC T first) 0 (ds.take i) ++ (if idleC T first i = true then [y] else []) := by
          rw [take_more hy', sel_snoc, List.length_take, Nat.min_eq_left (Nat.le_of_lt hi), Nat.zero_add]
        have eIn : inV (V.int (i : Nat)) (T.map fun t => V.int (t.1 : Nat)) = T.any fun t => decide (t.1 = i) := by
          unfold inV
          rw [List.any_map]
          refine congrArg (List.any T) (funext fun t => ?_)
          show eqV (V.int (t.1 : Nat)) (V.int (i : Nat)) = decide (t.1 = i)
          unfold eqV
          by_cases z : t.1 = i
          · rw [decide_eq_true z, z]
            simp
          · rw [decide_eq_false z]
            simp
            omega
        have hall : (T.map fun t => V.int (t.1 : Nat)).all flatV = true := by
          rw [List.all_map]
          exact List.all_eq_true.mpr fun _ _ => rfl
        refine ⟨Tp, _, rfl, SqT.of upd_same, rfl, _, _, rfl, _, _, rfl, rfl, rfl, ?_⟩
        refine ⟨_, rfl, _, rfl, (i : Int), (first : Int), rfl, rfl, _, rfl, ?_⟩
        by_cases c : (first : Int) ≤ (i : Int)
        · rw [decide_eq_true c]
          refine iteT ⟨_, rfl, _, rfl, L, _, rfl, .inl (SqL.of hl3), rfl, hall, _, rfl, ?_⟩
          rw [eIn]
          have ec : idleC T first i = !(T.any fun t => decide (t.1 = i)) := by
            unfold idleC
            rw [decide_eq_true (by omega : first ≤ i), Bool.true_and]
          show if (!(T.any fun t => decide (t.1 = i))) = true then _ else _
          rw [← ec]
          refine ite2 (fun h => ?_) (fun h => ?_)
          · rw [if_pos h] at esel
            refine ⟨_, rfl, _, hm3, ?_, ?_, ?_, ?_⟩
            · have := @sel_len _ (idleC T first) (ds.take i) 0
              have h2 : (ds.take i).length ≤ i := by rw [List.length_take]; omega
              have h3 := hD.le
              have h4 := paired_len hdp
              exact room1000 (by omega)
            · exact Same.upd_new s3 (s1.free hM)
            · rw [upd_ne (fun e => by rw [e, hM] at hl; cases hl)]
              exact hl3
            · rw [upd_same, esel]
          · rw [if_neg h, List.append_nil] at esel
            exact ⟨s3, hl3, by rw [esel]; exact hm3⟩
        · rw [decide_eq_false c]
          have ec : idleC T first i = false := by
            unfold idleC
            rw [decide_eq_false (by omega : ¬ first ≤ i), Bool.false_and]
          rw [ec, if_neg Bool.false_ne_true, List.append_nil] at esel
          exact iteF (iteF ⟨s3, hl3, by rw [esel]; exact hm3⟩)
      · rintro H2 ⟨s2, hl2, hm⟩
        rw [List.take_length] at hm
        have hsub : ∀ q ∈ sel (idleC T first) 0 D, q ∈ D := fun q hq => sel_mem hq
        refine ⟨M, _, sel (idleC T first) 0 D, rfl, SqL.of hm, sel_paired (Paired.mapP hdp fun _ _ ⟨a, e, z⟩ => ⟨a, e, tup_same s2 z⟩), fun q hq => hD.sp q (hsub q hq), Nat.le_trans sel_len hD.le, fun H3 s3 => ?_⟩
        exact q _ (s2.trans s3)
end
end Gw

namespace Gw
open PySem PySem.Spec PyProof.Rows L2 GwR
/-! ### a drawing and a gap of it with few worths -/
structure GOk (D : Dr) (T : Tm) : Prop where
  d : DOk D
  t : TOk D.length T
  w : greatT D T - leastT D T + 1 ≤ 400
theorem part_at {D : Dr} {T : Tm} (hd : ∀ q ∈ D, q.2.1 ≤ q.2.2) (ht : TOk D.length T) {t : Nat × Int} (h : t ∈ T) : dlo D t.1 ≤ dhi D t.1 := by
  obtain ⟨h1, _⟩ := ht.ok t h
  have g : D[t.1]? = some D[t.1] := List.getElem?_eq_getElem h1
  rw [dlo_at g, dhi_at g]
  exact hd _ (mem_of_get g)
theorem span1 {D : Dr} {t : Nat × Int} (h : dlo D t.1 ≤ dhi D t.1) : high1 D t - low1 D t = ((t.2.natAbs * roomT D t : Nat) : Int) := by
  unfold high1 low1 roomT
  rw [Int.natCast_mul, show (((dhi D t.1 - dlo D t.1).toNat : Nat) : Int) = dhi D t.1 - dlo D t.1 by omega]
  by_cases c : 0 < t.2
  · rw [if_pos c, if_pos c, ← Int.mul_sub, show ((t.2.natAbs : Nat) : Int) = t.2 by omega]
  · rw [if_neg c, if_neg c, ← Int.mul_sub, show ((t.2.natAbs : Nat) : Int) = -t.2 by omega, Int.neg_mul, ← Int.mul_neg, Int.neg_sub]
theorem span_eq {D : Dr} : ∀ {T : Tm}, (∀ t ∈ T, dlo D t.1 ≤ dhi D t.1) → greatT D T - leastT D T = (((T.map fun t => t.2.natAbs * roomT D t).sum : Nat) : Int)
  | [], _ => rfl
  | t :: T, h => by
    have ih := span_eq (T := T) fun u hu => h u (List.mem_cons_of_mem _ hu)
    have h1 := span1 (h t List.mem_cons_self)
    unfold greatT leastT at ih ⊢
    rw [List.map_cons, List.map_cons, List.map_cons, List.sum_cons, List.sum_cons, List.sum_cons, Int.natCast_add, ← ih, ← h1]
    omega
theorem GOk.lohi {D : Dr} {T : Tm} (g : GOk D T) : ∀ q ∈ D, q.2.1 ≤ q.2.2 := fun q hq => (g.d.sp q hq).1
theorem GOk.len {D : Dr} {T : Tm} (g : GOk D T) : (wayL D T).length ≤ 400 := by
  have h := span_eq (D := D) (T := T) fun t ht => part_at g.lohi g.t ht
  rw [wayL_len]
  have := g.w
  omega
theorem mem_sum_le : ∀ {l : List Nat} {x : Nat}, x ∈ l → x ≤ l.sum
  | a :: l, x, h => by
    rw [List.sum_cons]
    rcases List.mem_cons.mp h with e | h
    · omega
    · have := mem_sum_le h
      omega
theorem GOk.room {D : Dr} {T : Tm} (g : GOk D T) : ∀ t ∈ T, roomT D t ≤ 1000 := fun t ht => by
  have h1 := g.len
  rw [wayL_len] at h1
  have h2 : t.2.natAbs * roomT D t ≤ (T.map fun t => t.2.natAbs * roomT D t).sum := mem_sum_le (List.mem_map.mpr ⟨t, ht, rfl⟩)
  have h3 := (g.t.ok t ht).2.1
  have h4 : 1 * roomT D t ≤ t.2.natAbs * roomT D t := Nat.mul_le_mul_right _ (by omega)
  omega
theorem GOk.tlen {D : Dr} {T : Tm} (g : GOk D T) : T.length ≤ 8 := Nat.le_trans (Gw.tlen g.t) g.d.le
theorem pow_mono {a : Int} (h : 1 ≤ a) : ∀ {n m : Nat}, n ≤ m → a ^ n ≤ a ^ m := by
  intro n m hnm
  induction hnm with
  | refl => exact Int.le_refl _
  | @step m hm ih =>
    have p : 0 ≤ a ^ n := Int.pow_nonneg (by omega)
    rw [Int.pow_succ]
    have := Int.mul_le_mul_of_nonneg_left h (Int.le_trans p ih)
    rw [Int.mul_one] at this
    exact Int.le_trans ih this
theorem GOk.wbd {D : Dr} {T : Tm} (g : GOk D T) (r : Int) : 0 ≤ wI (wayL D T) r ∧ wI (wayL D T) r ≤ 2 ^ 80 := by
  obtain ⟨h1, h2⟩ := wayL_bd g.room r
  refine ⟨h1, Int.le_trans h2 (Int.le_trans (pow_mono (by decide) g.tlen) ?_)⟩
  decide
/-- the terms from a place on -/
def tailT (T : Tm) (k : Nat) : Tm := T.filter fun t => decide (k ≤ t.1)
theorem sum_filter_le (f : Nat × Int → Nat) (c : Nat × Int → Bool) : ∀ T : Tm, ((T.filter c).map f).sum ≤ (T.map f).sum
  | [] => Nat.le_refl _
  | t :: T => by
    have := sum_filter_le f c T
    by_cases h : c t = true
    · rw [List.filter_cons_of_pos h, List.map_cons, List.map_cons, List.sum_cons, List.sum_cons]
      omega
    · rw [List.filter_cons_of_neg h, List.map_cons, List.sum_cons]
      omega
theorem TOk.filter {n : Nat} {T : Tm} (h : TOk n T) (c : Nat × Int → Bool) : TOk n (T.filter c) := ⟨h.up.filter _, fun t ht => h.ok t ((List.mem_filter.mp ht).1)⟩
theorem GOk.tail {D : Dr} {T : Tm} (g : GOk D T) (k : Nat) : GOk D (tailT T k) := by
  refine ⟨g.d, g.t.filter _, ?_⟩
  have h1 := span_eq (D := D) (T := T) fun t ht => part_at g.lohi g.t ht
  have h2 := span_eq (D := D) (T := tailT T k) fun t ht => part_at g.lohi (g.t.filter _) ht
  have h3 := sum_filter_le (fun t => t.2.natAbs * roomT D t) (fun t => decide (k ≤ t.1)) T
  have h4 := g.w
  unfold tailT at h2 ⊢
  omega
theorem idle_bd {D : Dr} (hd : DOk D) (T : Tm) (k : Nat) : 1 ≤ idleZ D T k ∧ (idleZ D T k).natAbs < 2 ^ 1121 := by
  have h := sizes_lt (D := sel (idleC T k) 0 D) (fun q hq => hd.sp q (sel_mem hq)) _ (Nat.le_refl _)
  rw [List.take_length] at h
  have hl : (sel (idleC T k) 0 D).length ≤ 8 := Nat.le_trans sel_len hd.le
  exact ⟨h.1, Nat.lt_of_lt_of_le h.2 (Nat.pow_le_pow_right (by decide) (by omega))⟩
/-! ### prefix sums -/
def psL (ws : List Int) (n : Nat) : List Int := (List.range (n + 1)).map fun i => sumN i (fun j => wI ws (j : Int))
theorem psL_get {ws : List Int} {n i : Nat} (h : i ≤ n) : (psL ws n)[i]? = some (sumN i (fun j => wI ws (j : Int))) := by
  unfold psL
  rw [List.getElem?_map, List.getElem?_range (by omega)]
  rfl
theorem psL_more {ws : List Int} {n : Nat} : psL ws (n + 1) = psL ws n ++ [sumN (n + 1) (fun j => wI ws (j : Int))] := by
  unfold psL
  rw [List.range_succ, List.map_append]
  rfl
theorem psL_len {ws : List Int} {n : Nat} : (psL ws n).length = n + 1 := by
  unfold psL
  rw [List.length_map, List.length_range]
theorem ps_bd {ws : List Int} (h : ∀ r, 0 ≤ wI ws r ∧ wI ws r ≤ 2 ^ 80) {n : Nat} (hn : n ≤ 1001) : 0 ≤ sumN n (fun j => wI ws (j : Int)) ∧ sumN n (fun j => wI ws (j : Int)) < 2 ^ 100 := by
  refine ⟨sumN_nonneg fun j _ => (h _).1, ?_⟩
  have a := sumN_le (n := n) (f := fun j => wI ws (j : Int)) (g := fun _ => 2 ^ 80) fun j _ => (h _).2
  rw [sumN_const] at a
  have b : (n : Int) * 2 ^ 80 ≤ 1001 * 2 ^ 80 := Int.mul_le_mul_of_nonneg_right (by omega) (by decide)
  have c : (1001 : Int) * 2 ^ 80 < 2 ^ 100 := by decide
  omega
def onZ (ws : List Int) (lo hi least apart a : Int) : Int :=
  let f := if lo - a - least > 0 then lo - a - least else 0
  let l := if hi - a - least < (ws.length : Int) - 1 then hi - a - least else (ws.length : Int) - 1
  if l < f then 0 else apart * (sumN (l + 1).toNat (fun j => wI ws (j : Int)) - sumN f.toNat (fun j => wI ws (j : Int)))
/-! ### data -/
theorem lay_terms : ∀ T : Tm, PyData.canLayAll0 (T.map fun t => .tuple [.int (t.1 : Nat), .int t.2]) = true
  | [] => rfl
  | t :: T => by
    rw [List.map_cons, PyData.canLayAll0, lay_terms T]
    rfl
theorem depth_terms : ∀ T : Tm, PyData.depthAll (T.map fun t => .tuple [.int (t.1 : Nat), .int t.2]) ≤ 3
  | [] => by simp [PyData.depthAll]
  | t :: T => by
    rw [List.map_cons, PyData.depthAll]
    have := depth_terms T
    simp only [PyData.depth, PyData.depthAll]
    omega
theorem shaped_terms (T : Tm) : SeqAt.shaped (.list (T.map fun t => .tuple [.int (t.1 : Nat), .int t.2])) = true := by
  unfold SeqAt.shaped
  rw [Bool.and_eq_true]
  refine ⟨by rw [PyData.canLay0]; exact lay_terms T, ?_⟩
  refine decide_eq_true ?_
  rw [PyData.depth]
  have := depth_terms T
  omega
theorem dp_terms {K : PySem.W.Frag} {H : Hp} : ∀ {xs : List V} {T : Tm}, Paired (TermV K H) xs T → DpAll K H xs (T.map fun t => .tuple [.int (t.1 : Nat), .int t.2])
  | _, _, .nil => .nil
  | _, _, .cons ⟨a, e, h⟩ t => by
    subst e
    exact .cons (.tup h (.cons (.int _) (.cons (.int _) .nil))) (dp_terms t)
theorem imm_new {H : Hp} {p : Addr} {o : HO} (h : H p = none) : Imm H (upd H p o) := same_imm (same_upd h)
theorem imm_mut {H : Hp} {p : Addr} {o u : HO} (h : H p = some u) (m : Mut (some u)) : Imm H (upd H p o) := (samex_upd (p := p)).imm (by rw [h]; exact m)
def PairV (K : PySem.W.Frag) (H : Hp) (v : V) (q : Int × Int) : Prop := ∃ a, v = .ref a ∧ SqT K H a [.int q.1, .int q.2]
theorem PairV.imm {K : PySem.W.Frag} {H H' : Hp} (i : Imm H H') {xs : List V} {S : List (Int × Int)} (h : Paired (PairV K H) xs S) : Paired (PairV K H') xs S := Paired.mapP h fun _ _ ⟨a, e, t⟩ => ⟨a, e, tup_imm i t⟩
theorem spreadL_len {ws : List Int} {least apart : Int} {n : Nat} : (spreadL ws least apart n).length ≤ n := by
  unfold spreadL
  rw [List.length_map]
  exact Nat.le_trans (List.length_filter_le _ _) (by rw [List.length_range]; exact Nat.le_refl _)
section
variable {P : Program} {w : World} {K : PySem.W.Frag} {mg : Str → Option Value} {base : Heap}
/-! ### spread -/
def spSpread (K : PySem.W.Frag) : Sp := fun vs H Q _ => ∃ (d g : Addr) (D : Dr) (T : Tm) (lo hi : Int), vs = [.ref d, .ref g] ∧ DrAt K H d D ∧ GapAt K H g T lo hi ∧ GOk D T ∧
  ∀ H' p xs, Same H H' → H p = none → H' p = some (.lst xs) → Paired (PairV K H') xs (spreadL (wayL D T) (leastT D T) (idleZ D T 0) (wayL D T).length) → Q (.ref p) H'
theorem ok_spread (A0 : All K mg) : FnOk P w K mg base CX0 5 A0.spread.f A0.spread.fd ["drawing", "gap"] (spSpread K) := by
  have GC : FnOk P w K mg base CX0 4 A0.check.f A0.check.fd ["drawing", "gap"] (spCheck K) := ok_check A0
  have GR : FnOk P w K mg base CX0 3 A0.reach.f A0.reach.fd ["drawing", "gap"] (spReach K) := ok_reach A0
  have GI : FnOk P w K mg base CX0 3 A0.idle.f A0.idle.fd ["drawing", "gap", "first"] (spIdle K) := ok_idle A0
  have GW : FnOk P w K mg base CX0 2 A0.ways.f A0.ways.fd ["drawing", "terms"] (spWays K) := ok_ways A0
  refine A0.spread.F.ok sc_spread (fun vs H Q E h => ?_) (fun cdv A outer s H vs Q E hr h => ?_)
  · obtain ⟨d, g, D, T, lo, hi, rfl, _⟩ := h
    rfl
  · obtain ⟨d, g, D, T, lo, hi, rfl, h1, h2, ok, q⟩ := h
    have hr3 : Room 3 _ := hr.mono (by decide)
    have hr2 : Room 2 _ := hr.mono (by decide)
    refine ⟨_, pss_cons (ps_expr (pe_call GC hr (by rfl) A0.check.g A0.check.F.kp A0.check.b .nil pass0 (pa_cons (pv 0) (pa_cons (pv 1) pa_nil))))
      (pss_cons (ps_set (i := 2) sc_spread.nd rfl (.inl rfl) (pe_ix ix_tup (pe_call GR hr3 (by rfl) A0.reach.g A0.reach.F.kp A0.reach.b .nil pass0 (pa_cons (pv 0) (pa_cons (pv 1) pa_nil))) pe_int (fun _ _ => rfl)))
      (pss_cons (ps_set (i := 3) sc_spread.nd rfl (.inl rfl) (pe_call GI hr3 (by rfl) A0.idle.g A0.idle.F.kp A0.idle.b .nil pass0 (pa_cons (pv 0) (pa_cons (pv 1) (pa_cons pe_int pa_nil)))))
      (pss_cons (ps_set (i := 4) sc_spread.nd rfl (.inl rfl) (pe_lst pa_nil))
      (pss_cons (ps_for PassesOwn.never rfl (pi_enum (by rfl) A0.b_enum (pa_cons (pe_call GW hr2 (by rfl) A0.ways.g A0.ways.F.kp A0.ways.b .nil pass0 (pa_cons (pv 0) (pa_cons (pe_ix ix_tup (pv 1) pe_int (fun _ _ => rfl)) pa_nil))) pa_nil))
          (pg_tup rfl (pgs_cons (pg_name (i := 5) sc_spread.nd rfl (.inl rfl)) (pgs_cons (pg_name (i := 6) sc_spread.nd rfl (.inl rfl)) pgs_nil)))
        (pss_one (ps_if (pt_cmpR op_gt (pv 6) pe_int (nomark _))
          (pss_one (ps_expr (pe_bm PySem.F.plainAttrs_list PySem.F.slot_list_append PySem.F.type_list_append mt_append (pv 4) (pa_cons (pe_tup (pa_cons (pe_op op_add (pv 2) (pv 5)) (pa_cons (pe_op op_mulW (pv 6) (pv 3)) pa_nil))) pa_nil)))) pss_nil)))
      (pss_one (ps_ret (pv 4))))))), ?_⟩
    refine ⟨_, rfl, _, rfl, d, g, D, T, lo, hi, rfl, h1, h2, ok.t, ok.d.le, ok.w, fun H1 s1 => ?_⟩
    refine ⟨_, rfl, _, rfl, d, g, D, T, lo, hi, rfl, h1.same s1, h2.same s1, ok.t, ok.d.le, fun H2 p2 s2 e2 => ?_⟩
    refine ⟨p2, _, 0, _, rfl, rfl, e2, rfl, ?_⟩
    have s02 := s1.trans s2
    refine ⟨_, rfl, _, rfl, d, g, D, T, lo, hi, 0, rfl, h1.same s02, h2.same s02, ok.d, by have := ok.tlen; omega, fun H3 s3 => ?_⟩
    have s03 := s02.trans s3
    refine ⟨Nat.zero_le _, fun L hL => ?_⟩
    have s04 := s03.trans (same_upd (o := .lst []) hL)
    obtain ⟨t, ts, hg, ht, htp⟩ := h2.same s04
    refine ⟨_, rfl, _, rfl, g, _, 0, _, rfl, rfl, hg, rfl, d, t, D, ts, T, rfl, h1.same s04, .inr ht, htp, ok.t, ok.lohi, by have := ok.len; omega, fun H5 p5 s5 n5 h5 => ?_⟩
    have hL5 : H5 L = some (.lst []) := s5 _ _ upd_same
    have hLn : H L = none := s03.free hL
    have hpn : H p5 = none := s04.free n5
    have nLp : L ≠ p5 := fun e => by
      rw [e] at hL5
      rw [hL5] at h5
      rw [← e, upd_same] at n5
      cases n5
    refine ⟨p5, _, rfl, SqL.of h5, for_it (walk_enum (K := K) (a := p5) (xs := (wayL D T).map V.int)) (fun i σ H' => Same H H' ∧ H' p5 = some (.lst ((wayL D T).map V.int)) ∧ ∃ xs v5 v6, H' L = some (.lst xs) ∧ Paired (PairV K H') xs (spreadL (wayL D T) (leastT D T) (idleZ D T 0) i) ∧
        σ = [some (.ref d), some (.ref g), some (.int (leastT D T)), some (.int (idleZ D T 0)), some (.ref L), v5, v6])
      ⟨s04.trans s5, h5, [], none, none, hL5, .nil, rfl⟩ (fun i σ H' _ ⟨_, z, _⟩ => SqL.of z) ?_ ?_⟩
    · rintro i v σ H6 H7 hi ⟨s6, h6, xs, v5, v6, hl6, hp6, rfl⟩ ⟨Tp, x, y, rfl, nT, rfl, hx, hy⟩
      have ex : x = .int (i : Nat) := (Option.some.inj hx).symm
      subst ex
      have hi' : i < (wayL D T).length := by simpa using hi
      have ey : y = .int (wI (wayL D T) (i : Int)) := by
        have hy' : ((wayL D T).map V.int)[i]? = some y := hy
        rw [List.getElem?_map, wI_get hi'] at hy'
        exact (Option.some.inj hy').symm
      subst ey
      have s7 := Same.upd_new (o := .tup [.int (i : Nat), .int (wI (wayL D T) (i : Int))]) s6 (s6.free nT)
      have hl7 : (upd H6 Tp (.tup [.int (i : Nat), .int (wI (wayL D T) (i : Int))])) L = some (.lst xs) := by rw [upd_ne (ne_of_none hl6 nT)]; exact hl6
      have h67 : (upd H6 Tp (.tup [.int (i : Nat), .int (wI (wayL D T) (i : Int))])) p5 = some (.lst ((wayL D T).map V.int)) := by rw [upd_ne (ne_of_none h6 nT)]; exact h6
      have hp7 := PairV.imm (imm_new (o := .tup [.int (i : Nat), .int (wI (wayL D T) (i : Int))]) nT) hp6
      have esp := @spreadL_more (wayL D T) (leastT D T) (idleZ D T 0) i
      refine ⟨Tp, _, rfl, SqT.of upd_same, rfl, _, _, rfl, _, _, rfl, rfl, ?_⟩
      refine ⟨_, rfl, _, 0, rfl, rfl, _, rfl, ?_⟩
      by_cases c : 0 < wI (wayL D T) (i : Int)
      · rw [decide_eq_true c]
        rw [if_pos c] at esp
        refine iteT ⟨_, rfl, .inl ⟨rfl, _, SqL.of hl7⟩, _, rfl, _, rfl, _, _, rfl, rfl, _, rfl, _, rfl, _, _, rfl, rfl, ?_, by show 2 ≤ sizeLine; decide, fun Np nN => ?_⟩
        · refine wide_mul (a := 81) (b := 1121) ?_ (idle_bd ok.d T 0).2 (by decide) (by decide) (by decide)
          obtain ⟨w1, w2⟩ := ok.wbd (i : Int)
          have : (2 : Int) ^ 80 < 2 ^ 81 := by decide
          have h3 : (wI (wayL D T) (i : Int)).natAbs < (2 ^ 81 : Int).natAbs := by omega
          simpa using h3
        · have hlN := ne_of_none hl7 nN
          have h6N := ne_of_none h67 nN
          refine ⟨L, xs, _, rfl, rfl, by rw [upd_ne hlN]; exact hl7, ?_, ?_⟩
          · have := paired_len hp6
            have h2 := @spreadL_len (wayL D T) (leastT D T) (idleZ D T 0) i
            have h3 := ok.len
            exact room1000 (by omega)
          · refine ⟨Same.upd_new (Same.upd_new s7 (s7.free nN)) hLn, ?_, _, _, _, upd_same, ?_, rfl⟩
            · rw [upd_ne (Ne.symm nLp), upd_ne h6N]
              exact h67
            · rw [esp]
              have i2 := imm_new (o := .tup [.int (leastT D T + (i : Int)), .int (wI (wayL D T) (i : Int) * idleZ D T 0)]) nN
              have hlN2 : (upd (upd H6 Tp (.tup [.int (i : Nat), .int (wI (wayL D T) (i : Int))])) Np (.tup [.int (leastT D T + (i : Int)), .int (wI (wayL D T) (i : Int) * idleZ D T 0)])) L = some (.lst xs) := by rw [upd_ne hlN]; exact hl7
              have i3 := imm_mut (o := .lst (xs ++ [.ref Np])) hlN2 trivial
              refine Paired.snoc (PairV.imm i3 (PairV.imm i2 hp7)) ⟨Np, rfl, SqT.of ?_⟩
              rw [upd_ne (Ne.symm hlN), upd_same]
      · rw [decide_eq_false c]
        rw [if_neg c, List.append_nil] at esp
        refine iteF ⟨s7, h67, xs, _, _, hl7, ?_, rfl⟩
        rw [esp]
        exact hp7
    · rintro σ H6 ⟨s6, h6, xs, v5, v6, hl6, hp6, rfl⟩
      rw [List.length_map] at hp6
      exact ⟨_, rfl, q _ L xs s6 hLn hl6 hp6⟩
/-! ### kept_count -/
def spKept (K : PySem.W.Frag) : Sp := fun vs H Q _ => ∃ (d g : Addr) (D : Dr) (T : Tm) (lo hi : Int), vs = [.ref d, .ref g] ∧ DrAt K H d D ∧ GapAt K H g T lo hi ∧ GOk D T ∧ ∀ H', Same H H' → Q (.int (keptZ D T lo hi)) H'
theorem ok_kept (A0 : All K mg) : FnOk P w K mg base CX0 6 A0.kept.f A0.kept.fd ["drawing", "gap"] (spKept K) := by
  have GS : FnOk P w K mg base CX0 5 A0.spread.f A0.spread.fd ["drawing", "gap"] (spSpread K) := ok_spread A0
  refine A0.kept.F.ok sc_kept (fun vs H Q E h => ?_) (fun cdv A outer s H vs Q E hr h => ?_)
  · obtain ⟨d, g, D, T, lo, hi, rfl, _⟩ := h
    rfl
  · obtain ⟨d, g, D, T, lo, hi, rfl, h1, h2, ok, q⟩ := h
    refine ⟨_, pss_one (ps_ret (pe_callB (cr_sum rfl) (by rfl) A0.b_sum (by decide +kernel) (pa_cons
      (pe_lc (own := [("number", 2), ("sets_here", 3)]) (g := g2 K 2 3) (tt := tTest (tChain (rI0 fun i j => .bl (decide (i ≤ j))) (rI0 fun i j => .bl (decide (i ≤ j))) (tOp (rIxT K) (tVar 1) (tC (.int 1))) (tVar 2) (tOp (rIxT K) (tVar 1) (tC (.int 2))))) rfl sc_kept.nd
        (pi_list (pe_call GS hr (by rfl) A0.spread.g A0.spread.F.kp A0.spread.b .nil pass0 (pa_cons (pv 0) (pa_cons (pv 1) pa_nil))))
        (blkOk_by (N := ["drawing", "gap", "number", "sets_here"]) (sc := defScope sKept) (own := [("number", 2), ("sets_here", 3)]) (by decide +kernel))
        (fun _ _ _ _ _ => pg_tup rfl (pgs_cons (pg_name (i := 2) sc_kept.nd rfl (Or.inl rfl)) (pgs_cons (pg_name (i := 3) sc_kept.nd rfl (Or.inl rfl)) pgs_nil)))
        (fun _ _ _ _ _ => pts_one (pt_chain op_le op_le (pe_ix (ixT K) (pv 1) pe_int (fun _ _ => rfl)) (pv 2) (pe_ix (ixT K) (pv 1) pe_int (fun _ _ => rfl))))
        (fun _ _ _ _ _ => pv 3)) pa_nil))), ?_⟩
    refine ⟨_, rfl, _, rfl, d, g, D, T, lo, hi, rfl, h1, h2, ok, fun H1 p xs s1 np hp hps => ?_⟩
    generalize eS : spreadL (wayL D T) (leastT D T) (idleZ D T 0) (wayL D T).length = S at hps
    have hSl : S.length ≤ 400 := by
      rw [← eS]
      exact Nat.le_trans spreadL_len ok.len
    obtain ⟨t, ts, hg, ht, htp⟩ := h2.same s1
    refine ⟨p, rfl, ⟨_, SqL.of hp⟩, fun M hM => lc_list (K := K) (a := p) (xs := xs) (fun i H' => Same H1 H' ∧ H' M = some (.lst ((((S.take i).filter fun q => inB lo hi q.1).map (·.2)).map V.int)))
      ⟨same_upd hM, upd_same⟩ (fun i H' _ ⟨s2, _⟩ => SqL.of (s2 _ _ hp)) ?_ ?_⟩
    · rintro i v H' hi' ⟨s2, hm⟩
      obtain ⟨⟨n, z⟩, hS, a, rfl, ha⟩ := paired_get hps hi'
      have ha' : SqT K H' a [.int n, .int z] := tup_same s2 ha
      have emore := take_more hS
      refine ⟨a, _, rfl, ha', rfl, _, _, rfl, _, _, rfl, rfl, rfl, ?_⟩
      refine ⟨_, rfl, g, _, 1, _, rfl, rfl, tup_same s2 hg, rfl, _, rfl, lo, n, rfl, rfl, _, rfl, ?_⟩
      have tail : ∀ b : Bool, inB lo hi n = b → (if b = true then (tVar 3) (((wipe [some (V.ref d), some (V.ref g), none, none] [2, 3]).set 2 (some (V.int n))).set 3 (some (V.int z))) H' (fun y H4 => ∃ acc, H4 M = some (.lst acc) ∧ acc.length < sizeLine ∧ (Same H1 (upd H4 M (.lst (acc ++ [y]))) ∧ (upd H4 M (.lst (acc ++ [y]))) M = some (.lst ((((S.take (i + 1)).filter fun q => inB lo hi q.1).map (·.2)).map V.int))))
          else (Same H1 H' ∧ H' M = some (.lst ((((S.take (i + 1)).filter fun q => inB lo hi q.1).map (·.2)).map V.int)))) := fun b hb => by
        cases b with
        | true =>
          refine iteT ⟨_, rfl, _, hm, ?_, Same.upd_new s2 hM, ?_⟩
          · rw [List.length_map, List.length_map]
            exact room1000 (Nat.le_trans (List.length_filter_le _ _) (by rw [List.length_take]; omega))
          · rw [upd_same, emore, List.filter_append, List.filter_cons_of_pos (by exact hb), List.map_append, List.map_append]
            rfl
        | false =>
          refine iteF ⟨s2, ?_⟩
          rw [emore, List.filter_append, List.filter_cons_of_neg (by show ¬ inB lo hi n = true; rw [hb]; decide), List.filter_nil, List.append_nil]
          exact hm
      by_cases c : lo ≤ n
      · rw [decide_eq_true c]
        refine iteT ⟨_, rfl, g, _, 2, _, rfl, rfl, tup_same s2 hg, rfl, n, hi, rfl, rfl, _, rfl, tail _ ?_⟩
        unfold inB
        rw [decide_eq_true c, Bool.true_and]
      · rw [decide_eq_false c]
        refine iteF ⟨_, rfl, tail _ ?_⟩
        unfold inB
        rw [decide_eq_false c, Bool.false_and]
    · rintro H' ⟨s2, hm⟩
      rw [List.take_of_length_le (Nat.le_of_eq (paired_len hps).symm)] at hm
      refine ⟨M, _, rfl, SqL.of hm, ?_⟩
      have e : keptZ D T lo hi = ((S.filter fun q => inB lo hi q.1).map (·.2)).sum := by
        unfold keptZ keptS
        rw [eS]
      rw [← e]
      exact q _ (s1.trans s2)
/-! ### times_at -/
def spTimes (K : PySem.W.Frag) : Sp := fun vs H Q _ => ∃ (g : Addr) (T : Tm) (lo hi : Int) (p : Nat), vs = [.ref g, .int (p : Nat)] ∧ GapAt K H g T lo hi ∧ T.length ≤ 1000 ∧ ∀ H', Same H H' → Q (.int (coef T p)) H'
theorem ok_times (A0 : All K mg) : FnOk P w K mg base CX0 1 A0.times.f A0.times.fd ["gap", "place"] (spTimes K) := by
  refine A0.times.F.ok sc_times (fun vs H Q E h => ?_) (fun cdv A outer s H vs Q E hr h => ?_)
  · obtain ⟨g, T, lo, hi, p, rfl, _⟩ := h
    rfl
  · obtain ⟨g, T, lo, hi, p, rfl, ⟨t, ts, hg, ht, htp⟩, hl, q⟩ := h
    refine ⟨_, pss_one (ps_ret (pe_callB (cr_sum rfl) (by rfl) A0.b_sum (by decide +kernel) (pa_cons
      (pe_lc (own := [("part", 2), ("by", 3)]) (g := g2 K 2 3) (tt := tTest (tOp rEq (tVar 2) (tVar 1))) rfl sc_times.nd (pi_tup (pe_ix ix_tup (pv 0) pe_int (fun _ _ => rfl)))
        (blkOk_by (N := ["gap", "place", "part", "by"]) (sc := defScope sTimes) (own := [("part", 2), ("by", 3)]) (by decide +kernel))
        (fun _ _ _ _ _ => pg_tup rfl (pgs_cons (pg_name (i := 2) sc_times.nd rfl (Or.inl rfl)) (pgs_cons (pg_name (i := 3) sc_times.nd rfl (Or.inl rfl)) pgs_nil)))
        (fun _ _ _ _ _ => pts_one (pt_cmpR op_eq (pv 2) (pv 1) (nomark _)))
        (fun _ _ _ _ _ => pv 3)) pa_nil))), ?_⟩
    refine ⟨_, rfl, g, _, 0, _, rfl, rfl, hg, rfl, t, rfl, ⟨_, ht⟩, fun M hM => lc_tup (K := K) (a := t) (xs := ts) (fun i H' => Same H H' ∧ H' M = some (.lst ((((T.take i).filter fun t => decide (t.1 = p)).map (·.2)).map V.int)))
      ⟨same_upd hM, upd_same⟩ (fun i H' _ ⟨s1, _⟩ => tup_same s1 ht) ?_ ?_⟩
    · rintro i v H' hi' ⟨s2, hm⟩
      obtain ⟨⟨n, z⟩, hS, a, rfl, ha⟩ := paired_get htp hi'
      have emore := take_more hS
      refine ⟨a, _, rfl, tup_same s2 ha, rfl, _, _, rfl, _, _, rfl, rfl, rfl, ?_⟩
      refine ⟨_, rfl, _, rfl, rfl, _, rfl, ?_⟩
      by_cases c : n = p
      · have e : decide (V.int (n : Nat) = V.int (p : Nat)) = true := decide_eq_true (by rw [c])
        show if decide (V.int (n : Nat) = V.int (p : Nat)) = true then _ else _
        rw [e]
        refine iteT ⟨_, rfl, _, hm, ?_, Same.upd_new s2 hM, ?_⟩
        · rw [List.length_map, List.length_map]
          exact room1000 (Nat.le_trans (List.length_filter_le _ _) (by rw [List.length_take]; omega))
        · rw [upd_same, emore, List.filter_append, List.filter_cons_of_pos (by exact decide_eq_true c), List.map_append, List.map_append]
          rfl
      · have e : decide (V.int (n : Nat) = V.int (p : Nat)) = false := decide_eq_false (fun h => c (by have := V.int.inj h; omega))
        show if decide (V.int (n : Nat) = V.int (p : Nat)) = true then _ else _
        rw [e]
        refine iteF ⟨s2, ?_⟩
        rw [emore, List.filter_append, List.filter_cons_of_neg (by show ¬ decide (n = p) = true; rw [decide_eq_false c]; decide), List.filter_nil, List.append_nil]
        exact hm
    · rintro H' ⟨s2, hm⟩
      rw [List.take_of_length_le (Nat.le_of_eq (paired_len htp).symm)] at hm
      exact ⟨M, _, rfl, SqL.of hm, q _ s2⟩
end
end Gw

namespace Gw
open PySem PySem.Spec PyProof.Rows L2 GwR
/-! ### the fields of Behind -/
def bF (lo hi least apart : Int) (s : Addr) : List (Str × V) := [("low", .int lo), ("high", .int hi), ("least", .int least), ("apart", .int apart), ("sums", .ref s)]
theorem put_here {f : Str} {v x : V} {r : List (Str × V)} : putF f v ((f, x) :: r) = (f, v) :: r := if_pos rfl
theorem put_past {f g : Str} {v x : V} {r : List (Str × V)} (h : ¬ g = f) : putF f v ((g, x) :: r) = (g, x) :: putF f v r := if_neg h
theorem lk_here {k : Str} {v : V} {r : List (Str × V)} : List.lookup k ((k, v) :: r) = some v := by
  have e : (k == k) = true := beq_self_eq_true k
  simp only [List.lookup, e]
theorem lk_past {k g : Str} {v : V} {r : List (Str × V)} (h : (k == g) = false) : List.lookup k ((g, v) :: r) = List.lookup k r := by
  simp only [List.lookup, h]
theorem nlh : ¬ (("low" : Str) = "high") := by decide +kernel
theorem nll : ¬ (("low" : Str) = "least") := by decide +kernel
theorem nla : ¬ (("low" : Str) = "apart") := by decide +kernel
theorem nls : ¬ (("low" : Str) = "sums") := by decide +kernel
theorem nhl : ¬ (("high" : Str) = "least") := by decide +kernel
theorem nha : ¬ (("high" : Str) = "apart") := by decide +kernel
theorem nhs : ¬ (("high" : Str) = "sums") := by decide +kernel
theorem nea : ¬ (("least" : Str) = "apart") := by decide +kernel
theorem nes : ¬ (("least" : Str) = "sums") := by decide +kernel
theorem nas : ¬ (("apart" : Str) = "sums") := by decide +kernel
def fA (lo : Int) : List (Str × V) := [("low", .int lo)]
def fB (lo hi : Int) : List (Str × V) := [("low", .int lo), ("high", .int hi)]
def fC (lo hi z : Int) : List (Str × V) := [("low", .int lo), ("high", .int hi), ("least", .int z)]
def fD (lo hi z a : Int) : List (Str × V) := [("low", .int lo), ("high", .int hi), ("least", .int z), ("apart", .int a)]
theorem bF1 (lo : Int) : putF "low" (.int lo) [] = fA lo := rfl
theorem bF2 (lo hi : Int) : putF "high" (.int hi) (fA lo) = fB lo hi := put_past nlh
theorem bF3 (lo hi z : Int) : putF "least" (.int z) (fB lo hi) = fC lo hi z := (put_past nll).trans (congrArg _ (put_past nhl))
theorem bF3' (lo hi z y : Int) : putF "least" (.int z) (fC lo hi y) = fC lo hi z := (put_past nll).trans (congrArg _ ((put_past nhl).trans (congrArg _ put_here)))
theorem bF4 (lo hi z a : Int) : putF "apart" (.int a) (fC lo hi z) = fD lo hi z a :=
  (put_past nla).trans (congrArg _ ((put_past nha).trans (congrArg _ (put_past nea))))
theorem bF5 (lo hi z a : Int) (s : Addr) : putF "sums" (.ref s) (fD lo hi z a) = bF lo hi z a s :=
  (put_past nls).trans (congrArg _ ((put_past nhs).trans (congrArg _ ((put_past nes).trans (congrArg _ (put_past nas))))))
section
variable {lo hi z a : Int} {s : Addr}
theorem bLow : (bF lo hi z a s).lookup ("low" : Str) = some (.int lo) := lk_here
theorem bHigh : (bF lo hi z a s).lookup ("high" : Str) = some (.int hi) := (lk_past (by decide +kernel)).trans lk_here
theorem bLeast : (bF lo hi z a s).lookup ("least" : Str) = some (.int z) := (lk_past (by decide +kernel)).trans ((lk_past (by decide +kernel)).trans lk_here)
theorem bApart : (bF lo hi z a s).lookup ("apart" : Str) = some (.int a) := (lk_past (by decide +kernel)).trans ((lk_past (by decide +kernel)).trans ((lk_past (by decide +kernel)).trans lk_here))
theorem bSums : (bF lo hi z a s).lookup ("sums" : Str) = some (.ref s) := (lk_past (by decide +kernel)).trans ((lk_past (by decide +kernel)).trans ((lk_past (by decide +kernel)).trans ((lk_past (by decide +kernel)).trans lk_here)))
theorem bOn : (bF lo hi z a s).lookup ("ways_on" : Str) = none := (lk_past (by decide +kernel)).trans ((lk_past (by decide +kernel)).trans ((lk_past (by decide +kernel)).trans ((lk_past (by decide +kernel)).trans ((lk_past (by decide +kernel)).trans rfl))))
end
/-- a Behind stands at x -/
def BehAt (C : Addr) (H : Hp) (x : Addr) (lo hi least apart : Int) (ss : List Int) : Prop := ∃ dx s, H x = some (.ins C dx (bF lo hi least apart s)) ∧ H s = some (.lst (ss.map V.int))
theorem BehAt.same {C x : Addr} {H H' : Hp} {lo hi least apart : Int} {ss : List Int} (s : Same H H') (h : BehAt C H x lo hi least apart ss) : BehAt C H' x lo hi least apart ss :=
  let ⟨dx, l, h1, h2⟩ := h
  ⟨dx, l, s _ _ h1, s _ _ h2⟩
section
variable {P : Program} {w : World} {K : PySem.W.Frag} {mg : Str → Option Value} {base : Heap}
/-! ### ways_on -/
def spOn (C : Addr) : Sp := fun vs H Q _ => ∃ (x : Addr) (lo hi least apart a : Int) (ws : List Int), vs = [.ref x, .int a] ∧ BehAt C H x lo hi least apart (psL ws ws.length) ∧ apart.natAbs < 2 ^ 1121 ∧ (∀ r, 0 ≤ wI ws r ∧ wI ws r ≤ 2 ^ 80) ∧ ws.length ≤ 400 ∧
  Q (.int (onZ ws lo hi least apart a)) H
theorem ok_on (A0 : All K mg) : FnOk P w K mg base CX0 1 A0.on.f A0.on.fd ["self", "ahead"] (spOn A0.C) := by
  refine A0.on.F.ok sc_bon (fun vs H Q E h => ?_) (fun cdv A outer s H vs Q E hr h => ?_)
  · obtain ⟨x, lo, hi, least, apart, a, ws, rfl, _⟩ := h
    rfl
  · obtain ⟨x, lo, hi, least, apart, a, ws, rfl, ⟨dx, l, hx, hl⟩, hap, hw, hlen, q⟩ := h
    refine ⟨_, pss_cons (ps_set (i := 2) sc_bon.nd rfl (.inl rfl) (pe_callB (call_max2 rfl) (by rfl) A0.b_max (by decide +kernel) (pa_cons pe_int (pa_cons (pe_op op_sub (pe_op op_sub (pe_fld (pv 0) rfl) (pv 1)) (pe_fld (pv 0) rfl)) pa_nil))))
      (pss_cons (ps_set (i := 3) sc_bon.nd rfl (.inl rfl) (pe_callB (call_min2 rfl) (by rfl) A0.b_min (by decide +kernel) (pa_cons (pe_op op_sub (pe_callB call_len_seq (by rfl) A0.b_len PySem.boot_len (pa_cons (pe_fld (pv 0) rfl) pa_nil)) pe_int)
        (pa_cons (pe_op op_sub (pe_op op_sub (pe_fld (pv 0) rfl) (pv 1)) (pe_fld (pv 0) rfl)) pa_nil))))
      (pss_cons (ps_if (pt_cmpR op_gt (pv 2) (pv 3) (nomark _)) (pss_one (ps_ret pe_int)) pss_nil)
      (pss_one (ps_ret (pe_op op_mulW (pe_fld (pv 0) rfl) (pe_op op_sub (pe_ix ix_list (pe_fld (pv 0) rfl) (pe_op op_add (pv 3) pe_int) (fun _ _ => rfl)) (pe_ix ix_list (pe_fld (pv 0) rfl) (pv 2) (fun _ _ => rfl)))))))), ?_⟩
    refine ⟨_, rfl, x, A0.C, dx, _, .int lo, rfl, hx, A0.cl, A0.nLow, bLow, _, rfl, _, _, rfl, rfl, _, rfl, x, A0.C, dx, _, .int least, rfl, hx, A0.cl, A0.nLeast, bLeast, _, _, rfl, rfl, 0, _, rfl, ?_⟩
    refine ⟨_, rfl, x, A0.C, dx, _, .ref l, rfl, hx, A0.cl, A0.nSums, bSums, l, _, rfl, .inl (SqL.of hl), _, 2, rfl, rfl, _, rfl, x, A0.C, dx, _, .int hi, rfl, hx, A0.cl, A0.nHigh, bHigh, _, rfl, _, _, rfl, rfl,
      _, rfl, x, A0.C, dx, _, .int least, rfl, hx, A0.cl, A0.nLeast, bLeast, _, _, rfl, rfl, _, _, rfl, ?_⟩
    have e1 : (((psL ws ws.length).map V.int).length : Int) - 2 = (ws.length : Int) - 1 := by
      rw [List.length_map, psL_len]
      omega
    rw [e1]
    have hz : onZ ws lo hi least apart a = (let f := if lo - a - least > 0 then lo - a - least else 0
      let l := if hi - a - least < (ws.length : Int) - 1 then hi - a - least else (ws.length : Int) - 1
      if l < f then 0 else apart * (sumN (l + 1).toNat (fun j => wI ws (j : Int)) - sumN f.toNat (fun j => wI ws (j : Int)))) := rfl
    generalize ef : (if lo - a - least > 0 then lo - a - least else 0) = f at hz
    generalize el : (if hi - a - least < (ws.length : Int) - 1 then hi - a - least else (ws.length : Int) - 1) = m at hz
    have hf0 : 0 ≤ f := by rw [← ef]; split <;> omega
    have hm1 : m ≤ (ws.length : Int) - 1 := by rw [← el]; split <;> omega
    refine ⟨_, rfl, _, rfl, f, m, rfl, rfl, _, rfl, ?_⟩
    by_cases c : m < f
    · rw [decide_eq_true c]
      refine iteT ?_
      have e : onZ ws lo hi least apart a = 0 := by
        rw [hz]
        exact if_pos c
      rw [e] at q
      exact q
    · rw [decide_eq_false c]
      have g1 : (psL ws ws.length)[(m + 1).toNat]? = some (sumN (m + 1).toNat (fun j => wI ws (j : Int))) := psL_get (by omega)
      have g2 : (psL ws ws.length)[f.toNat]? = some (sumN f.toNat (fun j => wI ws (j : Int))) := psL_get (by omega)
      refine iteF ⟨_, rfl, x, A0.C, dx, _, .int apart, rfl, hx, A0.cl, A0.nApart, bApart, _, rfl, x, A0.C, dx, _, .ref l, rfl, hx, A0.cl, A0.nSums, bSums, _, rfl, m, 1, rfl, rfl,
        l, _, _, .int (sumN (m + 1).toNat (fun j => wI ws (j : Int))), rfl, rfl, SqL.of hl, at_of (j := (m + 1).toNat) (by omega) (by rw [List.getElem?_map, g1]; rfl), _, rfl, x, A0.C, dx, _, .ref l, rfl, hx, A0.cl, A0.nSums, bSums, _, rfl,
        l, _, _, .int (sumN f.toNat (fun j => wI ws (j : Int))), rfl, rfl, SqL.of hl, at_of (j := f.toNat) (by omega) (by rw [List.getElem?_map, g2]; rfl), _, _, rfl, rfl, _, _, rfl, rfl, ?_, ?_⟩
      · obtain ⟨p1, p2⟩ := ps_bd hw (n := (m + 1).toNat) (by omega)
        obtain ⟨q1, q2⟩ := ps_bd hw (n := f.toNat) (by omega)
        refine wide_mul (a := 1121) (b := 101) hap ?_ (by decide) (by decide) (by decide)
        have h3 : (sumN (m + 1).toNat (fun j => wI ws (j : Int)) - sumN f.toNat (fun j => wI ws (j : Int))).natAbs < (2 ^ 101 : Int).natAbs := by
          have : (2 : Int) ^ 100 < 2 ^ 101 := by decide
          omega
        simpa using h3
      · have e : onZ ws lo hi least apart a = apart * (sumN (m + 1).toNat (fun j => wI ws (j : Int)) - sumN f.toNat (fun j => wI ws (j : Int))) := by
          rw [hz]
          exact if_neg c
        rw [e] at q
        exact q
/-! ### Behind(..) -/
def spBInit (K : PySem.W.Frag) (C : Addr) : Sp := fun vs H Q _ => ∃ (x dx d g : Addr) (D : Dr) (T : Tm) (lo hi : Int) (first : Nat), vs = [.ref x, .ref d, .ref g, .int (first : Nat)] ∧ H x = some (.ins C dx []) ∧ DrAt K H d D ∧ GapAt K H g T lo hi ∧ GOk D T ∧
  ∀ H', SameX x H H' → BehAt C H' x lo hi (leastT D (tailT T first)) (idleZ D T first) (psL (wayL D (tailT T first)) (wayL D (tailT T first)).length) → Q .non H'
theorem ok_init (A0 : All K mg) : FnOk P w K mg base CX0 4 A0.init.f A0.init.fd ["self", "drawing", "gap", "first"] (spBInit K A0.C) := by
  have GR : FnOk P w K mg base CX0 3 A0.reach.f A0.reach.fd ["drawing", "gap"] (spReach K) := ok_reach A0
  have GI : FnOk P w K mg base CX0 3 A0.idle.f A0.idle.fd ["drawing", "gap", "first"] (spIdle K) := ok_idle A0
  have GW : FnOk P w K mg base CX0 2 A0.ways.f A0.ways.fd ["drawing", "terms"] (spWays K) := ok_ways A0
  refine A0.init.F.ok sc_binit (fun vs H Q E h => ?_) (fun cdv A outer s H vs Q E hr h => ?_)
  · obtain ⟨x, dx, d, g, D, T, lo, hi, first, rfl, _⟩ := h
    rfl
  · obtain ⟨x, dx, d, g, D, T, lo, hi, first, rfl, hx, h1, h2, ok, q⟩ := h
    have hr2 : Room 2 _ := hr.mono (by decide)
    obtain ⟨t, ts, hg, ht, htp⟩ := id h2
    have okT := ok.tail first
    have hTl : T.length ≤ 8 := ok.tlen
    refine ⟨_, pss_cons (ps_setLc (i := 4) (own := [("term", 6)]) (g := gName 6) (tt := tTest (tOp (rI0 fun i j => .bl (decide (j ≤ i))) (tOp (rIxT K) (tVar 6) (tC (.int 0))) (tVar 3))) rfl sc_binit.nd rfl rfl (sw_true rfl rfl rfl (by decide +kernel)) (pi_tup (pe_ix ix_tup (pv 2) pe_int (fun _ _ => rfl)))
        (blkOk_by (N := ["self", "drawing", "gap", "first", "terms", "ways", "term"]) (sc := defScope sBInit) (own := [("term", 6)]) (by decide +kernel)) (fun _ _ _ _ _ => pg_name (i := 6) sc_binit.nd rfl (Or.inl rfl))
        (fun _ _ _ _ _ => pts_one (pt_cmpR op_ge (pe_ix (ixT K) (pv 6) pe_int (fun _ _ => rfl)) (pv 3) (nomark _)))
        (fun _ _ _ _ _ => pv 6))
      (pss_cons (ps_fld (pv 0) (pe_ix ix_tup (pv 2) pe_int (fun _ _ => rfl)) rfl)
      (pss_cons (ps_fld (pv 0) (pe_ix ix_tup (pv 2) pe_int (fun _ _ => rfl)) rfl)
      (pss_cons (ps_fld (pv 0) pe_int rfl)
      (C8.pss_cut (ps_if (pt_cmpR (op_neD hr.units) (pv 4) (pe_lst pa_nil) (nomark _))
          (pss_one (ps_fld (pv 0) (pe_ix ix_tup (pe_call GR hr (by rfl) A0.reach.g A0.reach.F.kp A0.reach.b .nil pass0 (pa_cons (pv 1) (pa_cons (pe_tup (pa_cons (pe_callTy call_tuple_of (by rfl) A0.b_tuple (by decide +kernel) (pa_cons (pv 4) pa_nil)) (pa_cons pe_int (pa_cons pe_int pa_nil)))) pa_nil))) pe_int (fun _ _ => rfl)) rfl)) pss_nil)
      (pss_cons (ps_fld (pv 0) (pe_call GI hr (by rfl) A0.idle.g A0.idle.F.kp A0.idle.b .nil pass0 (pa_cons (pv 1) (pa_cons (pv 2) (pa_cons (pv 3) pa_nil)))) rfl)
      (pss_cons (ps_fld (pv 0) (pe_lst (pa_cons pe_int pa_nil)) rfl)
      (pss_one (ps_for PassesOwn.never rfl (pi_list (pe_call GW hr2 (by rfl) A0.ways.g A0.ways.F.kp A0.ways.b .nil pass0 (pa_cons (pv 1) (pa_cons (pv 4) pa_nil)))) (pg_name (i := 5) sc_binit.nd rfl (.inl rfl))
        (pss_one (ps_expr (pe_bm PySem.F.plainAttrs_list PySem.F.slot_list_append PySem.F.type_list_append mt_append (pe_fld (pv 0) rfl) (pa_cons (pe_op op_add (pe_ix ix_list (pe_fld (pv 0) rfl) (pe_un un_neg pe_int) (fun _ _ => rfl)) (pv 5)) pa_nil)))))))))))), ?_⟩
    -- terms
    refine ⟨_, rfl, g, _, 0, _, rfl, rfl, hg, rfl, t, rfl, ⟨_, ht⟩, fun M hM => lc_tup (K := K) (a := t) (xs := ts) (fun i H' => Same H H' ∧ ∃ xs, H' M = some (.lst xs) ∧ Paired (TermV K H) xs (tailT (T.take i) first))
      ⟨same_upd hM, [], upd_same, .nil⟩ (fun i H' _ ⟨s1, _⟩ => tup_same s1 ht) ?_ ?_⟩
    · rintro i v H' hi' ⟨s1, xs, hm, hxs⟩
      obtain ⟨⟨p, b⟩, hS, a, rfl, ha⟩ := paired_get htp hi'
      have emore : tailT (T.take (i + 1)) first = tailT (T.take i) first ++ (if first ≤ p then [(p, b)] else []) := by
        unfold tailT
        rw [take_more hS, List.filter_append]
        by_cases c : first ≤ p
        · rw [if_pos c, List.filter_cons_of_pos (by exact decide_eq_true c)]
          rfl
        · rw [if_neg c, List.filter_cons_of_neg (by show ¬ decide (first ≤ p) = true; rw [decide_eq_false c]; decide)]
          rfl
      refine ⟨rfl, _, rfl, a, _, 0, _, rfl, rfl, tup_same s1 ha, rfl, _, rfl, (p : Int), (first : Int), rfl, rfl, _, rfl, ?_⟩
      by_cases c : (first : Int) ≤ (p : Int)
      · rw [decide_eq_true c]
        rw [if_pos (by omega)] at emore
        refine iteT ⟨_, rfl, _, hm, ?_, Same.upd_new s1 hM, _, upd_same, ?_⟩
        · have h3 := paired_len hxs
          have h4 : (tailT (T.take i) first).length ≤ (T.take i).length := List.length_filter_le _ _
          rw [List.length_take] at h4
          exact room1000 (by omega)
        · rw [emore]
          exact Paired.snoc hxs ⟨a, rfl, ha⟩
      · rw [decide_eq_false c]
        rw [if_neg (by omega), List.append_nil] at emore
        refine iteF ⟨s1, xs, hm, ?_⟩
        rw [emore]
        exact hxs
    · rintro H1 ⟨s1, xs, hm, hxs⟩
      rw [List.take_of_length_le (Nat.le_of_eq (paired_len htp).symm)] at hxs
      have nMx : M ≠ x := fun e => by
        rw [e, hx] at hM
        cases hM
      -- self.low, self.high, self.least
      refine ⟨_, rfl, g, _, 1, _, rfl, rfl, tup_same s1 hg, rfl, _, rfl, x, A0.C, dx, _, rfl, s1 _ _ hx, A0.cl, A0.nLow, (by show 0 < 1000; decide), ?_⟩
      rw [bF1]
      have i1 : Imm H1 (upd H1 x (.ins A0.C dx (fA lo))) := imm_mut (s1 _ _ hx) trivial
      refine ⟨_, rfl, g, _, 2, _, rfl, rfl, tup_imm i1 (tup_same s1 hg), rfl, _, rfl, x, A0.C, dx, _, rfl, upd_same, A0.cl, A0.nHigh, (by show 1 < 1000; decide), ?_⟩
      rw [bF2, upd_upd]
      refine ⟨_, rfl, x, A0.C, dx, _, rfl, upd_same, A0.cl, A0.nLeast, (by show 2 < 1000; decide), ?_⟩
      rw [bF3, upd_upd]
      generalize eH2 : upd H1 x (.ins A0.C dx (fC lo hi 0)) = H2
      have hx2 : H2 x = some (.ins A0.C dx (fC lo hi 0)) := by rw [← eH2, upd_same]
      have hm2 : H2 M = some (.lst xs) := by rw [← eH2, upd_ne nMx]; exact hm
      have sx2 : SameX x H H2 := by
        rw [← eH2]
        exact (same_x s1).trans samex_upd
      have mx : Mut (H x) := by rw [hx]; trivial
      have im2 : Imm H H2 := sx2.imm mx
      have hxs2 : Paired (TermV K H2) xs (tailT T first) := Paired.mapP hxs fun _ _ ⟨a, e, z⟩ => ⟨a, e, tup_imm im2 z⟩
      -- the if
      refine ⟨fun σ' H' => σ' = [some (.ref x), some (.ref d), some (.ref g), some (.int (first : Nat)), some (.ref M), none, none] ∧ SameX x H H' ∧ H' M = some (.lst xs) ∧ H' x = some (.ins A0.C dx (fC lo hi (leastT D (tailT T first)))), ?_, ?_⟩
      · refine ⟨_, rfl, Nat.zero_le _, fun p np => ?_⟩
        have hm3 : (upd H2 p (.lst [])) M = some (.lst xs) := by rw [upd_ne (ne_of_none hm2 np)]; exact hm2
        have s3 : Same H2 (upd H2 p (.lst [])) := same_upd np
        refine ⟨_, _, .lst (SqL.of hm3) (dp_terms (Paired.mapP hxs2 fun _ _ ⟨a, e, z⟩ => ⟨a, e, tup_same s3 z⟩)), .lst (SqL.of upd_same) .nil, shaped_terms _, by rfl, _, rfl, ?_⟩
        have sx3 : SameX x H (upd H2 p (.lst [])) := sx2.trans (same_x s3)
        have hx3 : (upd H2 p (.lst [])) x = some (.ins A0.C dx (fC lo hi 0)) := by rw [upd_ne (ne_of_none hx2 np)]; exact hx2
        cases eT : tailT T first with
        | nil =>
          show if (!PyData.eqv (.list []) (.list [])) = true then _ else _
          have e : (!PyData.eqv (.list []) (.list [])) = false := by rfl
          rw [e]
          refine iteF ⟨rfl, sx3, hm3, ?_⟩
          rw [hx3]
          rfl
        | cons t1 tr =>
          have e : (!PyData.eqv (.list (List.map (fun t : Nat × Int => PyData.tuple [.int (t.1 : Nat), .int t.2]) (t1 :: tr))) (.list [])) = true := by
            rw [List.map_cons, PyData.eqv, PyData.eqvAll]
            rfl
          rw [e, ← eT]
          refine iteT ?_
          refine ⟨_, rfl, _, rfl, M, _, rfl, .inl ⟨SqL.of hm3, fun l nl => ?_⟩⟩
          have s4 : Same (upd H2 p (.lst [])) (upd (upd H2 p (.lst [])) l (.tup xs)) := same_upd nl
          refine ⟨by show 3 ≤ sizeLine; decide, fun p2 np2 => ?_⟩
          have s5 : Same (upd (upd H2 p (.lst [])) l (.tup xs)) (upd (upd (upd H2 p (.lst [])) l (.tup xs)) p2 (.tup [.ref l, .int 0, .int 0])) := same_upd np2
          have sx5 := (sx3.trans (same_x s4)).trans (same_x s5)
          have im5 := sx5.imm mx
          refine ⟨d, p2, D, tailT T first, 0, 0, rfl, h1.imm im5, ⟨l, xs, SqT.of upd_same, SqT.of (s5 _ _ upd_same), Paired.mapP hxs fun _ _ ⟨a, e, z⟩ => ⟨a, e, tup_imm im5 z⟩⟩, okT.t, ok.d.le, fun H6 p6 s6 e6 => ?_⟩
          have sx6 := sx5.trans (same_x s6)
          have hx6 := s6 _ _ (s5 _ _ (s4 _ _ hx3))
          have hm6 := s6 _ _ (s5 _ _ (s4 _ _ hm3))
          refine ⟨p6, _, 0, _, rfl, rfl, e6, rfl, _, rfl, x, A0.C, dx, _, rfl, hx6, A0.cl, A0.nLeast, (by show 3 < 1000; decide), rfl, sx6.trans samex_upd, ?_, ?_⟩
          · rw [upd_ne nMx]
            exact hm6
          · rw [bF3', upd_same]
      · rintro σ' H3 ⟨rfl, sx3, hm3, hx3⟩
        -- self.apart
        have im3 := sx3.imm mx
        refine ⟨_, rfl, _, rfl, _, rfl, d, g, D, T, lo, hi, first, rfl, h1.imm im3, h2.imm im3, ok.d, by omega, fun H4 s4 => ?_⟩
        refine ⟨_, rfl, x, A0.C, dx, _, rfl, s4 _ _ hx3, A0.cl, A0.nApart, (by show 3 < 1000; decide), ?_⟩
        rw [bF4]
        generalize eH5 : upd H4 x (.ins A0.C dx (fD lo hi (leastT D (tailT T first)) (idleZ D T first))) = H5
        have hx5 : H5 x = some (.ins A0.C dx (fD lo hi (leastT D (tailT T first)) (idleZ D T first))) := by rw [← eH5, upd_same]
        have hm5 : H5 M = some (.lst xs) := by rw [← eH5, upd_ne nMx]; exact s4 _ _ hm3
        have sx5 : SameX x H H5 := by
          rw [← eH5]
          exact (sx3.trans (same_x s4)).trans samex_upd
        -- self.sums
        refine ⟨by show 1 ≤ sizeLine; decide, fun S nS => ?_⟩
        have nSx : x ≠ S := ne_of_none hx5 nS
        have nSM : M ≠ S := ne_of_none hm5 nS
        refine ⟨_, rfl, x, A0.C, dx, _, rfl, by rw [upd_ne nSx]; exact hx5, A0.cl, A0.nSums, (by show 4 < 1000; decide), ?_⟩
        rw [bF5]
        generalize eH6 : upd (upd H5 S (.lst [.int 0])) x (.ins A0.C dx (bF lo hi (leastT D (tailT T first)) (idleZ D T first) S)) = H6
        have hx6 : H6 x = some (.ins A0.C dx (bF lo hi (leastT D (tailT T first)) (idleZ D T first) S)) := by rw [← eH6, upd_same]
        have hS6 : H6 S = some (.lst [.int 0]) := by rw [← eH6, upd_ne (Ne.symm nSx), upd_same]
        have hm6 : H6 M = some (.lst xs) := by rw [← eH6, upd_ne nMx, upd_ne nSM]; exact hm5
        have sx6 : SameX x H H6 := by
          rw [← eH6]
          exact (sx5.trans (same_x (same_upd nS))).trans samex_upd
        have im6 := sx6.imm mx
        -- the loop
        refine ⟨_, rfl, _, rfl, d, M, D, xs, tailT T first, rfl, h1.imm im6, .inl (SqL.of hm6), Paired.mapP hxs fun _ _ ⟨a, e, z⟩ => ⟨a, e, tup_imm im6 z⟩, okT.t, ok.lohi, by have := okT.len; omega, fun H7 p7 s7 n7 h7 => ?_⟩
        have nSp : S ≠ p7 := ne_of_none hS6 n7
        have nxp : x ≠ p7 := ne_of_none hx6 n7
        have hSn : H S = none := by
          cases z : H S with
          | none => rfl
          | some o =>
            have := sx5 S o (Ne.symm nSx) z
            rw [nS] at this
            cases this
        refine ⟨p7, rfl, ⟨_, SqL.of h7⟩, for_list (K := K) (a := p7) (xs := (wayL D (tailT T first)).map V.int) (fun i σ H' => SameX x H H' ∧ H' p7 = some (.lst ((wayL D (tailT T first)).map V.int)) ∧ H' x = some (.ins A0.C dx (bF lo hi (leastT D (tailT T first)) (idleZ D T first) S)) ∧
            H' S = some (.lst ((psL (wayL D (tailT T first)) i).map V.int)) ∧ ∃ v5, σ = [some (.ref x), some (.ref d), some (.ref g), some (.int (first : Nat)), some (.ref M), v5, none])
          ⟨sx6.trans (same_x s7), h7, s7 _ _ hx6, by rw [s7 _ _ hS6]; rfl, none, rfl⟩ (fun i σ H' _ ⟨_, z, _⟩ => SqL.of z) ?_ ?_⟩
        · rintro i v σ H8 hi' ⟨sx8, h8, hx8, hS8, v5, rfl⟩
          have hil : i < (wayL D (tailT T first)).length := by
            have := lt_of_get hi'
            rw [List.length_map] at this
            exact this
          have ev : v = .int (wI (wayL D (tailT T first)) (i : Int)) := by
            rw [List.getElem?_map, wI_get hil] at hi'
            exact (Option.some.inj hi').symm
          subst ev
          have elast : atI ((psL (wayL D (tailT T first)) i).map V.int) (-1) = some (.int (sumN i (fun j => wI (wayL D (tailT T first)) (j : Int)))) := by
            have e : (psL (wayL D (tailT T first)) i).map V.int = ((List.range i).map fun i => V.int (sumN i (fun j => wI (wayL D (tailT T first)) (j : Int)))) ++ [V.int (sumN i (fun j => wI (wayL D (tailT T first)) (j : Int)))] := by
              unfold psL
              rw [List.range_succ, List.map_append, List.map_append, List.map_map]
              rfl
            rw [e]
            exact atI_last _ _
          refine ⟨_, rfl, x, A0.C, dx, _, .ref S, rfl, hx8, A0.cl, A0.nSums, bSums, .inl ⟨rfl, _, SqL.of hS8⟩, _, rfl, x, A0.C, dx, _, .ref S, rfl, hx8, A0.cl, A0.nSums, bSums, 1, rfl, S, _, _, _, rfl, rfl, SqL.of hS8, elast, _, rfl, _, _, rfl, rfl, ?_⟩
          refine ⟨S, _, _, rfl, rfl, hS8, ?_, ?_, ?_, ?_, ?_, _, rfl⟩
          · rw [List.length_map, psL_len]
            have := okT.len
            exact room1000 (by omega)
          · exact fun b o nb e => by
              rw [upd_ne (ne_of_none e hSn)]
              exact sx8 b o nb e
          · rw [upd_ne (Ne.symm nSp)]
            exact h8
          · rw [upd_ne nSx]
            exact hx8
          · rw [upd_same, psL_more, List.map_append]
            rfl
        · rintro σ H8 ⟨sx8, h8, hx8, hS8, v5, rfl⟩
          rw [List.length_map] at hS8
          exact q _ sx8 ⟨dx, S, hx8, hS8⟩
end
end Gw

namespace Gw
open PySem PySem.Spec PyProof.Rows L2 GwR
/-! ### the count, the rank -/
def ind (glo ghi a : Int) : Int := if glo ≤ a ∧ a ≤ ghi then 1 else 0
def Nn (c : Nat → Int) (glo ghi : Int) : Dr → Nat → Int → Int
  | [], _, a => ind glo ghi a
  | q :: D, k, a => sumN (q.2.2 - q.2.1 + 1).toNat (fun j => Nn c glo ghi D (k + 1) (a + c k * (q.2.1 + (j : Int))))
def Rk (c : Nat → Int) (glo ghi : Int) : Dr → Nat → Int → List Int → Int
  | q :: D, k, a, v :: x => sumN (v - q.2.1).toNat (fun j => Nn c glo ghi D (k + 1) (a + c k * (q.2.1 + (j : Int)))) + Rk c glo ghi D (k + 1) (a + c k * v) x
  | _, _, _, _ => 0
def Wt (c : Nat → Int) : Nat → List Int → Int
  | _, [] => 0
  | k, v :: x => c k * v + Wt c (k + 1) x
theorem Wt_add (c e : Nat → Int) : ∀ (k : Nat) (x : List Int), Wt (fun p => c p + e p) k x = Wt c k x + Wt e k x
  | _, [] => rfl
  | k, v :: x => by
    show (c k + e k) * v + Wt (fun p => c p + e p) (k + 1) x = (c k * v + Wt c (k + 1) x) + (e k * v + Wt e (k + 1) x)
    rw [Wt_add c e (k + 1) x, Int.add_mul]
    omega
theorem Wt_zero : ∀ (c : Nat → Int) (k : Nat) (x : List Int), (∀ p, k ≤ p → c p = 0) → Wt c k x = 0
  | _, _, [], _ => rfl
  | c, k, v :: x, h => by
    show c k * v + Wt c (k + 1) x = 0
    rw [Wt_zero c (k + 1) x fun p hp => h p (by omega), h k (Nat.le_refl _)]
    omega
theorem Wt_single (b : Int) (p : Nat) : ∀ (k : Nat) (x : List Int), Wt (fun i => if p = i then b else 0) k x = if k ≤ p then b * x.getD (p - k) 0 else 0
  | k, [] => by
    show (0 : Int) = _
    split
    · rw [List.getD_eq_getElem?_getD]
      simp
    · rfl
  | k, v :: x => by
    show (if p = k then b else 0) * v + Wt (fun i => if p = i then b else 0) (k + 1) x = _
    rw [Wt_single b p (k + 1) x]
    by_cases h : p = k
    · subst h
      rw [if_pos rfl, if_neg (by omega), if_pos (Nat.le_refl _), Nat.sub_self]
      show b * v + 0 = b * v
      omega
    · rw [if_neg h, Int.zero_mul]
      by_cases h2 : k ≤ p
      · rw [if_pos (by omega), if_pos h2, show p - k = (p - (k + 1)) + 1 by omega]
        show 0 + b * x.getD (p - (k + 1)) 0 = b * x.getD (p - (k + 1)) 0
        omega
      · rw [if_neg (by omega), if_neg h2]
        rfl
theorem coef_cons {t : Nat × Int} {T : Tm} {p : Nat} : coef (t :: T) p = (if t.1 = p then t.2 else 0) + coef T p := by
  unfold coef
  by_cases h : t.1 = p
  · rw [List.filter_cons_of_pos (by exact decide_eq_true h), if_pos h, List.map_cons, List.sum_cons]
  · rw [List.filter_cons_of_neg (by show ¬ decide (t.1 = p) = true; rw [decide_eq_false h]; decide), if_neg h]
    omega
theorem worth_Wt (x : List Int) : ∀ T : Tm, worth T x = Wt (coef T) 0 x
  | [] => by
    exact (Wt_zero (coef []) 0 x fun p _ => rfl).symm
  | t :: T => by
    have ih := worth_Wt x T
    have e : (coef (t :: T)) = fun p => (if t.1 = p then t.2 else 0) + coef T p := funext fun p => coef_cons
    rw [e, Wt_add, Wt_single, if_pos (Nat.zero_le _), ← ih]
    unfold worth
    rw [List.map_cons, List.sum_cons]
    rfl
theorem Wt_snoc (c : Nat → Int) : ∀ (x : List Int) (k : Nat) (v : Int), Wt c k (x ++ [v]) = Wt c k x + c (k + x.length) * v
  | [], k, v => by
    show c k * v + 0 = 0 + c (k + 0) * v
    rw [Nat.add_zero]
    omega
  | u :: x, k, v => by
    show c k * u + Wt c (k + 1) (x ++ [v]) = c k * u + Wt c (k + 1) x + c (k + (x.length + 1)) * v
    rw [Wt_snoc c x (k + 1) v, show k + 1 + x.length = k + (x.length + 1) by omega]
    omega
section
variable {c : Nat → Int} {glo ghi : Int}
theorem ind_nn (a : Int) : 0 ≤ ind glo ghi a := by
  unfold ind
  split <;> decide
theorem Nn_nn : ∀ (D : Dr) (k : Nat) (a : Int), 0 ≤ Nn c glo ghi D k a
  | [], _, a => ind_nn a
  | q :: D, k, a => sumN_nonneg fun j _ => Nn_nn D (k + 1) _
theorem sumN_mono {f : Nat → Int} (h : ∀ j, 0 ≤ f j) {n m : Nat} (hnm : n ≤ m) : sumN n f ≤ sumN m f := by
  obtain ⟨d, rfl⟩ : ∃ d, m = n + d := ⟨m - n, by omega⟩
  rw [sumN_split]
  have := sumN_nonneg (n := d) (f := fun j => f (n + j)) fun j _ => h _
  omega
theorem Rk_bd : ∀ {D : Dr} {k : Nat} {a : Int} {x : List Int}, Valid D x → glo ≤ a + Wt c k x ∧ a + Wt c k x ≤ ghi → 0 ≤ Rk c glo ghi D k a x ∧ Rk c glo ghi D k a x < Nn c glo ghi D k a
  | [], k, a, [], _, h => by
    show 0 ≤ (0 : Int) ∧ (0 : Int) < ind glo ghi a
    have h' : glo ≤ a ∧ a ≤ ghi := by
      have e : a + Wt c k [] = a := Int.add_zero a
      rw [e] at h
      exact h
    unfold ind
    rw [if_pos h']
    decide
  | q :: D, k, a, v :: x, .cons hv hx, h => by
    have e : a + c k * v + Wt c (k + 1) x = a + Wt c k (v :: x) := by
      show _ = a + (c k * v + Wt c (k + 1) x)
      omega
    obtain ⟨i1, i2⟩ := Rk_bd (D := D) (k := k + 1) (a := a + c k * v) (x := x) hx (by rw [e]; exact h)
    have hf : ∀ j : Nat, 0 ≤ Nn c glo ghi D (k + 1) (a + c k * (q.2.1 + (j : Int))) := fun j => Nn_nn D (k + 1) _
    have s0 := sumN_nonneg (n := (v - q.2.1).toNat) (f := fun j : Nat => Nn c glo ghi D (k + 1) (a + c k * (q.2.1 + (j : Int)))) fun j _ => hf j
    have s1 : sumN ((v - q.2.1).toNat + 1) (fun j : Nat => Nn c glo ghi D (k + 1) (a + c k * (q.2.1 + (j : Int)))) ≤ sumN (q.2.2 - q.2.1 + 1).toNat (fun j : Nat => Nn c glo ghi D (k + 1) (a + c k * (q.2.1 + (j : Int)))) := sumN_mono hf (by omega)
    have s2 : sumN ((v - q.2.1).toNat + 1) (fun j : Nat => Nn c glo ghi D (k + 1) (a + c k * (q.2.1 + (j : Int)))) = sumN (v - q.2.1).toNat (fun j : Nat => Nn c glo ghi D (k + 1) (a + c k * (q.2.1 + (j : Int)))) + Nn c glo ghi D (k + 1) (a + c k * v) := by
      show sumN _ _ + Nn c glo ghi D (k + 1) (a + c k * (q.2.1 + (((v - q.2.1).toNat : Nat) : Int))) = _
      rw [show q.2.1 + (((v - q.2.1).toNat : Nat) : Int) = v by omega]
    show 0 ≤ sumN (v - q.2.1).toNat _ + Rk c glo ghi D (k + 1) (a + c k * v) x ∧ sumN (v - q.2.1).toNat _ + Rk c glo ghi D (k + 1) (a + c k * v) x < sumN (q.2.2 - q.2.1 + 1).toNat _
    omega
theorem Rk_lt : ∀ {D : Dr} {k : Nat} {a : Int} {x y : List Int}, Valid D x → Valid D y → (glo ≤ a + Wt c k x ∧ a + Wt c k x ≤ ghi) → (glo ≤ a + Wt c k y ∧ a + Wt c k y ≤ ghi) → HT.lexLt x y = true → Rk c glo ghi D k a x < Rk c glo ghi D k a y
  | [], k, a, [], [], _, _, _, _, h => by simp [HT.lexLt] at h
  | q :: D, k, a, v :: x, u :: y, .cons hv hx, .cons hu hy, h1, h2, h => by
    have e1 : a + c k * v + Wt c (k + 1) x = a + Wt c k (v :: x) := by
      show _ = a + (c k * v + Wt c (k + 1) x)
      omega
    have e2 : a + c k * u + Wt c (k + 1) y = a + Wt c k (u :: y) := by
      show _ = a + (c k * u + Wt c (k + 1) y)
      omega
    rw [HT.lexLt_cons] at h
    have hf : ∀ j : Nat, 0 ≤ Nn c glo ghi D (k + 1) (a + c k * (q.2.1 + (j : Int))) := fun j => Nn_nn D (k + 1) _
    show sumN (v - q.2.1).toNat _ + Rk c glo ghi D (k + 1) (a + c k * v) x < sumN (u - q.2.1).toNat _ + Rk c glo ghi D (k + 1) (a + c k * u) y
    by_cases e : v = u
    · rw [if_pos e] at h
      subst e
      have := Rk_lt (D := D) (k := k + 1) (a := a + c k * v) hx hy (by rw [e1]; exact h1) (by rw [e2]; exact h2) h
      omega
    · rw [if_neg e] at h
      have hlt := of_decide_eq_true h
      obtain ⟨i1, i2⟩ := Rk_bd (c := c) (D := D) (k := k + 1) (a := a + c k * v) (x := x) hx (by rw [e1]; exact h1)
      obtain ⟨j1, j2⟩ := Rk_bd (c := c) (D := D) (k := k + 1) (a := a + c k * u) (x := y) hy (by rw [e2]; exact h2)
      have s1 : sumN ((v - q.2.1).toNat + 1) (fun j : Nat => Nn c glo ghi D (k + 1) (a + c k * (q.2.1 + (j : Int)))) ≤ sumN (u - q.2.1).toNat (fun j : Nat => Nn c glo ghi D (k + 1) (a + c k * (q.2.1 + (j : Int)))) := sumN_mono hf (by omega)
      have s2 : sumN ((v - q.2.1).toNat + 1) (fun j : Nat => Nn c glo ghi D (k + 1) (a + c k * (q.2.1 + (j : Int)))) = sumN (v - q.2.1).toNat (fun j : Nat => Nn c glo ghi D (k + 1) (a + c k * (q.2.1 + (j : Int)))) + Nn c glo ghi D (k + 1) (a + c k * v) := by
        show sumN _ _ + Nn c glo ghi D (k + 1) (a + c k * (q.2.1 + (((v - q.2.1).toNat : Nat) : Int))) = _
        rw [show q.2.1 + (((v - q.2.1).toNat : Nat) : Int) = v by omega]
      omega
end
/-! ### the ways, weighed -/
def Sg (ws : List Int) (g : Int → Int) : Int := sumN ws.length (fun r => wI ws (r : Int) * g (r : Int))
def Eg (D : Dr) : Tm → (Int → Int) → Int → Int
  | [], g, r => g r
  | t :: T, g, r => sumN (roomT D t + 1) (fun j => Eg D T g (r + (t.2.natAbs : Int) * (j : Int)))
theorem Eg_congr (D : Dr) : ∀ (T : Tm) (g h : Int → Int), (∀ r, g r = h r) → ∀ r, Eg D T g r = Eg D T h r
  | [], g, h, e, r => e r
  | t :: T, g, h, e, r => sumN_congr fun j _ => Eg_congr D T g h e _
theorem Eg_shift (D : Dr) : ∀ (T : Tm) (g : Int → Int) (s r : Int), Eg D T (fun z => g (z + s)) r = Eg D T g (r + s)
  | [], g, s, r => rfl
  | t :: T, g, s, r => sumN_congr fun j _ => by
    rw [Eg_shift D T g s, show r + (t.2.natAbs : Int) * (j : Int) + s = r + s + (t.2.natAbs : Int) * (j : Int) by omega]
theorem shift_sum (ws : List Int) (g : Int → Int) (s N : Nat) (h : ws.length + s ≤ N) : sumN N (fun r => wI ws ((r : Int) - (s : Int)) * g (r : Int)) = sumN ws.length (fun r => wI ws (r : Int) * g ((r : Int) + (s : Int))) := by
  obtain ⟨d, rfl⟩ : ∃ d, N = s + (ws.length + d) := ⟨N - s - ws.length, by omega⟩
  rw [sumN_split, sumN_split]
  have z1 : sumN s (fun r => wI ws ((r : Int) - (s : Int)) * g (r : Int)) = 0 := sumN_zero fun r hr => by rw [wI_neg (by omega), Int.zero_mul]
  have z2 : sumN d (fun j => wI ws (((s + (ws.length + j) : Nat) : Int) - (s : Int)) * g ((s + (ws.length + j) : Nat) : Int)) = 0 := sumN_zero fun r hr => by rw [wI_ge (by omega), Int.zero_mul]
  rw [z1, z2]
  have e : sumN ws.length (fun j => wI ws (((s + j : Nat) : Int) - (s : Int)) * g ((s + j : Nat) : Int)) = sumN ws.length (fun r => wI ws (r : Int) * g ((r : Int) + (s : Int))) := sumN_congr fun j _ => by
    rw [show (((s + j : Nat) : Int) - (s : Int)) = (j : Int) by omega, show ((s + j : Nat) : Int) = (j : Int) + (s : Int) by omega]
  rw [e]
  omega
theorem sumN_mul_r {n : Nat} {f : Nat → Int} {c : Int} : sumN n f * c = sumN n (fun j => f j * c) := by
  rw [Int.mul_comm, ← sumN_mul]
  exact sumN_congr fun j _ => Int.mul_comm _ _
theorem Sg_ris (ws : List Int) (b m : Nat) (g : Int → Int) : Sg (risL ws b m) g = sumN (m + 1) (fun j => Sg ws (fun r => g (r + (b : Int) * (j : Int)))) := by
  unfold Sg
  rw [risL_len]
  have e1 : sumN (ws.length + b * m) (fun r => wI (risL ws b m) (r : Int) * g (r : Int)) = sumN (ws.length + b * m) (fun r => sumN (m + 1) (fun j => wI ws ((r : Int) - (b : Int) * (j : Int)) * g (r : Int))) := sumN_congr fun r _ => by
    rw [wI_risL]
    unfold cv
    rw [sumN_mul_r]
  rw [e1, sumN_swap]
  refine sumN_congr fun j hj => ?_
  have hb : b * j ≤ b * m := Nat.mul_le_mul_left _ (by omega)
  have e2 : (b : Int) * (j : Int) = ((b * j : Nat) : Int) := by rw [Int.natCast_mul]
  rw [e2]
  exact shift_sum ws g (b * j) (ws.length + b * m) (by omega)
theorem Sg_sum (ws : List Int) (n : Nat) (G : Nat → Int → Int) : sumN n (fun j => Sg ws (G j)) = Sg ws (fun r => sumN n (fun j => G j r)) := by
  unfold Sg
  rw [← sumN_swap]
  exact sumN_congr fun r _ => sumN_mul
theorem Sg_fold (D : Dr) : ∀ (T : Tm) (ws : List Int) (g : Int → Int), Sg (T.foldl (wayF D) ws) g = Sg ws (Eg D T g)
  | [], ws, g => rfl
  | t :: T, ws, g => by
    rw [List.foldl_cons, Sg_fold D T]
    unfold wayF
    rw [Sg_ris, Sg_sum]
    rfl
theorem Sg_way (D : Dr) (T : Tm) (g : Int → Int) : Sg (wayL D T) g = Eg D T g 0 := by
  unfold wayL
  rw [Sg_fold]
  show 0 + wI [1] ((0 : Nat) : Int) * Eg D T g ((0 : Nat) : Int) = Eg D T g 0
  have e1 : wI [1] ((0 : Nat) : Int) = 1 := by
    rw [wI_one]
    rfl
  rw [e1]
  show 0 + 1 * Eg D T g 0 = Eg D T g 0
  omega
/-! ### idle parts as a product -/
def prodC (c : Nat → Bool) : Nat → Dr → Int
  | _, [] => 1
  | k, q :: D => (if c k = true then q.2.2 - q.2.1 + 1 else 1) * prodC c (k + 1) D
theorem sizes_fold : ∀ (D : Dr) (z : Int), D.foldl (fun z q => z * (q.2.2 - q.2.1 + 1)) z = z * sizes D
  | [], z => by
    show z = z * 1
    omega
  | q :: D, z => by
    unfold sizes
    rw [List.foldl_cons, List.foldl_cons, sizes_fold D, sizes_fold D, Int.one_mul, Int.mul_assoc]
theorem sizes_cons (q : V × Int × Int) (D : Dr) : sizes (q :: D) = (q.2.2 - q.2.1 + 1) * sizes D := by
  show List.foldl _ (1 * (q.2.2 - q.2.1 + 1)) D = _
  rw [sizes_fold, Int.one_mul]
theorem sizes_sel (c : Nat → Bool) : ∀ (D : Dr) (k : Nat), sizes (sel c k D) = prodC c k D
  | [], _ => rfl
  | q :: D, k => by
    have ih := sizes_sel c D (k + 1)
    show sizes (if c k = true then q :: sel c (k + 1) D else sel c (k + 1) D) = (if c k = true then q.2.2 - q.2.1 + 1 else 1) * prodC c (k + 1) D
    by_cases h : c k = true
    · rw [if_pos h, if_pos h, sizes_cons, ih]
    · rw [if_neg h, if_neg h, ih, Int.one_mul]
theorem prodC_congr {c e : Nat → Bool} : ∀ (D : Dr) (k : Nat), (∀ p, k ≤ p → c p = e p) → prodC c k D = prodC e k D
  | [], _, _ => rfl
  | q :: D, k, h => by
    show (if c k = true then _ else _) * prodC c (k + 1) D = (if e k = true then _ else _) * prodC e (k + 1) D
    rw [h k (Nat.le_refl _), prodC_congr D (k + 1) fun p hp => h p (by omega)]
theorem prodC_drop {c : Nat → Bool} : ∀ (n : Nat) (D : Dr) (k : Nat), (∀ p, k ≤ p → p < k + n → c p = false) → prodC c k D = prodC c (k + n) (D.drop n)
  | 0, D, k, _ => rfl
  | n + 1, [], k, _ => rfl
  | n + 1, q :: D, k, h => by
    show (if c k = true then _ else _) * prodC c (k + 1) D = prodC c (k + (n + 1)) (D.drop n)
    rw [h k (Nat.le_refl _) (by omega), if_neg Bool.false_ne_true, Int.one_mul, prodC_drop n D (k + 1) fun p h1 h2 => h p (by omega) (by omega), show k + 1 + n = k + (n + 1) by omega]
theorem idle_drop (D : Dr) (T : Tm) (k : Nat) : idleZ D T k = prodC (idleC T k) k (D.drop k) := by
  unfold idleZ
  rw [sizes_sel, prodC_drop k D 0 fun p _ h2 => ?_, Nat.zero_add]
  unfold idleC
  rw [decide_eq_false (by omega), Bool.false_and]
theorem idle_step {D : Dr} {T : Tm} {k : Nat} {q : V × Int × Int} (h : D[k]? = some q) : idleZ D T k = (if (T.any fun t => decide (t.1 = k)) = true then 1 else q.2.2 - q.2.1 + 1) * idleZ D T (k + 1) := by
  have hk := lt_of_get h
  have hq : D[k] = q := by
    rw [List.getElem?_eq_getElem hk] at h
    exact Option.some.inj h
  rw [idle_drop D T k, idle_drop D T (k + 1), List.drop_eq_getElem_cons hk, hq]
  show (if idleC T k k = true then _ else _) * prodC (idleC T k) (k + 1) (D.drop (k + 1)) = _
  have e1 : idleC T k k = !(T.any fun t => decide (t.1 = k)) := by
    unfold idleC
    rw [decide_eq_true (Nat.le_refl k), Bool.true_and]
  have e2 : prodC (idleC T k) (k + 1) (D.drop (k + 1)) = prodC (idleC T (k + 1)) (k + 1) (D.drop (k + 1)) := prodC_congr _ _ fun p hp => by
    unfold idleC
    rw [decide_eq_true (by omega : k ≤ p), decide_eq_true hp]
  rw [e1, e2]
  cases (T.any fun t => decide (t.1 = k)) <;> rfl
/-! ### terms from a place on -/
theorem tail_none {T : Tm} {k : Nat} (h : ∀ t ∈ T, t.1 < k) : tailT T k = [] := by
  unfold tailT
  exact List.filter_eq_nil_iff.mpr fun t ht => by
    have := h t ht
    rw [decide_eq_false (by omega)]
    decide
theorem tail_skip {T : Tm} {k : Nat} (h : ∀ t ∈ T, t.1 ≠ k) : tailT T k = tailT T (k + 1) := by
  unfold tailT
  refine List.filter_congr fun t ht => ?_
  have := h t ht
  by_cases c : k ≤ t.1
  · rw [decide_eq_true c, decide_eq_true (by omega)]
  · rw [decide_eq_false c, decide_eq_false (by omega)]
theorem tail_at : ∀ {T : Tm} {k : Nat} {b : Int}, T.Pairwise (fun a b => a.1 < b.1) → (k, b) ∈ T → tailT T k = (k, b) :: tailT T (k + 1)
  | t :: T, k, b, hp, hm => by
    have hp' := List.pairwise_cons.mp hp
    unfold tailT
    rcases List.mem_cons.mp hm with e | hm
    · subst e
      rw [List.filter_cons_of_pos (by exact decide_eq_true (Nat.le_refl k)), List.filter_cons_of_neg (by show ¬ decide (k + 1 ≤ k) = true; rw [decide_eq_false (by omega)]; decide)]
      refine congrArg ((k, b) :: ·) (List.filter_congr fun u hu => ?_)
      have : k < u.1 := hp'.1 u hu
      rw [decide_eq_true (by omega), decide_eq_true (by omega)]
    · have h1 := hp'.1 (k, b) hm
      have h2 : t.1 < k := h1
      rw [List.filter_cons_of_neg (by show ¬ decide (k ≤ t.1) = true; rw [decide_eq_false (by omega)]; decide), List.filter_cons_of_neg (by show ¬ decide (k + 1 ≤ t.1) = true; rw [decide_eq_false (by omega)]; decide)]
      exact tail_at hp'.2 hm
theorem coef_none {T : Tm} {k : Nat} (h : ∀ t ∈ T, t.1 ≠ k) : coef T k = 0 := by
  unfold coef
  rw [List.filter_eq_nil_iff.mpr fun t ht => by rw [decide_eq_false (h t ht)]; decide]
  rfl
theorem coef_at : ∀ {T : Tm} {k : Nat} {b : Int}, T.Pairwise (fun a b => a.1 < b.1) → (k, b) ∈ T → coef T k = b
  | t :: T, k, b, hp, hm => by
    have hp' := List.pairwise_cons.mp hp
    rw [coef_cons]
    rcases List.mem_cons.mp hm with e | hm
    · subst e
      rw [if_pos rfl, coef_none fun u hu => Nat.ne_of_gt (hp'.1 u hu)]
      omega
    · have h1 := hp'.1 (k, b) hm
      rw [if_neg (Nat.ne_of_lt h1), coef_at hp'.2 hm]
      omega
/-! ### the count is what the ways tell -/
theorem count_ways {D : Dr} {T : Tm} (g : GOk D T) (glo ghi : Int) : ∀ (n k : Nat) (a : Int), n + k = D.length →
    Nn (coef T) glo ghi (D.drop k) k a = idleZ D T k * Eg D (tailT T k) (fun r => ind glo ghi (a + leastT D (tailT T k) + r)) 0 := by
  intro n
  induction n with
  | zero =>
    intro k a hk
    rw [List.drop_of_length_le (by omega), tail_none (fun t ht => by have := (g.t.ok t ht).1; omega), idle_drop, List.drop_of_length_le (by omega)]
    show ind glo ghi a = 1 * ind glo ghi (a + 0 + 0)
    rw [Int.one_mul, Int.add_zero, Int.add_zero]
  | succ n ih =>
    intro k a hk
    have hlt : k < D.length := by omega
    obtain ⟨q, hq⟩ : ∃ q, D[k]? = some q := ⟨_, List.getElem?_eq_getElem hlt⟩
    have hqe : D[k] = q := by
      rw [List.getElem?_eq_getElem hlt] at hq
      exact Option.some.inj hq
    have hlh : q.2.1 ≤ q.2.2 := g.lohi _ (mem_of_get hq)
    rw [List.drop_eq_getElem_cons hlt, hqe, idle_step hq]
    show sumN (q.2.2 - q.2.1 + 1).toNat (fun j => Nn (coef T) glo ghi (D.drop (k + 1)) (k + 1) (a + coef T k * (q.2.1 + (j : Int)))) = _
    by_cases hm : ∃ b, (k, b) ∈ T
    · obtain ⟨b, hb⟩ := hm
      rw [tail_at g.t.up hb, coef_at g.t.up hb, if_pos (List.any_eq_true.mpr ⟨(k, b), hb, decide_eq_true rfl⟩), Int.one_mul]
      have hb0 := (g.t.ok _ hb).2.1
      have hroom : roomT D (k, b) = (q.2.2 - q.2.1).toNat := by
        unfold roomT
        rw [dlo_at hq, dhi_at hq]
      have hsz : (q.2.2 - q.2.1 + 1).toNat = roomT D (k, b) + 1 := by rw [hroom]; omega
      rw [hsz]
      show _ = idleZ D T (k + 1) * sumN (roomT D (k, b) + 1) (fun j => Eg D (tailT T (k + 1)) (fun r => ind glo ghi (a + leastT D ((k, b) :: tailT T (k + 1)) + r)) (0 + (b.natAbs : Int) * (j : Int)))
      rw [← sumN_mul]
      have hleast : leastT D ((k, b) :: tailT T (k + 1)) = low1 D (k, b) + leastT D (tailT T (k + 1)) := by
        unfold leastT
        rw [List.map_cons, List.sum_cons]
      by_cases hpos : 0 < b
      · refine sumN_congr fun j hj => ?_
        rw [ih (k + 1) _ (by omega)]
        refine congrArg (idleZ D T (k + 1) * ·) ?_
        rw [Int.zero_add, ← Int.zero_add ((b.natAbs : Int) * (j : Int)), ← Eg_shift]
        refine Eg_congr D _ _ _ (fun r => ?_) 0
        have e1 : low1 D (k, b) = b * q.2.1 := by
          unfold low1
          have hp' : (0 : Int) < ((k, b) : Nat × Int).2 := hpos
          rw [if_pos hp', dlo_at hq]
        have e2 : ((b.natAbs : Nat) : Int) = b := by omega
        rw [hleast, e1, e2, Int.mul_add, show a + (b * q.2.1 + b * (j : Int)) + leastT D (tailT T (k + 1)) + r = a + (b * q.2.1 + leastT D (tailT T (k + 1))) + (r + b * (j : Int)) by omega]
      · rw [sumN_rev (n := roomT D (k, b) + 1) (f := fun j : Nat => Nn (coef T) glo ghi (D.drop (k + 1)) (k + 1) (a + b * (q.2.1 + (j : Int))))]
        refine sumN_congr fun j hj => ?_
        rw [ih (k + 1) _ (by omega)]
        refine congrArg (idleZ D T (k + 1) * ·) ?_
        rw [Int.zero_add, ← Int.zero_add ((b.natAbs : Int) * (j : Int)), ← Eg_shift]
        refine Eg_congr D _ _ _ (fun r => ?_) 0
        have e1 : low1 D (k, b) = b * q.2.2 := by
          unfold low1
          have hp' : ¬ (0 : Int) < ((k, b) : Nat × Int).2 := hpos
          rw [if_neg hp', dhi_at hq]
        have e2 : ((b.natAbs : Nat) : Int) = -b := by omega
        have e3 : q.2.1 + ((roomT D (k, b) + 1 - 1 - j : Nat) : Int) = q.2.2 - (j : Int) := by
          have : ((roomT D (k, b) : Nat) : Int) = q.2.2 - q.2.1 := by rw [hroom]; omega
          omega
        rw [hleast, e1, e2, e3, Int.mul_sub, Int.neg_mul, show a + (b * q.2.2 - b * (j : Int)) + leastT D (tailT T (k + 1)) + r = a + (b * q.2.2 + leastT D (tailT T (k + 1))) + (r + -(b * (j : Int))) by omega]
    · have hno : ∀ t ∈ T, t.1 ≠ k := fun t ht e => hm ⟨t.2, by rw [← e]; exact ht⟩
      have hany : (T.any fun t => decide (t.1 = k)) = false := by
        rw [List.any_eq_false]
        intro t ht
        rw [decide_eq_false (hno t ht)]
        decide
      rw [tail_skip hno, coef_none hno, hany, if_neg Bool.false_ne_true]
      have e : sumN (q.2.2 - q.2.1 + 1).toNat (fun j => Nn (coef T) glo ghi (D.drop (k + 1)) (k + 1) (a + 0 * (q.2.1 + (j : Int)))) = sumN (q.2.2 - q.2.1 + 1).toNat (fun _ => Nn (coef T) glo ghi (D.drop (k + 1)) (k + 1) a) := sumN_congr fun j _ => by
        rw [Int.zero_mul, Int.add_zero]
      rw [e, sumN_const, ih (k + 1) a (by omega), Int.mul_assoc, show (((q.2.2 - q.2.1 + 1).toNat : Nat) : Int) = q.2.2 - q.2.1 + 1 by omega]
theorem window {W : Nat → Int} {F L n : Nat} (h1 : F ≤ L) (h2 : L ≤ n) : sumN n (fun r => if F ≤ r ∧ r < L then W r else 0) = sumN L W - sumN F W := by
  obtain ⟨u, rfl⟩ : ∃ u, L = F + u := ⟨L - F, by omega⟩
  obtain ⟨v, rfl⟩ : ∃ v, n = F + u + v := ⟨n - (F + u), by omega⟩
  rw [sumN_split, sumN_split, sumN_split (n := F) (m := u) (f := W)]
  have z1 : sumN F (fun r => if F ≤ r ∧ r < F + u then W r else 0) = 0 := sumN_zero fun r hr => if_neg (by omega)
  have z2 : sumN v (fun j => if F ≤ F + u + j ∧ F + u + j < F + u then W (F + u + j) else 0) = 0 := sumN_zero fun r hr => if_neg (by omega)
  have e : sumN u (fun j => if F ≤ F + j ∧ F + j < F + u then W (F + j) else 0) = sumN u (fun j => W (F + j)) := sumN_congr fun j hj => if_pos (by omega)
  rw [z1, z2, e]
  omega
theorem onZ_eq {ws : List Int} {lo hi least apart a : Int} : onZ ws lo hi least apart a = apart * Sg ws (fun r => ind lo hi (a + least + r)) := by
  have hz : onZ ws lo hi least apart a = (let f := if lo - a - least > 0 then lo - a - least else 0
    let l := if hi - a - least < (ws.length : Int) - 1 then hi - a - least else (ws.length : Int) - 1
    if l < f then 0 else apart * (sumN (l + 1).toNat (fun j => wI ws (j : Int)) - sumN f.toNat (fun j => wI ws (j : Int)))) := rfl
  rw [hz]
  generalize ef : (if lo - a - least > 0 then lo - a - least else 0) = f
  generalize el : (if hi - a - least < (ws.length : Int) - 1 then hi - a - least else (ws.length : Int) - 1) = m
  have hf : (f = lo - a - least ∧ lo - a - least > 0) ∨ (f = 0 ∧ lo - a - least ≤ 0) := by
    rw [← ef]
    split
    · exact .inl ⟨rfl, by assumption⟩
    · exact .inr ⟨rfl, by omega⟩
  have hm : (m = hi - a - least ∧ hi - a - least < (ws.length : Int) - 1) ∨ (m = (ws.length : Int) - 1 ∧ hi - a - least ≥ (ws.length : Int) - 1) := by
    rw [← el]
    split
    · exact .inl ⟨rfl, by assumption⟩
    · exact .inr ⟨rfl, by omega⟩
  show (if m < f then 0 else apart * (sumN (m + 1).toNat (fun j => wI ws (j : Int)) - sumN f.toNat (fun j => wI ws (j : Int)))) = _
  unfold Sg
  by_cases c : m < f
  · rw [if_pos c]
    have : sumN ws.length (fun r => wI ws (r : Int) * ind lo hi (a + least + (r : Int))) = 0 := sumN_zero fun r hr => by
      unfold ind
      rw [if_neg (by omega), Int.mul_zero]
    rw [this, Int.mul_zero]
  · rw [if_neg c, ← window (F := f.toNat) (L := (m + 1).toNat) (n := ws.length) (W := fun j => wI ws (j : Int)) (by omega) (by omega)]
    refine congrArg (apart * ·) (sumN_congr fun r hr => ?_)
    show (if f.toNat ≤ r ∧ r < (m + 1).toNat then wI ws (r : Int) else 0) = wI ws (r : Int) * (if lo ≤ a + least + (r : Int) ∧ a + least + (r : Int) ≤ hi then 1 else 0)
    by_cases h : lo ≤ a + least + (r : Int) ∧ a + least + (r : Int) ≤ hi
    · rw [if_pos h, if_pos (by omega), Int.mul_one]
    · rw [if_neg h, if_neg (by omega), Int.mul_zero]
/-- ways_on is the count of the parts behind -/
theorem on_count {D : Dr} {T : Tm} (g : GOk D T) {glo ghi : Int} {k : Nat} (hk : k ≤ D.length) (a : Int) :
    onZ (wayL D (tailT T k)) glo ghi (leastT D (tailT T k)) (idleZ D T k) a = Nn (coef T) glo ghi (D.drop k) k a := by
  rw [onZ_eq, Sg_way, count_ways g glo ghi (D.length - k) k a (by omega)]
theorem tail_zero (T : Tm) : tailT T 0 = T := List.filter_eq_self.mpr fun t _ => decide_eq_true (Nat.zero_le _)
theorem keptS_more {S : List (Int × Int)} {q : Int × Int} {lo hi : Int} : keptS (S ++ [q]) lo hi = keptS S lo hi + (if inB lo hi q.1 = true then q.2 else 0) := by
  unfold keptS
  rw [List.filter_append, List.map_append, List.sum_append]
  by_cases h : inB lo hi q.1 = true
  · rw [List.filter_cons_of_pos (by exact h), if_pos h]
    show _ + (q.2 + 0) = _
    rw [Int.add_zero]
  · rw [List.filter_cons_of_neg (by exact h), if_neg h]
    rfl
theorem kept_sum {ws : List Int} {least apart lo hi : Int} (h : ∀ r, 0 ≤ wI ws r) : ∀ n : Nat, keptS (spreadL ws least apart n) lo hi = apart * sumN n (fun r => wI ws (r : Int) * ind lo hi (0 + least + (r : Int)))
  | 0 => by
    show (0 : Int) = apart * 0
    rw [Int.mul_zero]
  | n + 1 => by
    have ih := kept_sum (least := least) (apart := apart) (lo := lo) (hi := hi) h n
    rw [spreadL_more]
    show _ = apart * (sumN n _ + wI ws (n : Int) * ind lo hi (0 + least + (n : Int)))
    rw [Int.mul_add, ← ih]
    by_cases c : 0 < wI ws (n : Int)
    · rw [if_pos c, keptS_more]
      refine congrArg (keptS (spreadL ws least apart n) lo hi + ·) ?_
      unfold inB ind
      by_cases d : lo ≤ least + (n : Int) ∧ least + (n : Int) ≤ hi
      · rw [if_pos (by rw [decide_eq_true d.1, decide_eq_true d.2]; rfl), if_pos (by omega), Int.mul_one, Int.mul_comm]
      · rw [if_neg (by rw [Bool.and_eq_true, decide_eq_true_eq, decide_eq_true_eq]; exact d), if_neg (by omega), Int.mul_zero, Int.mul_zero]
    · rw [if_neg c, List.append_nil]
      have := h (n : Int)
      rw [show wI ws (n : Int) = 0 by omega, Int.zero_mul, Int.mul_zero, Int.add_zero]
theorem kept_count {D : Dr} {T : Tm} (g : GOk D T) (lo hi : Int) : keptZ D T lo hi = Nn (coef T) lo hi D 0 0 := by
  have h := count_ways g lo hi D.length 0 0 (by omega)
  rw [tail_zero, List.drop_zero] at h
  unfold keptZ
  rw [kept_sum fun r => (g.wbd r).1, h, ← Sg_way]
  rfl
end Gw

namespace Gw
open PySem PySem.Spec PyProof.Rows L2 GwR
def Kp (T : Tm) (lo hi : Int) (x : List Int) : Prop := lo ≤ 0 + Wt (coef T) 0 x ∧ 0 + Wt (coef T) 0 x ≤ hi
theorem keepsB_Kp {T : Tm} {lo hi : Int} {x : List Int} : keepsB T lo hi x = true ↔ Kp T lo hi x := by
  unfold keepsB Kp
  rw [Bool.and_eq_true, decide_eq_true_eq, decide_eq_true_eq, worth_Wt, Int.zero_add]
theorem coef_bd {n : Nat} {T : Tm} (h : TOk n T) (p : Nat) : -3 ≤ coef T p ∧ coef T p ≤ 3 := by
  by_cases hm : ∃ b, (p, b) ∈ T
  · obtain ⟨b, hb⟩ := hm
    rw [coef_at h.up hb]
    exact (h.ok _ hb).2.2
  · rw [coef_none fun t ht e => hm ⟨t.2, by rw [← e]; exact ht⟩]
    decide
abbrev BehK (C : Addr) (H : Hp) (x : Addr) (D : Dr) (T : Tm) (lo hi : Int) (k : Nat) : Prop := BehAt C H x lo hi (leastT D (tailT T k)) (idleZ D T k) (psL (wayL D (tailT T k)) (wayL D (tailT T k)).length)
theorem onZ_bd {ws : List Int} {lo hi least apart a : Int} (hap : apart.natAbs < 2 ^ 1121) (hw : ∀ r, 0 ≤ wI ws r ∧ wI ws r ≤ 2 ^ 80) (hlen : ws.length ≤ 400) : (onZ ws lo hi least apart a).natAbs < 2 ^ 1222 := by
  have hz : onZ ws lo hi least apart a = (let f := if lo - a - least > 0 then lo - a - least else 0
    let l := if hi - a - least < (ws.length : Int) - 1 then hi - a - least else (ws.length : Int) - 1
    if l < f then 0 else apart * (sumN (l + 1).toNat (fun j => wI ws (j : Int)) - sumN f.toNat (fun j => wI ws (j : Int)))) := rfl
  rw [hz]
  generalize ef : (if lo - a - least > 0 then lo - a - least else 0) = f
  generalize el : (if hi - a - least < (ws.length : Int) - 1 then hi - a - least else (ws.length : Int) - 1) = m
  have hf0 : 0 ≤ f := by rw [← ef]; split <;> omega
  have hm1 : m ≤ (ws.length : Int) - 1 := by rw [← el]; split <;> omega
  show (if m < f then 0 else apart * (sumN (m + 1).toNat (fun j => wI ws (j : Int)) - sumN f.toNat (fun j => wI ws (j : Int)))).natAbs < 2 ^ 1222
  by_cases c : m < f
  · rw [if_pos c]
    exact Nat.two_pow_pos 1222
  · rw [if_neg c]
    obtain ⟨p1, p2⟩ := ps_bd hw (n := (m + 1).toNat) (by omega)
    obtain ⟨q1, q2⟩ := ps_bd hw (n := f.toNat) (by omega)
    have h3 : (sumN (m + 1).toNat (fun j => wI ws (j : Int)) - sumN f.toNat (fun j => wI ws (j : Int))).natAbs < (2 ^ 101 : Int).natAbs := by
      have : (2 : Int) ^ 100 < 2 ^ 101 := by decide
      omega
    exact wide_lt (a := 1121) (b := 101) hap (by simpa using h3)
theorem Nn_bd {D : Dr} {T : Tm} (g : GOk D T) {lo hi : Int} {k : Nat} (hk : k ≤ D.length) (a : Int) : (Nn (coef T) lo hi (D.drop k) k a).natAbs < 2 ^ 1222 := by
  rw [← on_count g hk]
  exact onZ_bd (idle_bd g.d T k).2 (g.tail k).wbd (g.tail k).len
theorem on_use {C x : Addr} {H : Hp} {D : Dr} {T : Tm} {lo hi : Int} {k : Nat} {a : Int} {Q : VK} {E : XK} (ok : GOk D T) (hk : k ≤ D.length) (hb : BehK C H x D T lo hi k) (q : Q (.int (Nn (coef T) lo hi (D.drop k) k a)) H) :
    spOn C [.ref x, .int a] H Q E := by
  refine ⟨x, lo, hi, _, _, a, _, rfl, hb, (idle_bd ok.d T k).2, (ok.tail k).wbd, (ok.tail k).len, ?_⟩
  rw [on_count ok hk]
  exact q
theorem same_made {H H' : Hp} {x dx C : Addr} (nx : H x = none) (ndx : H dx = none) (s : SameX x (upd (upd H dx (.own x)) x (.ins C dx [])) H') : Same H H' := fun b o e => by
  have n1 : b ≠ x := ne_of_none e nx
  refine s b o n1 ?_
  rw [upd_ne n1, upd_ne (ne_of_none e ndx)]
  exact e
theorem valid_len {D : Dr} {x : List Int} (h : Valid D x) : x.length = D.length := (paired_len h).symm
section
variable {P : Program} {w : World} {K : PySem.W.Frag} {mg : Str → Option Value} {base : Heap}
/-! ### number_of -/
def spNum (K : PySem.W.Frag) : Sp := fun vs H Q _ => ∃ (d g n : Addr) (D : Dr) (T : Tm) (lo hi : Int) (x : List Int), vs = [.ref d, .ref g, .ref n] ∧ DrAt K H d D ∧ GapAt K H g T lo hi ∧ GOk D T ∧ SqT K H n (x.map V.int) ∧ Valid D x ∧ Kp T lo hi x ∧
  ∀ H', Same H H' → Q (.int (Rk (coef T) lo hi D 0 0 x)) H'
theorem ok_num (A0 : All K mg) : FnOk P w K mg base CX0 6 A0.num.f A0.num.fd ["drawing", "gap", "thing"] (spNum K) := by
  have GC : FnOk P w K mg base CX0 4 A0.check.f A0.check.fd ["drawing", "gap"] (spCheck K) := ok_check A0
  have GS : FnOk P w K mg base CX0 2 A0.isset.f A0.isset.fd ["drawing", "thing"] (spIsSet K) := ok_isset A0
  have GK : FnOk P w K mg base CX0 2 A0.keeps.f A0.keeps.fd ["gap", "numbers"] (spKeeps K) := ok_keeps A0
  have GT : FnOk P w K mg base CX0 1 A0.times.f A0.times.fd ["gap", "place"] (spTimes K) := ok_times A0
  have GB : FnOk P w K mg base CX0 4 A0.init.f A0.init.fd ["self", "drawing", "gap", "first"] (spBInit K A0.C) := ok_init A0
  have GO : FnOk P w K mg base CX0 1 A0.on.f A0.on.fd ["self", "ahead"] (spOn A0.C) := ok_on A0
  refine A0.num.F.ok sc_num (fun vs H Q E h => ?_) (fun cdv A outer s H vs Q E hr h => ?_)
  · obtain ⟨d, g, n, D, T, lo, hi, x, rfl, _⟩ := h
    rfl
  · obtain ⟨d, g, n, D, T, lo, hi, x, rfl, h1, h2, ok, hn, hv, hk, q⟩ := h
    have hr4 : Room 4 _ := hr.mono (by decide)
    have hr2 : Room 2 _ := hr.mono (by decide)
    have hr1 : Room 1 _ := hr.mono (by decide)
    have hlx := valid_len hv
    refine ⟨_, pss_cons (ps_expr (pe_call GC hr4 (by rfl) A0.check.g A0.check.F.kp A0.check.b .nil pass0 (pa_cons (pv 0) (pa_cons (pv 1) pa_nil))))
      (pss_cons (ps_if (PW.pt (pw_or (pt_not (pt_val (pe_call GS hr2 (by rfl) A0.isset.g A0.isset.F.kp A0.isset.b .nil pass0 (pa_cons (pv 0) (pa_cons (pv 2) pa_nil)))))
        (pw_or1 (pt_not (pt_val (pe_call GK hr2 (by rfl) A0.keeps.g A0.keeps.F.kp A0.keeps.b .nil pass0 (pa_cons (pv 1) (pa_cons (pv 2) pa_nil)))))))) pss_never pss_nil)
      (pss_cons (ps_set (i := 3) sc_num.nd rfl (.inl rfl) pe_int)
      (pss_cons (ps_set (i := 4) sc_num.nd rfl (.inr rfl) pe_int)
      (pss_cons (ps_for PassesOwn.never rfl (pi_enumT (by rfl) A0.b_enum (pa_cons (pv 0) pa_nil)) (pg_tup rfl (pgs_cons (pg_name (i := 5) sc_num.nd rfl (.inl rfl)) (pgs_cons (pg_name (i := 6) sc_num.nd rfl (.inl rfl)) pgs_nil)))
        (pss_cons (ps_set (i := 7) sc_num.nd rfl (.inr rfl) (pe_call GT hr1 (by rfl) A0.times.g A0.times.F.kp A0.times.b .nil pass0 (pa_cons (pv 1) (pa_cons (pv 5) pa_nil))))
        (pss_cons (ps_set (i := 8) sc_num.nd rfl (.inr rfl) (pe_make A0.mkc GB hr (by rfl) A0.gC A0.init.b .nil pass0 (pa_cons (pv 0) (pa_cons (pv 1) (pa_cons (pe_op op_add (pv 5) pe_int) pa_nil)))))
        (C8.pss_cut (ps_if (pt_cmpR op_eq (pv 7) pe_int (nomark _))
            (pss_one (ps_set (i := 3) sc_num.nd rfl (.inl rfl) (pe_op op_add (pv 3) (pe_op op_mulW (pe_op op_sub (pe_ix ix_tup (pv 2) (pv 5) (fun _ _ => rfl)) (pe_ix ix_tup (pv 6) pe_int (fun _ _ => rfl)))
              (pe_meth (pv 8) A0.cl A0.mon GO hr1 A0.on.b .nil pass0 (pa_cons (pv 4) pa_nil))))))
            (pss_one (ps_set (i := 3) sc_num.nd rfl (.inl rfl) (pe_op op_add (pv 3) (pe_callB (cr_sum rfl) (by rfl) A0.b_sum (by decide +kernel) (pa_cons
              (pe_lc (own := [("here", 9)]) (g := gName 9) (tt := tYes) rfl sc_num.nd (pi_rangeB (by rfl) A0.b_range (pa_cons (pe_ix ix_tup (pv 6) pe_int (fun _ _ => rfl)) (pa_cons (pe_ix ix_tup (pv 2) (pv 5) (fun _ _ => rfl)) pa_nil)))
                (blkOk_by (N := ["drawing", "gap", "thing", "found", "ahead", "place", "part", "by", "behind", "here"]) (sc := defScope sNum) (own := [("here", 9)]) (by decide +kernel))
                (fun _ _ _ _ _ => pg_name (i := 9) sc_num.nd rfl (Or.inl rfl)) (fun _ _ _ _ _ => pts_nil)
                (fun _ _ _ _ _ => pe_meth (pv 8) A0.cl A0.mon GO hr1 A0.on.b .nil pass0 (pa_cons (pe_op op_add (pv 4) (pe_op op_mul (pv 7) (pv 9))) pa_nil))) pa_nil))))))
        (pss_one (ps_set (i := 4) sc_num.nd rfl (.inr rfl) (pe_op op_add (pv 4) (pe_op op_mul (pv 7) (pe_ix ix_tup (pv 2) (pv 5) (fun _ _ => rfl))))))))))
      (pss_one (ps_ret (pv 3))))))), ?_⟩
    refine ⟨_, rfl, _, rfl, d, g, D, T, lo, hi, rfl, h1, h2, ok.t, ok.d.le, ok.w, fun H1 s1 => ?_⟩
    refine ⟨_, rfl, _, rfl, d, n, D, x, rfl, h1.same s1, tup_same s1 hn, hv, fun H2 s2 => ⟨true, rfl, iteF ?_⟩⟩
    have s02 := s1.trans s2
    refine ⟨_, rfl, _, rfl, g, n, T, lo, hi, x, rfl, h2.same s02, tup_same s02 hn, by rw [hlx]; exact ok.t, by have := ok.tlen; omega, fun H3 s3 => ?_⟩
    have s03 := s02.trans s3
    rw [keepsB_Kp.mpr hk]
    refine ⟨true, rfl, iteF ?_⟩
    obtain ⟨ds, hd, hdp⟩ := id h1
    have hll : ds.length = D.length := paired_len hdp
    refine ⟨_, rfl, d, ds, rfl, tup_same s03 hd, for_it (walk_enumT (K := K) (a := d) (xs := ds)) (fun i σ H' => Same H H' ∧ ∃ f v5 v6 v7 v8, σ = [some (.ref d), some (.ref g), some (.ref n), some (.int f), some (.int (Wt (coef T) 0 (x.take i))), v5, v6, v7, v8, none] ∧
        f + Rk (coef T) lo hi (D.drop i) i (Wt (coef T) 0 (x.take i)) (x.drop i) = Rk (coef T) lo hi D 0 0 x)
      ⟨s03, 0, none, none, none, none, rfl, by show 0 + Rk (coef T) lo hi D 0 0 x = _; omega⟩ (fun i σ H' _ ⟨z, _⟩ => tup_same z hd) ?_ ?_⟩
    · rintro i v σ H4 H5 hi' ⟨s4, f, v5, v6, v7, v8, rfl, hf⟩ ⟨Tp, a, b, rfl, nT, rfl, ha, hb⟩
      have ea : a = .int (i : Nat) := (Option.some.inj ha).symm
      subst ea
      have hb' : ds[i]? = some b := hb
      obtain ⟨⟨nm, l, h⟩, hD, pa, rfl, hpa⟩ := paired_get hdp hb'
      have hiD : i < D.length := by omega
      obtain ⟨z, hz, z1, z2⟩ := paired_get hv hD
      have z1' : l ≤ z := z1
      have z2' : z ≤ h := z2
      have hlh : h - l + 1 < 2 ^ 140 := (ok.d.sp _ (mem_of_get hD)).2
      have s5 := Same.upd_new (o := .tup [.int (i : Nat), .ref pa]) s4 (s4.free nT)
      refine ⟨Tp, _, rfl, SqT.of upd_same, rfl, _, _, rfl, _, _, rfl, rfl, ?_⟩
      -- by
      refine ⟨_, rfl, _, rfl, g, T, lo, hi, i, rfl, h2.same s5, by have := ok.tlen; omega, fun H6 s6 => ?_⟩
      have s06 := s5.trans s6
      -- behind
      refine ⟨_, rfl, _, rfl, _, rfl, (i : Int), 1, rfl, rfl, fun bx bdx nx ndx nxd => ?_⟩
      have i6 : Imm H (upd (upd H6 bdx (.own bx)) bx (.ins A0.C bdx [])) := same_imm (Same.upd_new (Same.upd_new s06 (s06.free ndx)) (s06.free nx))
      refine ⟨bx, bdx, d, g, D, T, lo, hi, i + 1, rfl, upd_same, h1.imm i6, h2.imm i6, ok, fun H7 sx7 hB => ⟨rfl, ?_⟩⟩
      have s07 : Same H H7 := s06.trans (same_made nx ndx sx7)
      have gz : atI (x.map V.int) (i : Nat) = some (.int z) := atI_nat (by rw [List.getElem?_map, hz]; rfl)
      have ewt : Wt (coef T) 0 (x.take (i + 1)) = Wt (coef T) 0 (x.take i) + coef T i * z := by
        rw [take_more hz, Wt_snoc, List.length_take, Nat.min_eq_left (by omega), Nat.zero_add]
      have edD : D.drop i = (nm, l, h) :: D.drop (i + 1) := by
        rw [List.drop_eq_getElem_cons hiD]
        congr 1
        rw [List.getElem?_eq_getElem hiD] at hD
        exact Option.some.inj hD
      have edx : x.drop i = z :: x.drop (i + 1) := by
        rw [List.drop_eq_getElem_cons (by omega)]
        congr 1
        rw [List.getElem?_eq_getElem (by omega)] at hz
        exact Option.some.inj hz
      rw [edD, edx] at hf
      have hf' : f + (sumN (z - l).toNat (fun j : Nat => Nn (coef T) lo hi (D.drop (i + 1)) (i + 1) (Wt (coef T) 0 (x.take i) + coef T i * (l + (j : Int)))) + Rk (coef T) lo hi (D.drop (i + 1)) (i + 1) (Wt (coef T) 0 (x.take i) + coef T i * z) (x.drop (i + 1))) = Rk (coef T) lo hi D 0 0 x := hf
      rw [← ewt] at hf'
      obtain ⟨c1, c2⟩ := coef_bd ok.t i
      refine ⟨fun σ' H' => Same H H' ∧ ∃ f' v9, σ' = [some (.ref d), some (.ref g), some (.ref n), some (.int f'), some (.int (Wt (coef T) 0 (x.take i))), some (.int (i : Nat)), some (.ref pa), some (.int (coef T i)), v9, none] ∧
        f' = f + sumN (z - l).toNat (fun j : Nat => Nn (coef T) lo hi (D.drop (i + 1)) (i + 1) (Wt (coef T) 0 (x.take i) + coef T i * (l + (j : Int)))), ?_, ?_⟩
      · refine ⟨_, rfl, rfl, _, rfl, ?_⟩
        by_cases c0 : coef T i = 0
        · have e : decide (V.int (coef T i) = V.int 0) = true := decide_eq_true (by rw [c0])
          rw [e]
          refine iteT ⟨_, rfl, _, rfl, _, rfl, n, _, _, .int z, rfl, rfl, tup_same s07 hn, gz, _, rfl, pa, _, 1, .int l, rfl, rfl, tup_same s07 hpa, rfl, z, l, rfl, rfl, ?_⟩
          refine ⟨_, rfl, bx, _, _, rfl, hB.choose_spec.choose_spec.1, bOn, _, rfl, ?_⟩
          refine ⟨bx, lo, hi, _, _, _, _, rfl, hB, (idle_bd ok.d T (i + 1)).2, (ok.tail (i + 1)).wbd, (ok.tail (i + 1)).len, ?_⟩
          rw [on_count ok hiD]
          refine ⟨z - l, _, rfl, rfl, ?_, f, _, rfl, rfl, s07, _, _, rfl, ?_⟩
          · refine wide_mul (a := 140) (b := 1222) ?_ (Nn_bd ok hiD _) (by decide) (by decide) (by decide)
            have : (z - l).natAbs < (2 ^ 140 : Int).natAbs := by omega
            simpa using this
          · refine congrArg (f + ·) ?_
            rw [c0]
            have : sumN (z - l).toNat (fun j : Nat => Nn (coef T) lo hi (D.drop (i + 1)) (i + 1) (Wt (coef T) 0 (x.take i) + 0 * (l + (j : Int)))) = sumN (z - l).toNat (fun _ => Nn (coef T) lo hi (D.drop (i + 1)) (i + 1) (Wt (coef T) 0 (x.take i))) := sumN_congr fun j _ => by rw [Int.zero_mul, Int.add_zero]
            rw [this, sumN_const, show (((z - l).toNat : Nat) : Int) = z - l by omega]
        · have e : decide (V.int (coef T i) = V.int 0) = false := decide_eq_false fun hh => c0 (V.int.inj hh)
          rw [e]
          refine iteF ⟨_, rfl, _, rfl, pa, _, 1, .int l, rfl, rfl, tup_same s07 hpa, rfl, _, rfl, _, rfl, n, _, _, .int z, rfl, rfl, tup_same s07 hn, gz, l, z, rfl, fun M hM => ?_⟩
          refine lc_it (walk_range (lo := l) (n := (z - l).toNat)) (fun j H' => Same H7 H' ∧ H' M = some (.lst (((List.range j).map fun j : Nat => Nn (coef T) lo hi (D.drop (i + 1)) (i + 1) (Wt (coef T) 0 (x.take i) + coef T i * (l + (j : Int)))).map V.int)))
            ⟨same_upd hM, upd_same⟩ (fun _ _ _ _ => trivial) ?_ ?_
          · rintro j y H8 H9 hj ⟨s8, hm⟩ ⟨e8, ey⟩
            subst e8
            subst ey
            have hB8 := BehAt.same s8 hB
            refine ⟨rfl, _, rfl, bx, _, _, rfl, hB8.choose_spec.choose_spec.1, bOn, _, rfl, _, rfl, _, rfl, coef T i, l + (j : Int), rfl, rfl, .inl ⟨by omega, by omega⟩, _, _, rfl, rfl, ?_⟩
            refine ⟨bx, lo, hi, _, _, _, _, rfl, hB8, (idle_bd ok.d T (i + 1)).2, (ok.tail (i + 1)).wbd, (ok.tail (i + 1)).len, ?_⟩
            rw [on_count ok hiD]
            refine ⟨_, hm, ?_, Same.upd_new s8 hM, ?_⟩
            · rw [List.length_map, List.length_map, List.length_range]
              have hmem : ∃ b, (i, b) ∈ T := by
                by_cases hm : ∃ b, (i, b) ∈ T
                · exact hm
                · exact absurd (coef_none fun t ht e => hm ⟨t.2, by rw [← e]; exact ht⟩) c0
              obtain ⟨b, hb2⟩ := hmem
              have hroom := ok.room _ hb2
              unfold roomT at hroom
              rw [dlo_at hD, dhi_at hD] at hroom
              have hroom' : (h - l).toNat ≤ 1000 := hroom
              exact room1000 (by omega)
            · rw [upd_same, List.range_succ, List.map_append, List.map_append]
              rfl
          · rintro H8 ⟨s8, hm⟩
            refine ⟨M, _, rfl, SqL.of hm, f, _, rfl, rfl, s07.trans s8, _, _, rfl, ?_⟩
            refine congrArg (f + ·) ?_
            have : ∀ (k : Nat) (F : Nat → Int), ((List.range k).map F).sum = sumN k F := by
              intro k F
              induction k with
              | zero => rfl
              | succ k ih =>
                rw [List.range_succ, List.map_append, List.sum_append, ih]
                show sumN k F + (F k + 0) = sumN k F + F k
                rw [Int.add_zero]
            exact this _ _
      · rintro σ' H8 ⟨s8, f', v9, rfl, ef⟩
        refine ⟨_, rfl, _, rfl, _, rfl, _, rfl, n, _, _, .int z, rfl, rfl, tup_same s8 hn, gz, coef T i, z, rfl, rfl, .inl ⟨by omega, by omega⟩, _, _, rfl, rfl, s8, f', some (.int (i : Nat)), some (.ref pa), some (.int (coef T i)), v9, ?_, ?_⟩
        · rw [ewt]
          rfl
        · rw [ef]
          omega
    · rintro σ H4 ⟨s4, f, v5, v6, v7, v8, rfl, hf⟩
      rw [hll, List.drop_of_length_le (Nat.le_refl _)] at hf
      have e0 : ∀ y, Rk (coef T) lo hi [] D.length (Wt (coef T) 0 (x.take D.length)) y = 0 := fun y => by cases y <;> rfl
      rw [e0, Int.add_zero] at hf
      rw [← hf] at q
      exact ⟨_, rfl, q _ s4⟩
end
end Gw

namespace Gw
open PySem PySem.Spec PyProof.Rows L2 GwR
theorem two_sums {c : Nat → Int} {lo hi : Int} {D : Dr} {k : Nat} {a l : Int} {n : Nat} (h0 : c k = 0) : sumN n (fun j : Nat => Nn c lo hi D (k + 1) (a + c k * (l + (j : Int)))) = (n : Int) * Nn c lo hi D (k + 1) a := by
  rw [← sumN_const]
  exact sumN_congr fun j _ => by rw [h0, Int.zero_mul, Int.add_zero]
section
variable {P : Program} {w : World} {K : PySem.W.Frag} {mg : Str → Option Value} {base : Heap}
/-! ### nth -/
def spNth (K : PySem.W.Frag) : Sp := fun vs H Q _ => ∃ (d g : Addr) (D : Dr) (T : Tm) (lo hi n : Int), vs = [.ref d, .ref g, .int n] ∧ DrAt K H d D ∧ GapAt K H g T lo hi ∧ GOk D T ∧ 0 ≤ n ∧ n < Nn (coef T) lo hi D 0 0 ∧
  ∀ H' p x, Same H H' → SqT K H' p (x.map V.int) → Valid D x → Kp T lo hi x → Rk (coef T) lo hi D 0 0 x = n → Q (.ref p) H'
theorem ok_nth (A0 : All K mg) : FnOk P w K mg base CX0 7 A0.nth.f A0.nth.fd ["drawing", "gap", "number"] (spNth K) := by
  have GC : FnOk P w K mg base CX0 4 A0.check.f A0.check.fd ["drawing", "gap"] (spCheck K) := ok_check A0
  have GW : FnOk P w K mg base CX0 1 A0.whole.f A0.whole.fd ["thing"] spWhole := ok_whole A0
  have GK : FnOk P w K mg base CX0 6 A0.kept.f A0.kept.fd ["drawing", "gap"] (spKept K) := ok_kept A0
  have GT : FnOk P w K mg base CX0 1 A0.times.f A0.times.fd ["gap", "place"] (spTimes K) := ok_times A0
  have GB : FnOk P w K mg base CX0 4 A0.init.f A0.init.fd ["self", "drawing", "gap", "first"] (spBInit K A0.C) := ok_init A0
  have GO : FnOk P w K mg base CX0 1 A0.on.f A0.on.fd ["self", "ahead"] (spOn A0.C) := ok_on A0
  refine A0.nth.F.ok sc_nth (fun vs H Q E h => ?_) (fun cdv A outer s H vs Q E hr h => ?_)
  · obtain ⟨d, g, D, T, lo, hi, n, rfl, _⟩ := h
    rfl
  · obtain ⟨d, g, D, T, lo, hi, n, rfl, h1, h2, ok, hn0, hn1, q⟩ := h
    have hr5 : Room 5 _ := hr.mono (by decide)
    have hr4 : Room 4 _ := hr.mono (by decide)
    have hr1 : Room 1 _ := hr.mono (by decide)
    refine ⟨_, pss_cons (ps_expr (pe_call GC hr4 (by rfl) A0.check.g A0.check.F.kp A0.check.b .nil pass0 (pa_cons (pv 0) (pa_cons (pv 1) pa_nil))))
      (pss_cons (ps_if (PW.pt (pw_or (pt_not (pt_val (pe_call GW hr1 (by rfl) A0.whole.g A0.whole.F.kp A0.whole.b .nil pass0 (pa_cons (pv 2) pa_nil))))
        (pw_or (pt_cmpR op_lt (pv 2) pe_int (nomark _)) (pw_or1 (pt_cmpR op_ge (pv 2) (pe_call GK hr (by rfl) A0.kept.g A0.kept.F.kp A0.kept.b .nil pass0 (pa_cons (pv 0) (pa_cons (pv 1) pa_nil))) (nomark _)))))) pss_never pss_nil)
      (pss_cons (ps_set (i := 3) sc_nth.nd rfl (.inl rfl) (pe_lst pa_nil))
      (pss_cons (ps_set (i := 4) sc_nth.nd rfl (.inl rfl) pe_int)
      (pss_cons (ps_set (i := 5) sc_nth.nd rfl (.inl rfl) (pv 2))
      (pss_cons (ps_for PassesOwn.never rfl (pi_enumT (by rfl) A0.b_enum (pa_cons (pv 0) pa_nil)) (pg_tup rfl (pgs_cons (pg_name (i := 6) sc_nth.nd rfl (.inl rfl)) (pgs_cons (pg_name (i := 7) sc_nth.nd rfl (.inl rfl)) pgs_nil)))
        (pss_cons (ps_set (i := 8) sc_nth.nd rfl (.inl rfl) (pe_call GT hr1 (by rfl) A0.times.g A0.times.F.kp A0.times.b .nil pass0 (pa_cons (pv 1) (pa_cons (pv 6) pa_nil))))
        (pss_cons (ps_set (i := 9) sc_nth.nd rfl (.inl rfl) (pe_make A0.mkc GB hr5 (by rfl) A0.gC A0.init.b .nil pass0 (pa_cons (pv 0) (pa_cons (pv 1) (pa_cons (pe_op op_add (pv 6) pe_int) pa_nil)))))
        (pss_cons (ps_set (i := 10) sc_nth.nd rfl (.inl rfl) (pe_ix ix_tup (pv 7) pe_int (fun _ _ => rfl)))
        (C8.pss_cut (ps_if (pt_cmpR op_eq (pv 8) pe_int (nomark _))
            (pss_cons (ps_set (i := 10) sc_nth.nd rfl (.inl rfl) (pe_op op_add (pv 10) (pe_op op_fdivW (pv 5) (pe_meth (pv 9) A0.cl A0.mon GO hr1 A0.on.b .nil pass0 (pa_cons (pv 4) pa_nil)))))
            (pss_one (ps_set (i := 5) sc_nth.nd rfl (.inl rfl) (pe_op op_mod (pv 5) (pe_meth (pv 9) A0.cl A0.mon GO hr1 A0.on.b .nil pass0 (pa_cons (pv 4) pa_nil))))))
            (pss_one (ps_while PassesOwn.never (pt_cmpR op_ge (pv 5) (pe_meth (pv 9) A0.cl A0.mon GO hr1 A0.on.b .nil pass0 (pa_cons (pe_op op_add (pv 4) (pe_op op_mul (pv 8) (pv 10))) pa_nil)) (nomark _))
              (pss_cons (ps_set (i := 5) sc_nth.nd rfl (.inl rfl) (pe_op op_sub (pv 5) (pe_meth (pv 9) A0.cl A0.mon GO hr1 A0.on.b .nil pass0 (pa_cons (pe_op op_add (pv 4) (pe_op op_mul (pv 8) (pv 10))) pa_nil))))
              (pss_one (ps_aug (i := 10) sc_nth.nd rfl (.inl rfl) pe_int ip_add))))))
        (pss_cons (ps_expr (pe_bm PySem.F.plainAttrs_list PySem.F.slot_list_append PySem.F.type_list_append mt_append (pv 3) (pa_cons (pv 10) pa_nil)))
        (pss_one (ps_set (i := 4) sc_nth.nd rfl (.inl rfl) (pe_op op_add (pv 4) (pe_op op_mul (pv 8) (pv 10)))))))))))
      (pss_one (ps_ret (pe_callTy call_tuple_of (by rfl) A0.b_tuple (by decide +kernel) (pa_cons (pv 3) pa_nil))))))))), ?_⟩
    refine ⟨_, rfl, _, rfl, d, g, D, T, lo, hi, rfl, h1, h2, ok.t, ok.d.le, ok.w, fun H1 s1 => ?_⟩
    refine ⟨_, rfl, n, rfl, true, rfl, iteF ?_⟩
    refine ⟨_, rfl, n, 0, rfl, rfl, _, rfl, ?_⟩
    rw [decide_eq_false (by omega)]
    refine iteF ?_
    refine ⟨_, rfl, _, rfl, _, rfl, d, g, D, T, lo, hi, rfl, h1.same s1, h2.same s1, ok, fun H2 s2 => ⟨n, _, rfl, rfl, _, rfl, ?_⟩⟩
    rw [kept_count ok, decide_eq_false (by omega)]
    refine iteF ?_
    have s02 := s1.trans s2
    refine ⟨Nat.zero_le _, fun L hL => ?_⟩
    have hLn : H L = none := s02.free hL
    refine ⟨_, rfl, ?_⟩
    obtain ⟨ds, hd, hdp⟩ := id h1
    have hll : ds.length = D.length := paired_len hdp
    have s03 : Same H (upd H2 L (.lst [])) := Same.upd_new s02 hLn
    refine ⟨_, rfl, d, ds, rfl, tup_same s03 hd, for_it (walk_enumT (K := K) (a := d) (xs := ds)) (fun i σ H' => Same H H' ∧ ∃ xs left v6 v7 v8 v9 v10, H' L = some (.lst (xs.map V.int)) ∧ xs.length = i ∧ Valid (D.take i) xs ∧
        σ = [some (.ref d), some (.ref g), some (.int n), some (.ref L), some (.int (Wt (coef T) 0 xs)), some (.int left), v6, v7, v8, v9, v10] ∧ 0 ≤ left ∧ left < Nn (coef T) lo hi (D.drop i) i (Wt (coef T) 0 xs) ∧
        ∀ y, Rk (coef T) lo hi D 0 0 (xs ++ y) = (n - left) + Rk (coef T) lo hi (D.drop i) i (Wt (coef T) 0 xs) y)
      ⟨s03, [], n, none, none, none, none, none, upd_same, rfl, .nil, rfl, hn0, hn1, fun y => by show Rk (coef T) lo hi D 0 0 y = n - n + Rk (coef T) lo hi D 0 0 y; omega⟩ (fun i σ H' _ ⟨z, _⟩ => tup_same z hd) ?_ ?_⟩
    · rintro i v σ H4 H5 hi' ⟨s4, xs, left, v6, v7, v8, v9, v10, hl4, hxl, hxv, rfl, hl0, hl1, hrk⟩ ⟨Tp, a, b, rfl, nT, rfl, ha, hb⟩
      have ea : a = .int (i : Nat) := (Option.some.inj ha).symm
      subst ea
      have hb' : ds[i]? = some b := hb
      obtain ⟨⟨nm, l, h⟩, hD, pa, rfl, hpa⟩ := paired_get hdp hb'
      have hiD : i < D.length := by omega
      have hk1 : i + 1 ≤ D.length := hiD
      have hlh : l ≤ h := (ok.d.sp _ (mem_of_get hD)).1
      have hsz : h - l + 1 < 2 ^ 140 := (ok.d.sp _ (mem_of_get hD)).2
      have s5 := Same.upd_new (o := .tup [.int (i : Nat), .ref pa]) s4 (s4.free nT)
      have hl5 : (upd H4 Tp (.tup [.int (i : Nat), .ref pa])) L = some (.lst (xs.map V.int)) := by rw [upd_ne (ne_of_none hl4 nT)]; exact hl4
      refine ⟨Tp, _, rfl, SqT.of upd_same, rfl, _, _, rfl, _, _, rfl, rfl, ?_⟩
      refine ⟨_, rfl, _, rfl, g, T, lo, hi, i, rfl, h2.same s5, by have := ok.tlen; omega, fun H6 s6 => ?_⟩
      have s06 := s5.trans s6
      refine ⟨_, rfl, _, rfl, _, rfl, (i : Int), 1, rfl, rfl, fun bx bdx nx ndx nxd => ?_⟩
      have i6 : Imm H (upd (upd H6 bdx (.own bx)) bx (.ins A0.C bdx [])) := same_imm (Same.upd_new (Same.upd_new s06 (s06.free ndx)) (s06.free nx))
      refine ⟨bx, bdx, d, g, D, T, lo, hi, i + 1, rfl, upd_same, h1.imm i6, h2.imm i6, ok, fun H7 sx7 hB => ⟨rfl, ?_⟩⟩
      have sm7 : Same H6 H7 := same_made nx ndx sx7
      have s07 : Same H H7 := s06.trans sm7
      have hl7 : H7 L = some (.lst (xs.map V.int)) := sm7 _ _ (s6 _ _ hl5)
      obtain ⟨bd, bs, hB1, hB2⟩ := id hB
      have edD : D.drop i = (nm, l, h) :: D.drop (i + 1) := by
        rw [List.drop_eq_getElem_cons hiD]
        congr 1
        rw [List.getElem?_eq_getElem hiD] at hD
        exact Option.some.inj hD
      rw [edD] at hl1 hrk
      have hl1' : left < sumN (h - l + 1).toNat (fun j : Nat => Nn (coef T) lo hi (D.drop (i + 1)) (i + 1) (Wt (coef T) 0 xs + coef T i * (l + (j : Int)))) := hl1
      obtain ⟨c1, c2⟩ := coef_bd ok.t i
      -- here = part[1]
      refine ⟨_, rfl, pa, _, 1, .int l, rfl, rfl, tup_same s07 hpa, rfl, ?_⟩
      refine ⟨fun σ' H' => H7 = H' ∧ ∃ z left', σ' = [some (.ref d), some (.ref g), some (.int n), some (.ref L), some (.int (Wt (coef T) 0 xs)), some (.int left'), some (.int (i : Nat)), some (.ref pa), some (.int (coef T i)), some (.ref bx), some (.int z)] ∧
        l ≤ z ∧ z ≤ h ∧ left = sumN (z - l).toNat (fun j : Nat => Nn (coef T) lo hi (D.drop (i + 1)) (i + 1) (Wt (coef T) 0 xs + coef T i * (l + (j : Int)))) + left' ∧ 0 ≤ left' ∧ left' < Nn (coef T) lo hi (D.drop (i + 1)) (i + 1) (Wt (coef T) 0 xs + coef T i * z), ?_, ?_⟩
      · refine ⟨_, rfl, rfl, _, rfl, ?_⟩
        by_cases c0 : coef T i = 0
        · have e : decide (V.int (coef T i) = V.int 0) = true := decide_eq_true (by rw [c0])
          rw [e]
          rw [two_sums c0] at hl1'
          have hM0 : 0 ≤ Nn (coef T) lo hi (D.drop (i + 1)) (i + 1) (Wt (coef T) 0 xs) := Nn_nn _ _ _
          have hMb := Nn_bd (lo := lo) (hi := hi) ok hk1 (Wt (coef T) 0 xs)
          have hM1 : 0 < Nn (coef T) lo hi (D.drop (i + 1)) (i + 1) (Wt (coef T) 0 xs) := by
            by_cases z : Nn (coef T) lo hi (D.drop (i + 1)) (i + 1) (Wt (coef T) 0 xs) = 0
            · rw [z, Int.mul_zero] at hl1'
              omega
            · omega
          have eArg : Wt (coef T) 0 xs + coef T i * (l + left / Nn (coef T) lo hi (D.drop (i + 1)) (i + 1) (Wt (coef T) 0 xs)) = Wt (coef T) 0 xs := by rw [c0, Int.zero_mul, Int.add_zero]
          refine iteT ⟨_, rfl, _, rfl, _, rfl, bx, _, _, rfl, hB1, bOn, _, rfl, ?_⟩
          refine ⟨bx, lo, hi, _, _, _, _, rfl, hB, (idle_bd ok.d T (i + 1)).2, (ok.tail (i + 1)).wbd, (ok.tail (i + 1)).len, ?_⟩
          rw [on_count ok hk1]
          refine ⟨left, _, rfl, rfl, wide_div (b := 1222) hM1 hMb (by decide) (by decide), l, _, rfl, rfl, ?_⟩
          refine ⟨_, rfl, _, rfl, bx, _, _, rfl, hB1, bOn, _, rfl, ?_⟩
          refine ⟨bx, lo, hi, _, _, _, _, rfl, hB, (idle_bd ok.d T (i + 1)).2, (ok.tail (i + 1)).wbd, (ok.tail (i + 1)).len, ?_⟩
          rw [on_count ok hk1]
          refine ⟨left, _, rfl, rfl, hM1, rfl, _, _, rfl, ?_, ?_, ?_, Int.emod_nonneg _ (by omega), ?_⟩
          · have := Int.ediv_nonneg hl0 hM0
            omega
          · have : left / Nn (coef T) lo hi (D.drop (i + 1)) (i + 1) (Wt (coef T) 0 xs) < (((h - l + 1).toNat : Nat) : Int) := Int.ediv_lt_of_lt_mul hM1 hl1'
            omega
          · rw [two_sums c0]
            have h0 := Int.ediv_nonneg hl0 hM0
            rw [show (((l + left / Nn (coef T) lo hi (D.drop (i + 1)) (i + 1) (Wt (coef T) 0 xs) - l).toNat : Nat) : Int) = left / Nn (coef T) lo hi (D.drop (i + 1)) (i + 1) (Wt (coef T) 0 xs) by omega]
            exact (Int.ediv_mul_add_emod left _).symm
          · rw [eArg]
            exact Int.emod_lt_of_pos _ hM1
        · have e : decide (V.int (coef T i) = V.int 0) = false := decide_eq_false fun hh => c0 (V.int.inj hh)
          rw [e]
          refine iteF ?_
          refine ⟨fun m σ' H' => H7 = H' ∧ ∃ (j : Nat) (left1 : Int), σ' = [some (.ref d), some (.ref g), some (.int n), some (.ref L), some (.int (Wt (coef T) 0 xs)), some (.int left1), some (.int (i : Nat)), some (.ref pa), some (.int (coef T i)), some (.ref bx), some (.int (l + (j : Int)))] ∧
            left = sumN j (fun j : Nat => Nn (coef T) lo hi (D.drop (i + 1)) (i + 1) (Wt (coef T) 0 xs + coef T i * (l + (j : Int)))) + left1 ∧ 0 ≤ left1 ∧ j < (h - l + 1).toNat ∧ m + j = (h - l + 1).toNat, ⟨(h - l + 1).toNat, rfl, 0, left, by rw [show l + ((0 : Nat) : Int) = l by omega]; rfl, by show left = 0 + left; omega, hl0, by omega, rfl⟩, ?_⟩
          rintro m σ' H' ⟨rfl, j, left1, rfl, hleft, hl10, hjs, hmj⟩
          refine ⟨_, rfl, _, rfl, bx, _, _, rfl, hB1, bOn, _, rfl, _, rfl, _, rfl, coef T i, l + (j : Int), rfl, rfl, .inl ⟨by omega, by omega⟩, _, _, rfl, rfl, ?_⟩
          refine ⟨bx, lo, hi, _, _, _, _, rfl, hB, (idle_bd ok.d T (i + 1)).2, (ok.tail (i + 1)).wbd, (ok.tail (i + 1)).len, ?_⟩
          rw [on_count ok hk1]
          refine ⟨left1, _, rfl, rfl, _, rfl, ?_⟩
          by_cases cw : Nn (coef T) lo hi (D.drop (i + 1)) (i + 1) (Wt (coef T) 0 xs + coef T i * (l + (j : Int))) ≤ left1
          · rw [decide_eq_true cw]
            refine iteT ?_
            have hsum : left = sumN (j + 1) (fun j : Nat => Nn (coef T) lo hi (D.drop (i + 1)) (i + 1) (Wt (coef T) 0 xs + coef T i * (l + (j : Int)))) + (left1 - Nn (coef T) lo hi (D.drop (i + 1)) (i + 1) (Wt (coef T) 0 xs + coef T i * (l + (j : Int)))) := by
              show left = sumN j _ + Nn (coef T) lo hi (D.drop (i + 1)) (i + 1) (Wt (coef T) 0 xs + coef T i * (l + (j : Int))) + _
              omega
            have hj1 : j + 1 < (h - l + 1).toNat := by
              rcases Nat.lt_or_ge (j + 1) (h - l + 1).toNat with z | z
              · exact z
              · exfalso
                rw [show (h - l + 1).toNat = j + 1 by omega] at hl1'
                omega
            refine ⟨fun σ' H' => H7 = H' ∧ σ' = [some (.ref d), some (.ref g), some (.int n), some (.ref L), some (.int (Wt (coef T) 0 xs)), some (.int (left1 - Nn (coef T) lo hi (D.drop (i + 1)) (i + 1) (Wt (coef T) 0 xs + coef T i * (l + (j : Int))))), some (.int (i : Nat)), some (.ref pa), some (.int (coef T i)), some (.ref bx), some (.int (l + (j : Int) + 1))], ?_, ?_⟩
            · rintro σ' H' ⟨rfl, rfl⟩
              refine ⟨m - 1, by omega, rfl, j + 1, _, ?_, hsum, by omega, hj1, by omega⟩
              rw [show l + ((j + 1 : Nat) : Int) = l + (j : Int) + 1 by omega]
            · refine ⟨_, rfl, _, rfl, bx, _, _, rfl, hB1, bOn, _, rfl, _, rfl, _, rfl, coef T i, l + (j : Int), rfl, rfl, .inl ⟨by omega, by omega⟩, _, _, rfl, rfl, ?_⟩
              refine ⟨bx, lo, hi, _, _, _, _, rfl, hB, (idle_bd ok.d T (i + 1)).2, (ok.tail (i + 1)).wbd, (ok.tail (i + 1)).len, ?_⟩
              rw [on_count ok hk1]
              exact ⟨left1, _, rfl, rfl, _, rfl, l + (j : Int), 1, rfl, rfl, rfl, rfl⟩
          · rw [decide_eq_false cw]
            refine iteF ⟨rfl, l + (j : Int), left1, rfl, by omega, by omega, ?_, hl10, by omega⟩
            rw [show (l + (j : Int) - l).toNat = j by omega]
            exact hleft
      · rintro σ' H8 ⟨rfl, z, left', rfl, hz1, hz2, hleft, hl'0, hl'1⟩
        have ewt : Wt (coef T) 0 (xs ++ [z]) = Wt (coef T) 0 xs + coef T i * z := by rw [Wt_snoc, Nat.zero_add, hxl]
        refine ⟨_, rfl, .inl ⟨rfl, _, SqL.of hl7⟩, _, rfl, L, _, _, rfl, rfl, hl7, ?_, ?_⟩
        · rw [List.length_map]
          have := ok.d.le
          exact room1000 (by omega)
        · refine ⟨_, rfl, _, rfl, _, rfl, coef T i, z, rfl, rfl, .inl ⟨by omega, by omega⟩, _, _, rfl, rfl, Same.upd_new s07 hLn, xs ++ [z], left', some (.int (i : Nat)), some (.ref pa), some (.int (coef T i)), some (.ref bx), some (.int z), ?_, ?_, ?_, ?_, hl'0, ?_, ?_⟩
          · rw [upd_same, List.map_append]
            rfl
          · rw [List.length_append, hxl]
            rfl
          · rw [take_more hD]
            exact Paired.snoc hxv ⟨hz1, hz2⟩
          · rw [ewt]
            rfl
          · rw [ewt]
            exact hl'1
          · intro y
            rw [List.append_assoc, hrk, ewt]
            show n - left + (sumN (z - l).toNat (fun j : Nat => Nn (coef T) lo hi (D.drop (i + 1)) (i + 1) (Wt (coef T) 0 xs + coef T i * (l + (j : Int)))) + Rk (coef T) lo hi (D.drop (i + 1)) (i + 1) (Wt (coef T) 0 xs + coef T i * z) y) = _
            omega
    · rintro σ H4 ⟨s4, xs, left, v6, v7, v8, v9, v10, hl4, hxl, hxv, rfl, hl0, hl1, hrk⟩
      rw [hll, List.drop_of_length_le (Nat.le_refl _)] at hl1 hrk
      rw [hll, List.take_length] at hxv
      have hl1' : left < ind lo hi (Wt (coef T) 0 xs) := hl1
      have hin : lo ≤ Wt (coef T) 0 xs ∧ Wt (coef T) 0 xs ≤ hi := by
        by_cases z : lo ≤ Wt (coef T) 0 xs ∧ Wt (coef T) 0 xs ≤ hi
        · exact z
        · unfold ind at hl1'
          rw [if_neg z] at hl1'
          omega
      unfold ind at hl1'
      rw [if_pos hin] at hl1'
      have hr := hrk []
      rw [List.append_nil] at hr
      have hr' : Rk (coef T) lo hi D 0 0 xs = n - left + 0 := hr
      refine ⟨_, rfl, L, _, rfl, .inl ⟨SqL.of hl4, fun p np => q _ p xs (Same.upd_new s4 (s4.free np)) (SqT.of upd_same) hxv ?_ (by omega)⟩⟩
      unfold Kp
      rw [Int.zero_add]
      exact hin
end
end Gw

namespace Gw
open PySem PySem.Spec PyProof.Rows L2 GwR
/-- a pen stands at p -/
def PenAt (H : Hp) (p : Addr) : Prop := ∃ a f c : Int, H p = some (.lst [.int a, .int f, .int c])
theorem PenAt.same {H H' : Hp} {p : Addr} (s : Same H H') (h : PenAt H p) : PenAt H' p :=
  let ⟨a, f, c, e⟩ := h
  ⟨a, f, c, s _ _ e⟩
theorem PenAt.mut {H : Hp} {p : Addr} (h : PenAt H p) : Mut (H p) := by
  obtain ⟨a, f, c, e⟩ := h
  rw [e]
  trivial
theorem PenAt.upd {H : Hp} {p q : Addr} {o : HO} (h : PenAt H p) (n : p ≠ q) : PenAt (upd H q o) p := by
  obtain ⟨a, f, c, e⟩ := h
  exact ⟨a, f, c, by rw [upd_ne n]; exact e⟩
theorem PenAt.ne {H : Hp} {p q : Addr} (h : PenAt H p) (n : H q = none) : p ≠ q := by
  obtain ⟨a, f, c, e⟩ := h
  exact ne_of_none e n
section
variable {P : Program} {w : World} {K : PySem.W.Frag} {mg : Str → Option Value} {base : Heap}
/-! ### _law_cell_at -/
def spCellA (K : PySem.W.Frag) : Sp := fun vs H Q _ => ∃ (a : Addr) (ns : List Int), vs = [.ref a, .int 0] ∧ SqL K H a (ns.map V.int) ∧ ∀ z : Int, Q (.int z) H
theorem ok_cell (A0 : All K mg) : FnOk P w K mg base CX0 1 A0.cell.f A0.cell.fd ["script", "k"] (spCellA K) := by
  refine A0.cell.F.ok sc_cell (fun vs H Q E h => ?_) (fun cdv A outer s H vs Q E hr h => ?_)
  · obtain ⟨a, ns, rfl, _⟩ := h
    rfl
  · obtain ⟨a, ns, rfl, ha, q⟩ := h
    refine ⟨_, pss_cons (ps_if (pt_cmpR op_lt (pv 1) (pe_callB call_len_seq (by rfl) A0.b_len PySem.boot_len (pa_cons (pv 0) pa_nil)) (nomark _)) (pss_one (ps_ret (pe_ix ix_list (pv 0) (pv 1) (fun _ _ => rfl)))) pss_nil)
      (pss_one (ps_ret pe_int)), ?_⟩
    refine ⟨_, rfl, _, rfl, a, _, rfl, .inl ha, 0, _, rfl, rfl, _, rfl, ?_⟩
    rw [List.length_map]
    cases ns with
    | nil => exact iteF (q 0)
    | cons z r =>
      rw [decide_eq_true (by rw [List.length_cons]; omega)]
      exact iteT ⟨_, rfl, _, rfl, a, _, 0, .int z, rfl, rfl, ha, atI_nat (j := 0) rfl, q z⟩
/-! ### _law_next -/
def spNextA : Sp := fun vs H Q _ => ∃ z : Int, vs = [.int z] ∧ ∀ r : Int, Q (.int r) H
theorem ok_next (A0 : All K mg) : FnOk P w K mg base CX0 1 A0.next.f A0.next.fd ["seed"] spNextA := by
  refine A0.next.F.ok sc_next (fun vs H Q E h => ?_) (fun cdv A outer s H vs Q E hr h => ?_)
  · obtain ⟨z, rfl, _⟩ := h
    rfl
  · obtain ⟨z, rfl, q⟩ := h
    refine ⟨_, pss_cons (ps_set (i := 0) sc_next.nd rfl (.inl rfl) (pe_op op_mod (pe_op op_add (pv 0) pe_int) pe_int))
      (pss_one (ps_ret (pe_op op_mod (pe_op op_add (pe_op op_add (pe_op op_mul (pv 0) (pv 0)) (pe_op op_mul pe_int (pv 0))) pe_int) pe_int))), ?_⟩
    have h1 := Int.emod_nonneg (z + 7919) (show (2147483647 : Int) ≠ 0 by decide)
    have h2 := Int.emod_lt_of_pos (z + 7919) (show (0 : Int) < 2147483647 by decide)
    refine ⟨_, rfl, _, _, rfl, rfl, _, _, rfl, rfl, by show (0 : Int) < 2147483647; decide, ?_⟩
    exact ⟨_, rfl, _, rfl, (z + 7919) % 2147483647, (z + 7919) % 2147483647, rfl, rfl, .inl ⟨by omega, by omega⟩, _, rfl, 48271, (z + 7919) % 2147483647, rfl, rfl, .inl ⟨by decide, by decide⟩, _, _, rfl, rfl, _, _, rfl, rfl, _, _, rfl, rfl, by show (0 : Int) < 2147483629; decide, q _⟩
/-! ### _law_pen -/
def spPenA : Sp := fun vs H Q _ => ∃ z : Int, vs = [.int z] ∧ ∀ H' p, Same H H' → H p = none → PenAt H' p → Q (.ref p) H'
theorem ok_pen (A0 : All K mg) : FnOk P w K mg base CX0 1 A0.pen.f A0.pen.fd ["cell"] spPenA := by
  refine A0.pen.F.ok sc_pen (fun vs H Q E h => ?_) (fun cdv A outer s H vs Q E hr h => ?_)
  · obtain ⟨z, rfl, _⟩ := h
    rfl
  · obtain ⟨z, rfl, q⟩ := h
    refine ⟨_, pss_cons (ps_set (i := 1) sc_pen.nd rfl (.inl rfl) (pe_callB (call_max2 rfl) (by rfl) A0.b_max (by decide +kernel) (pa_cons (pv 0) (pa_cons (pe_op op_sub pe_int (pv 0)) pa_nil))))
      (pss_one (ps_ret (pe_lst (pa_cons (pv 1) (pa_cons (pe_callTy call_int1 (by rfl) A0.b_int (by decide +kernel) (pa_cons (pe_cmpR op_ge (pv 1) (pe_op op_pow pe_int pe_int) (nomark _)) pa_nil)) (pa_cons (pe_op op_mod (pv 1) pe_int) pa_nil)))))), ?_⟩
    refine ⟨_, rfl, _, rfl, 0, z, rfl, rfl, z, _, rfl, ?_⟩
    refine ⟨_, rfl, _, rfl, 10, 18, rfl, rfl, ⟨by decide, by decide, by decide⟩, _, _, rfl, rfl, .inr ⟨_, rfl, ?_⟩⟩
    refine ⟨_, rfl, _, _, rfl, rfl, by show (0 : Int) < 1000003; decide, by show 3 ≤ sizeLine; decide, fun p np => ?_⟩
    exact q _ p (same_upd np) np ⟨_, _, _, upd_same⟩
/-! ### _law_draw -/
def spDraw : Sp := fun vs H Q _ => ∃ (p : Addr) (m : Int), vs = [.ref p, .int m] ∧ PenAt H p ∧ 0 < m ∧ m.natAbs < 2 ^ 200 ∧ ∀ H' r, SameX p H H' → PenAt H' p → 0 ≤ r → r < m → Q (.int r) H'
theorem ok_draw (A0 : All K mg) : FnOk P w K mg base CX0 2 A0.draw.f A0.draw.fd ["pen", "many"] spDraw := by
  have GN : FnOk P w K mg base CX0 1 A0.next.f A0.next.fd ["seed"] spNextA := ok_next A0
  refine A0.draw.F.ok sc_draw (fun vs H Q E h => ?_) (fun cdv A outer s H vs Q E hr h => ?_)
  · obtain ⟨p, m, rfl, _⟩ := h
    rfl
  · obtain ⟨p, m, rfl, ⟨a, f, c, hp⟩, hm, hmb, q⟩ := h
    refine ⟨_, pss_cons (ps_if (pt_cmpR op_eq (pe_ix ix_list (pv 0) pe_int (fun _ _ => rfl)) pe_int (nomark _))
        (pss_cons (ps_set (i := 2) sc_draw.nd rfl (.inl rfl) (pe_op op_mod (pe_ix ix_list (pv 0) pe_int (fun _ _ => rfl)) (pv 1)))
        (pss_cons (ps_asg (pe_op op_fdivW (pe_ix ix_list (pv 0) pe_int (fun _ _ => rfl)) (pv 1)) (pg_sub (pv 0) pe_int set_list))
        (pss_one (ps_ret (pv 2))))) pss_nil)
      (pss_cons (ps_asg (pe_call GN hr (by rfl) A0.next.g A0.next.F.kp A0.next.b .nil pass0 (pa_cons (pe_op op_add (pe_call GN hr (by rfl) A0.next.g A0.next.F.kp A0.next.b .nil pass0 (pa_cons (pe_ix ix_list (pv 0) pe_int (fun _ _ => rfl)) pa_nil)) pe_int) pa_nil)) (pg_sub (pv 0) pe_int set_list))
      (pss_one (ps_ret (pe_op op_mod (pe_op op_fdiv (pe_ix ix_list (pv 0) pe_int (fun _ _ => rfl)) pe_int) (pv 1))))), ?_⟩
    refine ⟨_, rfl, p, _, 1, .int f, rfl, rfl, SqL.of hp, rfl, rfl, _, rfl, ?_⟩
    by_cases cf : f = 1
    · have e : decide (V.int f = V.int 1) = true := decide_eq_true (by rw [cf])
      rw [e]
      refine iteT ⟨_, rfl, p, _, 0, .int a, rfl, rfl, SqL.of hp, rfl, _, rfl, a, m, rfl, rfl, hm, ?_⟩
      refine ⟨_, rfl, p, _, 0, .int a, rfl, rfl, SqL.of hp, rfl, _, rfl, a, m, rfl, rfl, wide_div (b := 200) hm hmb (by decide) (by decide), ?_⟩
      refine ⟨_, rfl, p, _, 0, 0, rfl, rfl, hp, rfl, ?_⟩
      exact ⟨_, rfl, q _ _ samex_upd ⟨_, _, _, upd_same⟩ (Int.emod_nonneg _ (by omega)) (Int.emod_lt_of_pos _ hm)⟩
    · have e : decide (V.int f = V.int 1) = false := decide_eq_false fun h => cf (V.int.inj h)
      rw [e]
      refine iteF ⟨_, rfl, p, _, 2, .int c, rfl, rfl, SqL.of hp, rfl, c, rfl, fun r1 => ⟨_, _, rfl, rfl, _, rfl, fun r2 => ?_⟩⟩
      refine ⟨_, rfl, p, _, 2, 2, rfl, rfl, hp, rfl, ?_⟩
      refine ⟨_, rfl, p, _, 2, .int r2, rfl, rfl, SqL.of upd_same, rfl, r2, 64, rfl, rfl, ⟨by decide, by decide⟩, _, rfl, _, m, rfl, rfl, hm, ?_⟩
      exact q _ _ samex_upd ⟨_, _, _, upd_same⟩ (Int.emod_nonneg _ (by omega)) (Int.emod_lt_of_pos _ hm)
/-! ### _law_number -/
def spNumberA : Sp := fun vs H Q _ => ∃ p : Addr, vs = [.ref p] ∧ PenAt H p ∧ ∀ H' z, SameX p H H' → PenAt H' p → Q (.int z) H'
theorem ok_number (A0 : All K mg) : FnOk P w K mg base CX0 3 A0.number.f A0.number.fd ["pen"] spNumberA := by
  have GD : FnOk P w K mg base CX0 2 A0.draw.f A0.draw.fd ["pen", "many"] spDraw := ok_draw A0
  refine A0.number.F.ok sc_number (fun vs H Q E h => ?_) (fun cdv A outer s H vs Q E hr h => ?_)
  · obtain ⟨p, rfl, _⟩ := h
    rfl
  · obtain ⟨p, rfl, hp, q⟩ := h
    refine ⟨_, pss_cons (ps_set (i := 1) sc_number.nd rfl (.inl rfl) (pe_call GD hr (by rfl) A0.draw.g A0.draw.F.kp A0.draw.b .nil pass0 (pa_cons (pv 0) (pa_cons pe_int pa_nil))))
      (pss_cons (ps_if (pt_cmpR op_lt (pv 1) pe_int (nomark _)) (pss_one (ps_ret (pe_op op_sub (pe_call GD hr (by rfl) A0.draw.g A0.draw.F.kp A0.draw.b .nil pass0 (pa_cons (pv 0) (pa_cons pe_int pa_nil))) pe_int))) pss_nil)
      (pss_cons (ps_if (pt_cmpR op_lt (pv 1) pe_int (nomark _)) (pss_one (ps_ret (pe_op op_sub (pe_call GD hr (by rfl) A0.draw.g A0.draw.F.kp A0.draw.b .nil pass0 (pa_cons (pv 0) (pa_cons pe_int pa_nil))) pe_int))) pss_nil)
      (pss_one (ps_ret (pe_op op_mulW (pe_op op_sub (pe_call GD hr (by rfl) A0.draw.g A0.draw.F.kp A0.draw.b .nil pass0 (pa_cons (pv 0) (pa_cons (pe_op op_mul pe_int (pe_op op_pow pe_int pe_int)) pa_nil))) (pe_op op_pow pe_int pe_int)) (pe_op op_pow pe_int pe_int)))))), ?_⟩
    refine ⟨_, rfl, p, 8, rfl, hp, by decide, by decide, fun H1 r1 x1 p1 a1 b1 => ?_⟩
    refine ⟨_, rfl, r1, 5, rfl, rfl, _, rfl, ite2 (fun _ => ?_) (fun _ => ?_)⟩
    · exact ⟨_, rfl, p, 13, rfl, p1, by decide, by decide, fun H2 r2 x2 p2 a2 b2 => ⟨_, _, rfl, rfl, q _ _ (x1.trans x2) p2⟩⟩
    · refine ⟨_, rfl, r1, 7, rfl, rfl, _, rfl, ite2 (fun _ => ?_) (fun _ => ?_)⟩
      · exact ⟨_, rfl, p, 2001, rfl, p1, by decide, by decide, fun H2 r2 x2 p2 a2 b2 => ⟨_, _, rfl, rfl, q _ _ (x1.trans x2) p2⟩⟩
      · refine ⟨_, rfl, 10, 30, rfl, rfl, ⟨by decide, by decide, by decide⟩, 2, 10 ^ 30, rfl, rfl, .inl ⟨by decide, by decide⟩, ?_⟩
        refine ⟨p, 2 * 10 ^ 30, rfl, p1, by decide, by decide, fun H2 r2 x2 p2 a2 b2 => ?_⟩
        refine ⟨10, 30, rfl, rfl, ⟨by decide, by decide, by decide⟩, r2, 10 ^ 30, rfl, rfl, 10, 28, rfl, rfl, ⟨by decide, by decide, by decide⟩, r2 - 10 ^ 30, 10 ^ 28, rfl, rfl, ?_, q _ _ (x1.trans x2) p2⟩
        refine wide_mul (a := 200) (b := 200) ?_ (by decide) (by decide) (by decide) (by decide)
        have e : (2 : Int) * 10 ^ 30 < 2 ^ 199 := by decide
        have e2 : (2 : Int) ^ 199 < 2 ^ 200 := by decide
        have : (r2 - 10 ^ 30).natAbs < (2 ^ 200 : Int).natAbs := by omega
        simpa using this
end
end Gw

namespace Gw
open PySem PySem.Spec PyProof.Rows L2 GwR
theorem atI_in {α : Type} {l : List α} {z : Int} (h0 : 0 ≤ z) (h1 : z < (l.length : Nat)) : ∃ v, v ∈ l ∧ atI l z = some v := by
  have hj : z.toNat < l.length := by omega
  have e : ((z.toNat : Nat) : Int) = z := by omega
  have r : atI l ((z.toNat : Nat) : Int) = some l[z.toNat] := atI_nat (List.getElem?_eq_getElem hj)
  rw [e] at r
  exact ⟨l[z.toNat], List.getElem_mem hj, r⟩
def abc : Str := "abcdefghijklmnopqrstuvwxyz"
theorem abc_len : abc.cps.toList.length = 26 := by decide +kernel
theorem abc_len' : abc.length ≤ sizeLine := by
  have : abc.length = 26 := by decide +kernel
  rw [this, sizeLine_eq]
  decide
section
variable {P : Program} {w : World} {K : PySem.W.Frag} {mg : Str → Option Value} {base : Heap}
/-! ### _law_names -/
def spNames : Sp := fun vs H Q _ => ∃ p : Addr, vs = [.ref p] ∧ PenAt H p ∧ ∀ H' l xs, SameX p H H' → PenAt H' p → H l = none → H' l = some (.lst xs) → xs.length = 8 → Q (.ref l) H'
theorem ok_names (A0 : All K mg) : FnOk P w K mg base CX0 3 A0.names.f A0.names.fd ["pen"] spNames := by
  have GD : FnOk P w K mg base CX0 2 A0.draw.f A0.draw.fd ["pen", "many"] spDraw := ok_draw A0
  refine A0.names.F.ok sc_names (fun vs H Q E h => ?_) (fun cdv A outer s H vs Q E hr h => ?_)
  · obtain ⟨p, rfl, _⟩ := h
    rfl
  · obtain ⟨p, rfl, hp, q⟩ := h
    refine ⟨_, pss_cons (ps_set (i := 1) sc_names.nd rfl (.inr rfl) pe_str)
      (pss_cons (ps_set (i := 2) sc_names.nd rfl (.inl rfl) (pe_call GD hr (by rfl) A0.draw.g A0.draw.F.kp A0.draw.b .nil pass0 (pa_cons (pv 0) (pa_cons pe_int pa_nil))))
      (pss_cons (ps_set (i := 3) sc_names.nd rfl (.inr rfl) (pe_call GD hr (by rfl) A0.draw.g A0.draw.F.kp A0.draw.b .nil pass0 (pa_cons (pv 0) (pa_cons pe_int pa_nil))))
      (pss_cons (ps_setLc (i := 4) (own := [("k", 7)]) (g := gName 7) (tt := tYes) rfl sc_names.nd rfl rfl (sw_true rfl rfl rfl (by decide +kernel)) (pi_range1 (by rfl) A0.b_range (pa_cons pe_int pa_nil))
          (blkOk_by (N := ["pen", "letters", "way", "first", "names", "word", "at", "k"]) (sc := defScope sNames) (own := [("k", 7)]) (by decide +kernel)) (fun _ _ _ _ _ => pg_name (i := 7) sc_names.nd rfl (Or.inl rfl)) (fun _ _ _ _ _ => pts_nil)
          (fun _ _ _ _ _ => pe_op op_mulS (pe_ix ix_str (pv 1) (pe_op op_mod (pe_op op_add (pv 3) (pe_op op_mul pe_int (pv 7))) pe_int) (fun _ _ => rfl)) (pe_op op_add pe_int (pe_op op_mod (pe_op op_add (pv 3) (pe_op op_mul pe_int (pv 7))) pe_int))))
      (C8.pss_cut (ps_if (pt_cmpR op_eq (pv 2) pe_int (nomark _))
          (pss_cons (ps_set (i := 5) sc_names.nd rfl (.inr rfl) (pe_join pe_str
            (pe_lc (own := [("k", 7)]) (g := gName 7) (tt := tYes) rfl sc_names.nd (pi_range1 (by rfl) A0.b_range (pa_cons pe_int pa_nil))
              (blkOk_by (N := ["pen", "letters", "way", "first", "names", "word", "at", "k"]) (sc := defScope sNames) (own := [("k", 7)]) (by decide +kernel)) (fun _ _ _ _ _ => pg_name (i := 7) sc_names.nd rfl (Or.inl rfl)) (fun _ _ _ _ _ => pts_nil)
              (fun _ _ _ _ _ => pe_ix ix_str (pv 1) (pe_op op_mod (pe_op op_add (pv 3) (pe_op op_mul pe_int (pv 7))) pe_int) (fun _ _ => rfl)))))
          (pss_one (ps_setLc (i := 4) (own := [("k", 7)]) (g := gName 7) (tt := tYes) rfl sc_names.nd rfl rfl (sw_true rfl rfl rfl (by decide +kernel)) (pi_range1 (by rfl) A0.b_range (pa_cons pe_int pa_nil))
              (blkOk_by (N := ["pen", "letters", "way", "first", "names", "word", "at", "k"]) (sc := defScope sNames) (own := [("k", 7)]) (by decide +kernel)) (fun _ _ _ _ _ => pg_name (i := 7) sc_names.nd rfl (Or.inl rfl)) (fun _ _ _ _ _ => pts_nil)
              (fun _ _ _ _ _ => pe_slice sl_str (pv 5) po_none (po_some (pe_op op_add (pv 7) pe_int)))))) pss_nil)
      (C8.pss_cut (ps_if (pt_cmpR op_eq (pv 2) pe_int (nomark _))
          (pss_one (ps_set (i := 4) sc_names.nd rfl (.inl rfl) (pe_lst (pa_cons pe_str (pa_cons pe_str (pa_cons pe_str (pa_cons pe_str (pa_cons pe_str (pa_cons pe_str (pa_cons pe_str (pa_cons pe_str pa_nil))))))))))) pss_nil)
      (pss_cons (ps_set (i := 6) sc_names.nd rfl (.inl rfl) (pe_call GD hr (by rfl) A0.draw.g A0.draw.F.kp A0.draw.b .nil pass0 (pa_cons (pv 0) (pa_cons pe_int pa_nil))))
      (pss_cons (ps_set (i := 4) sc_names.nd rfl (.inl rfl) (pe_op op_cat (pe_slice sl_list (pv 4) (po_some (pv 6)) po_none) (pe_slice sl_list (pv 4) po_none (po_some (pv 6)))))
      (pss_cons (ps_if (pt_cmpR op_eq (pe_call GD hr (by rfl) A0.draw.g A0.draw.F.kp A0.draw.b .nil pass0 (pa_cons (pv 0) (pa_cons pe_int pa_nil))) pe_int (nomark _))
          (pss_one (ps_expr (pe_bm0 PySem.F.plainAttrs_list PySem.F.slot_list_reverse PySem.F.type_list_reverse mt_reverse (pv 4)))) pss_nil)
      (pss_one (ps_ret (pv 4))))))))))), ?_⟩
    refine ⟨_, rfl, p, 3, rfl, hp, by decide, by decide, fun H1 r1 x1 p1 a1 b1 => ?_⟩
    refine ⟨_, rfl, p, 26, rfl, p1, by decide, by decide, fun H2 r2 x2 p2 a2 b2 => ?_⟩
    have x02 := x1.trans x2
    have letter : ∀ z : Int, ∃ c, atI abc.cps.toList (z % 26) = some c := fun z => by
      obtain ⟨v, _, e⟩ := atI_in (l := abc.cps.toList) (z := z % 26) (Int.emod_nonneg _ (by decide)) (by rw [abc_len]; exact Int.emod_lt_of_pos _ (by decide))
      exact ⟨v, e⟩
    -- names by letters
    refine ⟨8, rfl, by decide, by decide, fun L hL => lc_range (lo := 0) (n := 8) (fun i H' => Same H2 H' ∧ ∃ xs, H' L = some (.lst xs) ∧ xs.length = i) ⟨same_upd hL, [], upd_same, rfl⟩ ?_ ?_⟩
    · rintro i H3 hi ⟨s3, xs, hl, hx⟩
      obtain ⟨c, hc⟩ := letter (r2 + 5 * (0 + (i : Int)))
      have m0 := Int.emod_nonneg (r2 + 3 * (0 + (i : Int))) (show (8 : Int) ≠ 0 by decide)
      have m1 := Int.emod_lt_of_pos (r2 + 3 * (0 + (i : Int))) (show (0 : Int) < 8 by decide)
      refine ⟨rfl, _, rfl, _, rfl, _, rfl, 5, _, rfl, rfl, .inl ⟨by decide, by decide⟩, _, _, rfl, rfl, _, _, rfl, rfl, by show (0 : Int) < 26; decide, abc, _, c, rfl, rfl, abc_len', hc, ?_⟩
      refine ⟨_, rfl, _, rfl, 3, _, rfl, rfl, .inl ⟨by decide, by decide⟩, _, _, rfl, rfl, _, _, rfl, rfl, by show (0 : Int) < 8; decide, _, _, rfl, rfl, _, _, rfl, rfl, rfl, by omega, by omega, fun r => ?_⟩
      refine ⟨xs, hl, room1000 (by omega), Same.upd_new s3 hL, _, upd_same, ?_⟩
      rw [List.length_append, hx]
      rfl
    · rintro H3 ⟨s3, xs, hl, hx⟩
      have x03 : SameX p H H3 := x02.trans (same_x s3)
      have p3 : PenAt H3 p := p2.same s3
      have hLn : H L = none := by
        cases z : H L with
        | none => rfl
        | some o =>
          have := x02 L o (fun e => p2.ne hL e.symm) z
          rw [hL] at this
          cases this
      refine ⟨fun σ' H' => SameX p H H' ∧ PenAt H' p ∧ ∃ l xs v5, H l = none ∧ l ≠ p ∧ H' l = some (.lst xs) ∧ xs.length = 8 ∧ σ' = [some (.ref p), some (.str abc), some (.int r1), some (.int r2), some (.ref l), v5, none, none], ?_, ?_⟩
      · refine ⟨_, rfl, rfl, _, rfl, ite2 (fun _ => ?_) (fun _ => ?_)⟩
        · -- word
          refine ⟨⟨_, rfl⟩, 8, rfl, by decide, by decide, fun M hM => lc_range (lo := 0) (n := 8) (fun i H' => Same H3 H' ∧ ∃ ys : List Str, H' M = some (.lst (ys.map V.str)) ∧ ys.length = i ∧ ∀ y ∈ ys, y.length = 1) ⟨same_upd hM, [], upd_same, rfl, fun y hy => absurd hy (by simp)⟩ ?_ ?_⟩
          · rintro i H4 hi ⟨s4, ys, hm, hy, h1⟩
            obtain ⟨c, hc⟩ := letter (r2 + 7 * (0 + (i : Int)))
            refine ⟨rfl, _, rfl, _, rfl, _, rfl, 7, _, rfl, rfl, .inl ⟨by decide, by decide⟩, _, _, rfl, rfl, _, _, rfl, rfl, by show (0 : Int) < 26; decide, abc, _, c, rfl, rfl, abc_len', hc, ?_⟩
            refine ⟨_, hm, by rw [List.length_map]; exact room1000 (by omega), Same.upd_new s4 hM, ys ++ [⟨#[c]⟩], ?_, ?_, ?_⟩
            · rw [upd_same, List.map_append]
              rfl
            · rw [List.length_append, hy]
              rfl
            · intro y hy2
              rcases List.mem_append.mp hy2 with h | h
              · exact h1 y h
              · rw [List.mem_singleton.mp h]
                rfl
          · rintro H4 ⟨s4, ys, hm, hy, h1⟩
            have hsum : ∀ zs : List Str, (∀ y ∈ zs, y.length = 1) → (zs.map (·.length)).sum = zs.length := by
              intro zs
              induction zs with
              | nil => intro _; rfl
              | cons y zs ih =>
                intro h
                rw [List.map_cons, List.sum_cons, ih fun z hz => h z (List.mem_cons_of_mem _ hz), h y List.mem_cons_self, List.length_cons]
                omega
            have hjl : (ys.map (·.length)).sum + ys.length * ("" : Str).length ≤ 16777216 := by
              rw [hsum ys h1, show ("" : Str).length = 0 from rfl, hy]
              decide
            refine ⟨_, M, ys, rfl, rfl, .inl (SqL.of hm), hjl, ?_⟩
            have hwl : (Txt.join "" ys).length ≤ sizeLine := by
              rw [TL.join_eq]
              refine Nat.le_trans (StrLaws.join_length_le "" ys) ?_
              rw [hsum ys h1, show ("" : Str).length = 0 from rfl, hy, sizeLine_eq]
              decide
            -- names by word
            refine ⟨8, rfl, by decide, by decide, fun N hN => lc_range (lo := 0) (n := 8) (fun i H' => Same H4 H' ∧ ∃ xs, H' N = some (.lst xs) ∧ xs.length = i) ⟨same_upd hN, [], upd_same, rfl⟩ ?_ ?_⟩
            · rintro i H5 hi ⟨s5, xs, hn, hx⟩
              refine ⟨rfl, _, rfl, _, rfl, _, 1, rfl, rfl, _, rfl, _, rfl, hwl, ?_⟩
              refine ⟨xs, hn, room1000 (by omega), Same.upd_new s5 hN, _, upd_same, ?_⟩
              rw [List.length_append, hx]
              rfl
            · rintro H5 ⟨s5, xs, hn, hx⟩
              have s35 := s4.trans s5
              have hN3 : H3 N = none := s4.free hN
              refine ⟨x03.trans (same_x s35), p3.same s35, N, xs, _, ?_, ?_, hn, hx, rfl⟩
              · cases z : H N with
                | none => rfl
                | some o =>
                  have := x03 N o (fun e => p3.ne hN3 e.symm) z
                  rw [hN3] at this
                  cases this
              · exact fun e => p3.ne hN3 e.symm
        · exact ⟨x03, p3, L, xs, _, hLn, fun e => p2.ne hL e.symm, hl, hx, rfl⟩
      · rintro σ' H4 ⟨x4, p4, l, xs, v5, hln, hlp, hl4, hx4, rfl⟩
        refine ⟨fun σ' H' => SameX p H H' ∧ PenAt H' p ∧ ∃ l xs v5, H l = none ∧ l ≠ p ∧ H' l = some (.lst xs) ∧ xs.length = 8 ∧ σ' = [some (.ref p), some (.str abc), some (.int r1), some (.int r2), some (.ref l), v5, none, none], ?_, ?_⟩
        · refine ⟨_, rfl, rfl, _, rfl, ite2 (fun _ => ?_) (fun _ => ?_)⟩
          · refine ⟨by show 8 ≤ sizeLine; decide, fun N hN => ⟨x4.trans (same_x (same_upd hN)), p4.same (same_upd hN), N, _, _, ?_, fun e => p4.ne hN e.symm, upd_same, rfl, rfl⟩⟩
            cases z : H N with
            | none => rfl
            | some o =>
              have := x4 N o (fun e => p4.ne hN e.symm) z
              rw [hN] at this
              cases this
          · exact ⟨x4, p4, l, xs, _, hln, hlp, hl4, hx4, rfl⟩
        · rintro σ' H5 ⟨x5, p5, l, xs, v5, hln, hlp, hl5, hx5, rfl⟩
          refine ⟨_, rfl, p, 8, rfl, p5, by decide, by decide, fun H6 r6 x6 p6 a6 b6 => ?_⟩
          have hl6 : H6 l = some (.lst xs) := x6 _ _ hlp hl5
          have x06 := x5.trans x6
          obtain ⟨n, rfl⟩ : ∃ n : Nat, r6 = (n : Int) := ⟨r6.toNat, by omega⟩
          have hn8 : n < 8 := by omega
          refine ⟨_, rfl, _, rfl, _, rfl, l, xs, rfl, SqL.of hl6, fun A nA => ?_⟩
          have hlA : (upd H6 A (.lst (cutV xs (some (n : Int)) none))) l = some (.lst xs) := by rw [upd_ne (ne_of_none hl6 nA)]; exact hl6
          refine ⟨_, rfl, _, rfl, _, rfl, l, xs, rfl, SqL.of hlA, fun B nB => ?_⟩
          have hAB : A ≠ B := (upd_none nB).1.symm
          have e1 : (cutV xs (some (n : Int)) none).length = 8 - n := by
            unfold cutV
            rw [HT.sIx_nat, HT.sIx_none, hx5, List.length_take, List.length_drop, hx5]
            omega
          have e2 : (cutV xs none (some (n : Int))).length = n := by
            unfold cutV
            rw [HT.sIx_nat, HT.sIx_none, hx5, List.length_take, List.length_drop, hx5]
            omega
          refine ⟨A, B, _, _, rfl, rfl, by rw [upd_ne hAB, upd_same], upd_same, by rw [e1, e2, sizeLine_eq]; omega, fun N hN => ?_⟩
          have hN6 : H6 N = none := by
            obtain ⟨_, h⟩ := upd_none hN
            exact (upd_none h).2
          have s7 : Same H6 (upd (upd (upd H6 A (.lst (cutV xs (some (n : Int)) none))) B (.lst (cutV xs none (some (n : Int))))) N (.lst (cutV xs (some (n : Int)) none ++ cutV xs none (some (n : Int))))) :=
            Same.upd_new (Same.upd_new (same_upd nA) (upd_none nB).2) hN6
          have p7 := p6.same s7
          have x07 := x06.trans (same_x s7)
          have hNp : N ≠ p := fun e => p6.ne hN6 e.symm
          have hNn : H N = none := by
            cases z : H N with
            | none => rfl
            | some o =>
              have := x06 N o hNp z
              rw [hN6] at this
              cases this
          have hlen : (cutV xs (some (n : Int)) none ++ cutV xs none (some (n : Int))).length = 8 := by rw [List.length_append, e1, e2]; omega
          refine ⟨_, rfl, p, 2, rfl, p7, by decide, by decide, fun H8 r8 x8 p8 a8 b8 => ?_⟩
          have hN8 : H8 N = some (.lst (cutV xs (some (n : Int)) none ++ cutV xs none (some (n : Int)))) := x8 _ _ hNp upd_same
          refine ⟨rfl, _, rfl, ite2 (fun _ => ?_) (fun _ => ?_)⟩
          · refine ⟨_, rfl, .inl ⟨rfl, _, SqL.of hN8⟩, N, _, rfl, rfl, hN8, _, rfl, ?_⟩
            exact q _ N _ (fun b o nb e => by rw [upd_ne (ne_of_none e hNn)]; exact (x07.trans x8) b o nb e) (p8.upd (Ne.symm hNp)) hNn upd_same (by rw [List.length_reverse]; exact hlen)
          · exact ⟨_, rfl, q _ N _ (x07.trans x8) p8 hNn hN8 hlen⟩
end
end Gw

namespace Gw
open PySem PySem.Spec PyProof.Rows L2 GwR
theorem x_free {H H' : Hp} {p l : Addr} (x : SameX p H H') (n : l ≠ p) (h : H' l = none) : H l = none := by
  cases z : H l with
  | none => rfl
  | some o =>
    have := x l o n z
    rw [h] at this
    cases this
theorem PenAt.nw {H : Hp} {p l : Addr} (h : PenAt H p) (n : H l = none) : l ≠ p := fun e => h.ne n e.symm
theorem TermV.imm {K : PySem.W.Frag} {H H' : Hp} (i : Imm H H') {xs : List V} {T : Tm} (h : Paired (TermV K H) xs T) : Paired (TermV K H') xs T := Paired.mapP h fun _ _ ⟨a, e, t⟩ => ⟨a, e, tup_imm i t⟩
theorem PartV.imm {K : PySem.W.Frag} {H H' : Hp} (i : Imm H H') {xs : List V} {D : Dr} (h : Paired (PartV K H) xs D) : Paired (PartV K H') xs D := Paired.mapP h fun _ _ ⟨a, e, t⟩ => ⟨a, e, tup_imm i t⟩
theorem six {r : Int} (h0 : 0 ≤ r) (h1 : r < 6) : r = 0 ∨ r = 1 ∨ r = 2 ∨ r = 3 ∨ r = 4 ∨ r = 5 := by omega
theorem at_len {α : Type} {l : List α} {i : Nat} (h : i < l.length) : ∃ v, v ∈ l ∧ atI l (i : Int) = some v := ⟨l[i], List.getElem_mem h, atI_nat (List.getElem?_eq_getElem h)⟩
theorem atI_map {l : List Int} {z : Int} (h0 : 0 ≤ z) (h1 : z < (l.length : Nat)) : ∃ v, v ∈ l ∧ atI (l.map V.int) z = some (V.int v) := by
  have hj : z.toNat < l.length := by omega
  refine ⟨l[z.toNat], List.getElem_mem hj, at_of (j := z.toNat) (by omega) ?_⟩
  rw [List.getElem?_map, List.getElem?_eq_getElem hj]
  rfl
section
variable {P : Program} {w : World} {K : PySem.W.Frag} {mg : Str → Option Value} {base : Heap}
/-! ### _law_counted -/
def spCounted (K : PySem.W.Frag) : Sp := fun vs H Q _ => ∃ p : Addr, vs = [.ref p] ∧ PenAt H p ∧ ∀ H' d D, SameX p H H' → PenAt H' p → DrAt K H' d D → 1 ≤ D.length → D.length ≤ 8 → (∀ q ∈ D, q.2.1 ≤ q.2.2 ∧ q.2.2 - q.2.1 < 400) → Q (.ref d) H'
theorem ok_counted (A0 : All K mg) : FnOk P w K mg base CX0 4 A0.counted.f A0.counted.fd ["pen"] (spCounted K) := by
  have GD : FnOk P w K mg base CX0 2 A0.draw.f A0.draw.fd ["pen", "many"] spDraw := ok_draw A0
  have GN : FnOk P w K mg base CX0 3 A0.names.f A0.names.fd ["pen"] spNames := ok_names A0
  have GU : FnOk P w K mg base CX0 3 A0.number.f A0.number.fd ["pen"] spNumberA := ok_number A0
  refine A0.counted.F.ok sc_counted (fun vs H Q E h => ?_) (fun cdv A outer s H vs Q E hr h => ?_)
  · obtain ⟨p, rfl, _⟩ := h
    rfl
  · obtain ⟨p, rfl, hp, q⟩ := h
    have hr2 : Room 2 _ := hr.mono (by decide)
    refine ⟨_, pss_cons (ps_set (i := 1) sc_counted.nd rfl (.inl rfl) (pe_call GN hr (by rfl) A0.names.g A0.names.F.kp A0.names.b .nil pass0 (pa_cons (pv 0) pa_nil)))
      (pss_cons (ps_setLc (i := 2) (own := [("k", 4)]) (g := gName 4) (tt := tYes) rfl sc_counted.nd rfl rfl (sw_true rfl rfl rfl (by decide +kernel))
          (pi_range1 (by rfl) A0.b_range (pa_cons (pe_op op_add pe_int (pe_call GD hr2 (by rfl) A0.draw.g A0.draw.F.kp A0.draw.b .nil pass0 (pa_cons (pv 0) (pa_cons pe_int pa_nil)))) pa_nil))
          (blkOk_by (N := ["pen", "names", "wides", "drawing", "k", "low"]) (sc := defScope sCounted) (own := [("k", 4)]) (by decide +kernel)) (fun _ _ _ _ _ => pg_name (i := 4) sc_counted.nd rfl (Or.inl rfl)) (fun _ _ _ _ _ => pts_nil)
          (fun _ _ _ _ _ => pe_op op_add pe_int (pe_call GD hr2 (by rfl) A0.draw.g A0.draw.F.kp A0.draw.b .nil pass0 (pa_cons (pv 0) (pa_cons pe_int pa_nil)))))
      (C8.pss_cut (ps_if (pt_cmpR op_eq (pe_call GD hr2 (by rfl) A0.draw.g A0.draw.F.kp A0.draw.b .nil pass0 (pa_cons (pv 0) (pa_cons pe_int pa_nil))) pe_int (nomark _))
          (pss_one (ps_set (i := 2) sc_counted.nd rfl (.inl rfl) (pe_ix ix_list (pe_lst (pa_cons (pe_lst (pa_cons pe_int pa_nil)) (pa_cons (pe_lst (pa_cons pe_int pa_nil)) (pa_cons (pe_lst (pa_cons pe_int pa_nil))
            (pa_cons (pe_lst (pa_cons pe_int (pa_cons pe_int (pa_cons pe_int pa_nil)))) (pa_cons (pe_op op_rep (pe_lst (pa_cons pe_int pa_nil)) pe_int) (pa_cons (pe_lst (pa_cons pe_int (pa_cons pe_int pa_nil))) pa_nil)))))))
            (pe_call GD hr2 (by rfl) A0.draw.g A0.draw.F.kp A0.draw.b .nil pass0 (pa_cons (pv 0) (pa_cons pe_int pa_nil))) (fun _ _ => rfl)))) pss_nil)
      (pss_cons (ps_set (i := 3) sc_counted.nd rfl (.inl rfl) (pe_lst pa_nil))
      (pss_cons (ps_for PassesOwn.never rfl (pi_range1 (by rfl) A0.b_range (pa_cons (pe_callB call_len_seq (by rfl) A0.b_len PySem.boot_len (pa_cons (pv 2) pa_nil)) pa_nil)) (pg_name (i := 4) sc_counted.nd rfl (.inl rfl))
        (pss_cons (ps_set (i := 5) sc_counted.nd rfl (.inl rfl) (pe_call GU hr (by rfl) A0.number.g A0.number.F.kp A0.number.b .nil pass0 (pa_cons (pv 0) pa_nil)))
        (pss_one (ps_expr (pe_bm PySem.F.plainAttrs_list PySem.F.slot_list_append PySem.F.type_list_append mt_append (pv 3) (pa_cons
          (pe_tup (pa_cons (pe_ix ix_list (pv 1) (pv 4) (fun _ _ => rfl)) (pa_cons (pv 5) (pa_cons (pe_op op_sub (pe_op op_add (pv 5) (pe_ix ix_list (pv 2) (pv 4) (fun _ _ => rfl))) pe_int) pa_nil)))) pa_nil))))))
      (pss_one (ps_ret (pe_callTy call_tuple_of (by rfl) A0.b_tuple (by decide +kernel) (pa_cons (pv 3) pa_nil)))))))), ?_⟩
    refine ⟨_, rfl, p, rfl, hp, fun H1 ln ns x1 p1 n1 hn1 hnl => ?_⟩
    have hnp : ln ≠ p := fun e => hp.ne n1 e.symm
    -- wides
    refine ⟨_, rfl, p, 8, rfl, p1, by decide, by decide, fun H2 r2 x2 p2 a2 b2 => ⟨1, r2, rfl, rfl, _, rfl, by omega, by omega, fun D hD => ?_⟩⟩
    have x02 := x1.trans x2
    have hDp : D ≠ p := p2.nw hD
    refine lc_range (lo := 0) (n := (1 + r2).toNat) (fun i H' => SameX p H2 H' ∧ PenAt H' p ∧ ∃ ws : List Int, H' D = some (.lst (ws.map V.int)) ∧ ws.length = i ∧ ∀ w ∈ ws, 1 ≤ w ∧ w ≤ 400) ⟨same_x (same_upd hD), p2.same (same_upd hD), [], upd_same, rfl, fun w hw => absurd hw (by simp)⟩ ?_ ?_
    · rintro i H3 hi ⟨x3, p3, ws, hw, hwl, hwb⟩
      refine ⟨rfl, _, rfl, p, 4, rfl, p3, by decide, by decide, fun H4 r4 x4 p4 a4 b4 => ⟨1, r4, rfl, rfl, ?_⟩⟩
      have hw4 : H4 D = some (.lst (ws.map V.int)) := x4 _ _ hDp hw
      refine ⟨_, hw4, by rw [List.length_map]; exact room1000 (by omega), fun b o nb e => ?_, p4.upd (Ne.symm hDp), ws ++ [1 + r4], ?_, ?_, ?_⟩
      · rw [upd_ne (ne_of_none e hD)]
        exact x4 b o nb (x3 b o nb e)
      · rw [upd_same, List.map_append]
        rfl
      · rw [List.length_append, hwl]
        rfl
      · intro w hw2
        rcases List.mem_append.mp hw2 with h | h
        · exact hwb w h
        · rw [List.mem_singleton.mp h]
          omega
    · rintro H3 ⟨x3, p3, ws, hw, hwl, hwb⟩
      have x03 := x02.trans x3
      have hn3 : H3 ln = some (.lst ns) := x3 _ _ hnp (x2 _ _ hnp hn1)
      refine ⟨fun σ' H' => SameX p H H' ∧ PenAt H' p ∧ H' ln = some (.lst ns) ∧ ∃ (lw : Addr) (ws : List Int), lw ≠ p ∧ H' lw = some (.lst (ws.map V.int)) ∧ 1 ≤ ws.length ∧ ws.length ≤ 8 ∧ (∀ w ∈ ws, 1 ≤ w ∧ w ≤ 400) ∧ σ' = [some (.ref p), some (.ref ln), some (.ref lw), none, none, none], ?_, ?_⟩
      · refine ⟨_, rfl, p, 6, rfl, p3, by decide, by decide, fun H4 r4 x4 p4 a4 b4 => ⟨rfl, _, rfl, ite2 (fun _ => ?_) (fun _ => ?_)⟩⟩
        · have hn4 : H4 ln = some (.lst ns) := x4 _ _ hnp hn3
          refine ⟨by show 1 ≤ sizeLine; decide, fun L1 n1 => ⟨by show 1 ≤ sizeLine; decide, fun L2 n2 => ⟨by show 1 ≤ sizeLine; decide, fun L3 n3 => ⟨by show 3 ≤ sizeLine; decide, fun L4 n4 => ⟨by show 1 ≤ sizeLine; decide, fun L0 n0 => ?_⟩⟩⟩⟩⟩
          refine ⟨L0, 8, _, rfl, rfl, upd_same, by decide, by decide, by show 1 * 8 ≤ sizeLine; decide, fun L5 n5 => ⟨by show 2 ≤ sizeLine; decide, fun L6 n6 => ⟨by show 6 ≤ sizeLine; decide, fun LL nL => ?_⟩⟩⟩
          have s1 := same_upd (o := .lst [.int 400]) n1
          have s2 := same_upd (o := .lst [.int 134]) n2
          have s3 := same_upd (o := .lst [.int 200]) n3
          have s4 := same_upd (o := .lst [.int 60, .int 7, .int 1]) n4
          have s0 := same_upd (o := .lst [.int 2]) n0
          have s5 := same_upd (o := .lst (List.replicate (8 : Int).toNat [V.int 2]).flatten) n5
          have s6 := same_upd (o := .lst [.int 1, .int 100]) n6
          have sL := same_upd (o := .lst [.ref L1, .ref L2, .ref L3, .ref L4, .ref L5, .ref L6]) nL
          have t6 := sL
          have t5 := s6.trans t6
          have t4 := s0.trans (s5.trans t5)
          have t3 := s4.trans t4
          have t2 := s3.trans t3
          have t1 := s2.trans t2
          have t0 := s1.trans t1
          have g1 := t1 L1 _ upd_same
          have g2 := t2 L2 _ upd_same
          have g3 := t3 L3 _ upd_same
          have g4 := t4 L4 _ upd_same
          have g5 := t5 L5 _ upd_same
          have g6 := t6 L6 _ upd_same
          have pL := p4.same t0
          have fr : ∀ {L : Addr}, H4 L = none → L ≠ p := fun h => p4.nw h
          have f1 := fr n1
          have f2 := fr (s1.free n2)
          have f3 := fr (s1.free (s2.free n3))
          have f4 := fr (s1.free (s2.free (s3.free n4)))
          have f5 := fr (s1.free (s2.free (s3.free (s4.free (s0.free n5)))))
          have f6 := fr (s1.free (s2.free (s3.free (s4.free (s0.free (s5.free n6))))))
          have fL := fr (s1.free (s2.free (s3.free (s4.free (s0.free (s5.free (s6.free nL)))))))
          refine ⟨_, rfl, p, 6, rfl, pL, by decide, by decide, fun H5 r5 x5 p5 a5 b5 => ?_⟩
          have hLL := x5 LL _ fL upd_same
          have xx : SameX p H H5 := ((x03.trans x4).trans (same_x t0)).trans x5
          have hn5 : H5 ln = some (.lst ns) := x5 _ _ hnp (t0 _ _ hn4)
          rcases six a5 b5 with e | e | e | e | e | e <;> subst e
          · exact ⟨LL, _, 0, .ref L1, rfl, rfl, SqL.of hLL, rfl, xx, p5, hn5, L1, [400], f1, x5 _ _ f1 g1, by decide, by decide, by decide, rfl⟩
          · exact ⟨LL, _, 1, .ref L2, rfl, rfl, SqL.of hLL, rfl, xx, p5, hn5, L2, [134], f2, x5 _ _ f2 g2, by decide, by decide, by decide, rfl⟩
          · exact ⟨LL, _, 2, .ref L3, rfl, rfl, SqL.of hLL, rfl, xx, p5, hn5, L3, [200], f3, x5 _ _ f3 g3, by decide, by decide, by decide, rfl⟩
          · exact ⟨LL, _, 3, .ref L4, rfl, rfl, SqL.of hLL, rfl, xx, p5, hn5, L4, [60, 7, 1], f4, x5 _ _ f4 g4, by decide, by decide, by decide, rfl⟩
          · exact ⟨LL, _, 4, .ref L5, rfl, rfl, SqL.of hLL, rfl, xx, p5, hn5, L5, [2, 2, 2, 2, 2, 2, 2, 2], f5, x5 _ _ f5 g5, by decide, by decide, by decide, rfl⟩
          · exact ⟨LL, _, 5, .ref L6, rfl, rfl, SqL.of hLL, rfl, xx, p5, hn5, L6, [1, 100], f6, x5 _ _ f6 g6, by decide, by decide, by decide, rfl⟩
        · exact ⟨x03.trans x4, p4, x4 _ _ hnp hn3, D, ws, hDp, x4 _ _ hDp hw, by omega, by omega, hwb, rfl⟩
      · rintro σ' H4 ⟨x4, p4, hn4, lw, ws, hwp, hw4, hl1, hl8, hwb, rfl⟩
        refine ⟨Nat.zero_le _, fun G nG => ?_⟩
        have hGp : G ≠ p := p4.nw nG
        have hGn : H G = none := x_free x4 hGp nG
        have hlnG : ln ≠ G := ne_of_none hn4 nG
        have hlwG : lw ≠ G := ne_of_none hw4 nG
        have sG := same_upd (o := .lst []) nG
        refine ⟨_, rfl, lw, _, rfl, .inl (SqL.of (sG _ _ hw4)), _, rfl, by omega, by rw [List.length_map]; omega, ?_⟩
        rw [List.length_map]
        refine for_range (lo := 0) (n := ((ws.length : Nat) : Int).toNat) (fun i σ H' => SameX p H H' ∧ PenAt H' p ∧ H' ln = some (.lst ns) ∧ H' lw = some (.lst (ws.map V.int)) ∧ ∃ ds D v4 v5, H' G = some (.lst ds) ∧ Paired (PartV K H') ds D ∧ D.length = i ∧ (∀ q ∈ D, q.2.1 ≤ q.2.2 ∧ q.2.2 - q.2.1 < 400) ∧
            σ = [some (.ref p), some (.ref ln), some (.ref lw), some (.ref G), v4, v5])
          ⟨x4.trans (same_x sG), p4.same sG, sG _ _ hn4, sG _ _ hw4, [], [], none, none, upd_same, .nil, rfl, fun q hq => absurd hq (by simp), rfl⟩ ?_ ?_
        · rintro i σ H5 hi ⟨x5, p5, hn5, hw5, ds, D, v4, v5, hG5, hP5, hDl, hDb, rfl⟩
          have hi' : i < ws.length := by
            rw [Int.toNat_natCast] at hi
            exact hi
          rw [show (0 : Int) + (i : Int) = (i : Int) by omega]
          refine ⟨_, rfl, p, rfl, p5, fun H6 z x6 p6 => ?_⟩
          have hG6 : H6 G = some (.lst ds) := x6 _ _ hGp hG5
          have hn6 := x6 _ _ hnp hn5
          have hw6 := x6 _ _ hwp hw5
          obtain ⟨nm, _, hnm⟩ := at_len (l := ns) (i := i) (by omega)
          obtain ⟨wd, hwd, ewd⟩ := atI_map (l := ws) (z := (i : Int)) (by omega) (by omega)
          obtain ⟨w1, w2⟩ := hwb wd hwd
          refine ⟨_, rfl, .inl ⟨rfl, _, SqL.of hG6⟩, _, rfl, _, rfl, ln, _, _, nm, rfl, rfl, SqL.of hn6, hnm, _, rfl, _, rfl, _, rfl, _, rfl, lw, _, _, .int wd, rfl, rfl, SqL.of hw6, ewd, z, wd, rfl, rfl, z + wd, 1, rfl, rfl, by show 3 ≤ sizeLine; decide, fun Np nN => ?_⟩
          have hGN := ne_of_none hG6 nN
          have sN := same_upd (o := .tup [nm, .int z, .int (z + wd - 1)]) nN
          have im6 : Imm H5 H6 := x6.imm p5.mut
          have im7 := imm_mut (o := .lst (ds ++ [.ref Np])) (sN _ _ hG6) trivial
          refine ⟨G, ds, _, rfl, rfl, sN _ _ hG6, ?_, ?_⟩
          · have := paired_len hP5
            exact room1000 (by omega)
          · refine ⟨fun b o nb e => ?_, (p6.same sN).upd (Ne.symm hGp), ?_, ?_, ds ++ [.ref Np], D ++ [(nm, z, z + wd - 1)], _, _, upd_same, ?_, ?_, ?_, rfl⟩
            · rw [upd_ne (ne_of_none e hGn)]
              exact sN _ _ (x6 b o nb (x5 b o nb e))
            · rw [upd_ne hlnG]
              exact sN _ _ hn6
            · rw [upd_ne hlwG]
              exact sN _ _ hw6
            · exact Paired.snoc (PartV.imm im7 (PartV.imm (same_imm sN) (PartV.imm im6 hP5))) ⟨Np, rfl, tup_imm im7 (SqT.of upd_same)⟩
            · rw [List.length_append, hDl]
              rfl
            · intro qq hqq
              rcases List.mem_append.mp hqq with h | h
              · exact hDb qq h
              · rw [List.mem_singleton.mp h]
                show z ≤ z + wd - 1 ∧ z + wd - 1 - z < 400
                omega
        · rintro σ H5 ⟨x5, p5, hn5, hw5, ds, D, v4, v5, hG5, hP5, hDl, hDb, rfl⟩
          rw [Int.toNat_natCast] at hDl
          refine ⟨_, rfl, G, _, rfl, .inl ⟨SqL.of hG5, fun d nd => q _ d D (x5.trans (same_x (same_upd nd))) (p5.same (same_upd nd)) ⟨ds, SqT.of upd_same, PartV.imm (imm_new nd) hP5⟩ (by omega) (by omega) hDb⟩⟩
end
end Gw

namespace Gw
open PySem PySem.Spec PyProof.Rows L2 GwR
theorem least_more {D : Dr} {T : Tm} {i : Nat} {t : Nat × Int} (h : T[i]? = some t) : leastT D (T.take (i + 1)) = leastT D (T.take i) + low1 D t := by
  unfold leastT
  rw [take_more h, List.map_append, List.sum_append]
  show _ + (low1 D t + 0) = _
  rw [Int.add_zero]
theorem great_more {D : Dr} {T : Tm} {i : Nat} {t : Nat × Int} (h : T[i]? = some t) : greatT D (T.take (i + 1)) = greatT D (T.take i) + high1 D t := by
  unfold greatT
  rw [take_more h, List.map_append, List.sum_append]
  show _ + (high1 D t + 0) = _
  rw [Int.add_zero]
theorem min_low {b l h m : Int} (hl : l ≤ h) (hm : m ∈ [b * l, b * h]) (hle : ∀ y ∈ [b * l, b * h], m ≤ y) : m = if 0 < b then b * l else b * h := by
  have h1 := hle (b * l) (by simp)
  have h2 := hle (b * h) (by simp)
  have hm' : m = b * l ∨ m = b * h := by simpa using hm
  by_cases c : 0 < b
  · rw [if_pos c]
    have := Int.mul_le_mul_of_nonneg_left hl (show 0 ≤ b by omega)
    omega
  · rw [if_neg c]
    have := Int.mul_le_mul_of_nonneg_left hl (show 0 ≤ -b by omega)
    rw [Int.neg_mul, Int.neg_mul] at this
    omega
theorem max_high {b l h m : Int} (hl : l ≤ h) (hm : m ∈ [b * l, b * h]) (hle : ∀ y ∈ [b * l, b * h], y ≤ m) : m = if 0 < b then b * h else b * l := by
  have h1 := hle (b * l) (by simp)
  have h2 := hle (b * h) (by simp)
  have hm' : m = b * l ∨ m = b * h := by simpa using hm
  by_cases c : 0 < b
  · rw [if_pos c]
    have := Int.mul_le_mul_of_nonneg_left hl (show 0 ≤ b by omega)
    omega
  · rw [if_neg c]
    have := Int.mul_le_mul_of_nonneg_left hl (show 0 ≤ -b by omega)
    rw [Int.neg_mul, Int.neg_mul] at this
    omega
section
variable {P : Program} {w : World} {K : PySem.W.Frag} {mg : Str → Option Value} {base : Heap}
/-! ### _law_ends -/
def spEnds (K : PySem.W.Frag) : Sp := fun vs H Q _ => ∃ (d t : Addr) (D : Dr) (ts : List V) (T : Tm), vs = [.ref d, .ref t] ∧ DrAt K H d D ∧ SqT K H t ts ∧ Paired (TermV K H) ts T ∧ TOk D.length T ∧ (∀ q ∈ D, q.2.1 ≤ q.2.2) ∧
  ∀ H' p, Same H H' → SqT K H' p [.int (leastT D T), .int (greatT D T)] → Q (.ref p) H'
theorem ok_ends (A0 : All K mg) : FnOk P w K mg base CX0 1 A0.ends.f A0.ends.fd ["drawing", "terms"] (spEnds K) := by
  refine A0.ends.F.ok sc_ends (fun vs H Q E h => ?_) (fun cdv A outer s H vs Q E hr h => ?_)
  · obtain ⟨d, t, D, ts, T, rfl, _⟩ := h
    rfl
  · obtain ⟨d, t, D, ts, T, rfl, ⟨ds, hd, hdp⟩, ht, htp, hok, hlh, q⟩ := h
    refine ⟨_, pss_cons (ps_set (i := 2) sc_ends.nd rfl (.inl rfl) pe_int)
      (pss_cons (ps_set (i := 3) sc_ends.nd rfl (.inl rfl) pe_int)
      (pss_cons (ps_for PassesOwn.never rfl (pi_tup (pv 1)) (pg_tup rfl (pgs_cons (pg_name (i := 4) sc_ends.nd rfl (.inl rfl)) (pgs_cons (pg_name (i := 5) sc_ends.nd rfl (.inl rfl)) pgs_nil)))
        (pss_cons (ps_set (i := 6) sc_ends.nd rfl (.inl rfl) (pe_lst (pa_cons (pe_op op_mul (pv 5) (pe_ix ix_tup (pe_ix ix_tup (pv 0) (pv 4) (fun _ _ => rfl)) pe_int (fun _ _ => rfl))) (pa_cons (pe_op op_mul (pv 5) (pe_ix ix_tup (pe_ix ix_tup (pv 0) (pv 4) (fun _ _ => rfl)) pe_int (fun _ _ => rfl))) pa_nil))))
        (pss_cons (ps_set (i := 2) sc_ends.nd rfl (.inl rfl) (pe_op op_add (pv 2) (pe_callB (cr_min rfl) (by rfl) A0.b_min (by decide +kernel) (pa_cons (pv 6) pa_nil))))
        (pss_one (ps_set (i := 3) sc_ends.nd rfl (.inl rfl) (pe_op op_add (pv 3) (pe_callB (cr_max rfl) (by rfl) A0.b_max (by decide +kernel) (pa_cons (pv 6) pa_nil))))))))
      (pss_one (ps_ret (pe_tup (pa_cons (pv 2) (pa_cons (pv 3) pa_nil))))))), ?_⟩
    refine ⟨_, rfl, t, rfl, ⟨_, ht⟩, for_tup (K := K) (a := t) (xs := ts) (fun i σ H' => Same H H' ∧ ∃ v4 v5 v6, σ = [some (.ref d), some (.ref t), some (.int (leastT D (T.take i))), some (.int (greatT D (T.take i))), v4, v5, v6])
      ⟨Same.refl H, none, none, none, rfl⟩ (fun i σ H' _ ⟨z, _⟩ => tup_same z ht) ?_ ?_⟩
    · rintro i v σ H' hi ⟨s1, v4, v5, v6, rfl⟩
      obtain ⟨⟨p, b⟩, hT, a, rfl, ha⟩ := paired_get htp hi
      obtain ⟨hb1, hb2, hb3, hb4⟩ := hok.ok _ (mem_of_get hT)
      obtain ⟨⟨n, l, h⟩, hDp⟩ : ∃ q, D[p]? = some q := ⟨_, List.getElem?_eq_getElem hb1⟩
      obtain ⟨v, hv, a2, rfl, ha2⟩ := paired_get' hdp hDp
      have hl : l ≤ h := hlh _ (mem_of_get hDp)
      have hb3' : -3 ≤ b := hb3
      have hb4' : b ≤ 3 := hb4
      refine ⟨a, _, rfl, tup_same s1 ha, rfl, _, _, rfl, _, _, rfl, rfl, ?_⟩
      refine ⟨_, rfl, _, rfl, _, rfl, d, _, _, .ref a2, rfl, rfl, tup_same s1 hd, atI_nat hv, a2, _, 1, .int l, rfl, rfl, tup_same s1 ha2, rfl, b, l, rfl, rfl, .inl ⟨by omega, by omega⟩, ?_⟩
      refine ⟨_, rfl, _, rfl, _, rfl, d, _, _, .ref a2, rfl, rfl, tup_same s1 hd, atI_nat hv, a2, _, 2, .int h, rfl, rfl, tup_same s1 ha2, rfl, b, h, rfl, rfl, .inl ⟨by omega, by omega⟩, by show 2 ≤ sizeLine; decide, fun M hM => ?_⟩
      have hMl : (upd H' M (.lst [.int (b * l), .int (b * h)])) M = some (.lst ([b * l, b * h].map V.int)) := upd_same
      refine ⟨_, rfl, _, rfl, M, [b * l, b * h], rfl, SqL.of hMl, by show 0 < 2; decide, fun m hm hle => ⟨_, m, rfl, rfl, ?_⟩⟩
      refine ⟨_, rfl, _, rfl, M, [b * l, b * h], rfl, SqL.of hMl, by show 0 < 2; decide, fun m2 hm2 hle2 => ⟨_, m2, rfl, rfl, ?_⟩⟩
      refine ⟨s1.trans (same_upd hM), some (.int (p : Nat)), some (.int b), some (.ref M), ?_⟩
      rw [least_more hT, great_more hT]
      have e1 : low1 D (p, b) = m := by
        rw [min_low hl hm hle]
        unfold low1
        rw [dlo_at hDp, dhi_at hDp]
      have e2 : high1 D (p, b) = m2 := by
        rw [max_high hl hm2 hle2]
        unfold high1
        rw [dlo_at hDp, dhi_at hDp]
      rw [e1, e2]
      rfl
    · rintro σ H' ⟨s1, v4, v5, v6, rfl⟩
      rw [List.take_of_length_le (Nat.le_of_eq (paired_len htp).symm)]
      exact ⟨_, rfl, _, rfl, by show 2 ≤ sizeLine; decide, fun p np => q _ p (s1.trans (same_upd np)) (SqT.of upd_same)⟩
/-! ### _law_terms -/
def spTerms (K : PySem.W.Frag) : Sp := fun vs H Q _ => ∃ (p d : Addr) (D : Dr), vs = [.ref p, .ref d] ∧ PenAt H p ∧ DrAt K H d D ∧ 1 ≤ D.length ∧ D.length ≤ 8 ∧
  ∀ H' t ts T, SameX p H H' → PenAt H' p → SqT K H' t ts → Paired (TermV K H') ts T → TOk D.length T → Q (.ref t) H'
theorem ok_terms (A0 : All K mg) : FnOk P w K mg base CX0 3 A0.terms.f A0.terms.fd ["pen", "drawing"] (spTerms K) := by
  have GD : FnOk P w K mg base CX0 2 A0.draw.f A0.draw.fd ["pen", "many"] spDraw := ok_draw A0
  refine A0.terms.F.ok sc_terms (fun vs H Q E h => ?_) (fun cdv A outer s H vs Q E hr h => ?_)
  · obtain ⟨p, d, D, rfl, _⟩ := h
    rfl
  · obtain ⟨p, d, D, rfl, hp, ⟨ds, hd, hdp⟩, hD1, hD8, q⟩ := h
    have hll : ds.length = D.length := paired_len hdp
    refine ⟨_, pss_cons (ps_set (i := 2) sc_terms.nd rfl (.inl rfl) (pe_ix ix_list (pe_lst (pa_cons (pe_lst (pa_cons pe_int (pa_cons (pe_un un_neg pe_int) (pa_cons pe_int (pa_cons (pe_un un_neg pe_int) (pa_cons pe_int (pa_cons (pe_un un_neg pe_int) pa_nil)))))))
          (pa_cons (pe_lst (pa_cons pe_int (pa_cons (pe_un un_neg pe_int) pa_nil))) (pa_cons (pe_lst (pa_cons pe_int (pa_cons (pe_un un_neg pe_int) pa_nil))) (pa_cons (pe_lst (pa_cons pe_int (pa_cons (pe_un un_neg pe_int) pa_nil)))
          (pa_cons (pe_lst (pa_cons pe_int (pa_cons pe_int (pa_cons (pe_un un_neg pe_int) (pa_cons (pe_un un_neg pe_int) pa_nil))))) (pa_cons (pe_lst (pa_cons pe_int (pa_cons pe_int (pa_cons (pe_un un_neg pe_int) (pa_cons (pe_un un_neg pe_int) pa_nil))))) pa_nil)))))))
          (pe_call GD hr (by rfl) A0.draw.g A0.draw.F.kp A0.draw.b .nil pass0 (pa_cons (pv 0) (pa_cons pe_int pa_nil))) (fun _ _ => rfl)))
      (pss_cons (ps_set (i := 3) sc_terms.nd rfl (.inl rfl) (pe_lst pa_nil))
      (pss_cons (ps_for PassesOwn.never rfl (pi_range1 (by rfl) A0.b_range (pa_cons (pe_callB call_len_seq (by rfl) A0.b_len PySem.boot_len (pa_cons (pv 1) pa_nil)) pa_nil)) (pg_name (i := 4) sc_terms.nd rfl (.inl rfl))
        (pss_one (ps_if (pt_cmpR op_gt (pe_call GD hr (by rfl) A0.draw.g A0.draw.F.kp A0.draw.b .nil pass0 (pa_cons (pv 0) (pa_cons pe_int pa_nil))) pe_int (nomark _))
          (pss_one (ps_expr (pe_bm PySem.F.plainAttrs_list PySem.F.slot_list_append PySem.F.type_list_append mt_append (pv 3) (pa_cons
            (pe_tup (pa_cons (pv 4) (pa_cons (pe_ix ix_list (pv 2) (pe_call GD hr (by rfl) A0.draw.g A0.draw.F.kp A0.draw.b .nil pass0 (pa_cons (pv 0) (pa_cons (pe_callB call_len_seq (by rfl) A0.b_len PySem.boot_len (pa_cons (pv 2) pa_nil)) pa_nil))) (fun _ _ => rfl)) pa_nil))) pa_nil)))) pss_nil)))
      (C8.pss_cut (ps_if (pt_cmpR (op_eqD hr.units) (pv 3) (pe_lst pa_nil) (nomark _))
          (pss_one (ps_set (i := 3) sc_terms.nd rfl (.inl rfl) (pe_lst (pa_cons (pe_tup (pa_cons (pe_call GD hr (by rfl) A0.draw.g A0.draw.F.kp A0.draw.b .nil pass0 (pa_cons (pv 0) (pa_cons (pe_callB call_len_seq (by rfl) A0.b_len PySem.boot_len (pa_cons (pv 1) pa_nil)) pa_nil)))
            (pa_cons (pe_ix ix_list (pv 2) (pe_call GD hr (by rfl) A0.draw.g A0.draw.F.kp A0.draw.b .nil pass0 (pa_cons (pv 0) (pa_cons (pe_callB call_len_seq (by rfl) A0.b_len PySem.boot_len (pa_cons (pv 2) pa_nil)) pa_nil))) (fun _ _ => rfl)) pa_nil))) pa_nil)))) pss_nil)
      (pss_one (ps_ret (pe_callTy call_tuple_of (by rfl) A0.b_tuple (by decide +kernel) (pa_cons (pv 3) pa_nil))))))), ?_⟩
    refine ⟨1, rfl, 2, rfl, 3, rfl, by show 6 ≤ sizeLine; decide, fun L1 n1 => ⟨1, rfl, by show 2 ≤ sizeLine; decide, fun L2 n2 => ⟨2, rfl, by show 2 ≤ sizeLine; decide, fun L3 n3 => ⟨3, rfl, by show 2 ≤ sizeLine; decide, fun L4 n4 => ⟨2, rfl, 3, rfl, by show 4 ≤ sizeLine; decide, fun L5 n5 => ⟨1, rfl, 3, rfl, by show 4 ≤ sizeLine; decide, fun L6 n6 => ⟨by show 6 ≤ sizeLine; decide, fun LL nL => ?_⟩⟩⟩⟩⟩⟩⟩
    have s1 := same_upd (o := .lst [.int 1, .int (-1), .int 2, .int (-2), .int 3, .int (-3)]) n1
    have s2 := same_upd (o := .lst [.int 1, .int (-1)]) n2
    have s3 := same_upd (o := .lst [.int 2, .int (-2)]) n3
    have s4 := same_upd (o := .lst [.int 3, .int (-3)]) n4
    have s5 := same_upd (o := .lst [.int 2, .int 3, .int (-2), .int (-3)]) n5
    have s6 := same_upd (o := .lst [.int 1, .int 3, .int (-1), .int (-3)]) n6
    have sL := same_upd (o := .lst [.ref L1, .ref L2, .ref L3, .ref L4, .ref L5, .ref L6]) nL
    have t6 := sL
    have t5 := s6.trans t6
    have t4 := s5.trans t5
    have t3 := s4.trans t4
    have t2 := s3.trans t3
    have t1 := s2.trans t2
    have t0 := s1.trans t1
    have g1 := t1 L1 _ upd_same
    have g2 := t2 L2 _ upd_same
    have g3 := t3 L3 _ upd_same
    have g4 := t4 L4 _ upd_same
    have g5 := t5 L5 _ upd_same
    have g6 := t6 L6 _ upd_same
    have pL := hp.same t0
    have fr : ∀ {L : Addr}, H L = none → L ≠ p := fun h => hp.nw h
    have f1 := fr n1
    have f2 := fr (s1.free n2)
    have f3 := fr (s1.free (s2.free n3))
    have f4 := fr (s1.free (s2.free (s3.free n4)))
    have f5 := fr (s1.free (s2.free (s3.free (s4.free n5))))
    have f6 := fr (s1.free (s2.free (s3.free (s4.free (s5.free n6)))))
    have fL := fr (s1.free (s2.free (s3.free (s4.free (s5.free (s6.free nL))))))
    refine ⟨_, rfl, p, 6, rfl, pL, by decide, by decide, fun H1 r1 x1 p1 a1 b1 => ?_⟩
    have hLL := x1 LL _ fL upd_same
    have x01 : SameX p H H1 := (same_x t0).trans x1
    -- the pick
    have pick : ∃ (S : Addr) (ss : List Int), S ≠ p ∧ H1 S = some (.lst (ss.map V.int)) ∧ 1 ≤ ss.length ∧ ss.length ≤ 6 ∧ (∀ s ∈ ss, s ≠ 0 ∧ -3 ≤ s ∧ s ≤ 3) ∧ atI [V.ref L1, .ref L2, .ref L3, .ref L4, .ref L5, .ref L6] r1 = some (.ref S) := by
      rcases six a1 b1 with e | e | e | e | e | e <;> subst e
      · exact ⟨L1, [1, -1, 2, -2, 3, -3], f1, x1 _ _ f1 g1, by decide, by decide, by decide, rfl⟩
      · exact ⟨L2, [1, -1], f2, x1 _ _ f2 g2, by decide, by decide, by decide, rfl⟩
      · exact ⟨L3, [2, -2], f3, x1 _ _ f3 g3, by decide, by decide, by decide, rfl⟩
      · exact ⟨L4, [3, -3], f4, x1 _ _ f4 g4, by decide, by decide, by decide, rfl⟩
      · exact ⟨L5, [2, 3, -2, -3], f5, x1 _ _ f5 g5, by decide, by decide, by decide, rfl⟩
      · exact ⟨L6, [1, 3, -1, -3], f6, x1 _ _ f6 g6, by decide, by decide, by decide, rfl⟩
    obtain ⟨S, ss, hSp, hS1, hs1, hs6, hsb, epick⟩ := pick
    refine ⟨LL, _, r1, .ref S, rfl, rfl, SqL.of hLL, epick, ?_⟩
    -- terms = []
    refine ⟨Nat.zero_le _, fun G nG => ?_⟩
    have hGp : G ≠ p := p1.nw nG
    have hGn : H G = none := x_free x01 hGp nG
    have hSG : S ≠ G := ne_of_none hS1 nG
    have sG := same_upd (o := .lst []) nG
    have imX : ∀ {H' : Hp}, SameX p H H' → Imm H H' := fun x => x.imm hp.mut
    refine ⟨_, rfl, d, _, rfl, .inr (tup_imm (imX (x01.trans (same_x sG))) hd), _, rfl, by omega, by omega, ?_⟩
    refine for_range (lo := 0) (n := ((ds.length : Nat) : Int).toNat) (fun i σ H' => SameX p H H' ∧ PenAt H' p ∧ H' S = some (.lst (ss.map V.int)) ∧ ∃ ts T v4, H' G = some (.lst ts) ∧ Paired (TermV K H') ts T ∧ T.Pairwise (fun a b => a.1 < b.1) ∧ (∀ t ∈ T, t.1 < i ∧ t.2 ≠ 0 ∧ -3 ≤ t.2 ∧ t.2 ≤ 3) ∧ T.length ≤ i ∧
        σ = [some (.ref p), some (.ref d), some (.ref S), some (.ref G), v4])
      ⟨x01.trans (same_x sG), p1.same sG, sG _ _ hS1, [], [], none, upd_same, .nil, .nil, fun t ht => absurd ht (by simp), Nat.le_refl _, rfl⟩ ?_ ?_
    · rintro i σ H5 hi ⟨x5, p5, hS5, ts, T, v4, hG5, hP5, hup, hb, hTl, rfl⟩
      have hi' : i < D.length := by
        rw [Int.toNat_natCast] at hi
        omega
      rw [show (0 : Int) + (i : Int) = (i : Int) by omega]
      refine ⟨_, rfl, p, 3, rfl, p5, by decide, by decide, fun H6 r6 x6 p6 a6 b6 => ⟨_, _, rfl, rfl, _, rfl, ?_⟩⟩
      have hG6 : H6 G = some (.lst ts) := x6 _ _ hGp hG5
      have hS6 := x6 _ _ hSp hS5
      have im6 : Imm H5 H6 := x6.imm p5.mut
      refine ite2 (fun _ => ?_) (fun _ => ?_)
      · refine ⟨_, rfl, .inl ⟨rfl, _, SqL.of hG6⟩, _, rfl, _, rfl, _, rfl, _, rfl, S, _, rfl, .inl (SqL.of hS6), p, _, rfl, p6, ?_, ?_, fun H7 r7 x7 p7 a7 b7 => ?_⟩
        · rw [List.length_map]
          omega
        · rw [List.length_map]
          have : ((ss.length : Nat) : Int).natAbs ≤ 6 := by omega
          exact Nat.lt_of_le_of_lt this (by decide)
        · rw [List.length_map] at b7
          obtain ⟨tv, htv, etv⟩ := atI_map (l := ss) a7 b7
          obtain ⟨c0, c1, c2⟩ := hsb tv htv
          have hG7 := x7 _ _ hGp hG6
          have hS7 := x7 _ _ hSp hS6
          have im7 : Imm H6 H7 := x7.imm p6.mut
          refine ⟨S, _, _, .int tv, rfl, rfl, SqL.of hS7, etv, by show 2 ≤ sizeLine; decide, fun Np nN => ?_⟩
          have sN := same_upd (o := .tup [.int (i : Nat), .int tv]) nN
          have im8 := imm_mut (o := .lst (ts ++ [.ref Np])) (sN _ _ hG7) trivial
          refine ⟨G, ts, _, rfl, rfl, sN _ _ hG7, ?_, fun b o nb e => ?_, (p7.same sN).upd (Ne.symm hGp), ?_, ts ++ [.ref Np], T ++ [(i, tv)], _, upd_same, ?_, ?_, ?_, ?_, rfl⟩
          · have := paired_len hP5
            exact room1000 (by omega)
          · rw [upd_ne (ne_of_none e hGn)]
            exact sN _ _ (x7 b o nb (x6 b o nb (x5 b o nb e)))
          · rw [upd_ne hSG]
            exact sN _ _ hS7
          · exact Paired.snoc (TermV.imm im8 (TermV.imm (same_imm sN) (TermV.imm im7 (TermV.imm im6 hP5)))) ⟨Np, rfl, tup_imm im8 (SqT.of upd_same)⟩
          · rw [List.pairwise_append]
            refine ⟨hup, List.pairwise_singleton _ _, fun a ha b hb' => ?_⟩
            rw [List.mem_singleton.mp hb']
            exact (hb a ha).1
          · intro t ht
            rcases List.mem_append.mp ht with h | h
            · obtain ⟨z1, z2⟩ := hb t h
              exact ⟨by omega, z2⟩
            · rw [List.mem_singleton.mp h]
              exact ⟨by show i < i + 1; omega, c0, c1, c2⟩
          · rw [List.length_append]
            show T.length + 1 ≤ i + 1
            omega
      · refine ⟨x5.trans x6, p6, hS6, ts, T, _, hG6, TermV.imm im6 hP5, hup, fun t ht => ?_, by omega, rfl⟩
        obtain ⟨z1, z2⟩ := hb t ht
        exact ⟨by omega, z2⟩
    · rintro σ H5 ⟨x5, p5, hS5, ts, T, v4, hG5, hP5, hup, hb, hTl, rfl⟩
      rw [Int.toNat_natCast, hll] at hb
      rw [Int.toNat_natCast, hll] at hTl
      refine ⟨fun σ' H' => SameX p H H' ∧ PenAt H' p ∧ ∃ G ts T v4, H' G = some (.lst ts) ∧ Paired (TermV K H') ts T ∧ TOk D.length T ∧ σ' = [some (.ref p), some (.ref d), some (.ref S), some (.ref G), v4], ?_, ?_⟩
      · refine ⟨_, rfl, Nat.zero_le _, fun M nM => ?_⟩
        have sM := same_upd (o := .lst []) nM
        have hP6 := TermV.imm (same_imm sM) hP5
        refine ⟨_, _, .lst (SqL.of (sM _ _ hG5)) (dp_terms hP6), .lst (SqL.of upd_same) .nil, shaped_terms _, by rfl, _, rfl, ?_⟩
        have p6 := p5.same sM
        have x6 := x5.trans (same_x sM)
        have hS6 := sM _ _ hS5
        refine ite2 (fun _ => ?_) (fun _ => ?_)
        · refine ⟨_, rfl, _, rfl, d, _, rfl, .inr (tup_imm (imX x6) hd), p, _, rfl, p6, by omega, ?_, fun H7 r7 x7 p7 a7 b7 => ?_⟩
          · have : ((ds.length : Nat) : Int).natAbs ≤ 8 := by omega
            exact Nat.lt_of_le_of_lt this (by decide)
          · have hS7 := x7 _ _ hSp hS6
            refine ⟨_, rfl, _, rfl, _, rfl, S, _, rfl, .inl (SqL.of hS7), p, _, rfl, p7, ?_, ?_, fun H8 r8 x8 p8 a8 b8 => ?_⟩
            · rw [List.length_map]
              omega
            · rw [List.length_map]
              have : ((ss.length : Nat) : Int).natAbs ≤ 6 := by omega
              exact Nat.lt_of_le_of_lt this (by decide)
            · rw [List.length_map] at b8
              obtain ⟨tv, htv, etv⟩ := atI_map (l := ss) a8 b8
              obtain ⟨c0, c1, c2⟩ := hsb tv htv
              have hS8 := x8 _ _ hSp hS7
              refine ⟨S, _, _, .int tv, rfl, rfl, SqL.of hS8, etv, by show 2 ≤ sizeLine; decide, fun Np nN => ⟨by show 1 ≤ sizeLine; decide, fun G2 nG2 => ?_⟩⟩
              have sN := same_upd (o := .tup [.int r7, .int tv]) nN
              have sG2 := same_upd (o := .lst [.ref Np]) nG2
              refine ⟨((x6.trans x7).trans x8).trans (same_x (sN.trans sG2)), p8.same (sN.trans sG2), G2, [.ref Np], [(r7.toNat, tv)], _, upd_same, .cons ⟨Np, rfl, ?_⟩ .nil, ⟨List.pairwise_singleton _ _, ?_⟩, rfl⟩
              · have e : ((r7.toNat : Nat) : Int) = r7 := by omega
                show SqT K _ Np [.int ((r7.toNat : Nat) : Int), .int tv]
                rw [e]
                exact SqT.of (sG2 _ _ upd_same)
              · intro t ht
                rw [List.mem_singleton.mp ht]
                exact ⟨by show r7.toNat < D.length; omega, c0, c1, c2⟩
        · exact ⟨x6, p6, G, ts, T, _, sM _ _ hG5, hP6, ⟨hup, hb⟩, rfl⟩
      · rintro σ' H6 ⟨x6, p6, G2, ts, T, v4, hG6, hP6, hok, rfl⟩
        exact ⟨_, rfl, G2, _, rfl, .inl ⟨SqL.of hG6, fun t nt => q _ t ts T (x6.trans (same_x (same_upd nt))) (p6.same (same_upd nt)) (SqT.of upd_same) (TermV.imm (imm_new nt) hP6) hok⟩⟩
end
end Gw

namespace Gw
open PySem PySem.Spec PyProof.Rows L2 GwR
section
variable {P : Program} {w : World} {K : PySem.W.Frag} {mg : Str → Option Value} {base : Heap}
/-! ### _law_gap -/
def spGapA (K : PySem.W.Frag) : Sp := fun vs H Q _ => ∃ (p d : Addr) (D : Dr), vs = [.ref p, .ref d] ∧ PenAt H p ∧ DrAt K H d D ∧ 1 ≤ D.length ∧ D.length ≤ 8 ∧ (∀ q ∈ D, q.2.1 ≤ q.2.2) ∧
  ∀ H' g T lo hi, SameX p H H' → PenAt H' p → GapAt K H' g T lo hi → TOk D.length T → Q (.ref g) H'
theorem ok_gap (A0 : All K mg) : FnOk P w K mg base CX0 4 A0.gap.f A0.gap.fd ["pen", "drawing"] (spGapA K) := by
  have GD : FnOk P w K mg base CX0 2 A0.draw.f A0.draw.fd ["pen", "many"] spDraw := ok_draw A0
  have GT : FnOk P w K mg base CX0 3 A0.terms.f A0.terms.fd ["pen", "drawing"] (spTerms K) := ok_terms A0
  have GE : FnOk P w K mg base CX0 1 A0.ends.f A0.ends.fd ["drawing", "terms"] (spEnds K) := ok_ends A0
  refine A0.gap.F.ok sc_gap (fun vs H Q E h => ?_) (fun cdv A outer s H vs Q E hr h => ?_)
  · obtain ⟨p, d, D, rfl, _⟩ := h
    rfl
  · obtain ⟨p, d, D, rfl, hp, hd, hD1, hD8, hlh, q⟩ := h
    have hr2 : Room 2 _ := hr.mono (by decide)
    have hr1 : Room 1 _ := hr.mono (by decide)
    refine ⟨_, pss_cons (ps_set (i := 2) sc_gap.nd rfl (.inl rfl) (pe_call GT hr (by rfl) A0.terms.g A0.terms.F.kp A0.terms.b .nil pass0 (pa_cons (pv 0) (pa_cons (pv 1) pa_nil))))
      (pss_cons (ps_asg (pe_call GE hr1 (by rfl) A0.ends.g A0.ends.F.kp A0.ends.b .nil pass0 (pa_cons (pv 1) (pa_cons (pv 2) pa_nil))) (pg_tup rfl (pgs_cons (pg_name (i := 3) sc_gap.nd rfl (.inl rfl)) (pgs_cons (pg_name (i := 4) sc_gap.nd rfl (.inl rfl)) pgs_nil))))
      (pss_cons (ps_set (i := 5) sc_gap.nd rfl (.inl rfl) (pe_op op_sub (pv 4) (pv 3)))
      (pss_cons (ps_set (i := 6) sc_gap.nd rfl (.inl rfl) (pe_op op_add (pv 3) (pe_ix ix_list (pe_lst (pa_cons pe_int (pa_cons pe_int (pa_cons (pe_un un_neg pe_int) (pa_cons (pe_op op_fdiv (pv 5) pe_int) (pa_cons (pe_op op_fdiv (pv 5) pe_int)
          (pa_cons (pe_op op_add (pv 5) pe_int) (pa_cons (pv 5) (pa_cons (pe_op op_sub (pv 5) pe_int) pa_nil)))))))))
          (pe_call GD hr2 (by rfl) A0.draw.g A0.draw.F.kp A0.draw.b .nil pass0 (pa_cons (pv 0) (pa_cons pe_int pa_nil))) (fun _ _ => rfl))))
      (pss_cons (ps_set (i := 7) sc_gap.nd rfl (.inl rfl) (pe_op op_add (pv 6) (pe_ix ix_list (pe_lst (pa_cons pe_int (pa_cons pe_int (pa_cons pe_int (pa_cons (pe_op op_fdiv (pv 5) pe_int) (pa_cons (pv 5) (pa_cons (pe_op op_add (pv 5) pe_int) pa_nil)))))))
          (pe_call GD hr2 (by rfl) A0.draw.g A0.draw.F.kp A0.draw.b .nil pass0 (pa_cons (pv 0) (pa_cons pe_int pa_nil))) (fun _ _ => rfl))))
      (pss_one (ps_ret (pe_tup (pa_cons (pv 2) (pa_cons (pv 6) (pa_cons (pv 7) pa_nil)))))))))), ?_⟩
    refine ⟨_, rfl, _, rfl, p, d, D, rfl, hp, hd, hD1, hD8, fun H1 t ts T x1 p1 ht htp hok => ?_⟩
    have hd1 := hd.imm (x1.imm hp.mut)
    refine ⟨_, rfl, _, rfl, d, t, D, ts, T, rfl, hd1, ht, htp, hok, hlh, fun H2 e s2 he => ?_⟩
    refine ⟨e, _, rfl, he, rfl, _, _, rfl, _, _, rfl, rfl, ?_⟩
    refine ⟨_, rfl, _, rfl, _, _, rfl, rfl, ?_⟩
    -- low
    refine ⟨_, rfl, 1, rfl, _, rfl, _, 2, rfl, rfl, ⟨by decide, by decide⟩, _, rfl, _, 3, rfl, rfl, ⟨by decide, by decide⟩, _, rfl, _, 1, rfl, rfl, _, rfl, _, rfl, _, 1, rfl, rfl, by show 8 ≤ sizeLine; decide, fun M hM => ?_⟩
    have sM := same_upd (o := .lst ([0, 1, -1, (greatT D T - leastT D T) / 2, (greatT D T - leastT D T) / 3, (greatT D T - leastT D T) + 1, (greatT D T - leastT D T), (greatT D T - leastT D T) - 1].map V.int)) hM
    have p2 := p1.same s2
    have hMp : M ≠ p := p2.nw hM
    refine ⟨_, rfl, p, 8, rfl, p2.same sM, by decide, by decide, fun H3 r3 x3 p3 a3 b3 => ?_⟩
    obtain ⟨l1, _, el⟩ := atI_map (l := [0, 1, -1, (greatT D T - leastT D T) / 2, (greatT D T - leastT D T) / 3, (greatT D T - leastT D T) + 1, (greatT D T - leastT D T), (greatT D T - leastT D T) - 1]) a3 b3
    refine ⟨M, _, r3, .int l1, rfl, rfl, SqL.of (x3 _ _ hMp upd_same), el, _, l1, rfl, rfl, ?_⟩
    -- high
    refine ⟨_, rfl, _, rfl, _, 2, rfl, rfl, ⟨by decide, by decide⟩, _, rfl, _, rfl, _, 2, rfl, rfl, by show 6 ≤ sizeLine; decide, fun N hN => ?_⟩
    have sN := same_upd (o := .lst ([0, 1, 2, (greatT D T - leastT D T) / 2, (greatT D T - leastT D T), (greatT D T - leastT D T) + 2].map V.int)) hN
    have hNp : N ≠ p := p3.nw hN
    refine ⟨_, rfl, p, 6, rfl, p3.same sN, by decide, by decide, fun H4 r4 x4 p4 a4 b4 => ?_⟩
    obtain ⟨l2, _, el2⟩ := atI_map (l := [0, 1, 2, (greatT D T - leastT D T) / 2, (greatT D T - leastT D T), (greatT D T - leastT D T) + 2]) a4 b4
    refine ⟨N, _, r4, .int l2, rfl, rfl, SqL.of (x4 _ _ hNp upd_same), el2, _, l2, rfl, rfl, ?_⟩
    refine ⟨_, rfl, _, rfl, _, rfl, by show 3 ≤ sizeLine; decide, fun g ng => ?_⟩
    have x14 : SameX p H1 H4 := (((same_x s2).trans (same_x sM)).trans x3).trans ((same_x sN).trans x4)
    have im := x14.imm p1.mut
    have sg := same_upd (o := .tup [.ref t, .int (leastT D T + l1), .int (leastT D T + l1 + l2)]) ng
    exact q _ g T _ _ ((x1.trans x14).trans (same_x sg)) (p4.same sg) ⟨t, ts, SqT.of upd_same, tup_same sg (tup_imm im ht), TermV.imm (same_imm sg) (TermV.imm im htp)⟩ hok
/-! ### _law_idled -/
def spIdled (K : PySem.W.Frag) : Sp := fun vs H Q _ => ∃ (p d g : Addr) (D : Dr) (T : Tm) (lo hi : Int), vs = [.ref p, .ref d, .ref g] ∧ PenAt H p ∧ DrAt K H d D ∧ GapAt K H g T lo hi ∧ 1 ≤ D.length ∧ D.length ≤ 8 ∧ T.length ≤ 8 ∧ (∀ q ∈ D, q.2.1 ≤ q.2.2 ∧ q.2.2 - q.2.1 < 400) ∧
  ∀ H' d' D', SameX p H H' → PenAt H' p → DrAt K H' d' D' → D'.length = D.length → DOk D' → Q (.ref d') H'
theorem ok_idled (A0 : All K mg) : FnOk P w K mg base CX0 3 A0.idled.f A0.idled.fd ["pen", "drawing", "gap"] (spIdled K) := by
  have GD : FnOk P w K mg base CX0 2 A0.draw.f A0.draw.fd ["pen", "many"] spDraw := ok_draw A0
  refine A0.idled.F.ok sc_idled (fun vs H Q E h => ?_) (fun cdv A outer s H vs Q E hr h => ?_)
  · obtain ⟨p, d, g, D, T, lo, hi, rfl, _⟩ := h
    rfl
  · obtain ⟨p, d, g, D, T, lo, hi, rfl, hp, ⟨ds, hd, hdp⟩, ⟨t, ts, hg, ht, htp⟩, hD1, hD8, hT8, hDb, q⟩ := h
    have hll : ds.length = D.length := paired_len hdp
    refine ⟨_, pss_cons (ps_setLc (i := 3) (own := [("part", 9), ("times", 10)]) (g := g2 K 9 10) (tt := tYes) rfl sc_idled.nd rfl rfl (sw_true rfl rfl rfl (by decide +kernel)) (pi_tup (pe_ix ix_tup (pv 2) pe_int (fun _ _ => rfl)))
          (blkOk_by (N := ["pen", "drawing", "gap", "there", "found", "k", "name", "low", "high", "part", "times"]) (sc := defScope sIdled) (own := [("part", 9), ("times", 10)]) (by decide +kernel))
          (fun _ _ _ _ _ => pg_tup rfl (pgs_cons (pg_name (i := 9) sc_idled.nd rfl (Or.inl rfl)) (pgs_cons (pg_name (i := 10) sc_idled.nd rfl (Or.inl rfl)) pgs_nil))) (fun _ _ _ _ _ => pts_nil) (fun _ _ _ _ _ => pv 9))
      (pss_cons (ps_set (i := 4) sc_idled.nd rfl (.inl rfl) (pe_lst pa_nil))
      (pss_cons (ps_for PassesOwn.never rfl (pi_range1 (by rfl) A0.b_range (pa_cons (pe_callB call_len_seq (by rfl) A0.b_len PySem.boot_len (pa_cons (pv 1) pa_nil)) pa_nil)) (pg_name (i := 5) sc_idled.nd rfl (.inl rfl))
        (pss_cons (ps_asg (pe_ix ix_tup (pv 1) (pv 5) (fun _ _ => rfl)) (pg_tup rfl (pgs_cons (pg_name (i := 6) sc_idled.nd rfl (.inl rfl)) (pgs_cons (pg_name (i := 7) sc_idled.nd rfl (.inl rfl)) (pgs_cons (pg_name (i := 8) sc_idled.nd rfl (.inl rfl)) pgs_nil)))))
        (C8.pss_cut (ps_if (PW.pt (pw_and (pt_cmpR op_notIn_seq (pv 5) (pv 3) (by rfl)) (pw_and1 (pt_cmpR op_eq (pe_call GD hr (by rfl) A0.draw.g A0.draw.F.kp A0.draw.b .nil pass0 (pa_cons (pv 0) (pa_cons pe_int pa_nil))) pe_int (nomark _)))))
            (pss_one (ps_set (i := 8) sc_idled.nd rfl (.inl rfl) (pe_op op_add (pv 7) (pe_call GD hr (by rfl) A0.draw.g A0.draw.F.kp A0.draw.b .nil pass0 (pa_cons (pv 0) (pa_cons (pe_op op_pow pe_int pe_int) pa_nil)))))) pss_nil)
        (pss_one (ps_expr (pe_bm PySem.F.plainAttrs_list PySem.F.slot_list_append PySem.F.type_list_append mt_append (pv 4) (pa_cons (pe_tup (pa_cons (pv 6) (pa_cons (pv 7) (pa_cons (pv 8) pa_nil)))) pa_nil)))))))
      (pss_one (ps_ret (pe_callTy call_tuple_of (by rfl) A0.b_tuple (by decide +kernel) (pa_cons (pv 4) pa_nil)))))), ?_⟩
    refine ⟨_, rfl, g, _, 0, _, rfl, rfl, hg, rfl, t, rfl, ⟨_, ht⟩, fun L hL => lc_tup (K := K) (a := t) (xs := ts) (fun i H' => Same H H' ∧ H' L = some (.lst ((T.take i).map fun t => V.int (t.1 : Nat))))
      ⟨same_upd hL, upd_same⟩ (fun i H' _ ⟨s1, _⟩ => tup_same s1 ht) ?_ ?_⟩
    · rintro i v H' hi ⟨s1, hl⟩
      obtain ⟨⟨pl, b⟩, hT, a, rfl, ha⟩ := paired_get htp hi
      refine ⟨a, _, rfl, tup_same s1 ha, rfl, _, _, rfl, _, _, rfl, rfl, rfl, ?_⟩
      refine ⟨_, rfl, _, hl, ?_, Same.upd_new s1 hL, ?_⟩
      · rw [List.length_map]
        exact room1000 (Nat.le_trans (by rw [List.length_take]; omega) (show 8 ≤ 1000 by decide))
      · rw [upd_same, take_more hT, List.map_append]
        rfl
    · rintro H1 ⟨s1, hl⟩
      rw [List.take_of_length_le (Nat.le_of_eq (paired_len htp).symm)] at hl
      have p1 := hp.same s1
      have hLp : L ≠ p := hp.nw hL
      refine ⟨Nat.zero_le _, fun G nG => ?_⟩
      have hGp : G ≠ p := p1.nw nG
      have hGn : H G = none := s1.free nG
      have hLG : L ≠ G := ne_of_none hl nG
      have sG := same_upd (o := .lst []) nG
      have imX : ∀ {H' : Hp}, SameX p H H' → Imm H H' := fun x => x.imm hp.mut
      refine ⟨_, rfl, d, _, rfl, .inr (tup_same (s1.trans sG) hd), _, rfl, by omega, by omega, ?_⟩
      refine for_range (lo := 0) (n := ((ds.length : Nat) : Int).toNat) (fun i σ H' => SameX p H H' ∧ PenAt H' p ∧ H' L = some (.lst (T.map fun t => V.int (t.1 : Nat))) ∧ ∃ fs D' v5 v6 v7 v8, H' G = some (.lst fs) ∧ Paired (PartV K H') fs D' ∧ D'.length = i ∧ (∀ q ∈ D', q.2.1 ≤ q.2.2 ∧ q.2.2 - q.2.1 + 1 < 2 ^ 140) ∧
          σ = [some (.ref p), some (.ref d), some (.ref g), some (.ref L), some (.ref G), v5, v6, v7, v8, none, none])
        ⟨same_x (s1.trans sG), p1.same sG, sG _ _ hl, [], [], none, none, none, none, upd_same, .nil, rfl, fun q hq => absurd hq (by simp), rfl⟩ ?_ ?_
      · rintro i σ H5 hi ⟨x5, p5, hL5, fs, D', v5, v6, v7, v8, hG5, hP5, hDl, hDb5, rfl⟩
        have hi' : i < D.length := by
          rw [Int.toNat_natCast] at hi
          omega
        rw [show (0 : Int) + (i : Int) = (i : Int) by omega]
        obtain ⟨⟨nm, l, h⟩, hq⟩ : ∃ q, D[i]? = some q := ⟨_, List.getElem?_eq_getElem hi'⟩
        obtain ⟨v, hv, a2, rfl, ha2⟩ := paired_get' hdp hq
        obtain ⟨b1, b2⟩ := hDb _ (mem_of_get hq)
        have b1' : l ≤ h := b1
        have b2' : h - l < 400 := b2
        refine ⟨_, rfl, _, rfl, d, _, _, .ref a2, rfl, rfl, tup_imm (imX x5) hd, atI_nat hv, a2, _, rfl, tup_imm (imX x5) ha2, rfl, _, _, rfl, _, _, rfl, _, _, rfl, rfl, ?_⟩
        refine ⟨fun σ' H' => SameX p H5 H' ∧ PenAt H' p ∧ ∃ h' : Int, l ≤ h' ∧ h' - l + 1 < 2 ^ 140 ∧ σ' = [some (.ref p), some (.ref d), some (.ref g), some (.ref L), some (.ref G), some (.int (i : Nat)), some nm, some (.int l), some (.int h'), none, none], ?_, ?_⟩
        · have hbig : (401 : Int) < 2 ^ 140 := by decide
          have hall : (T.map fun t => V.int (t.1 : Nat)).all flatV = true := by
            rw [List.all_map]
            exact List.all_eq_true.mpr fun _ _ => rfl
          refine ⟨_, rfl, _, rfl, L, _, rfl, .inl (SqL.of hL5), rfl, hall, _, rfl, ?_⟩
          refine ite2 (fun _ => ?_) (fun _ => ?_)
          · refine ⟨_, rfl, p, 2, rfl, p5, by decide, by decide, fun H6 r6 x6 p6 a6 b6 => ⟨rfl, _, rfl, ite2 (fun _ => ?_) (fun _ => ?_)⟩⟩
            · refine ⟨_, rfl, _, rfl, 10, 40, rfl, rfl, ⟨by decide, by decide, by decide⟩, p, 10 ^ 40, rfl, p6, by decide, by decide, fun H7 r7 x7 p7 a7 b7 => ⟨l, r7, rfl, rfl, x6.trans x7, p7, l + r7, by omega, ?_, rfl⟩⟩
              have : (10 : Int) ^ 40 < 2 ^ 139 := by decide
              have : (2 : Int) ^ 139 + 1 < 2 ^ 140 := by decide
              omega
            · exact ⟨x6, p6, h, b1', by omega, rfl⟩
          · exact iteF ⟨SameX.refl p _, p5, h, b1', by omega, rfl⟩
        · rintro σ' H6 ⟨x6, p6, h', c1, c2, rfl⟩
          have hG6 := x6 _ _ hGp hG5
          have hL6 := x6 _ _ hLp hL5
          have im6 : Imm H5 H6 := x6.imm p5.mut
          refine ⟨_, rfl, .inl ⟨rfl, _, SqL.of hG6⟩, _, rfl, _, rfl, _, rfl, by show 3 ≤ sizeLine; decide, fun Np nN => ?_⟩
          have sN := same_upd (o := .tup [nm, .int l, .int h']) nN
          have im7 := imm_mut (o := .lst (fs ++ [.ref Np])) (sN _ _ hG6) trivial
          refine ⟨G, fs, _, rfl, rfl, sN _ _ hG6, ?_, fun b o nb e => ?_, (p6.same sN).upd (Ne.symm hGp), ?_, fs ++ [.ref Np], D' ++ [(nm, l, h')], some (.int (i : Nat)), some nm, some (.int l), some (.int h'), upd_same, ?_, ?_, ?_, rfl⟩
          · have := paired_len hP5
            exact room1000 (by omega)
          · rw [upd_ne (ne_of_none e hGn)]
            exact sN _ _ (x6 b o nb (x5 b o nb e))
          · rw [upd_ne hLG]
            exact sN _ _ hL6
          · exact Paired.snoc (PartV.imm im7 (PartV.imm (same_imm sN) (PartV.imm im6 hP5))) ⟨Np, rfl, tup_imm im7 (SqT.of upd_same)⟩
          · rw [List.length_append, hDl]
            rfl
          · intro qq hqq
            rcases List.mem_append.mp hqq with hh | hh
            · exact hDb5 qq hh
            · rw [List.mem_singleton.mp hh]
              exact ⟨c1, c2⟩
      · rintro σ H5 ⟨x5, p5, hL5, fs, D', v5, v6, v7, v8, hG5, hP5, hDl, hDb5, rfl⟩
        rw [Int.toNat_natCast, hll] at hDl
        refine ⟨_, rfl, G, _, rfl, .inl ⟨SqL.of hG5, fun dd nd => q _ dd D' (x5.trans (same_x (same_upd nd))) (p5.same (same_upd nd)) ⟨fs, SqT.of upd_same, PartV.imm (imm_new nd) hP5⟩ hDl ⟨by omega, by omega, hDb5⟩⟩⟩
end
end Gw

namespace Gw
open PySem PySem.Spec PyProof.Rows L2 GwR
theorem worth_more {T : Tm} {x : List Int} {i : Nat} {t : Nat × Int} (h : T[i]? = some t) : worth (T.take (i + 1)) x = worth (T.take i) x + t.2 * x.getD t.1 0 := by
  unfold worth
  rw [take_more h, List.map_append, List.sum_append]
  show _ + (t.2 * x.getD t.1 0 + 0) = _
  rw [Int.add_zero]
def SetV (K : PySem.W.Frag) (H : Hp) (v : V) (x : List Int) : Prop := ∃ a, v = .ref a ∧ SqT K H a (x.map V.int)
theorem SetV.imm {K : PySem.W.Frag} {H H' : Hp} (i : Imm H H') {xs : List V} {X : List (List Int)} (h : Paired (SetV K H) xs X) : Paired (SetV K H') xs X := Paired.mapP h fun _ _ ⟨a, e, t⟩ => ⟨a, e, tup_imm i t⟩
/-! ### the rank tells sets apart -/
theorem Rk_iff {D : Dr} {T : Tm} {lo hi : Int} {x y : List Int} (hx : Valid D x) (hy : Valid D y) (kx : Kp T lo hi x) (ky : Kp T lo hi y) : decide (Rk (coef T) lo hi D 0 0 x < Rk (coef T) lo hi D 0 0 y) = HT.lexLt x y := by
  rcases lexLt_tri x y with e | e | e
  · subst e
    rw [lexLt_irr]
    exact decide_eq_false (by omega)
  · rw [e]
    exact decide_eq_true (Rk_lt hx hy kx ky e)
  · rw [lexLt_asym _ _ e]
    have := Rk_lt hy hx ky kx e
    exact decide_eq_false (by omega)
theorem Rk_inj {D : Dr} {T : Tm} {lo hi : Int} {x y : List Int} (hx : Valid D x) (hy : Valid D y) (kx : Kp T lo hi x) (ky : Kp T lo hi y) (h : Rk (coef T) lo hi D 0 0 x = Rk (coef T) lo hi D 0 0 y) : x = y := by
  rcases lexLt_tri x y with e | e | e
  · exact e
  · have := Rk_lt hx hy kx ky e
    omega
  · have := Rk_lt hy hx ky kx e
    omega
/-! ### data of ints -/
theorem lay_ints : ∀ x : List Int, PyData.canLayAll0 (x.map PyData.int) = true
  | [] => rfl
  | z :: x => by
    rw [List.map_cons, PyData.canLayAll0, lay_ints x]
    rfl
theorem depth_ints : ∀ x : List Int, PyData.depthAll (x.map PyData.int) ≤ 1
  | [] => by simp [PyData.depthAll]
  | z :: x => by
    rw [List.map_cons, PyData.depthAll]
    have := depth_ints x
    simp only [PyData.depth]
    omega
theorem shaped_ints (x : List Int) : SeqAt.shaped (.tuple (x.map PyData.int)) = true := by
  unfold SeqAt.shaped
  rw [Bool.and_eq_true]
  refine ⟨by rw [PyData.canLay0]; exact lay_ints x, ?_⟩
  refine decide_eq_true ?_
  rw [PyData.depth]
  have := depth_ints x
  omega
theorem eqv_ints (x : List Int) : PyData.eqv (.tuple (x.map PyData.int)) (.tuple (x.map PyData.int)) = true := by
  refine SeqAt.eqv_refl _ ?_
  rw [PyData.canLay0]
  exact lay_ints x
theorem dp_ints {K : PySem.W.Frag} {H : Hp} : ∀ x : List Int, DpAll K H (x.map V.int) (x.map PyData.int)
  | [] => .nil
  | z :: x => .cons (.int z) (dp_ints x)
theorem paired_of {α β : Type} {F : α → β → Prop} : ∀ {l : List α}, (∀ a ∈ l, ∃ b, F a b) → ∃ m, Paired F l m
  | [], _ => ⟨[], .nil⟩
  | a :: l, h => by
    obtain ⟨b, hb⟩ := h a List.mem_cons_self
    obtain ⟨m, hm⟩ := paired_of (l := l) fun z hz => h z (List.mem_cons_of_mem _ hz)
    exact ⟨b :: m, .cons hb hm⟩
theorem paired_all {α β : Type} {F : α → β → Prop} {G : β → Prop} (hG : ∀ a b, F a b → G b) : ∀ {l : List α} {m : List β}, Paired F l m → ∀ b ∈ m, G b
  | _, _, .nil, b, h => absurd h (by simp)
  | _, _, .cons r t, b, h => by
    rcases List.mem_cons.mp h with e | h
    · subst e
      exact hG _ _ r
    · exact paired_all hG t b h
section
variable {P : Program} {w : World} {K : PySem.W.Frag} {mg : Str → Option Value} {base : Heap}
/-! ### _law_set -/
def spSetA (K : PySem.W.Frag) : Sp := fun vs H Q _ => ∃ (p d : Addr) (D : Dr), vs = [.ref p, .ref d] ∧ PenAt H p ∧ DrAt K H d D ∧ DOk D ∧
  ∀ H' n x, SameX p H H' → PenAt H' p → SqT K H' n (x.map V.int) → Valid D x → Q (.ref n) H'
theorem ok_set (A0 : All K mg) : FnOk P w K mg base CX0 3 A0.set.f A0.set.fd ["pen", "drawing"] (spSetA K) := by
  have GD : FnOk P w K mg base CX0 2 A0.draw.f A0.draw.fd ["pen", "many"] spDraw := ok_draw A0
  refine A0.set.F.ok sc_set (fun vs H Q E h => ?_) (fun cdv A outer s H vs Q E hr h => ?_)
  · obtain ⟨p, d, D, rfl, _⟩ := h
    rfl
  · obtain ⟨p, d, D, rfl, hp, ⟨ds, hd, hdp⟩, hok, q⟩ := h
    refine ⟨_, pss_cons (ps_set (i := 2) sc_set.nd rfl (.inl rfl) (pe_lst pa_nil))
      (pss_cons (ps_for PassesOwn.never rfl (pi_tup (pv 1)) (pg_tup rfl (pgs_cons (pg_name (i := 3) sc_set.nd rfl (.inl rfl)) (pgs_cons (pg_name (i := 4) sc_set.nd rfl (.inl rfl)) (pgs_cons (pg_name (i := 5) sc_set.nd rfl (.inl rfl)) pgs_nil))))
        (pss_cons (ps_set (i := 6) sc_set.nd rfl (.inl rfl) (pe_lst (pa_cons (pv 4) (pa_cons (pv 5) (pa_cons (pe_op op_add (pv 4) (pe_op op_fdiv (pe_op op_sub (pv 5) (pv 4)) pe_int))
          (pa_cons (pe_callB (call_min2 rfl) (by rfl) A0.b_min (by decide +kernel) (pa_cons (pv 5) (pa_cons (pe_op op_add (pv 4) pe_int) pa_nil)))
          (pa_cons (pe_callB (call_max2 rfl) (by rfl) A0.b_max (by decide +kernel) (pa_cons (pv 4) (pa_cons (pe_op op_sub (pv 5) pe_int) pa_nil))) pa_nil)))))))
        (pss_one (ps_expr (pe_bm PySem.F.plainAttrs_list PySem.F.slot_list_append PySem.F.type_list_append mt_append (pv 2) (pa_cons
          (pe_ix ix_list (pe_op op_cat (pv 6) (pe_lst (pa_cons (pe_op op_add (pv 4) (pe_op op_mod (pe_call GD hr (by rfl) A0.draw.g A0.draw.F.kp A0.draw.b .nil pass0 (pa_cons (pv 0) (pa_cons (pe_op op_pow pe_int pe_int) pa_nil))) (pe_op op_add (pe_op op_sub (pv 5) (pv 4)) pe_int))) pa_nil)))
            (pe_call GD hr (by rfl) A0.draw.g A0.draw.F.kp A0.draw.b .nil pass0 (pa_cons (pv 0) (pa_cons pe_int pa_nil))) (fun _ _ => rfl)) pa_nil))))))
      (pss_one (ps_ret (pe_callTy call_tuple_of (by rfl) A0.b_tuple (by decide +kernel) (pa_cons (pv 2) pa_nil))))), ?_⟩
    refine ⟨Nat.zero_le _, fun G nG => ?_⟩
    have hGp : G ≠ p := hp.nw nG
    have sG := same_upd (o := .lst []) nG
    have imX : ∀ {H' : Hp}, SameX p H H' → Imm H H' := fun x => x.imm hp.mut
    refine ⟨_, rfl, d, rfl, ⟨_, tup_same sG hd⟩, for_tup (K := K) (a := d) (xs := ds) (fun i σ H' => SameX p H H' ∧ PenAt H' p ∧ ∃ (x : List Int) (v3 v4 v5 v6 : Option V), H' G = some (.lst (x.map V.int)) ∧ Valid (D.take i) x ∧ x.length = i ∧ σ = [some (.ref p), some (.ref d), some (.ref G), v3, v4, v5, v6])
      ⟨same_x sG, hp.same sG, [], none, none, none, none, upd_same, .nil, rfl, rfl⟩ (fun i σ H' _ ⟨z, _⟩ => tup_imm (imX z) hd) ?_ ?_⟩
    · rintro i v σ H1 hi ⟨x1, p1, x, v3, v4, v5, v6, hG1, hv, hxl, rfl⟩
      obtain ⟨⟨nm, l, h⟩, hD, a2, rfl, ha2⟩ := paired_get hdp hi
      have hi8 : i < D.length := lt_of_get hD
      have hlh : l ≤ h := (hok.sp _ (mem_of_get hD)).1
      refine ⟨a2, _, rfl, tup_imm (imX x1) ha2, rfl, _, _, rfl, _, _, rfl, _, _, rfl, rfl, ?_⟩
      refine ⟨_, rfl, _, rfl, _, rfl, _, rfl, _, rfl, h, l, rfl, rfl, _, 2, rfl, rfl, ⟨by decide, by decide⟩, l, _, rfl, rfl, _, rfl, _, rfl, l, 1, rfl, rfl, h, _, rfl, _, rfl, _, rfl, h, 1, rfl, rfl, l, _, rfl, by show 5 ≤ sizeLine; decide, fun S nS => ?_⟩
      have sS := same_upd (o := .lst ([l, h, l + (h - l) / 2, (if l + 1 < h then l + 1 else h), (if h - 1 > l then h - 1 else l)].map V.int)) nS
      have hSp : S ≠ p := p1.nw nS
      have hGS : G ≠ S := ne_of_none hG1 nS
      have p2 := p1.same sS
      refine ⟨_, rfl, .inl ⟨rfl, _, SqL.of (sS _ _ hG1)⟩, _, rfl, _, rfl, _, rfl, 10, 12, rfl, rfl, ⟨by decide, by decide, by decide⟩, p, 10 ^ 12, rfl, p2, by decide, by decide, fun H3 r3 x3 p3 a3 b3 => ?_⟩
      refine ⟨_, rfl, _, rfl, h, l, rfl, rfl, _, 1, rfl, rfl, r3, _, rfl, rfl, by show (0 : Int) < h - l + 1; omega, l, _, rfl, rfl, by show 1 ≤ sizeLine; decide, fun S2 nS2 => ?_⟩
      have hS3 : H3 S = some (.lst ([l, h, l + (h - l) / 2, (if l + 1 < h then l + 1 else h), (if h - 1 > l then h - 1 else l)].map V.int)) := x3 _ _ hSp upd_same
      have sS2 := same_upd (o := .lst [V.int (l + r3 % (h - l + 1))]) nS2
      refine ⟨S, S2, _, _, rfl, rfl, sS2 _ _ hS3, upd_same, by show 6 ≤ sizeLine; decide, fun S3 nS3 => ?_⟩
      have sS3 := same_upd (o := .lst ([l, h, l + (h - l) / 2, (if l + 1 < h then l + 1 else h), (if h - 1 > l then h - 1 else l), l + r3 % (h - l + 1)].map V.int)) nS3
      have p5 := (p3.same sS2).same sS3
      have hS3p : S3 ≠ p := (p3.same sS2).nw nS3
      refine ⟨_, rfl, p, 6, rfl, p5, by decide, by decide, fun H6 r6 x6 p6 a6 b6 => ?_⟩
      obtain ⟨z, hz, ez⟩ := atI_map (l := [l, h, l + (h - l) / 2, (if l + 1 < h then l + 1 else h), (if h - 1 > l then h - 1 else l), l + r3 % (h - l + 1)]) a6 b6
      have hzr : l ≤ z ∧ z ≤ h := by
        have m0 := Int.emod_nonneg r3 (show h - l + 1 ≠ 0 by omega)
        have m1 := Int.emod_lt_of_pos r3 (show 0 < h - l + 1 by omega)
        rcases List.mem_cons.mp hz with e | hz
        · omega
        rcases List.mem_cons.mp hz with e | hz
        · omega
        rcases List.mem_cons.mp hz with e | hz
        · omega
        rcases List.mem_cons.mp hz with e | hz
        · split at e <;> omega
        rcases List.mem_cons.mp hz with e | hz
        · split at e <;> omega
        rcases List.mem_cons.mp hz with e | hz
        · omega
        · exact absurd hz (by simp)
      have x16 : SameX p H1 H6 := ((same_x sS).trans x3).trans ((same_x (sS2.trans sS3)).trans x6)
      have hG6 : H6 G = some (.lst (x.map V.int)) := x16 _ _ hGp hG1
      refine ⟨S3, _, r6, .int z, rfl, rfl, SqL.of (x6 _ _ hS3p upd_same), ez, G, _, _, rfl, rfl, hG6, ?_, fun b o nb e => ?_, p6.upd (Ne.symm hGp), x ++ [z], some nm, some (.int l), some (.int h), some (.ref S), ?_, ?_, ?_, rfl⟩
      · rw [List.length_map]
        have := hok.le
        exact room1000 (by omega)
      · rw [upd_ne (ne_of_none e nG)]
        exact x16 b o nb (x1 b o nb e)
      · rw [upd_same, List.map_append]
        rfl
      · rw [take_more hD]
        exact Paired.snoc hv hzr
      · rw [List.length_append, hxl]
        rfl
    · rintro σ H1 ⟨x1, p1, x, v3, v4, v5, v6, hG1, hv, hxl, rfl⟩
      rw [List.take_of_length_le (Nat.le_of_eq (paired_len hdp).symm)] at hv
      exact ⟨_, rfl, G, _, rfl, .inl ⟨SqL.of hG1, fun n nn => q _ n x (x1.trans (same_x (same_upd nn))) (p1.same (same_upd nn)) (SqT.of upd_same) hv⟩⟩
/-! ### _law_worth, _law_keeps -/
theorem ok_lworth (A0 : All K mg) : FnOk P w K mg base CX0 1 A0.lworth.f A0.lworth.fd ["gap", "one"] (spWorth K) := by
  refine A0.lworth.F.ok sc_lworth (fun vs H Q E h => ?_) (fun cdv A outer s H vs Q E hr h => ?_)
  · obtain ⟨g, n, T, lo, hi, x, rfl, _⟩ := h
    rfl
  · obtain ⟨g, n, T, lo, hi, x, rfl, ⟨t, xs, hg, ht, hp⟩, hn, hok, hlen, q⟩ := h
    refine ⟨_, pss_cons (ps_set (i := 2) sc_lworth.nd rfl (.inl rfl) pe_int)
      (pss_cons (ps_for PassesOwn.never rfl (pi_tup (pe_ix ix_tup (pv 0) pe_int (fun _ _ => rfl))) (pg_tup rfl (pgs_cons (pg_name (i := 3) sc_lworth.nd rfl (.inl rfl)) (pgs_cons (pg_name (i := 4) sc_lworth.nd rfl (.inl rfl)) pgs_nil)))
        (pss_one (ps_set (i := 2) sc_lworth.nd rfl (.inl rfl) (pe_op op_add (pv 2) (pe_op op_mul (pv 4) (pe_ix ix_tup (pv 1) (pv 3) (fun _ _ => rfl)))))))
      (pss_one (ps_ret (pv 2)))), ?_⟩
    refine ⟨_, rfl, g, _, 0, _, rfl, rfl, hg, rfl, t, rfl, ⟨_, ht⟩, for_tup (K := K) (a := t) (xs := xs) (fun i σ H' => H = H' ∧ ∃ v3 v4, σ = [some (.ref g), some (.ref n), some (.int (worth (T.take i) x)), v3, v4])
      ⟨rfl, none, none, rfl⟩ (fun i σ H' _ ⟨z, _⟩ => z ▸ ht) ?_ ?_⟩
    · rintro i v σ H' hi ⟨rfl, v3, v4, rfl⟩
      obtain ⟨⟨p, b⟩, hT, a, rfl, ha⟩ := paired_get hp hi
      obtain ⟨hb1, hb2, hb3, hb4⟩ := hok.ok _ (mem_of_get hT)
      have hb3' : -3 ≤ b := hb3
      have hb4' : b ≤ 3 := hb4
      have hx : x[p]? = some (x.getD p 0) := by
        rw [List.getD_eq_getElem?_getD, List.getElem?_eq_getElem hb1] <;> rfl
      refine ⟨a, _, rfl, ha, rfl, _, _, rfl, _, _, rfl, rfl, ?_⟩
      refine ⟨_, rfl, _, rfl, .ref n, rfl, _, rfl, n, _, _, .int (x.getD p 0), rfl, rfl, hn, atI_nat (by rw [List.getElem?_map, hx]; rfl), b, _, rfl, rfl, .inl ⟨by omega, by omega⟩, _, _, rfl, rfl, rfl, some (.int (p : Nat)), some (.int b), ?_⟩
      rw [worth_more hT]
      rfl
    · rintro σ H' ⟨rfl, v3, v4, rfl⟩
      rw [List.take_of_length_le (Nat.le_of_eq (paired_len hp).symm)]
      exact ⟨_, rfl, q _ (Same.refl H)⟩
theorem ok_lkeeps (A0 : All K mg) : FnOk P w K mg base CX0 2 A0.lkeeps.f A0.lkeeps.fd ["gap", "one"] (spKeeps K) := by
  have GW : FnOk P w K mg base CX0 1 A0.lworth.f A0.lworth.fd ["gap", "one"] (spWorth K) := ok_lworth A0
  refine A0.lkeeps.F.ok sc_lkeeps (fun vs H Q E h => ?_) (fun cdv A outer s H vs Q E hr h => ?_)
  · obtain ⟨g, n, T, lo, hi, x, rfl, _⟩ := h
    rfl
  · obtain ⟨g, n, T, lo, hi, x, rfl, hgap, hn, hok, hlen, q⟩ := h
    obtain ⟨t, xs, hg, ht, hp⟩ := id hgap
    refine ⟨_, pss_one (ps_ret (pe_chain op_le op_le (pe_ix ix_tup (pv 0) pe_int (fun _ _ => rfl))
      (pe_call GW hr (by rfl) A0.lworth.g A0.lworth.F.kp A0.lworth.b .nil pass0 (pa_cons (pv 0) (pa_cons (pv 1) pa_nil))) (pe_ix ix_tup (pv 0) pe_int (fun _ _ => rfl)))), ?_⟩
    refine ⟨_, rfl, g, _, 1, _, rfl, rfl, hg, rfl, _, rfl, _, rfl, g, n, T, lo, hi, x, rfl, hgap, hn, hok, hlen, fun H' s1 => ⟨_, _, rfl, rfl, _, rfl, ?_⟩⟩
    by_cases c : lo ≤ worth T x
    · rw [decide_eq_true c]
      refine iteT ⟨_, rfl, g, _, 2, _, rfl, rfl, tup_same s1 hg, rfl, _, _, rfl, rfl, ?_⟩
      have e : keepsB T lo hi x = decide (worth T x ≤ hi) := by
        unfold keepsB
        rw [decide_eq_true c, Bool.true_and]
      show Q (.bl (decide (worth T x ≤ hi))) H'
      rw [← e]
      exact q _ s1
    · rw [decide_eq_false c]
      refine iteF ?_
      have e : keepsB T lo hi x = false := by
        unfold keepsB
        rw [decide_eq_false c, Bool.false_and]
      show Q (.bl false) H'
      rw [← e]
      exact q _ s1
/-! ### _law_number_right -/
def spRight (K : PySem.W.Frag) : Sp := fun vs H Q _ => ∃ (d g : Addr) (D : Dr) (T : Tm) (lo hi n : Int), vs = [.ref d, .ref g, .int n] ∧ DrAt K H d D ∧ GapAt K H g T lo hi ∧ GOk D T ∧ 0 ≤ n ∧ n < Nn (coef T) lo hi D 0 0 ∧ ∀ H', Same H H' → Q (.bl true) H'
theorem ok_right (A0 : All K mg) : FnOk P w K mg base CX0 8 A0.right.f A0.right.fd ["drawing", "gap", "number"] (spRight K) := by
  have GN : FnOk P w K mg base CX0 7 A0.nth.f A0.nth.fd ["drawing", "gap", "number"] (spNth K) := ok_nth A0
  have GK : FnOk P w K mg base CX0 2 A0.lkeeps.f A0.lkeeps.fd ["gap", "one"] (spKeeps K) := ok_lkeeps A0
  have GU : FnOk P w K mg base CX0 6 A0.num.f A0.num.fd ["drawing", "gap", "thing"] (spNum K) := ok_num A0
  refine A0.right.F.ok sc_right (fun vs H Q E h => ?_) (fun cdv A outer s H vs Q E hr h => ?_)
  · obtain ⟨d, g, D, T, lo, hi, n, rfl, _⟩ := h
    rfl
  · obtain ⟨d, g, D, T, lo, hi, n, rfl, h1, h2, ok, hn0, hn1, q⟩ := h
    have hr6 : Room 6 _ := hr.mono (by decide)
    have hr2 : Room 2 _ := hr.mono (by decide)
    refine ⟨_, pss_cons (ps_set (i := 3) sc_right.nd rfl (.inl rfl) (pe_call GN hr (by rfl) A0.nth.g A0.nth.F.kp A0.nth.b .nil pass0 (pa_cons (pv 0) (pa_cons (pv 1) (pa_cons (pv 2) pa_nil)))))
      (pss_one (ps_ret (pe_and (pe_call GK hr2 (by rfl) A0.lkeeps.g A0.lkeeps.F.kp A0.lkeeps.b .nil pass0 (pa_cons (pv 1) (pa_cons (pv 3) pa_nil)))
        (pe_one (pe_cmpR op_eq (pe_call GU hr6 (by rfl) A0.num.g A0.num.F.kp A0.num.b .nil pass0 (pa_cons (pv 0) (pa_cons (pv 1) (pa_cons (pv 3) pa_nil)))) (pv 2) (nomark _)))))), ?_⟩
    refine ⟨_, rfl, _, rfl, _, rfl, d, g, D, T, lo, hi, n, rfl, h1, h2, ok, hn0, hn1, fun H1 p x s1 hpx hv hk hR => ?_⟩
    refine ⟨_, rfl, _, rfl, g, p, T, lo, hi, x, rfl, h2.same s1, hpx, by rw [valid_len hv]; exact ok.t, by have := ok.tlen; omega, fun H2 s2 => ?_⟩
    rw [keepsB_Kp.mpr hk]
    refine ⟨true, rfl, iteT ?_⟩
    have s02 := s1.trans s2
    refine ⟨_, rfl, _, rfl, _, rfl, d, g, p, D, T, lo, hi, x, rfl, h1.same s02, h2.same s02, ok, tup_same s2 hpx, hv, hk, fun H3 s3 => ⟨_, rfl, rfl, ?_⟩⟩
    rw [hR, decide_eq_true rfl]
    exact q _ (s02.trans s3)
end
end Gw

namespace Gw
open PySem PySem.Spec PyProof.Rows L2 GwR
section
variable {P : Program} {w : World} {K : PySem.W.Frag} {mg : Str → Option Value} {base : Heap}
/-! ### _law_sets_right -/
def spSets (K : PySem.W.Frag) : Sp := fun vs H Q _ => ∃ (d g s : Addr) (D : Dr) (T : Tm) (lo hi : Int) (xs : List V) (X : List (List Int)), vs = [.ref d, .ref g, .ref s] ∧ DrAt K H d D ∧ GapAt K H g T lo hi ∧ GOk D T ∧
  SqL K H s xs ∧ Paired (SetV K H) xs X ∧ (∀ x ∈ X, Valid D x) ∧ X.length ≤ 8 ∧ ∀ H', Same H H' → Q (.bl true) H'
theorem ok_sets (A0 : All K mg) : FnOk P w K mg base CX0 8 A0.sets.f A0.sets.fd ["drawing", "gap", "sets"] (spSets K) := by
  have GN : FnOk P w K mg base CX0 7 A0.nth.f A0.nth.fd ["drawing", "gap", "number"] (spNth K) := ok_nth A0
  have GK : FnOk P w K mg base CX0 2 A0.lkeeps.f A0.lkeeps.fd ["gap", "one"] (spKeeps K) := ok_lkeeps A0
  have GU : FnOk P w K mg base CX0 6 A0.num.f A0.num.fd ["drawing", "gap", "thing"] (spNum K) := ok_num A0
  refine A0.sets.F.ok sc_sets (fun vs H Q E h => ?_) (fun cdv A outer s H vs Q E hr h => ?_)
  · obtain ⟨d, g, s, D, T, lo, hi, xs, X, rfl, _⟩ := h
    rfl
  · obtain ⟨d, g, sa, D, T, lo, hi, xs, X, rfl, h1, h2, ok, hs, hX, hXv, hX8, q⟩ := h
    have hr6 : Room 6 _ := hr.mono (by decide)
    have hr2 : Room 2 _ := hr.mono (by decide)
    refine ⟨_, pss_cons (ps_set (i := 3) sc_sets.nd rfl (.inl rfl) (pe_callB cr_sortL (by rfl) A0.b_sorted (by decide +kernel) (pa_cons
        (pe_lc (own := [("one", 6)]) (g := gName 6) (tt := tB (tCall (spKeeps K) [] E0 (tCons (tVar 1) (tCons (tVar 6) tNil)))) rfl sc_sets.nd (pi_list (pv 2))
          (blkOk_by (N := ["drawing", "gap", "sets", "good", "numbers", "k", "one"]) (sc := defScope sSets) (own := [("one", 6)]) (by decide +kernel)) (fun _ _ _ _ _ => pg_name (i := 6) sc_sets.nd rfl (Or.inl rfl))
          (fun _ _ _ _ _ => pts_one (pt_val (pe_call GK hr2 (by rfl) A0.lkeeps.g A0.lkeeps.F.kp A0.lkeeps.b .nil pass0 (pa_cons (pv 1) (pa_cons (pv 6) pa_nil))))) (fun _ _ _ _ _ => pv 6)) pa_nil)))
      (pss_cons (ps_setLc (i := 4) (own := [("one", 6)]) (g := gName 6) (tt := tYes) rfl sc_sets.nd rfl rfl (sw_true rfl rfl rfl (by decide +kernel)) (pi_list (pv 3))
          (blkOk_by (N := ["drawing", "gap", "sets", "good", "numbers", "k", "one"]) (sc := defScope sSets) (own := [("one", 6)]) (by decide +kernel)) (fun _ _ _ _ _ => pg_name (i := 6) sc_sets.nd rfl (Or.inl rfl))
          (fun _ _ _ _ _ => pts_nil) (fun _ _ _ _ _ => pe_call GU hr6 (by rfl) A0.num.g A0.num.F.kp A0.num.b .nil pass0 (pa_cons (pv 0) (pa_cons (pv 1) (pa_cons (pv 6) pa_nil)))))
      (pss_cons (ps_for PassesOwn.never rfl (pi_range1 (by rfl) A0.b_range (pa_cons (pe_callB call_len_seq (by rfl) A0.b_len PySem.boot_len (pa_cons (pv 3) pa_nil)) pa_nil)) (pg_name (i := 5) sc_sets.nd rfl (.inl rfl))
        (pss_cons (ps_if (pt_cmpR (op_neD hr.units) (pe_call GN hr (by rfl) A0.nth.g A0.nth.F.kp A0.nth.b .nil pass0 (pa_cons (pv 0) (pa_cons (pv 1) (pa_cons (pe_ix ix_list (pv 4) (pv 5) (fun _ _ => rfl)) pa_nil)))) (pe_ix ix_list (pv 3) (pv 5) (fun _ _ => rfl)) (nomark _)) (pss_one (ps_ret pe_bl)) pss_nil)
        (pss_one (ps_if (PW.pt (pw_and (pt_cmpR op_gt (pv 5) pe_int (nomark _)) (pw_and1 (pt_cmpR op_ne
            (pe_cmpR op_lt (pe_ix ix_list (pv 4) (pe_op op_sub (pv 5) pe_int) (fun _ _ => rfl)) (pe_ix ix_list (pv 4) (pv 5) (fun _ _ => rfl)) (nomark _))
            (pe_cmpR (op_ltT hr.units0) (pe_ix ix_list (pv 3) (pe_op op_sub (pv 5) pe_int) (fun _ _ => rfl)) (pe_ix ix_list (pv 3) (pv 5) (fun _ _ => rfl)) (nomark _)) (nomark _))))) (pss_one (ps_ret pe_bl)) pss_nil))))
      (pss_one (ps_ret pe_bl)))), ?_⟩
    -- good
    refine ⟨_, rfl, sa, rfl, ⟨_, hs⟩, fun M hM => lc_list (K := K) (a := sa) (xs := xs) (fun i H' => Same H H' ∧ ∃ ys, H' M = some (.lst ys) ∧ ys.length ≤ i ∧ ∀ y ∈ ys, ∃ x, SetV K H y x ∧ Valid D x ∧ Kp T lo hi x)
      ⟨same_upd hM, [], upd_same, Nat.le_refl _, fun y hy => absurd hy (by simp)⟩ (fun i H' _ ⟨z, _⟩ => z.seq hs) ?_ ?_⟩
    · rintro i v H1 hix ⟨s1, ys, hm, hyl, hya⟩
      obtain ⟨x, hx, a, rfl, ha⟩ := paired_get hX hix
      have hv := hXv x (mem_of_get hx)
      have hi8 := lt_of_get hx
      refine ⟨rfl, _, rfl, _, rfl, g, a, T, lo, hi, x, rfl, h2.same s1, tup_same s1 ha, by rw [valid_len hv]; exact ok.t, by have := ok.tlen; omega, fun H2 s2 => ⟨_, rfl, ?_⟩⟩
      have hm2 := s2 _ _ hm
      cases hb : keepsB T lo hi x with
      | true =>
        refine iteT ⟨_, rfl, ys, hm2, room1000 (by omega), Same.upd_new (s1.trans s2) hM, _, upd_same, ?_, fun y hy => ?_⟩
        · rw [List.length_append]
          show ys.length + 1 ≤ i + 1
          omega
        · rcases List.mem_append.mp hy with h | h
          · exact hya y h
          · rw [List.mem_singleton.mp h]
            exact ⟨x, ⟨a, rfl, ha⟩, hv, keepsB_Kp.mp hb⟩
      | false => exact iteF ⟨s1.trans s2, ys, hm2, by omega, hya⟩
    · rintro H1 ⟨s1, ys, hm, hyl, hya⟩
      refine ⟨M, ys, rfl, SqL.of hm, fun y hy => ?_, fun zs G hperm nG => ?_⟩
      · obtain ⟨x, ⟨a, e, ha⟩, hv, _⟩ := hya y hy
        refine ⟨x, ⟨a, e, tup_same s1 ha⟩, ?_⟩
        rw [valid_len hv]
        exact ok.d.ne
      · obtain ⟨Y, hY⟩ := paired_of (F := fun y x => SetV K H y x ∧ Valid D x ∧ Kp T lo hi x) (l := zs) fun y hy => hya y (hperm.mem_iff.mp hy)
        have hzl : zs.length ≤ 8 := by
          rw [hperm.length_eq]
          have := paired_len hX
          omega
        have hYl : zs.length = Y.length := paired_len hY
        have s2 := s1.trans (same_upd (o := .lst zs) nG)
        -- numbers
        refine ⟨_, rfl, G, rfl, ⟨_, SqL.of upd_same⟩, fun N hN => lc_list (K := K) (a := G) (xs := zs) (fun i H' => Same (upd H1 G (.lst zs)) H' ∧ H' N = some (.lst (((Y.take i).map fun x => Rk (coef T) lo hi D 0 0 x).map V.int)))
          ⟨same_upd hN, upd_same⟩ (fun i H' _ ⟨z, _⟩ => SqL.of (z _ _ upd_same)) ?_ ?_⟩
        · rintro i v H3 hix ⟨s3, hn⟩
          obtain ⟨x, hx, ⟨a, rfl, ha⟩, hv, hk⟩ := paired_get hY hix
          have hi8 := lt_of_get hx
          have s03 := s2.trans s3
          refine ⟨rfl, _, rfl, _, rfl, _, rfl, d, g, a, D, T, lo, hi, x, rfl, h1.same s03, h2.same s03, ok, tup_same s03 ha, hv, hk, fun H4 s4 => ?_⟩
          refine ⟨_, s4 _ _ hn, ?_, Same.upd_new (s3.trans s4) hN, ?_⟩
          · rw [List.length_map, List.length_map, List.length_take]
            exact room1000 (by omega)
          · rw [upd_same, take_more hx, List.map_append, List.map_append]
            rfl
        · rintro H3 ⟨s3, hn⟩
          rw [List.take_of_length_le (by omega)] at hn
          have s03 := s2.trans s3
          have hG3 : H3 G = some (.lst zs) := s3 _ _ upd_same
          refine ⟨_, rfl, G, _, rfl, .inl (SqL.of hG3), _, rfl, by omega, by omega, ?_⟩
          refine for_range (lo := 0) (n := ((zs.length : Nat) : Int).toNat) (fun i σ H' => Same H3 H' ∧ ∃ v5, σ = [some (.ref d), some (.ref g), some (.ref sa), some (.ref G), some (.ref N), v5, none]) ⟨Same.refl _, none, rfl⟩ ?_ ?_
          · rintro i σ H4 hix ⟨s4, v5, rfl⟩
            have hi' : i < zs.length := by
              rw [Int.toNat_natCast] at hix
              exact hix
            rw [show (0 : Int) + (i : Int) = (i : Int) by omega]
            have s04 := s03.trans s4
            have hG4 := s4 _ _ hG3
            have hN4 := s4 _ _ hn
            have get : ∀ j, j < zs.length → ∃ (x : List Int) (a : Addr), Y[j]? = some x ∧ zs[j]? = some (.ref a) ∧ SqT K H a (x.map V.int) ∧ Valid D x ∧ Kp T lo hi x := fun j hj => by
              obtain ⟨x, hx, ⟨a, e, ha⟩, hv, hk⟩ := paired_get hY (List.getElem?_eq_getElem hj)
              exact ⟨x, a, hx, by rw [List.getElem?_eq_getElem hj, e], ha, hv, hk⟩
            have num : ∀ {j : Nat} {x : List Int}, Y[j]? = some x → ((Y.map fun x => Rk (coef T) lo hi D 0 0 x).map V.int)[j]? = some (.int (Rk (coef T) lo hi D 0 0 x)) := fun {j x} hx => by
              rw [List.getElem?_map, List.getElem?_map, hx]
              rfl
            obtain ⟨x, a, hx, hz, ha, hv, hk⟩ := get i hi'
            obtain ⟨R0, R1⟩ := Rk_bd (c := coef T) (k := 0) (a := 0) hv hk
            refine ⟨_, rfl, _, rfl, _, rfl, _, rfl, N, _, _, _, rfl, rfl, SqL.of hN4, atI_nat (num hx), ?_⟩
            refine ⟨d, g, D, T, lo, hi, Rk (coef T) lo hi D 0 0 x, rfl, h1.same s04, h2.same s04, ok, R0, R1, fun H5 p z s5 hpz hvz hkz hRz => ?_⟩
            have hG5 := s5 _ _ hG4
            have hN5 := s5 _ _ hN4
            have s05 := s04.trans s5
            have ezx : z = x := Rk_inj hvz hv hkz hk hRz
            subst ezx
            refine ⟨_, rfl, _, rfl, G, _, _, .ref a, rfl, rfl, SqL.of hG5, atI_nat hz, ?_⟩
            refine ⟨_, _, .tup hpz (dp_ints z), .tup (tup_same s05 ha) (dp_ints z), shaped_ints z, shaped_ints z, _, rfl, ?_⟩
            rw [eqv_ints]
            refine iteF ?_
            refine ⟨_, rfl, (i : Int), 0, rfl, rfl, _, rfl, ?_⟩
            cases i with
            | zero =>
              rw [decide_eq_false (by omega)]
              exact iteF (iteF ⟨s4.trans s5, _, rfl⟩)
            | succ j =>
              rw [decide_eq_true (by omega)]
              obtain ⟨y, b, hy, hzb, hb, hvy, hky⟩ := get j (by omega)
              have ej : ((j + 1 : Nat) : Int) - 1 = (j : Int) := by omega
              refine iteT ⟨_, rfl, _, rfl, _, 1, rfl, rfl, N, _, _, .int (Rk (coef T) lo hi D 0 0 y), rfl, rfl, SqL.of hN5, at_of ej (num hy), _, rfl, _, rfl, N, _, _, _, rfl, rfl, SqL.of hN5, atI_nat (num hx), _, _, rfl, rfl, ?_⟩
              refine ⟨_, rfl, _, rfl, _, 1, rfl, rfl, G, _, _, .ref b, rfl, rfl, SqL.of hG5, at_of ej hzb, _, rfl, _, rfl, G, _, _, .ref a, rfl, rfl, SqL.of hG5, atI_nat hz, b, a, y, z, rfl, rfl, tup_same s05 hb, tup_same s05 ha, rfl, _, rfl, ?_⟩
              have e : (!decide (V.bl (decide (Rk (coef T) lo hi D 0 0 y < Rk (coef T) lo hi D 0 0 z)) = V.bl (HT.lexLt y z))) = false := by
                rw [Rk_iff hvy hvz hky hkz, decide_eq_true rfl]
                rfl
              rw [e]
              exact iteF ⟨s4.trans s5, _, rfl⟩
          · rintro σ H4 ⟨s4, v5, rfl⟩
            exact q _ (s03.trans s4)
/-! ### _law_none_between -/
def spNoneA (K : PySem.W.Frag) : Sp := fun vs H Q _ => ∃ (d g s : Addr) (D : Dr) (T : Tm) (lo hi n : Int) (xs : List V) (X : List (List Int)), vs = [.ref d, .ref g, .int n, .ref s] ∧ DrAt K H d D ∧ GapAt K H g T lo hi ∧ GOk D T ∧
  SqL K H s xs ∧ Paired (SetV K H) xs X ∧ (∀ x ∈ X, Valid D x) ∧ X.length ≤ 8 ∧ 0 ≤ n ∧ n + 1 < Nn (coef T) lo hi D 0 0 ∧ ∀ H', Same H H' → Q (.bl true) H'
theorem ok_none (A0 : All K mg) : FnOk P w K mg base CX0 8 A0.none_.f A0.none_.fd ["drawing", "gap", "number", "sets"] (spNoneA K) := by
  have GN : FnOk P w K mg base CX0 7 A0.nth.f A0.nth.fd ["drawing", "gap", "number"] (spNth K) := ok_nth A0
  have GK : FnOk P w K mg base CX0 2 A0.lkeeps.f A0.lkeeps.fd ["gap", "one"] (spKeeps K) := ok_lkeeps A0
  refine A0.none_.F.ok sc_none (fun vs H Q E h => ?_) (fun cdv A outer s H vs Q E hr h => ?_)
  · obtain ⟨d, g, s, D, T, lo, hi, n, xs, X, rfl, _⟩ := h
    rfl
  · obtain ⟨d, g, sa, D, T, lo, hi, n, xs, X, rfl, h1, h2, ok, hs, hX, hXv, hX8, hn0, hn1, q⟩ := h
    have hr2 : Room 2 _ := hr.mono (by decide)
    refine ⟨_, pss_cons (ps_set (i := 4) sc_none.nd rfl (.inr rfl) (pe_call GN hr (by rfl) A0.nth.g A0.nth.F.kp A0.nth.b .nil pass0 (pa_cons (pv 0) (pa_cons (pv 1) (pa_cons (pv 2) pa_nil)))))
      (pss_cons (ps_set (i := 5) sc_none.nd rfl (.inr rfl) (pe_call GN hr (by rfl) A0.nth.g A0.nth.F.kp A0.nth.b .nil pass0 (pa_cons (pv 0) (pa_cons (pv 1) (pa_cons (pe_op op_add (pv 2) pe_int) pa_nil)))))
      (pss_cons (ps_if (pt_cmpR (op_geT hr.units0) (pv 4) (pv 5) (nomark _)) (pss_one (ps_ret pe_bl)) pss_nil)
      (pss_one (ps_ret (pe_cmpR (op_eqD hr.units)
        (pe_lc (own := [("here", 6)]) (g := gName 6) (tt := tAnd (tTest (tChain (rLtT K) (rLtT K) (tVar 4) (tVar 6) (tVar 5))) (tB (tCall (spKeeps K) [] E0 (tCons (tVar 1) (tCons (tVar 6) tNil))))) rfl sc_none.nd (pi_list (pv 3))
          (blkOk_by (N := ["drawing", "gap", "number", "sets", "one", "other", "here"]) (sc := defScope sNone) (own := [("here", 6)]) (by decide +kernel)) (fun _ _ _ _ _ => pg_name (i := 6) sc_none.nd rfl (Or.inl rfl))
          (fun _ _ _ _ _ => pts_one (PW.pt (pw_and (pt_chain (ltT K hr.units0) (ltT K hr.units0) (pv 4) (pv 6) (pv 5)) (pw_and1 (pt_val (pe_call GK hr2 (by rfl) A0.lkeeps.g A0.lkeeps.F.kp A0.lkeeps.b .nil pass0 (pa_cons (pv 1) (pa_cons (pv 6) pa_nil))))))))
          (fun _ _ _ _ _ => pv 6)) (pe_lst pa_nil) (nomark _)))))), ?_⟩
    refine ⟨_, rfl, _, rfl, _, rfl, d, g, D, T, lo, hi, n, rfl, h1, h2, ok, hn0, by omega, fun H1 p x s1 hpx hvx hkx hRx => ?_⟩
    refine ⟨_, rfl, _, rfl, _, rfl, n, 1, rfl, rfl, d, g, D, T, lo, hi, n + 1, rfl, h1.same s1, h2.same s1, ok, by omega, hn1, fun H2 p2 y s2 hpy hvy hky hRy => ?_⟩
    have s02 := s1.trans s2
    have hlt : HT.lexLt x y = true := by
      rw [← Rk_iff hvx hvy hkx hky, hRx, hRy]
      exact decide_eq_true (by omega)
    refine ⟨_, rfl, _, rfl, p, p2, x, y, rfl, rfl, tup_same s2 hpx, hpy, by rw [valid_len hvx, valid_len hvy], _, rfl, ?_⟩
    rw [hlt]
    refine iteF ?_
    refine ⟨_, rfl, sa, rfl, ⟨_, s02.seq hs⟩, fun M hM => lc_list (K := K) (a := sa) (xs := xs) (fun i H' => Same H2 H' ∧ H' M = some (.lst [])) ⟨same_upd hM, upd_same⟩ (fun i H' _ ⟨z, _⟩ => (s02.trans z).seq hs) ?_ ?_⟩
    · rintro i v H3 hix ⟨s3, hm⟩
      obtain ⟨z, hz, a, rfl, ha⟩ := paired_get hX hix
      have hv := hXv z (mem_of_get hz)
      have s03 := s02.trans s3
      refine ⟨rfl, _, rfl, _, rfl, p, a, x, z, rfl, rfl, tup_same (s2.trans s3) hpx, tup_same s03 ha, _, rfl, ?_⟩
      cases e1 : HT.lexLt x z with
      | false => exact iteF ⟨_, rfl, iteF (iteF ⟨s3, hm⟩)⟩
      | true =>
        refine iteT ⟨_, rfl, a, p2, z, y, rfl, rfl, tup_same s03 ha, tup_same s3 hpy, _, rfl, ?_⟩
        cases e2 : HT.lexLt z y with
        | false => exact iteF (iteF ⟨s3, hm⟩)
        | true =>
          refine iteT ⟨_, rfl, _, rfl, g, a, T, lo, hi, z, rfl, h2.same s03, tup_same s03 ha, by rw [valid_len hv]; exact ok.t, by have := ok.tlen; omega, fun H4 s4 => ⟨_, rfl, ?_⟩⟩
          cases hb : keepsB T lo hi z with
          | false => exact iteF ⟨s3.trans s4, s4 _ _ hm⟩
          | true =>
            exfalso
            have hkz := keepsB_Kp.mp hb
            have c1 := Rk_lt hvx hv hkx hkz e1
            have c2 := Rk_lt hv hvy hkz hky e2
            omega
    · rintro H3 ⟨s3, hm⟩
      refine ⟨Nat.zero_le _, fun N nN => ?_⟩
      have sN := same_upd (o := .lst []) nN
      refine ⟨_, _, .lst (SqL.of (sN _ _ hm)) .nil, .lst (SqL.of upd_same) .nil, by rfl, by rfl, ?_⟩
      exact q _ ((s02.trans s3).trans sN)
end
end Gw

namespace Gw
open PySem PySem.Spec PyProof.Rows L2 GwR
theorem cut_ints (ns : List Int) (lo hi : Option Int) : ∃ ms : List Int, cutV (ns.map V.int) lo hi = ms.map V.int ∧ ms.length ≤ ns.length := by
  have h := cutV_length (ns.map V.int) lo hi
  refine ⟨(ns.drop (HT.sIx ns.length 0 lo)).take (HT.sIx ns.length ns.length hi - HT.sIx ns.length 0 lo), ?_, ?_⟩
  · unfold cutV
    rw [List.length_map, ← List.map_drop, ← List.map_take]
  · rw [List.length_take, List.length_drop]
    omega
section
variable {P : Program} {w : World} {K : PySem.W.Frag} {mg : Str → Option Value} {base : Heap}
/-! ### law -/
def spLaw (K : PySem.W.Frag) : Sp := fun vs H Q _ => ∃ (a : Addr) (ns : List Int), vs = [.ref a] ∧ SqL K H a (ns.map V.int) ∧ ns.length ≤ 63 ∧ ∀ H', Q (.bl true) H'
theorem ok_law (A0 : All K mg) : FnOk P w K mg base CX0 9 A0.law.f A0.law.fd ["script"] (spLaw K) := by
  have GC : FnOk P w K mg base CX0 1 A0.cell.f A0.cell.fd ["script", "k"] (spCellA K) := ok_cell A0
  have GP : FnOk P w K mg base CX0 1 A0.pen.f A0.pen.fd ["cell"] spPenA := ok_pen A0
  have GT : FnOk P w K mg base CX0 4 A0.counted.f A0.counted.fd ["pen"] (spCounted K) := ok_counted A0
  have GG : FnOk P w K mg base CX0 4 A0.gap.f A0.gap.fd ["pen", "drawing"] (spGapA K) := ok_gap A0
  have GI : FnOk P w K mg base CX0 3 A0.idled.f A0.idled.fd ["pen", "drawing", "gap"] (spIdled K) := ok_idled A0
  have GE : FnOk P w K mg base CX0 1 A0.ends.f A0.ends.fd ["drawing", "terms"] (spEnds K) := ok_ends A0
  have GS : FnOk P w K mg base CX0 3 A0.set.f A0.set.fd ["pen", "drawing"] (spSetA K) := ok_set A0
  have GK : FnOk P w K mg base CX0 6 A0.kept.f A0.kept.fd ["drawing", "gap"] (spKept K) := ok_kept A0
  have GD : FnOk P w K mg base CX0 2 A0.draw.f A0.draw.fd ["pen", "many"] spDraw := ok_draw A0
  have GQ : FnOk P w K mg base CX0 8 A0.sets.f A0.sets.fd ["drawing", "gap", "sets"] (spSets K) := ok_sets A0
  have GR : FnOk P w K mg base CX0 8 A0.right.f A0.right.fd ["drawing", "gap", "number"] (spRight K) := ok_right A0
  have GN : FnOk P w K mg base CX0 8 A0.none_.f A0.none_.fd ["drawing", "gap", "number", "sets"] (spNoneA K) := ok_none A0
  refine A0.law.F.ok sc_law (fun vs H Q E h => ?_) (fun cdv A outer s H vs Q E hr h => ?_)
  · obtain ⟨a, ns, rfl, _⟩ := h
    rfl
  · obtain ⟨a, ns, rfl, hS, hlen, q⟩ := h
    have hr6 : Room 6 _ := hr.mono (by decide)
    have hr4 : Room 4 _ := hr.mono (by decide)
    have hr3 : Room 3 _ := hr.mono (by decide)
    have hr2 : Room 2 _ := hr.mono (by decide)
    have hr1 : Room 1 _ := hr.mono (by decide)
    refine ⟨_, pss_cons (ps_for PassesOwn.never rfl (pi_list (pe_op op_cat (pe_lst (pa_cons (pe_call GC hr1 (by rfl) A0.cell.g A0.cell.F.kp A0.cell.b .nil pass0 (pa_cons (pv 0) (pa_cons pe_int pa_nil))) pa_nil)) (pe_slice sl_list (pv 0) (po_some pe_int) (po_some pe_int)))) (pg_name (i := 1) sc_law.nd rfl (.inl rfl))
        (pss_cons (ps_set (i := 2) sc_law.nd rfl (.inr rfl) (pe_call GP hr1 (by rfl) A0.pen.g A0.pen.F.kp A0.pen.b .nil pass0 (pa_cons (pv 1) pa_nil)))
        (pss_cons (ps_set (i := 3) sc_law.nd rfl (.inr rfl) (pe_call GT hr4 (by rfl) A0.counted.g A0.counted.F.kp A0.counted.b .nil pass0 (pa_cons (pv 2) pa_nil)))
        (pss_cons (ps_set (i := 4) sc_law.nd rfl (.inl rfl) (pe_call GG hr4 (by rfl) A0.gap.g A0.gap.F.kp A0.gap.b .nil pass0 (pa_cons (pv 2) (pa_cons (pv 3) pa_nil))))
        (pss_cons (ps_set (i := 3) sc_law.nd rfl (.inr rfl) (pe_call GI hr3 (by rfl) A0.idled.g A0.idled.F.kp A0.idled.b .nil pass0 (pa_cons (pv 2) (pa_cons (pv 3) (pa_cons (pv 4) pa_nil)))))
        (pss_cons (ps_asg (pe_call GE hr1 (by rfl) A0.ends.g A0.ends.F.kp A0.ends.b .nil pass0 (pa_cons (pv 3) (pa_cons (pe_ix ix_tup (pv 4) pe_int (fun _ _ => rfl)) pa_nil))) (pg_tup rfl (pgs_cons (pg_name (i := 5) sc_law.nd rfl (.inl rfl)) (pgs_cons (pg_name (i := 6) sc_law.nd rfl (.inl rfl)) pgs_nil))))
        (pss_cons (ps_setLc (i := 7) (own := [("turn", 10)]) (g := gName 10) (tt := tYes) rfl sc_law.nd rfl rfl (sw_true rfl rfl rfl (by decide +kernel))
          (pi_range1 (by rfl) A0.b_range (pa_cons pe_int pa_nil))
          (blkOk_by (N := ["script", "cell", "pen", "drawing", "gap", "least", "most", "sets", "every", "number", "turn"]) (sc := defScope sLaw) (own := [("turn", 10)]) (by decide +kernel)) (fun _ _ _ _ _ => pg_name (i := 10) sc_law.nd rfl (Or.inl rfl)) (fun _ _ _ _ _ => pts_nil)
          (fun _ _ _ _ _ => pe_call GS hr3 (by rfl) A0.set.g A0.set.F.kp A0.set.b .nil pass0 (pa_cons (pv 2) (pa_cons (pv 3) pa_nil))))
        (pss_one (ps_if (pt_cmpR op_lt (pe_op op_sub (pv 6) (pv 5)) pe_int (nomark _))
          (pss_cons (ps_set (i := 8) sc_law.nd rfl (.inl rfl) (pe_call GK hr6 (by rfl) A0.kept.g A0.kept.F.kp A0.kept.b .nil pass0 (pa_cons (pv 3) (pa_cons (pv 4) pa_nil))))
          (pss_cons (ps_if (pt_not (pt_val (pe_call GQ hr (by rfl) A0.sets.g A0.sets.F.kp A0.sets.b .nil pass0 (pa_cons (pv 3) (pa_cons (pv 4) (pa_cons (pv 7) pa_nil)))))) (pss_one (ps_ret pe_bl)) pss_nil)
          (pss_one (ps_for PassesOwn.never rfl (pi_list (pe_lst (pa_cons pe_int (pa_cons pe_int (pa_cons (pe_op op_sub (pv 8) pe_int) (pa_cons (pe_op op_sub (pv 8) pe_int) (pa_cons (pe_op op_fdiv (pv 8) pe_int)
              (pa_cons (pe_call GD hr2 (by rfl) A0.draw.g A0.draw.F.kp A0.draw.b .nil pass0 (pa_cons (pv 2) (pa_cons (pe_op op_pow pe_int pe_int) pa_nil))) pa_nil)))))))) (pg_name (i := 9) sc_law.nd rfl (.inl rfl))
            (C8.pss_cut (ps_if (PW.pt (pw_and (pt_chain op_le op_lt pe_int (pv 9) (pv 8)) (pw_and1 (pt_not (pt_val (pe_call GR hr (by rfl) A0.right.g A0.right.F.kp A0.right.b .nil pass0 (pa_cons (pv 3) (pa_cons (pv 4) (pa_cons (pv 9) pa_nil))))))))) (pss_one (ps_ret pe_bl)) pss_nil)
            (pss_one (ps_if (PW.pt (pw_and (pt_chain op_le op_lt pe_int (pv 9) (pe_op op_sub (pv 8) pe_int)) (pw_and1 (pt_not (pt_val (pe_call GN hr (by rfl) A0.none_.g A0.none_.F.kp A0.none_.b .nil pass0 (pa_cons (pv 3) (pa_cons (pv 4) (pa_cons (pv 9) (pa_cons (pv 7) pa_nil)))))))))) (pss_one (ps_ret pe_bl)) pss_nil))))))) pss_nil)))))))))
      (pss_one (ps_ret pe_bl)), ?_⟩
    obtain ⟨ms, hms, hml⟩ := cut_ints ns (some 1) (some 3)
    refine ⟨_, rfl, a, ns, rfl, hS, fun z => ⟨by show 1 ≤ sizeLine; decide, fun L nL => ?_⟩⟩
    have sL := same_upd (o := .lst [.int z]) nL
    refine ⟨_, rfl, 1, rfl, 3, rfl, a, _, rfl, sL.seq hS, fun S nS => ?_⟩
    rw [hms]
    have sS := same_upd (o := .lst (ms.map V.int)) nS
    refine ⟨L, S, _, _, rfl, rfl, sS _ _ upd_same, upd_same, by show 1 + (ms.map V.int).length ≤ sizeLine; rw [List.length_map]; exact Nat.le_of_lt (room1000 (by omega)), fun G nG => ?_⟩
    refine ⟨G, rfl, ⟨_, SqL.of upd_same⟩, for_list (K := K) (a := G) (xs := ((z :: ms).map V.int)) (fun i σ H' => H' G = some (.lst ((z :: ms).map V.int)) ∧ ∃ v1 v2 v3 v4 v5 v6 v7 v8 v9 v10, σ = [some (.ref a), v1, v2, v3, v4, v5, v6, v7, v8, v9, v10])
      ⟨upd_same, none, none, none, none, none, none, none, none, none, none, rfl⟩ (fun i σ H' _ ⟨z, _⟩ => SqL.of z) ?_ ?_⟩
    · rintro i v σ H1 hix ⟨hG, v1, v2, v3, v4, v5, v6, v7, v8, v9, v10, rfl⟩
      obtain ⟨c, rfl⟩ : ∃ c : Int, v = .int c := by
        have := mem_of_get hix
        obtain ⟨c, _, e⟩ := List.mem_map.mp this
        exact ⟨c, e.symm⟩
      refine ⟨_, rfl, c, rfl, fun H2 p s2 np hp => ?_⟩
      have hpG : G ≠ p := ne_of_none hG np
      have hG2 := s2 _ _ hG
      refine ⟨_, rfl, p, rfl, hp, fun H3 d0 D0 x3 p3 hd0 hD1 hD8 hDb => ?_⟩
      refine ⟨_, rfl, _, rfl, p, d0, D0, rfl, p3, hd0, hD1, hD8, fun q hq => (hDb q hq).1, fun H4 g T lo hi x4 p4 hg hT => ?_⟩
      have hT8 : T.length ≤ 8 := Nat.le_trans (Gw.tlen hT) hD8
      refine ⟨_, rfl, _, rfl, _, rfl, p, d0, g, D0, T, lo, hi, rfl, p4, hd0.imm (x4.imm p3.mut), hg, hD1, hD8, hT8, hDb, fun H5 d D x5 p5 hd hDl hD => ?_⟩
      have hg5 : GapAt K H5 g T lo hi := hg.imm (x5.imm p4.mut)
      obtain ⟨t, ts, hgt, ht, htp⟩ := id hg5
      have hT' : TOk D.length T := by rw [hDl]; exact hT
      refine ⟨_, rfl, _, rfl, g, _, 0, _, rfl, rfl, hgt, rfl, d, t, D, ts, T, rfl, hd, ht, htp, hT', fun q hq => (hD.sp q hq).1, fun H6 e s6 he => ?_⟩
      refine ⟨e, _, rfl, he, rfl, _, _, rfl, _, _, rfl, rfl, ?_⟩
      have hG6 := s6 _ _ (x5 _ _ hpG (x4 _ _ hpG (x3 _ _ hpG hG2)))
      have p6 := p5.same s6
      -- sets
      refine ⟨8, rfl, by omega, by omega, fun M nM => ?_⟩
      have hMp : M ≠ p := p6.nw nM
      have hGM : G ≠ M := ne_of_none hG6 nM
      refine lc_range (lo := 0) (n := (8 : Int).toNat) (fun i H' => SameX p H6 H' ∧ PenAt H' p ∧ ∃ ys X, H' M = some (.lst ys) ∧ Paired (SetV K H') ys X ∧ X.length = i ∧ ∀ x ∈ X, Valid D x)
        ⟨same_x (same_upd nM), p6.same (same_upd nM), [], [], upd_same, .nil, rfl, fun x hx => absurd hx (by simp)⟩ ?_ ?_
      · rintro i H7 hi8 ⟨x7, p7, ys, X, hM7, hX, hXl, hXv⟩
        have hd7 : DrAt K H7 d D := (hd.same s6).imm (x7.imm p6.mut)
        refine ⟨rfl, _, rfl, _, rfl, p, d, D, rfl, p7, hd7, hD, fun H8 n x x8 p8 hn hv => ?_⟩
        have hM8 := x8 _ _ hMp hM7
        have im := imm_mut (o := .lst (ys ++ [.ref n])) hM8 trivial
        refine ⟨ys, hM8, ?_, fun b o nb eb => ?_, p8.upd (Ne.symm hMp), ys ++ [.ref n], X ++ [x], upd_same, ?_, ?_, ?_⟩
        · have := paired_len hX
          exact room1000 (by omega)
        · rw [upd_ne (ne_of_none eb nM)]
          exact x8 b o nb (x7 b o nb eb)
        · exact Paired.snoc (SetV.imm im (SetV.imm (x8.imm p7.mut) hX)) ⟨n, rfl, tup_imm im hn⟩
        · rw [List.length_append, hXl]
          rfl
        · intro y hy
          rcases List.mem_append.mp hy with h | h
          · exact hXv y h
          · rw [List.mem_singleton.mp h]
            exact hv
      · rintro H7 ⟨x7, p7, ys, X, hM7, hX, hXl, hXv⟩
        have hG7 := x7 _ _ hpG hG6
        have im67 : Imm H6 H7 := x7.imm p6.mut
        have hd7 : DrAt K H7 d D := (hd.same s6).imm im67
        have hg7 : GapAt K H7 g T lo hi := (hg5.same s6).imm im67
        have hX8 : X.length ≤ 8 := by
          rw [hXl]
          exact Nat.le_refl _
        refine ⟨_, rfl, _, rfl, greatT D T, leastT D T, rfl, rfl, _, 400, rfl, rfl, _, rfl, ite2 (fun hc => ?_) (fun _ => ?_)⟩
        · have ok : GOk D T := ⟨hD, hT', by
            have := of_decide_eq_true hc
            omega⟩
          refine ⟨_, rfl, _, rfl, d, g, D, T, lo, hi, rfl, hd7, hg7, ok, fun H8 s8 => ?_⟩
          rw [kept_count ok]
          have hd8 := hd7.same s8
          have hg8 := hg7.same s8
          refine ⟨_, rfl, _, rfl, _, rfl, d, g, M, D, T, lo, hi, ys, X, rfl, hd8, hg8, ok, SqL.of (s8 _ _ hM7), SetV.imm (same_imm s8) hX, hXv, hX8, fun H9 s9 => ⟨_, rfl, iteF ?_⟩⟩
          have p9 := (p7.same s8).same s9
          refine ⟨_, rfl, _, 2, rfl, rfl, _, rfl, _, 1, rfl, rfl, _, rfl, _, 2, rfl, rfl, ⟨by decide, by decide⟩, _, rfl, 10, 15, rfl, rfl, ⟨by decide, by decide, by decide⟩, p, 10 ^ 15, rfl, p9, by decide, by decide, fun Ha r xa pa ra rb => ?_⟩
          refine ⟨by show 6 ≤ sizeLine; decide, fun N nN => ?_⟩
          have sN := same_upd (o := .lst ([0, 1, Nn (coef T) lo hi D 0 0 - 2, Nn (coef T) lo hi D 0 0 - 1, Nn (coef T) lo hi D 0 0 / 2, r].map V.int)) nN
          have x7a : SameX p H7 (upd Ha N (.lst ([0, 1, Nn (coef T) lo hi D 0 0 - 2, Nn (coef T) lo hi D 0 0 - 1, Nn (coef T) lo hi D 0 0 / 2, r].map V.int))) := ((same_x (s8.trans s9)).trans xa).trans (same_x sN)
          refine ⟨N, rfl, ⟨_, SqL.of upd_same⟩, for_list (K := K) (a := N) (xs := ([0, 1, Nn (coef T) lo hi D 0 0 - 2, Nn (coef T) lo hi D 0 0 - 1, Nn (coef T) lo hi D 0 0 / 2, r].map V.int))
            (fun i σ H' => SameX p H7 H' ∧ H' N = some (.lst ([0, 1, Nn (coef T) lo hi D 0 0 - 2, Nn (coef T) lo hi D 0 0 - 1, Nn (coef T) lo hi D 0 0 / 2, r].map V.int)) ∧ ∃ v9, σ = [some (.ref a), some (.int c), some (.ref p), some (.ref d), some (.ref g), some (.int (leastT D T)), some (.int (greatT D T)), some (.ref M), some (.int (Nn (coef T) lo hi D 0 0)), v9, v10])
            ⟨x7a, upd_same, v9, rfl⟩ (fun i σ H' _ ⟨_, z, _⟩ => SqL.of z) ?_ ?_⟩
          · rintro i v σ Hb hib ⟨xb, hNb, u9, rfl⟩
            obtain ⟨n, rfl⟩ : ∃ c : Int, v = .int c := by
              obtain ⟨c, _, e⟩ := List.mem_map.mp (mem_of_get hib)
              exact ⟨c, e.symm⟩
            have imb : Imm H7 Hb := xb.imm p7.mut
            have hdb := hd7.imm imb
            have hgb := hg7.imm imb
            refine ⟨fun σ' H' => Same Hb H' ∧ σ' = [some (.ref a), some (.int c), some (.ref p), some (.ref d), some (.ref g), some (.int (leastT D T)), some (.int (greatT D T)), some (.ref M), some (.int (Nn (coef T) lo hi D 0 0)), some (.int n), v10], ?_, ?_⟩
            · refine ⟨_, rfl, 0, n, rfl, rfl, _, rfl, ?_⟩
              by_cases c0 : 0 ≤ n
              · rw [decide_eq_true c0]
                refine iteT ⟨_, rfl, _, _, rfl, rfl, _, rfl, ?_⟩
                by_cases c1 : n < Nn (coef T) lo hi D 0 0
                · rw [decide_eq_true c1]
                  refine iteT ⟨_, rfl, _, rfl, _, rfl, d, g, D, T, lo, hi, n, rfl, hdb, hgb, ok, c0, c1, fun Hc sc => ⟨_, rfl, iteF ⟨sc, rfl⟩⟩⟩
                · rw [decide_eq_false c1]
                  exact iteF (iteF ⟨Same.refl _, rfl⟩)
              · rw [decide_eq_false c0]
                exact iteF ⟨_, rfl, iteF (iteF ⟨Same.refl _, rfl⟩)⟩
            · rintro σ' Hc ⟨sc, rfl⟩
              have hdc := hdb.same sc
              have hgc := hgb.same sc
              have xc := xb.trans (same_x sc)
              have hNc := sc _ _ hNb
              refine ⟨_, rfl, 0, n, rfl, rfl, _, rfl, ?_⟩
              by_cases c0 : 0 ≤ n
              · rw [decide_eq_true c0]
                refine iteT ⟨_, rfl, _, 1, rfl, rfl, _, _, rfl, rfl, _, rfl, ?_⟩
                by_cases c1 : n < Nn (coef T) lo hi D 0 0 - 1
                · rw [decide_eq_true c1]
                  refine iteT ⟨_, rfl, _, rfl, _, rfl, _, rfl, d, g, M, D, T, lo, hi, n, ys, X, rfl, hdc, hgc, ok, SqL.of (xc _ _ hMp hM7), SetV.imm (xc.imm p7.mut) hX, hXv, hX8, c0, by omega, fun Hd sd => ⟨_, rfl, iteF ⟨xc.trans (same_x sd), sd _ _ hNc, _, rfl⟩⟩⟩
                · rw [decide_eq_false c1]
                  exact iteF (iteF ⟨xc, hNc, _, rfl⟩)
              · rw [decide_eq_false c0]
                exact iteF ⟨_, rfl, iteF (iteF ⟨xc, hNc, _, rfl⟩)⟩
          · rintro σ Hb ⟨xb, hNb, u9, rfl⟩
            exact ⟨xb _ _ hpG hG7, _, _, _, _, _, _, _, _, _, _, rfl⟩
        · exact ⟨hG7, _, _, _, _, _, _, _, _, _, _, rfl⟩
    · rintro σ H1 ⟨hG, v1, v2, v3, v4, v5, v6, v7, v8, v9, v10, rfl⟩
      exact q _
end
end Gw

namespace Gw
open PySem PySem.Spec PyProof.Rows L2 GwR
/-! ### all that the top has left -/
def mkAll {K : PySem.W.Frag} {h : Heap} {mg : Str → Option Value} {C f1 f2 f3 f4 f5 f6 f7 f8 f9 f10 f11 f12 f13 f14 f15 f16 f17 f18 f19 f20 f21 f22 f23 f24 f25 f26 f27 f28 f29 f30 f31 f32 f33 f34 f35 f36 f37 f38 f39 : Addr} (X : K.In h) (G : h.Ns mainGlobals mg)
    {od1 an1 od2 an2 od3 an3 od4 an4 od5 an5 od6 an6 od7 an7 od8 an8 od9 an9 od10 an10 od11 an11 od12 an12 od13 an13 od14 an14 od15 an15 od16 an16 od17 an17 od18 an18 od19 an19 od20 an20 od21 an21 od22 an22 od23 an23 od24 an24 od25 an25 od26 an26 od27 an27 od28 an28 od29 an29 od30 an30 od31 an31 od32 an32 od33 an33 od34 an34 od35 an35 od36 an36 od37 an37 od38 an38 od39 an39 : Option Addr} {sl1 sl2 sl3 sl4 sl5 sl6 sl7 sl8 sl9 sl10 sl11 sl12 sl13 sl14 sl15 sl16 sl17 sl18 sl19 sl20 sl21 sl22 sl23 sl24 sl25 sl26 sl27 sl28 sl29 sl30 sl31 sl32 sl33 sl34 sl35 sl36 sl37 sl38 sl39 : Array (Option Value)} {oc1 kV1 dc1 pm1 cd1 ct1 oc2 kV2 dc2 pm2 cd2 ct2 oc3 kV3 dc3 pm3 cd3 ct3 oc4 kV4 dc4 pm4 cd4 ct4 oc5 kV5 dc5 pm5 cd5 ct5 oc6 kV6 dc6 pm6 cd6 ct6 oc7 kV7 dc7 pm7 cd7 ct7 oc8 kV8 dc8 pm8 cd8 ct8 oc9 kV9 dc9 pm9 cd9 ct9 oc10 kV10 dc10 pm10 cd10 ct10 oc11 kV11 dc11 pm11 cd11 ct11 oc12 kV12 dc12 pm12 cd12 ct12 oc13 kV13 dc13 pm13 cd13 ct13 oc14 kV14 dc14 pm14 cd14 ct14 oc15 kV15 dc15 pm15 cd15 ct15 oc16 kV16 dc16 pm16 cd16 ct16 oc17 kV17 dc17 pm17 cd17 ct17 oc18 kV18 dc18 pm18 cd18 ct18 oc19 kV19 dc19 pm19 cd19 ct19 oc20 kV20 dc20 pm20 cd20 ct20 oc21 kV21 dc21 pm21 cd21 ct21 oc22 kV22 dc22 pm22 cd22 ct22 oc23 kV23 dc23 pm23 cd23 ct23 oc24 kV24 dc24 pm24 cd24 ct24 oc25 kV25 dc25 pm25 cd25 ct25 oc26 kV26 dc26 pm26 cd26 ct26 oc27 kV27 dc27 pm27 cd27 ct27 oc28 kV28 dc28 pm28 cd28 ct28 oc29 kV29 dc29 pm29 cd29 ct29 oc30 kV30 dc30 pm30 cd30 ct30 oc31 kV31 dc31 pm31 cd31 ct31 oc32 kV32 dc32 pm32 cd32 ct32 oc33 kV33 dc33 pm33 cd33 ct33 oc34 kV34 dc34 pm34 cd34 ct34 oc35 kV35 dc35 pm35 cd35 ct35 oc36 kV36 dc36 pm36 cd36 ct36 oc37 kV37 dc37 pm37 cd37 ct37 oc38 kV38 dc38 pm38 cd38 ct38 oc39 kV39 dc39 pm39 cd39 ct39 : Value} {tk : Tok}
    (a1 : PySem.W.nsIn K mainGlobals "is_whole" = some (some (.ref f1))) (l1 : K.lookup f1 = some ⟨oc1, od1, .func (PySem.W.fnOf "is_whole" "is_whole" (defArgs sWhole) (defBody sWhole) (defScope sWhole) .none kV1 dc1 pm1 an1 cd1 ct1), sl1⟩) (c1 : PySem.W.codeIn K cd1 "is_whole" = true) (k1 : PySem.W.keepIn K (.ref f1) = true)
    (a2 : PySem.W.nsIn K mainGlobals "size_of" = some (some (.ref f2))) (l2 : K.lookup f2 = some ⟨oc2, od2, .func (PySem.W.fnOf "size_of" "size_of" (defArgs sSize) (defBody sSize) (defScope sSize) .none kV2 dc2 pm2 an2 cd2 ct2), sl2⟩) (c2 : PySem.W.codeIn K cd2 "size_of" = true) (k2 : PySem.W.keepIn K (.ref f2) = true)
    (a3 : PySem.W.nsIn K mainGlobals "is_set" = some (some (.ref f3))) (l3 : K.lookup f3 = some ⟨oc3, od3, .func (PySem.W.fnOf "is_set" "is_set" (defArgs sIsSet) (defBody sIsSet) (defScope sIsSet) .none kV3 dc3 pm3 an3 cd3 ct3), sl3⟩) (c3 : PySem.W.codeIn K cd3 "is_set" = true) (k3 : PySem.W.keepIn K (.ref f3) = true)
    (a4 : PySem.W.nsIn K mainGlobals "how_many" = some (some (.ref f4))) (l4 : K.lookup f4 = some ⟨oc4, od4, .func (PySem.W.fnOf "how_many" "how_many" (defArgs sHow) (defBody sHow) (defScope sHow) .none kV4 dc4 pm4 an4 cd4 ct4), sl4⟩) (c4 : PySem.W.codeIn K cd4 "how_many" = true) (k4 : PySem.W.keepIn K (.ref f4) = true)
    (a5 : PySem.W.nsIn K mainGlobals "worth_of" = some (some (.ref f5))) (l5 : K.lookup f5 = some ⟨oc5, od5, .func (PySem.W.fnOf "worth_of" "worth_of" (defArgs sWorth) (defBody sWorth) (defScope sWorth) .none kV5 dc5 pm5 an5 cd5 ct5), sl5⟩) (c5 : PySem.W.codeIn K cd5 "worth_of" = true) (k5 : PySem.W.keepIn K (.ref f5) = true)
    (a6 : PySem.W.nsIn K mainGlobals "keeps" = some (some (.ref f6))) (l6 : K.lookup f6 = some ⟨oc6, od6, .func (PySem.W.fnOf "keeps" "keeps" (defArgs sKeeps) (defBody sKeeps) (defScope sKeeps) .none kV6 dc6 pm6 an6 cd6 ct6), sl6⟩) (c6 : PySem.W.codeIn K cd6 "keeps" = true) (k6 : PySem.W.keepIn K (.ref f6) = true)
    (a7 : PySem.W.nsIn K mainGlobals "corner" = some (some (.ref f7))) (l7 : K.lookup f7 = some ⟨oc7, od7, .func (PySem.W.fnOf "corner" "corner" (defArgs sCorner) (defBody sCorner) (defScope sCorner) .none kV7 dc7 pm7 an7 cd7 ct7), sl7⟩) (c7 : PySem.W.codeIn K cd7 "corner" = true) (k7 : PySem.W.keepIn K (.ref f7) = true)
    (a8 : PySem.W.nsIn K mainGlobals "lowest" = some (some (.ref f8))) (l8 : K.lookup f8 = some ⟨oc8, od8, .func (PySem.W.fnOf "lowest" "lowest" (defArgs sLowest) (defBody sLowest) (defScope sLowest) .none kV8 dc8 pm8 an8 cd8 ct8), sl8⟩) (c8 : PySem.W.codeIn K cd8 "lowest" = true) (k8 : PySem.W.keepIn K (.ref f8) = true)
    (a9 : PySem.W.nsIn K mainGlobals "highest" = some (some (.ref f9))) (l9 : K.lookup f9 = some ⟨oc9, od9, .func (PySem.W.fnOf "highest" "highest" (defArgs sHighest) (defBody sHighest) (defScope sHighest) .none kV9 dc9 pm9 an9 cd9 ct9), sl9⟩) (c9 : PySem.W.codeIn K cd9 "highest" = true) (k9 : PySem.W.keepIn K (.ref f9) = true)
    (a10 : PySem.W.nsIn K mainGlobals "reach" = some (some (.ref f10))) (l10 : K.lookup f10 = some ⟨oc10, od10, .func (PySem.W.fnOf "reach" "reach" (defArgs sReach) (defBody sReach) (defScope sReach) .none kV10 dc10 pm10 an10 cd10 ct10), sl10⟩) (c10 : PySem.W.codeIn K cd10 "reach" = true) (k10 : PySem.W.keepIn K (.ref f10) = true)
    (a11 : PySem.W.nsIn K mainGlobals "check_reach" = some (some (.ref f11))) (l11 : K.lookup f11 = some ⟨oc11, od11, .func (PySem.W.fnOf "check_reach" "check_reach" (defArgs sCheck) (defBody sCheck) (defScope sCheck) .none kV11 dc11 pm11 an11 cd11 ct11), sl11⟩) (c11 : PySem.W.codeIn K cd11 "check_reach" = true) (k11 : PySem.W.keepIn K (.ref f11) = true)
    (a12 : PySem.W.nsIn K mainGlobals "risen" = some (some (.ref f12))) (l12 : K.lookup f12 = some ⟨oc12, od12, .func (PySem.W.fnOf "risen" "risen" (defArgs sRisen) (defBody sRisen) (defScope sRisen) .none kV12 dc12 pm12 an12 cd12 ct12), sl12⟩) (c12 : PySem.W.codeIn K cd12 "risen" = true) (k12 : PySem.W.keepIn K (.ref f12) = true)
    (a13 : PySem.W.nsIn K mainGlobals "ways_of" = some (some (.ref f13))) (l13 : K.lookup f13 = some ⟨oc13, od13, .func (PySem.W.fnOf "ways_of" "ways_of" (defArgs sWays) (defBody sWays) (defScope sWays) .none kV13 dc13 pm13 an13 cd13 ct13), sl13⟩) (c13 : PySem.W.codeIn K cd13 "ways_of" = true) (k13 : PySem.W.keepIn K (.ref f13) = true)
    (a14 : PySem.W.nsIn K mainGlobals "idle" = some (some (.ref f14))) (l14 : K.lookup f14 = some ⟨oc14, od14, .func (PySem.W.fnOf "idle" "idle" (defArgs sIdle) (defBody sIdle) (defScope sIdle) .none kV14 dc14 pm14 an14 cd14 ct14), sl14⟩) (c14 : PySem.W.codeIn K cd14 "idle" = true) (k14 : PySem.W.keepIn K (.ref f14) = true)
    (a15 : PySem.W.nsIn K mainGlobals "spread" = some (some (.ref f15))) (l15 : K.lookup f15 = some ⟨oc15, od15, .func (PySem.W.fnOf "spread" "spread" (defArgs sSpread) (defBody sSpread) (defScope sSpread) .none kV15 dc15 pm15 an15 cd15 ct15), sl15⟩) (c15 : PySem.W.codeIn K cd15 "spread" = true) (k15 : PySem.W.keepIn K (.ref f15) = true)
    (a16 : PySem.W.nsIn K mainGlobals "kept_count" = some (some (.ref f16))) (l16 : K.lookup f16 = some ⟨oc16, od16, .func (PySem.W.fnOf "kept_count" "kept_count" (defArgs sKept) (defBody sKept) (defScope sKept) .none kV16 dc16 pm16 an16 cd16 ct16), sl16⟩) (c16 : PySem.W.codeIn K cd16 "kept_count" = true) (k16 : PySem.W.keepIn K (.ref f16) = true)
    (a17 : PySem.W.nsIn K mainGlobals "times_at" = some (some (.ref f17))) (l17 : K.lookup f17 = some ⟨oc17, od17, .func (PySem.W.fnOf "times_at" "times_at" (defArgs sTimes) (defBody sTimes) (defScope sTimes) .none kV17 dc17 pm17 an17 cd17 ct17), sl17⟩) (c17 : PySem.W.codeIn K cd17 "times_at" = true) (k17 : PySem.W.keepIn K (.ref f17) = true)
    (a18 : PySem.W.nsIn K mainGlobals "nth" = some (some (.ref f18))) (l18 : K.lookup f18 = some ⟨oc18, od18, .func (PySem.W.fnOf "nth" "nth" (defArgs sNth) (defBody sNth) (defScope sNth) .none kV18 dc18 pm18 an18 cd18 ct18), sl18⟩) (c18 : PySem.W.codeIn K cd18 "nth" = true) (k18 : PySem.W.keepIn K (.ref f18) = true)
    (a19 : PySem.W.nsIn K mainGlobals "number_of" = some (some (.ref f19))) (l19 : K.lookup f19 = some ⟨oc19, od19, .func (PySem.W.fnOf "number_of" "number_of" (defArgs sNum) (defBody sNum) (defScope sNum) .none kV19 dc19 pm19 an19 cd19 ct19), sl19⟩) (c19 : PySem.W.codeIn K cd19 "number_of" = true) (k19 : PySem.W.keepIn K (.ref f19) = true)
    (a20 : PySem.W.nsIn K mainGlobals "_law_cell_at" = some (some (.ref f20))) (l20 : K.lookup f20 = some ⟨oc20, od20, .func (PySem.W.fnOf "_law_cell_at" "_law_cell_at" (defArgs sCell) (defBody sCell) (defScope sCell) .none kV20 dc20 pm20 an20 cd20 ct20), sl20⟩) (c20 : PySem.W.codeIn K cd20 "_law_cell_at" = true) (k20 : PySem.W.keepIn K (.ref f20) = true)
    (a21 : PySem.W.nsIn K mainGlobals "_law_next" = some (some (.ref f21))) (l21 : K.lookup f21 = some ⟨oc21, od21, .func (PySem.W.fnOf "_law_next" "_law_next" (defArgs sNext) (defBody sNext) (defScope sNext) .none kV21 dc21 pm21 an21 cd21 ct21), sl21⟩) (c21 : PySem.W.codeIn K cd21 "_law_next" = true) (k21 : PySem.W.keepIn K (.ref f21) = true)
    (a22 : PySem.W.nsIn K mainGlobals "_law_pen" = some (some (.ref f22))) (l22 : K.lookup f22 = some ⟨oc22, od22, .func (PySem.W.fnOf "_law_pen" "_law_pen" (defArgs sPen) (defBody sPen) (defScope sPen) .none kV22 dc22 pm22 an22 cd22 ct22), sl22⟩) (c22 : PySem.W.codeIn K cd22 "_law_pen" = true) (k22 : PySem.W.keepIn K (.ref f22) = true)
    (a23 : PySem.W.nsIn K mainGlobals "_law_draw" = some (some (.ref f23))) (l23 : K.lookup f23 = some ⟨oc23, od23, .func (PySem.W.fnOf "_law_draw" "_law_draw" (defArgs sDraw) (defBody sDraw) (defScope sDraw) .none kV23 dc23 pm23 an23 cd23 ct23), sl23⟩) (c23 : PySem.W.codeIn K cd23 "_law_draw" = true) (k23 : PySem.W.keepIn K (.ref f23) = true)
    (a24 : PySem.W.nsIn K mainGlobals "_law_number" = some (some (.ref f24))) (l24 : K.lookup f24 = some ⟨oc24, od24, .func (PySem.W.fnOf "_law_number" "_law_number" (defArgs sNumber) (defBody sNumber) (defScope sNumber) .none kV24 dc24 pm24 an24 cd24 ct24), sl24⟩) (c24 : PySem.W.codeIn K cd24 "_law_number" = true) (k24 : PySem.W.keepIn K (.ref f24) = true)
    (a25 : PySem.W.nsIn K mainGlobals "_law_names" = some (some (.ref f25))) (l25 : K.lookup f25 = some ⟨oc25, od25, .func (PySem.W.fnOf "_law_names" "_law_names" (defArgs sNames) (defBody sNames) (defScope sNames) .none kV25 dc25 pm25 an25 cd25 ct25), sl25⟩) (c25 : PySem.W.codeIn K cd25 "_law_names" = true) (k25 : PySem.W.keepIn K (.ref f25) = true)
    (a26 : PySem.W.nsIn K mainGlobals "_law_counted" = some (some (.ref f26))) (l26 : K.lookup f26 = some ⟨oc26, od26, .func (PySem.W.fnOf "_law_counted" "_law_counted" (defArgs sCounted) (defBody sCounted) (defScope sCounted) .none kV26 dc26 pm26 an26 cd26 ct26), sl26⟩) (c26 : PySem.W.codeIn K cd26 "_law_counted" = true) (k26 : PySem.W.keepIn K (.ref f26) = true)
    (a27 : PySem.W.nsIn K mainGlobals "_law_ends" = some (some (.ref f27))) (l27 : K.lookup f27 = some ⟨oc27, od27, .func (PySem.W.fnOf "_law_ends" "_law_ends" (defArgs sEnds) (defBody sEnds) (defScope sEnds) .none kV27 dc27 pm27 an27 cd27 ct27), sl27⟩) (c27 : PySem.W.codeIn K cd27 "_law_ends" = true) (k27 : PySem.W.keepIn K (.ref f27) = true)
    (a28 : PySem.W.nsIn K mainGlobals "_law_terms" = some (some (.ref f28))) (l28 : K.lookup f28 = some ⟨oc28, od28, .func (PySem.W.fnOf "_law_terms" "_law_terms" (defArgs sTerms) (defBody sTerms) (defScope sTerms) .none kV28 dc28 pm28 an28 cd28 ct28), sl28⟩) (c28 : PySem.W.codeIn K cd28 "_law_terms" = true) (k28 : PySem.W.keepIn K (.ref f28) = true)
    (a29 : PySem.W.nsIn K mainGlobals "_law_gap" = some (some (.ref f29))) (l29 : K.lookup f29 = some ⟨oc29, od29, .func (PySem.W.fnOf "_law_gap" "_law_gap" (defArgs sGap) (defBody sGap) (defScope sGap) .none kV29 dc29 pm29 an29 cd29 ct29), sl29⟩) (c29 : PySem.W.codeIn K cd29 "_law_gap" = true) (k29 : PySem.W.keepIn K (.ref f29) = true)
    (a30 : PySem.W.nsIn K mainGlobals "_law_idled" = some (some (.ref f30))) (l30 : K.lookup f30 = some ⟨oc30, od30, .func (PySem.W.fnOf "_law_idled" "_law_idled" (defArgs sIdled) (defBody sIdled) (defScope sIdled) .none kV30 dc30 pm30 an30 cd30 ct30), sl30⟩) (c30 : PySem.W.codeIn K cd30 "_law_idled" = true) (k30 : PySem.W.keepIn K (.ref f30) = true)
    (a31 : PySem.W.nsIn K mainGlobals "_law_set" = some (some (.ref f31))) (l31 : K.lookup f31 = some ⟨oc31, od31, .func (PySem.W.fnOf "_law_set" "_law_set" (defArgs sSet) (defBody sSet) (defScope sSet) .none kV31 dc31 pm31 an31 cd31 ct31), sl31⟩) (c31 : PySem.W.codeIn K cd31 "_law_set" = true) (k31 : PySem.W.keepIn K (.ref f31) = true)
    (a32 : PySem.W.nsIn K mainGlobals "_law_worth" = some (some (.ref f32))) (l32 : K.lookup f32 = some ⟨oc32, od32, .func (PySem.W.fnOf "_law_worth" "_law_worth" (defArgs sLWorth) (defBody sLWorth) (defScope sLWorth) .none kV32 dc32 pm32 an32 cd32 ct32), sl32⟩) (c32 : PySem.W.codeIn K cd32 "_law_worth" = true) (k32 : PySem.W.keepIn K (.ref f32) = true)
    (a33 : PySem.W.nsIn K mainGlobals "_law_keeps" = some (some (.ref f33))) (l33 : K.lookup f33 = some ⟨oc33, od33, .func (PySem.W.fnOf "_law_keeps" "_law_keeps" (defArgs sLKeeps) (defBody sLKeeps) (defScope sLKeeps) .none kV33 dc33 pm33 an33 cd33 ct33), sl33⟩) (c33 : PySem.W.codeIn K cd33 "_law_keeps" = true) (k33 : PySem.W.keepIn K (.ref f33) = true)
    (a34 : PySem.W.nsIn K mainGlobals "_law_number_right" = some (some (.ref f34))) (l34 : K.lookup f34 = some ⟨oc34, od34, .func (PySem.W.fnOf "_law_number_right" "_law_number_right" (defArgs sRight) (defBody sRight) (defScope sRight) .none kV34 dc34 pm34 an34 cd34 ct34), sl34⟩) (c34 : PySem.W.codeIn K cd34 "_law_number_right" = true) (k34 : PySem.W.keepIn K (.ref f34) = true)
    (a35 : PySem.W.nsIn K mainGlobals "_law_sets_right" = some (some (.ref f35))) (l35 : K.lookup f35 = some ⟨oc35, od35, .func (PySem.W.fnOf "_law_sets_right" "_law_sets_right" (defArgs sSets) (defBody sSets) (defScope sSets) .none kV35 dc35 pm35 an35 cd35 ct35), sl35⟩) (c35 : PySem.W.codeIn K cd35 "_law_sets_right" = true) (k35 : PySem.W.keepIn K (.ref f35) = true)
    (a36 : PySem.W.nsIn K mainGlobals "_law_none_between" = some (some (.ref f36))) (l36 : K.lookup f36 = some ⟨oc36, od36, .func (PySem.W.fnOf "_law_none_between" "_law_none_between" (defArgs sNone) (defBody sNone) (defScope sNone) .none kV36 dc36 pm36 an36 cd36 ct36), sl36⟩) (c36 : PySem.W.codeIn K cd36 "_law_none_between" = true) (k36 : PySem.W.keepIn K (.ref f36) = true)
    (a37 : PySem.W.nsIn K mainGlobals "law" = some (some (.ref f37))) (l37 : K.lookup f37 = some ⟨oc37, od37, .func (PySem.W.fnOf "law" "law" (defArgs sLaw) (defBody sLaw) (defScope sLaw) .none kV37 dc37 pm37 an37 cd37 ct37), sl37⟩) (c37 : PySem.W.codeIn K cd37 "law" = true) (k37 : PySem.W.keepIn K (.ref f37) = true)
    (aC : PySem.W.nsIn K mainGlobals "Behind" = some (some (.ref C)))
    (a38 : PySem.W.findIn K (.ref C) "__init__" = some (some (.ref f38))) (i38 : PySem.W.isFn K (.ref f38) = true) (l38 : K.lookup f38 = some ⟨oc38, od38, .func (PySem.W.fnOf "__init__" "Behind.__init__" (defArgs sBInit) (defBody sBInit) (defScope sBInit) .none kV38 dc38 pm38 an38 cd38 ct38), sl38⟩) (c38 : PySem.W.codeIn K cd38 "Behind.__init__" = true) (k38 : PySem.W.keepIn K (.ref f38) = true)
    (a39 : PySem.W.findIn K (.ref C) "ways_on" = some (some (.ref f39))) (i39 : PySem.W.isFn K (.ref f39) = true) (l39 : K.lookup f39 = some ⟨oc39, od39, .func (PySem.W.fnOf "ways_on" "Behind.ways_on" (defArgs sBOn) (defBody sBOn) (defScope sBOn) .none kV39 dc39 pm39 an39 cd39 ct39), sl39⟩) (c39 : PySem.W.codeIn K cd39 "Behind.ways_on" = true) (k39 : PySem.W.keepIn K (.ref f39) = true)
    (pg : PySem.W.plainGet K C Str.empty = true) (hd : PySem.W.hasDictIn K C = true) (po : PySem.W.plainOver K C = true) (sa : PySem.W.findIn K (.ref C) "__setattr__" = some (some (.builtin "object.__setattr__"))) (mk : PySem.W.makesIn K C = true) (kc : PySem.W.keepIn K (.ref C) = true)
    (nLow : PySem.W.findIn K (.ref C) "low" = some none)
    (nHigh : PySem.W.findIn K (.ref C) "high" = some none)
    (nLeast : PySem.W.findIn K (.ref C) "least" = some none)
    (nApart : PySem.W.findIn K (.ref C) "apart" = some none)
    (nSums : PySem.W.findIn K (.ref C) "sums" = some none)
    (most : PySem.W.nsIn K mainGlobals "MOST_WORTHS" = some (some (.int 400 tk)))
    (b_sum : PySem.W.nsIn K mainGlobals "sum" = some none)
    (b_isi : PySem.W.nsIn K mainGlobals "isinstance" = some none)
    (b_int : PySem.W.nsIn K mainGlobals "int" = some none)
    (b_bool : PySem.W.nsIn K mainGlobals "bool" = some none)
    (b_tuple : PySem.W.nsIn K mainGlobals "tuple" = some none)
    (b_len : PySem.W.nsIn K mainGlobals "len" = some none)
    (b_zip : PySem.W.nsIn K mainGlobals "zip" = some none)
    (b_range : PySem.W.nsIn K mainGlobals "range" = some none)
    (b_enum : PySem.W.nsIn K mainGlobals "enumerate" = some none)
    (b_abs : PySem.W.nsIn K mainGlobals "abs" = some none)
    (b_max : PySem.W.nsIn K mainGlobals "max" = some none)
    (b_min : PySem.W.nsIn K mainGlobals "min" = some none)
    (b_sorted : PySem.W.nsIn K mainGlobals "sorted" = some none) : All K mg where
  whole := ⟨f1, _, (fun_mk (st := sWhole) l1 c1 k1), PySem.W.mg_of X G a1, (fun_mk (st := sWhole) l1 c1 k1).binds (ps := ["thing"]) (fun _ _ _ _ _ _ us hl => match us, hl with | [_], _ => rfl)⟩
  size := ⟨f2, _, (fun_mk (st := sSize) l2 c2 k2), PySem.W.mg_of X G a2, (fun_mk (st := sSize) l2 c2 k2).binds (ps := ["one"]) (fun _ _ _ _ _ _ us hl => match us, hl with | [_], _ => rfl)⟩
  isset := ⟨f3, _, (fun_mk (st := sIsSet) l3 c3 k3), PySem.W.mg_of X G a3, (fun_mk (st := sIsSet) l3 c3 k3).binds (ps := ["drawing", "thing"]) (fun _ _ _ _ _ _ us hl => match us, hl with | [_, _], _ => rfl)⟩
  how := ⟨f4, _, (fun_mk (st := sHow) l4 c4 k4), PySem.W.mg_of X G a4, (fun_mk (st := sHow) l4 c4 k4).binds (ps := ["drawing"]) (fun _ _ _ _ _ _ us hl => match us, hl with | [_], _ => rfl)⟩
  worth := ⟨f5, _, (fun_mk (st := sWorth) l5 c5 k5), PySem.W.mg_of X G a5, (fun_mk (st := sWorth) l5 c5 k5).binds (ps := ["gap", "numbers"]) (fun _ _ _ _ _ _ us hl => match us, hl with | [_, _], _ => rfl)⟩
  keeps := ⟨f6, _, (fun_mk (st := sKeeps) l6 c6 k6), PySem.W.mg_of X G a6, (fun_mk (st := sKeeps) l6 c6 k6).binds (ps := ["gap", "numbers"]) (fun _ _ _ _ _ _ us hl => match us, hl with | [_, _], _ => rfl)⟩
  corner := ⟨f7, _, (fun_mk (st := sCorner) l7 c7 k7), PySem.W.mg_of X G a7, (fun_mk (st := sCorner) l7 c7 k7).binds (ps := ["drawing", "gap", "up"]) (fun _ _ _ _ _ _ us hl => match us, hl with | [_, _, _], _ => rfl)⟩
  lowest := ⟨f8, _, (fun_mk (st := sLowest) l8 c8 k8), PySem.W.mg_of X G a8, (fun_mk (st := sLowest) l8 c8 k8).binds (ps := ["drawing", "gap"]) (fun _ _ _ _ _ _ us hl => match us, hl with | [_, _], _ => rfl)⟩
  highest := ⟨f9, _, (fun_mk (st := sHighest) l9 c9 k9), PySem.W.mg_of X G a9, (fun_mk (st := sHighest) l9 c9 k9).binds (ps := ["drawing", "gap"]) (fun _ _ _ _ _ _ us hl => match us, hl with | [_, _], _ => rfl)⟩
  reach := ⟨f10, _, (fun_mk (st := sReach) l10 c10 k10), PySem.W.mg_of X G a10, (fun_mk (st := sReach) l10 c10 k10).binds (ps := ["drawing", "gap"]) (fun _ _ _ _ _ _ us hl => match us, hl with | [_, _], _ => rfl)⟩
  check := ⟨f11, _, (fun_mk (st := sCheck) l11 c11 k11), PySem.W.mg_of X G a11, (fun_mk (st := sCheck) l11 c11 k11).binds (ps := ["drawing", "gap"]) (fun _ _ _ _ _ _ us hl => match us, hl with | [_, _], _ => rfl)⟩
  risen := ⟨f12, _, (fun_mk (st := sRisen) l12 c12 k12), PySem.W.mg_of X G a12, (fun_mk (st := sRisen) l12 c12 k12).binds (ps := ["ways", "by", "room"]) (fun _ _ _ _ _ _ us hl => match us, hl with | [_, _, _], _ => rfl)⟩
  ways := ⟨f13, _, (fun_mk (st := sWays) l13 c13 k13), PySem.W.mg_of X G a13, (fun_mk (st := sWays) l13 c13 k13).binds (ps := ["drawing", "terms"]) (fun _ _ _ _ _ _ us hl => match us, hl with | [_, _], _ => rfl)⟩
  idle := ⟨f14, _, (fun_mk (st := sIdle) l14 c14 k14), PySem.W.mg_of X G a14, (fun_mk (st := sIdle) l14 c14 k14).binds (ps := ["drawing", "gap", "first"]) (fun _ _ _ _ _ _ us hl => match us, hl with | [_, _, _], _ => rfl)⟩
  spread := ⟨f15, _, (fun_mk (st := sSpread) l15 c15 k15), PySem.W.mg_of X G a15, (fun_mk (st := sSpread) l15 c15 k15).binds (ps := ["drawing", "gap"]) (fun _ _ _ _ _ _ us hl => match us, hl with | [_, _], _ => rfl)⟩
  kept := ⟨f16, _, (fun_mk (st := sKept) l16 c16 k16), PySem.W.mg_of X G a16, (fun_mk (st := sKept) l16 c16 k16).binds (ps := ["drawing", "gap"]) (fun _ _ _ _ _ _ us hl => match us, hl with | [_, _], _ => rfl)⟩
  times := ⟨f17, _, (fun_mk (st := sTimes) l17 c17 k17), PySem.W.mg_of X G a17, (fun_mk (st := sTimes) l17 c17 k17).binds (ps := ["gap", "place"]) (fun _ _ _ _ _ _ us hl => match us, hl with | [_, _], _ => rfl)⟩
  nth := ⟨f18, _, (fun_mk (st := sNth) l18 c18 k18), PySem.W.mg_of X G a18, (fun_mk (st := sNth) l18 c18 k18).binds (ps := ["drawing", "gap", "number"]) (fun _ _ _ _ _ _ us hl => match us, hl with | [_, _, _], _ => rfl)⟩
  num := ⟨f19, _, (fun_mk (st := sNum) l19 c19 k19), PySem.W.mg_of X G a19, (fun_mk (st := sNum) l19 c19 k19).binds (ps := ["drawing", "gap", "thing"]) (fun _ _ _ _ _ _ us hl => match us, hl with | [_, _, _], _ => rfl)⟩
  cell := ⟨f20, _, (fun_mk (st := sCell) l20 c20 k20), PySem.W.mg_of X G a20, (fun_mk (st := sCell) l20 c20 k20).binds (ps := ["script", "k"]) (fun _ _ _ _ _ _ us hl => match us, hl with | [_, _], _ => rfl)⟩
  next := ⟨f21, _, (fun_mk (st := sNext) l21 c21 k21), PySem.W.mg_of X G a21, (fun_mk (st := sNext) l21 c21 k21).binds (ps := ["seed"]) (fun _ _ _ _ _ _ us hl => match us, hl with | [_], _ => rfl)⟩
  pen := ⟨f22, _, (fun_mk (st := sPen) l22 c22 k22), PySem.W.mg_of X G a22, (fun_mk (st := sPen) l22 c22 k22).binds (ps := ["cell"]) (fun _ _ _ _ _ _ us hl => match us, hl with | [_], _ => rfl)⟩
  draw := ⟨f23, _, (fun_mk (st := sDraw) l23 c23 k23), PySem.W.mg_of X G a23, (fun_mk (st := sDraw) l23 c23 k23).binds (ps := ["pen", "many"]) (fun _ _ _ _ _ _ us hl => match us, hl with | [_, _], _ => rfl)⟩
  number := ⟨f24, _, (fun_mk (st := sNumber) l24 c24 k24), PySem.W.mg_of X G a24, (fun_mk (st := sNumber) l24 c24 k24).binds (ps := ["pen"]) (fun _ _ _ _ _ _ us hl => match us, hl with | [_], _ => rfl)⟩
  names := ⟨f25, _, (fun_mk (st := sNames) l25 c25 k25), PySem.W.mg_of X G a25, (fun_mk (st := sNames) l25 c25 k25).binds (ps := ["pen"]) (fun _ _ _ _ _ _ us hl => match us, hl with | [_], _ => rfl)⟩
  counted := ⟨f26, _, (fun_mk (st := sCounted) l26 c26 k26), PySem.W.mg_of X G a26, (fun_mk (st := sCounted) l26 c26 k26).binds (ps := ["pen"]) (fun _ _ _ _ _ _ us hl => match us, hl with | [_], _ => rfl)⟩
  ends := ⟨f27, _, (fun_mk (st := sEnds) l27 c27 k27), PySem.W.mg_of X G a27, (fun_mk (st := sEnds) l27 c27 k27).binds (ps := ["drawing", "terms"]) (fun _ _ _ _ _ _ us hl => match us, hl with | [_, _], _ => rfl)⟩
  terms := ⟨f28, _, (fun_mk (st := sTerms) l28 c28 k28), PySem.W.mg_of X G a28, (fun_mk (st := sTerms) l28 c28 k28).binds (ps := ["pen", "drawing"]) (fun _ _ _ _ _ _ us hl => match us, hl with | [_, _], _ => rfl)⟩
  gap := ⟨f29, _, (fun_mk (st := sGap) l29 c29 k29), PySem.W.mg_of X G a29, (fun_mk (st := sGap) l29 c29 k29).binds (ps := ["pen", "drawing"]) (fun _ _ _ _ _ _ us hl => match us, hl with | [_, _], _ => rfl)⟩
  idled := ⟨f30, _, (fun_mk (st := sIdled) l30 c30 k30), PySem.W.mg_of X G a30, (fun_mk (st := sIdled) l30 c30 k30).binds (ps := ["pen", "drawing", "gap"]) (fun _ _ _ _ _ _ us hl => match us, hl with | [_, _, _], _ => rfl)⟩
  set := ⟨f31, _, (fun_mk (st := sSet) l31 c31 k31), PySem.W.mg_of X G a31, (fun_mk (st := sSet) l31 c31 k31).binds (ps := ["pen", "drawing"]) (fun _ _ _ _ _ _ us hl => match us, hl with | [_, _], _ => rfl)⟩
  lworth := ⟨f32, _, (fun_mk (st := sLWorth) l32 c32 k32), PySem.W.mg_of X G a32, (fun_mk (st := sLWorth) l32 c32 k32).binds (ps := ["gap", "one"]) (fun _ _ _ _ _ _ us hl => match us, hl with | [_, _], _ => rfl)⟩
  lkeeps := ⟨f33, _, (fun_mk (st := sLKeeps) l33 c33 k33), PySem.W.mg_of X G a33, (fun_mk (st := sLKeeps) l33 c33 k33).binds (ps := ["gap", "one"]) (fun _ _ _ _ _ _ us hl => match us, hl with | [_, _], _ => rfl)⟩
  right := ⟨f34, _, (fun_mk (st := sRight) l34 c34 k34), PySem.W.mg_of X G a34, (fun_mk (st := sRight) l34 c34 k34).binds (ps := ["drawing", "gap", "number"]) (fun _ _ _ _ _ _ us hl => match us, hl with | [_, _, _], _ => rfl)⟩
  sets := ⟨f35, _, (fun_mk (st := sSets) l35 c35 k35), PySem.W.mg_of X G a35, (fun_mk (st := sSets) l35 c35 k35).binds (ps := ["drawing", "gap", "sets"]) (fun _ _ _ _ _ _ us hl => match us, hl with | [_, _, _], _ => rfl)⟩
  none_ := ⟨f36, _, (fun_mk (st := sNone) l36 c36 k36), PySem.W.mg_of X G a36, (fun_mk (st := sNone) l36 c36 k36).binds (ps := ["drawing", "gap", "number", "sets"]) (fun _ _ _ _ _ _ us hl => match us, hl with | [_, _, _, _], _ => rfl)⟩
  law := ⟨f37, _, (fun_mk (st := sLaw) l37 c37 k37), PySem.W.mg_of X G a37, (fun_mk (st := sLaw) l37 c37 k37).binds (ps := ["script"]) (fun _ _ _ _ _ _ us hl => match us, hl with | [_], _ => rfl)⟩
  C := C
  gC := PySem.W.mg_of X G aC
  init := ⟨f38, _, (fun_mk (st := sBInit) l38 c38 k38), (fun_mk (st := sBInit) l38 c38 k38).binds (ps := ["self", "drawing", "gap", "first"]) (fun _ _ _ _ _ _ us hl => match us, hl with | [_, _, _, _], _ => rfl)⟩
  on := ⟨f39, _, (fun_mk (st := sBOn) l39 c39 k39), (fun_mk (st := sBOn) l39 c39 k39).binds (ps := ["self", "ahead"]) (fun _ _ _ _ _ _ us hl => match us, hl with | [_, _], _ => rfl)⟩
  cl := ⟨pg, hd, po, sa⟩
  mkc := ⟨mk, a38, i38, kc⟩
  mon := ⟨a39, i39, k39⟩
  nLow := nLow
  nHigh := nHigh
  nLeast := nLeast
  nApart := nApart
  nSums := nSums
  most := ⟨tk, PySem.W.mg_of X G most⟩
  b_sum := PySem.W.mg_none_of X G b_sum
  b_isi := PySem.W.mg_none_of X G b_isi
  b_int := PySem.W.mg_none_of X G b_int
  b_bool := PySem.W.mg_none_of X G b_bool
  b_tuple := PySem.W.mg_none_of X G b_tuple
  b_len := PySem.W.mg_none_of X G b_len
  b_zip := PySem.W.mg_none_of X G b_zip
  b_range := PySem.W.mg_none_of X G b_range
  b_enum := PySem.W.mg_none_of X G b_enum
  b_abs := PySem.W.mg_none_of X G b_abs
  b_max := PySem.W.mg_none_of X G b_max
  b_min := PySem.W.mg_none_of X G b_min
  b_sorted := PySem.W.mg_none_of X G b_sorted
theorem all_mk {l : PySem.W.OpenLaw} {fa : Addr} {w : World} {K : PySem.W.Frag} {h : Heap} {mg : Str → Option Value} {C f1 f2 f3 f4 f5 f6 f7 f8 f9 f10 f11 f12 f13 f14 f15 f16 f17 f18 f19 f20 f21 f22 f23 f24 f25 f26 f27 f28 f29 f30 f31 f32 f33 f34 f35 f36 f37 f38 f39 : Addr} (X : K.In h) (G : h.Ns mainGlobals mg)
    {od1 an1 od2 an2 od3 an3 od4 an4 od5 an5 od6 an6 od7 an7 od8 an8 od9 an9 od10 an10 od11 an11 od12 an12 od13 an13 od14 an14 od15 an15 od16 an16 od17 an17 od18 an18 od19 an19 od20 an20 od21 an21 od22 an22 od23 an23 od24 an24 od25 an25 od26 an26 od27 an27 od28 an28 od29 an29 od30 an30 od31 an31 od32 an32 od33 an33 od34 an34 od35 an35 od36 an36 od37 an37 od38 an38 od39 an39 : Option Addr} {sl1 sl2 sl3 sl4 sl5 sl6 sl7 sl8 sl9 sl10 sl11 sl12 sl13 sl14 sl15 sl16 sl17 sl18 sl19 sl20 sl21 sl22 sl23 sl24 sl25 sl26 sl27 sl28 sl29 sl30 sl31 sl32 sl33 sl34 sl35 sl36 sl37 sl38 sl39 : Array (Option Value)} {oc1 kV1 dc1 pm1 cd1 ct1 oc2 kV2 dc2 pm2 cd2 ct2 oc3 kV3 dc3 pm3 cd3 ct3 oc4 kV4 dc4 pm4 cd4 ct4 oc5 kV5 dc5 pm5 cd5 ct5 oc6 kV6 dc6 pm6 cd6 ct6 oc7 kV7 dc7 pm7 cd7 ct7 oc8 kV8 dc8 pm8 cd8 ct8 oc9 kV9 dc9 pm9 cd9 ct9 oc10 kV10 dc10 pm10 cd10 ct10 oc11 kV11 dc11 pm11 cd11 ct11 oc12 kV12 dc12 pm12 cd12 ct12 oc13 kV13 dc13 pm13 cd13 ct13 oc14 kV14 dc14 pm14 cd14 ct14 oc15 kV15 dc15 pm15 cd15 ct15 oc16 kV16 dc16 pm16 cd16 ct16 oc17 kV17 dc17 pm17 cd17 ct17 oc18 kV18 dc18 pm18 cd18 ct18 oc19 kV19 dc19 pm19 cd19 ct19 oc20 kV20 dc20 pm20 cd20 ct20 oc21 kV21 dc21 pm21 cd21 ct21 oc22 kV22 dc22 pm22 cd22 ct22 oc23 kV23 dc23 pm23 cd23 ct23 oc24 kV24 dc24 pm24 cd24 ct24 oc25 kV25 dc25 pm25 cd25 ct25 oc26 kV26 dc26 pm26 cd26 ct26 oc27 kV27 dc27 pm27 cd27 ct27 oc28 kV28 dc28 pm28 cd28 ct28 oc29 kV29 dc29 pm29 cd29 ct29 oc30 kV30 dc30 pm30 cd30 ct30 oc31 kV31 dc31 pm31 cd31 ct31 oc32 kV32 dc32 pm32 cd32 ct32 oc33 kV33 dc33 pm33 cd33 ct33 oc34 kV34 dc34 pm34 cd34 ct34 oc35 kV35 dc35 pm35 cd35 ct35 oc36 kV36 dc36 pm36 cd36 ct36 oc37 kV37 dc37 pm37 cd37 ct37 oc38 kV38 dc38 pm38 cd38 ct38 oc39 kV39 dc39 pm39 cd39 ct39 : Value} {tk : Tok} (hfa : mg "law" = some (.ref fa))
    (a1 : PySem.W.nsIn K mainGlobals "is_whole" = some (some (.ref f1))) (l1 : K.lookup f1 = some ⟨oc1, od1, .func (PySem.W.fnOf "is_whole" "is_whole" (defArgs sWhole) (defBody sWhole) (defScope sWhole) .none kV1 dc1 pm1 an1 cd1 ct1), sl1⟩) (c1 : PySem.W.codeIn K cd1 "is_whole" = true) (k1 : PySem.W.keepIn K (.ref f1) = true)
    (a2 : PySem.W.nsIn K mainGlobals "size_of" = some (some (.ref f2))) (l2 : K.lookup f2 = some ⟨oc2, od2, .func (PySem.W.fnOf "size_of" "size_of" (defArgs sSize) (defBody sSize) (defScope sSize) .none kV2 dc2 pm2 an2 cd2 ct2), sl2⟩) (c2 : PySem.W.codeIn K cd2 "size_of" = true) (k2 : PySem.W.keepIn K (.ref f2) = true)
    (a3 : PySem.W.nsIn K mainGlobals "is_set" = some (some (.ref f3))) (l3 : K.lookup f3 = some ⟨oc3, od3, .func (PySem.W.fnOf "is_set" "is_set" (defArgs sIsSet) (defBody sIsSet) (defScope sIsSet) .none kV3 dc3 pm3 an3 cd3 ct3), sl3⟩) (c3 : PySem.W.codeIn K cd3 "is_set" = true) (k3 : PySem.W.keepIn K (.ref f3) = true)
    (a4 : PySem.W.nsIn K mainGlobals "how_many" = some (some (.ref f4))) (l4 : K.lookup f4 = some ⟨oc4, od4, .func (PySem.W.fnOf "how_many" "how_many" (defArgs sHow) (defBody sHow) (defScope sHow) .none kV4 dc4 pm4 an4 cd4 ct4), sl4⟩) (c4 : PySem.W.codeIn K cd4 "how_many" = true) (k4 : PySem.W.keepIn K (.ref f4) = true)
    (a5 : PySem.W.nsIn K mainGlobals "worth_of" = some (some (.ref f5))) (l5 : K.lookup f5 = some ⟨oc5, od5, .func (PySem.W.fnOf "worth_of" "worth_of" (defArgs sWorth) (defBody sWorth) (defScope sWorth) .none kV5 dc5 pm5 an5 cd5 ct5), sl5⟩) (c5 : PySem.W.codeIn K cd5 "worth_of" = true) (k5 : PySem.W.keepIn K (.ref f5) = true)
    (a6 : PySem.W.nsIn K mainGlobals "keeps" = some (some (.ref f6))) (l6 : K.lookup f6 = some ⟨oc6, od6, .func (PySem.W.fnOf "keeps" "keeps" (defArgs sKeeps) (defBody sKeeps) (defScope sKeeps) .none kV6 dc6 pm6 an6 cd6 ct6), sl6⟩) (c6 : PySem.W.codeIn K cd6 "keeps" = true) (k6 : PySem.W.keepIn K (.ref f6) = true)
    (a7 : PySem.W.nsIn K mainGlobals "corner" = some (some (.ref f7))) (l7 : K.lookup f7 = some ⟨oc7, od7, .func (PySem.W.fnOf "corner" "corner" (defArgs sCorner) (defBody sCorner) (defScope sCorner) .none kV7 dc7 pm7 an7 cd7 ct7), sl7⟩) (c7 : PySem.W.codeIn K cd7 "corner" = true) (k7 : PySem.W.keepIn K (.ref f7) = true)
    (a8 : PySem.W.nsIn K mainGlobals "lowest" = some (some (.ref f8))) (l8 : K.lookup f8 = some ⟨oc8, od8, .func (PySem.W.fnOf "lowest" "lowest" (defArgs sLowest) (defBody sLowest) (defScope sLowest) .none kV8 dc8 pm8 an8 cd8 ct8), sl8⟩) (c8 : PySem.W.codeIn K cd8 "lowest" = true) (k8 : PySem.W.keepIn K (.ref f8) = true)
    (a9 : PySem.W.nsIn K mainGlobals "highest" = some (some (.ref f9))) (l9 : K.lookup f9 = some ⟨oc9, od9, .func (PySem.W.fnOf "highest" "highest" (defArgs sHighest) (defBody sHighest) (defScope sHighest) .none kV9 dc9 pm9 an9 cd9 ct9), sl9⟩) (c9 : PySem.W.codeIn K cd9 "highest" = true) (k9 : PySem.W.keepIn K (.ref f9) = true)
    (a10 : PySem.W.nsIn K mainGlobals "reach" = some (some (.ref f10))) (l10 : K.lookup f10 = some ⟨oc10, od10, .func (PySem.W.fnOf "reach" "reach" (defArgs sReach) (defBody sReach) (defScope sReach) .none kV10 dc10 pm10 an10 cd10 ct10), sl10⟩) (c10 : PySem.W.codeIn K cd10 "reach" = true) (k10 : PySem.W.keepIn K (.ref f10) = true)
    (a11 : PySem.W.nsIn K mainGlobals "check_reach" = some (some (.ref f11))) (l11 : K.lookup f11 = some ⟨oc11, od11, .func (PySem.W.fnOf "check_reach" "check_reach" (defArgs sCheck) (defBody sCheck) (defScope sCheck) .none kV11 dc11 pm11 an11 cd11 ct11), sl11⟩) (c11 : PySem.W.codeIn K cd11 "check_reach" = true) (k11 : PySem.W.keepIn K (.ref f11) = true)
    (a12 : PySem.W.nsIn K mainGlobals "risen" = some (some (.ref f12))) (l12 : K.lookup f12 = some ⟨oc12, od12, .func (PySem.W.fnOf "risen" "risen" (defArgs sRisen) (defBody sRisen) (defScope sRisen) .none kV12 dc12 pm12 an12 cd12 ct12), sl12⟩) (c12 : PySem.W.codeIn K cd12 "risen" = true) (k12 : PySem.W.keepIn K (.ref f12) = true)
    (a13 : PySem.W.nsIn K mainGlobals "ways_of" = some (some (.ref f13))) (l13 : K.lookup f13 = some ⟨oc13, od13, .func (PySem.W.fnOf "ways_of" "ways_of" (defArgs sWays) (defBody sWays) (defScope sWays) .none kV13 dc13 pm13 an13 cd13 ct13), sl13⟩) (c13 : PySem.W.codeIn K cd13 "ways_of" = true) (k13 : PySem.W.keepIn K (.ref f13) = true)
    (a14 : PySem.W.nsIn K mainGlobals "idle" = some (some (.ref f14))) (l14 : K.lookup f14 = some ⟨oc14, od14, .func (PySem.W.fnOf "idle" "idle" (defArgs sIdle) (defBody sIdle) (defScope sIdle) .none kV14 dc14 pm14 an14 cd14 ct14), sl14⟩) (c14 : PySem.W.codeIn K cd14 "idle" = true) (k14 : PySem.W.keepIn K (.ref f14) = true)
    (a15 : PySem.W.nsIn K mainGlobals "spread" = some (some (.ref f15))) (l15 : K.lookup f15 = some ⟨oc15, od15, .func (PySem.W.fnOf "spread" "spread" (defArgs sSpread) (defBody sSpread) (defScope sSpread) .none kV15 dc15 pm15 an15 cd15 ct15), sl15⟩) (c15 : PySem.W.codeIn K cd15 "spread" = true) (k15 : PySem.W.keepIn K (.ref f15) = true)
    (a16 : PySem.W.nsIn K mainGlobals "kept_count" = some (some (.ref f16))) (l16 : K.lookup f16 = some ⟨oc16, od16, .func (PySem.W.fnOf "kept_count" "kept_count" (defArgs sKept) (defBody sKept) (defScope sKept) .none kV16 dc16 pm16 an16 cd16 ct16), sl16⟩) (c16 : PySem.W.codeIn K cd16 "kept_count" = true) (k16 : PySem.W.keepIn K (.ref f16) = true)
    (a17 : PySem.W.nsIn K mainGlobals "times_at" = some (some (.ref f17))) (l17 : K.lookup f17 = some ⟨oc17, od17, .func (PySem.W.fnOf "times_at" "times_at" (defArgs sTimes) (defBody sTimes) (defScope sTimes) .none kV17 dc17 pm17 an17 cd17 ct17), sl17⟩) (c17 : PySem.W.codeIn K cd17 "times_at" = true) (k17 : PySem.W.keepIn K (.ref f17) = true)
    (a18 : PySem.W.nsIn K mainGlobals "nth" = some (some (.ref f18))) (l18 : K.lookup f18 = some ⟨oc18, od18, .func (PySem.W.fnOf "nth" "nth" (defArgs sNth) (defBody sNth) (defScope sNth) .none kV18 dc18 pm18 an18 cd18 ct18), sl18⟩) (c18 : PySem.W.codeIn K cd18 "nth" = true) (k18 : PySem.W.keepIn K (.ref f18) = true)
    (a19 : PySem.W.nsIn K mainGlobals "number_of" = some (some (.ref f19))) (l19 : K.lookup f19 = some ⟨oc19, od19, .func (PySem.W.fnOf "number_of" "number_of" (defArgs sNum) (defBody sNum) (defScope sNum) .none kV19 dc19 pm19 an19 cd19 ct19), sl19⟩) (c19 : PySem.W.codeIn K cd19 "number_of" = true) (k19 : PySem.W.keepIn K (.ref f19) = true)
    (a20 : PySem.W.nsIn K mainGlobals "_law_cell_at" = some (some (.ref f20))) (l20 : K.lookup f20 = some ⟨oc20, od20, .func (PySem.W.fnOf "_law_cell_at" "_law_cell_at" (defArgs sCell) (defBody sCell) (defScope sCell) .none kV20 dc20 pm20 an20 cd20 ct20), sl20⟩) (c20 : PySem.W.codeIn K cd20 "_law_cell_at" = true) (k20 : PySem.W.keepIn K (.ref f20) = true)
    (a21 : PySem.W.nsIn K mainGlobals "_law_next" = some (some (.ref f21))) (l21 : K.lookup f21 = some ⟨oc21, od21, .func (PySem.W.fnOf "_law_next" "_law_next" (defArgs sNext) (defBody sNext) (defScope sNext) .none kV21 dc21 pm21 an21 cd21 ct21), sl21⟩) (c21 : PySem.W.codeIn K cd21 "_law_next" = true) (k21 : PySem.W.keepIn K (.ref f21) = true)
    (a22 : PySem.W.nsIn K mainGlobals "_law_pen" = some (some (.ref f22))) (l22 : K.lookup f22 = some ⟨oc22, od22, .func (PySem.W.fnOf "_law_pen" "_law_pen" (defArgs sPen) (defBody sPen) (defScope sPen) .none kV22 dc22 pm22 an22 cd22 ct22), sl22⟩) (c22 : PySem.W.codeIn K cd22 "_law_pen" = true) (k22 : PySem.W.keepIn K (.ref f22) = true)
    (a23 : PySem.W.nsIn K mainGlobals "_law_draw" = some (some (.ref f23))) (l23 : K.lookup f23 = some ⟨oc23, od23, .func (PySem.W.fnOf "_law_draw" "_law_draw" (defArgs sDraw) (defBody sDraw) (defScope sDraw) .none kV23 dc23 pm23 an23 cd23 ct23), sl23⟩) (c23 : PySem.W.codeIn K cd23 "_law_draw" = true) (k23 : PySem.W.keepIn K (.ref f23) = true)
    (a24 : PySem.W.nsIn K mainGlobals "_law_number" = some (some (.ref f24))) (l24 : K.lookup f24 = some ⟨oc24, od24, .func (PySem.W.fnOf "_law_number" "_law_number" (defArgs sNumber) (defBody sNumber) (defScope sNumber) .none kV24 dc24 pm24 an24 cd24 ct24), sl24⟩) (c24 : PySem.W.codeIn K cd24 "_law_number" = true) (k24 : PySem.W.keepIn K (.ref f24) = true)
    (a25 : PySem.W.nsIn K mainGlobals "_law_names" = some (some (.ref f25))) (l25 : K.lookup f25 = some ⟨oc25, od25, .func (PySem.W.fnOf "_law_names" "_law_names" (defArgs sNames) (defBody sNames) (defScope sNames) .none kV25 dc25 pm25 an25 cd25 ct25), sl25⟩) (c25 : PySem.W.codeIn K cd25 "_law_names" = true) (k25 : PySem.W.keepIn K (.ref f25) = true)
    (a26 : PySem.W.nsIn K mainGlobals "_law_counted" = some (some (.ref f26))) (l26 : K.lookup f26 = some ⟨oc26, od26, .func (PySem.W.fnOf "_law_counted" "_law_counted" (defArgs sCounted) (defBody sCounted) (defScope sCounted) .none kV26 dc26 pm26 an26 cd26 ct26), sl26⟩) (c26 : PySem.W.codeIn K cd26 "_law_counted" = true) (k26 : PySem.W.keepIn K (.ref f26) = true)
    (a27 : PySem.W.nsIn K mainGlobals "_law_ends" = some (some (.ref f27))) (l27 : K.lookup f27 = some ⟨oc27, od27, .func (PySem.W.fnOf "_law_ends" "_law_ends" (defArgs sEnds) (defBody sEnds) (defScope sEnds) .none kV27 dc27 pm27 an27 cd27 ct27), sl27⟩) (c27 : PySem.W.codeIn K cd27 "_law_ends" = true) (k27 : PySem.W.keepIn K (.ref f27) = true)
    (a28 : PySem.W.nsIn K mainGlobals "_law_terms" = some (some (.ref f28))) (l28 : K.lookup f28 = some ⟨oc28, od28, .func (PySem.W.fnOf "_law_terms" "_law_terms" (defArgs sTerms) (defBody sTerms) (defScope sTerms) .none kV28 dc28 pm28 an28 cd28 ct28), sl28⟩) (c28 : PySem.W.codeIn K cd28 "_law_terms" = true) (k28 : PySem.W.keepIn K (.ref f28) = true)
    (a29 : PySem.W.nsIn K mainGlobals "_law_gap" = some (some (.ref f29))) (l29 : K.lookup f29 = some ⟨oc29, od29, .func (PySem.W.fnOf "_law_gap" "_law_gap" (defArgs sGap) (defBody sGap) (defScope sGap) .none kV29 dc29 pm29 an29 cd29 ct29), sl29⟩) (c29 : PySem.W.codeIn K cd29 "_law_gap" = true) (k29 : PySem.W.keepIn K (.ref f29) = true)
    (a30 : PySem.W.nsIn K mainGlobals "_law_idled" = some (some (.ref f30))) (l30 : K.lookup f30 = some ⟨oc30, od30, .func (PySem.W.fnOf "_law_idled" "_law_idled" (defArgs sIdled) (defBody sIdled) (defScope sIdled) .none kV30 dc30 pm30 an30 cd30 ct30), sl30⟩) (c30 : PySem.W.codeIn K cd30 "_law_idled" = true) (k30 : PySem.W.keepIn K (.ref f30) = true)
    (a31 : PySem.W.nsIn K mainGlobals "_law_set" = some (some (.ref f31))) (l31 : K.lookup f31 = some ⟨oc31, od31, .func (PySem.W.fnOf "_law_set" "_law_set" (defArgs sSet) (defBody sSet) (defScope sSet) .none kV31 dc31 pm31 an31 cd31 ct31), sl31⟩) (c31 : PySem.W.codeIn K cd31 "_law_set" = true) (k31 : PySem.W.keepIn K (.ref f31) = true)
    (a32 : PySem.W.nsIn K mainGlobals "_law_worth" = some (some (.ref f32))) (l32 : K.lookup f32 = some ⟨oc32, od32, .func (PySem.W.fnOf "_law_worth" "_law_worth" (defArgs sLWorth) (defBody sLWorth) (defScope sLWorth) .none kV32 dc32 pm32 an32 cd32 ct32), sl32⟩) (c32 : PySem.W.codeIn K cd32 "_law_worth" = true) (k32 : PySem.W.keepIn K (.ref f32) = true)
    (a33 : PySem.W.nsIn K mainGlobals "_law_keeps" = some (some (.ref f33))) (l33 : K.lookup f33 = some ⟨oc33, od33, .func (PySem.W.fnOf "_law_keeps" "_law_keeps" (defArgs sLKeeps) (defBody sLKeeps) (defScope sLKeeps) .none kV33 dc33 pm33 an33 cd33 ct33), sl33⟩) (c33 : PySem.W.codeIn K cd33 "_law_keeps" = true) (k33 : PySem.W.keepIn K (.ref f33) = true)
    (a34 : PySem.W.nsIn K mainGlobals "_law_number_right" = some (some (.ref f34))) (l34 : K.lookup f34 = some ⟨oc34, od34, .func (PySem.W.fnOf "_law_number_right" "_law_number_right" (defArgs sRight) (defBody sRight) (defScope sRight) .none kV34 dc34 pm34 an34 cd34 ct34), sl34⟩) (c34 : PySem.W.codeIn K cd34 "_law_number_right" = true) (k34 : PySem.W.keepIn K (.ref f34) = true)
    (a35 : PySem.W.nsIn K mainGlobals "_law_sets_right" = some (some (.ref f35))) (l35 : K.lookup f35 = some ⟨oc35, od35, .func (PySem.W.fnOf "_law_sets_right" "_law_sets_right" (defArgs sSets) (defBody sSets) (defScope sSets) .none kV35 dc35 pm35 an35 cd35 ct35), sl35⟩) (c35 : PySem.W.codeIn K cd35 "_law_sets_right" = true) (k35 : PySem.W.keepIn K (.ref f35) = true)
    (a36 : PySem.W.nsIn K mainGlobals "_law_none_between" = some (some (.ref f36))) (l36 : K.lookup f36 = some ⟨oc36, od36, .func (PySem.W.fnOf "_law_none_between" "_law_none_between" (defArgs sNone) (defBody sNone) (defScope sNone) .none kV36 dc36 pm36 an36 cd36 ct36), sl36⟩) (c36 : PySem.W.codeIn K cd36 "_law_none_between" = true) (k36 : PySem.W.keepIn K (.ref f36) = true)
    (a37 : PySem.W.nsIn K mainGlobals "law" = some (some (.ref f37))) (l37 : K.lookup f37 = some ⟨oc37, od37, .func (PySem.W.fnOf "law" "law" (defArgs sLaw) (defBody sLaw) (defScope sLaw) .none kV37 dc37 pm37 an37 cd37 ct37), sl37⟩) (c37 : PySem.W.codeIn K cd37 "law" = true) (k37 : PySem.W.keepIn K (.ref f37) = true)
    (aC : PySem.W.nsIn K mainGlobals "Behind" = some (some (.ref C)))
    (a38 : PySem.W.findIn K (.ref C) "__init__" = some (some (.ref f38))) (i38 : PySem.W.isFn K (.ref f38) = true) (l38 : K.lookup f38 = some ⟨oc38, od38, .func (PySem.W.fnOf "__init__" "Behind.__init__" (defArgs sBInit) (defBody sBInit) (defScope sBInit) .none kV38 dc38 pm38 an38 cd38 ct38), sl38⟩) (c38 : PySem.W.codeIn K cd38 "Behind.__init__" = true) (k38 : PySem.W.keepIn K (.ref f38) = true)
    (a39 : PySem.W.findIn K (.ref C) "ways_on" = some (some (.ref f39))) (i39 : PySem.W.isFn K (.ref f39) = true) (l39 : K.lookup f39 = some ⟨oc39, od39, .func (PySem.W.fnOf "ways_on" "Behind.ways_on" (defArgs sBOn) (defBody sBOn) (defScope sBOn) .none kV39 dc39 pm39 an39 cd39 ct39), sl39⟩) (c39 : PySem.W.codeIn K cd39 "Behind.ways_on" = true) (k39 : PySem.W.keepIn K (.ref f39) = true)
    (pg : PySem.W.plainGet K C Str.empty = true) (hd : PySem.W.hasDictIn K C = true) (po : PySem.W.plainOver K C = true) (sa : PySem.W.findIn K (.ref C) "__setattr__" = some (some (.builtin "object.__setattr__"))) (mk : PySem.W.makesIn K C = true) (kc : PySem.W.keepIn K (.ref C) = true)
    (nLow : PySem.W.findIn K (.ref C) "low" = some none)
    (nHigh : PySem.W.findIn K (.ref C) "high" = some none)
    (nLeast : PySem.W.findIn K (.ref C) "least" = some none)
    (nApart : PySem.W.findIn K (.ref C) "apart" = some none)
    (nSums : PySem.W.findIn K (.ref C) "sums" = some none)
    (most : PySem.W.nsIn K mainGlobals "MOST_WORTHS" = some (some (.int 400 tk)))
    (b_sum : PySem.W.nsIn K mainGlobals "sum" = some none)
    (b_isi : PySem.W.nsIn K mainGlobals "isinstance" = some none)
    (b_int : PySem.W.nsIn K mainGlobals "int" = some none)
    (b_bool : PySem.W.nsIn K mainGlobals "bool" = some none)
    (b_tuple : PySem.W.nsIn K mainGlobals "tuple" = some none)
    (b_len : PySem.W.nsIn K mainGlobals "len" = some none)
    (b_zip : PySem.W.nsIn K mainGlobals "zip" = some none)
    (b_range : PySem.W.nsIn K mainGlobals "range" = some none)
    (b_enum : PySem.W.nsIn K mainGlobals "enumerate" = some none)
    (b_abs : PySem.W.nsIn K mainGlobals "abs" = some none)
    (b_max : PySem.W.nsIn K mainGlobals "max" = some none)
    (b_min : PySem.W.nsIn K mainGlobals "min" = some none)
    (b_sorted : PySem.W.nsIn K mainGlobals "sorted" = some none) :
    ∃ fd : FuncData, (∀ (s : Shared) (v : Value), BindsTo s fd ⟨[v], []⟩ [("script", v)]) ∧ ∀ base : Heap, K.In base → base.Ns mainGlobals mg → FnOk l.prog w K mg base CX0 9 fa fd ["script"] (spLaw K) := by
  have e := hfa.symm.trans (PySem.W.mg_of X G a37)
  cases e
  exact ⟨PySem.W.fnOf "law" "law" (defArgs sLaw) (defBody sLaw) (defScope sLaw) .none kV37 dc37 pm37 an37 cd37 ct37, fun s v => .of_eq rfl, fun base _ _ =>
    ok_law (mkAll X G a1 l1 c1 k1 a2 l2 c2 k2 a3 l3 c3 k3 a4 l4 c4 k4 a5 l5 c5 k5 a6 l6 c6 k6 a7 l7 c7 k7 a8 l8 c8 k8 a9 l9 c9 k9 a10 l10 c10 k10 a11 l11 c11 k11 a12 l12 c12 k12 a13 l13 c13 k13 a14 l14 c14 k14 a15 l15 c15 k15 a16 l16 c16 k16 a17 l17 c17 k17 a18 l18 c18 k18 a19 l19 c19 k19 a20 l20 c20 k20 a21 l21 c21 k21 a22 l22 c22 k22 a23 l23 c23 k23 a24 l24 c24 k24 a25 l25 c25 k25 a26 l26 c26 k26 a27 l27 c27 k27 a28 l28 c28 k28 a29 l29 c29 k29 a30 l30 c30 k30 a31 l31 c31 k31 a32 l32 c32 k32 a33 l33 c33 k33 a34 l34 c34 k34 a35 l35 c35 k35 a36 l36 c36 k36 a37 l37 c37 k37 aC a38 i38 l38 c38 k38 a39 i39 l39 c39 k39 pg hd po sa mk kc nLow nHigh nLeast nApart nSums most b_sum b_isi b_int b_bool b_tuple b_len b_zip b_range b_enum b_abs b_max b_min b_sorted)⟩
theorem walk {l : PySem.W.OpenLaw} {q : Program} {loose : List Str} {XP : (Str → Option Value) → Heap → Prop} {YP : World → Heap → Prop} {d : DefRec} {K : Params → PySem.W.Frag} (hn : l.most = some 63) (hdf : d.params.defaults = [])
    (hY : ∀ (w : World) (h : Heap), YP w h → (K w.params).In h)
    (F : ∀ (w : World) (mg : Str → Option Value) (fa : Addr) (h : Heap), (K w.params).In h → h.Ns mainGlobals mg → mg d.name = some (.ref fa) →
      ∃ fd : FuncData, (∀ (s : Shared) (u : Value), BindsTo s fd ⟨[u], []⟩ [("script", u)]) ∧ ∀ base : Heap, (K w.params).In base → base.Ns mainGlobals mg → FnOk l.prog w (K w.params) mg base CX0 9 fa fd ["script"] (spLaw (K w.params))) :
    PySem.W.WalkO q loose XP YP l.row.toRowW d [] (fun f vs => PySem.call f vs) :=
  L2.walk_of (n := 63) (k := 9) (x := "script") (CX := fun _ => CX0) (sp := fun w => spLaw (K w.params)) hn (by decide) hdf ⟨rfl, by decide, by decide⟩ hY F (fun _ _ a ns hl _ hS => ⟨a, ns, rfl, hS, hl, fun _ => rfl⟩) fun _ _ _ _ _ z => z
end Gw

open PySem PySem.W PyProof.Rows in
set_option maxRecDepth 100000 in
set_option maxHeartbeats 0 in
theorem PySem.Challenge.cw_gaugewright_k34_whole_order_of_sets_holds : PySem.Challenge.rw_gaugewright_k34_whole_order_of_sets.Holds := by
  w_on; o_law; k_head; (case hw => w_witness2)
  k_fill
  refine Gw.walk (l := PySem.Challenge.rw_gaugewright_k34_whole_order_of_sets) rfl rfl (fun w h Y => PySem.W.kIn_of Y) ?F
  case F =>
    intro w mg fa h KX G hmg
    refine' Gw.all_mk KX G hmg ?a1 ?l1 ?c1 ?k1 ?a2 ?l2 ?c2 ?k2 ?a3 ?l3 ?c3 ?k3 ?a4 ?l4 ?c4 ?k4 ?a5 ?l5 ?c5 ?k5 ?a6 ?l6 ?c6 ?k6 ?a7 ?l7 ?c7 ?k7 ?a8 ?l8 ?c8 ?k8 ?a9 ?l9 ?c9 ?k9 ?a10 ?l10 ?c10 ?k10 ?a11 ?l11 ?c11 ?k11 ?a12 ?l12 ?c12 ?k12 ?a13 ?l13 ?c13 ?k13 ?a14 ?l14 ?c14 ?k14 ?a15 ?l15 ?c15 ?k15 ?a16 ?l16 ?c16 ?k16 ?a17 ?l17 ?c17 ?k17 ?a18 ?l18 ?c18 ?k18 ?a19 ?l19 ?c19 ?k19 ?a20 ?l20 ?c20 ?k20 ?a21 ?l21 ?c21 ?k21 ?a22 ?l22 ?c22 ?k22 ?a23 ?l23 ?c23 ?k23 ?a24 ?l24 ?c24 ?k24 ?a25 ?l25 ?c25 ?k25 ?a26 ?l26 ?c26 ?k26 ?a27 ?l27 ?c27 ?k27 ?a28 ?l28 ?c28 ?k28 ?a29 ?l29 ?c29 ?k29 ?a30 ?l30 ?c30 ?k30 ?a31 ?l31 ?c31 ?k31 ?a32 ?l32 ?c32 ?k32 ?a33 ?l33 ?c33 ?k33 ?a34 ?l34 ?c34 ?k34 ?a35 ?l35 ?c35 ?k35 ?a36 ?l36 ?c36 ?k36 ?a37 ?l37 ?c37 ?k37 ?aC ?a38 ?i38 ?l38 ?c38 ?k38 ?a39 ?i39 ?l39 ?c39 ?k39 ?pg ?hd ?po ?sa ?mk ?kc ?nLow ?nHigh ?nLeast ?nApart ?nSums ?most ?b_sum ?b_isi ?b_int ?b_bool ?b_tuple ?b_len ?b_zip ?b_range ?b_enum ?b_abs ?b_max ?b_min ?b_sorted
    (case a1 => k_is)
    (case l1 => k_is)
    (case c1 => k_is)
    (case k1 => k_is)
    (case a2 => k_is)
    (case l2 => k_is)
    (case c2 => k_is)
    (case k2 => k_is)
    (case a3 => k_is)
    (case l3 => k_is)
    (case c3 => k_is)
    (case k3 => k_is)
    (case a4 => k_is)
    (case l4 => k_is)
    (case c4 => k_is)
    (case k4 => k_is)
    (case a5 => k_is)
    (case l5 => k_is)
    (case c5 => k_is)
    (case k5 => k_is)
    (case a6 => k_is)
    (case l6 => k_is)
    (case c6 => k_is)
    (case k6 => k_is)
    (case a7 => k_is)
    (case l7 => k_is)
    (case c7 => k_is)
    (case k7 => k_is)
    (case a8 => k_is)
    (case l8 => k_is)
    (case c8 => k_is)
    (case k8 => k_is)
    (case a9 => k_is)
    (case l9 => k_is)
    (case c9 => k_is)
    (case k9 => k_is)
    (case a10 => k_is)
    (case l10 => k_is)
    (case c10 => k_is)
    (case k10 => k_is)
    (case a11 => k_is)
    (case l11 => k_is)
    (case c11 => k_is)
    (case k11 => k_is)
    (case a12 => k_is)
    (case l12 => k_is)
    (case c12 => k_is)
    (case k12 => k_is)
    (case a13 => k_is)
    (case l13 => k_is)
    (case c13 => k_is)
    (case k13 => k_is)
    (case a14 => k_is)
    (case l14 => k_is)
    (case c14 => k_is)
    (case k14 => k_is)
    (case a15 => k_is)
    (case l15 => k_is)
    (case c15 => k_is)
    (case k15 => k_is)
    (case a16 => k_is)
    (case l16 => k_is)
    (case c16 => k_is)
    (case k16 => k_is)
    (case a17 => k_is)
    (case l17 => k_is)
    (case c17 => k_is)
    (case k17 => k_is)
    (case a18 => k_is)
    (case l18 => k_is)
    (case c18 => k_is)
    (case k18 => k_is)
    (case a19 => k_is)
    (case l19 => k_is)
    (case c19 => k_is)
    (case k19 => k_is)
    (case a20 => k_is)
    (case l20 => k_is)
    (case c20 => k_is)
    (case k20 => k_is)
    (case a21 => k_is)
    (case l21 => k_is)
    (case c21 => k_is)
    (case k21 => k_is)
    (case a22 => k_is)
    (case l22 => k_is)
    (case c22 => k_is)
    (case k22 => k_is)
    (case a23 => k_is)
    (case l23 => k_is)
    (case c23 => k_is)
    (case k23 => k_is)
    (case a24 => k_is)
    (case l24 => k_is)
    (case c24 => k_is)
    (case k24 => k_is)
    (case a25 => k_is)
    (case l25 => k_is)
    (case c25 => k_is)
    (case k25 => k_is)
    (case a26 => k_is)
    (case l26 => k_is)
    (case c26 => k_is)
    (case k26 => k_is)
    (case a27 => k_is)
    (case l27 => k_is)
    (case c27 => k_is)
    (case k27 => k_is)
    (case a28 => k_is)
    (case l28 => k_is)
    (case c28 => k_is)
    (case k28 => k_is)
    (case a29 => k_is)
    (case l29 => k_is)
    (case c29 => k_is)
    (case k29 => k_is)
    (case a30 => k_is)
    (case l30 => k_is)
    (case c30 => k_is)
    (case k30 => k_is)
    (case a31 => k_is)
    (case l31 => k_is)
    (case c31 => k_is)
    (case k31 => k_is)
    (case a32 => k_is)
    (case l32 => k_is)
    (case c32 => k_is)
    (case k32 => k_is)
    (case a33 => k_is)
    (case l33 => k_is)
    (case c33 => k_is)
    (case k33 => k_is)
    (case a34 => k_is)
    (case l34 => k_is)
    (case c34 => k_is)
    (case k34 => k_is)
    (case a35 => k_is)
    (case l35 => k_is)
    (case c35 => k_is)
    (case k35 => k_is)
    (case a36 => k_is)
    (case l36 => k_is)
    (case c36 => k_is)
    (case k36 => k_is)
    (case a37 => k_is)
    (case l37 => k_is)
    (case c37 => k_is)
    (case k37 => k_is)
    (case aC => k_is)
    (case a38 => k_is)
    (case i38 => k_is)
    (case l38 => k_is)
    (case c38 => k_is)
    (case k38 => k_is)
    (case a39 => k_is)
    (case i39 => k_is)
    (case l39 => k_is)
    (case c39 => k_is)
    (case k39 => k_is)
    (case pg => k_is)
    (case hd => k_is)
    (case po => k_is)
    (case sa => k_is)
    (case mk => k_is)
    (case kc => k_is)
    (case nLow => k_is)
    (case nHigh => k_is)
    (case nLeast => k_is)
    (case nApart => k_is)
    (case nSums => k_is)
    (case most => k_is)
    (case b_sum => k_is)
    (case b_isi => k_is)
    (case b_int => k_is)
    (case b_bool => k_is)
    (case b_tuple => k_is)
    (case b_len => k_is)
    (case b_zip => k_is)
    (case b_range => k_is)
    (case b_enum => k_is)
    (case b_abs => k_is)
    (case b_max => k_is)
    (case b_min => k_is)
    (case b_sorted => k_is)
