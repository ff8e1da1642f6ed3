import PyProof.Rows.All
import Wide.All
import OpenK.AllK
import Wide.FinOn
import KE.KStateDown
import HandS.Base
import HandS.Call
import HandS.List
import HandS.Comp
import HandS.Ends
import HandS.Dict
import HandS.Iter
import HandS.Text
import HandS.Exc
import HandS.Words
import HandS.WordsExc
import HandS.Defaults
import HandS.ExcInit
import HandS.ExcField
import HandS.HeadHook1
import HandS.HeadHook2
import PySem.Challenge.RW_howeverled_k08_whole_reaches_and_peels
import HandS.Head0
import HandS.Head1
import HandS.Head2
import HandS.HeadEnd
import HandS.ExcOwn
import HandS.TupMul
import HandS.Conv
import HandS.More
import HandS.SortInts
import HandS.SortOrd
import KE.KDictDisplayH
import KE.GoesNew
import KE.GoesMore
import HandS.Walk
import HandS.Sort
import PyProof.TupleOfSeq
import PyProof.WalksMore
import HandS.Codes
import HandS.IsInst
import HandS.DictComp
import HandS.TupAny
import HandS.Style
import HandS.SetFor
import HandS.Flt
import HandS.Evl
import HandS.WordsDict
set_option Elab.async false
set_option linter.all false
set_option maxRecDepth 100000
set_option maxHeartbeats 4000000
namespace K8
open PySem PySem.Spec PyProof.Rows L2
def top (i : Nat) : Stmt := PySem.Challenge.pw_howeverled_k08_whole_reaches_and_peels.main.body.getD i (.Pass ⟨0, 0, 0, 0⟩)
abbrev s_init : Stmt := inClass (top 3) 0
abbrev s_is_integer : Stmt := top 5
abbrev s_is_number : Stmt := top 6
abbrev s_is_purses : Stmt := top 7
abbrev s_b_is_house : Stmt := top 9
abbrev s_b_is_coins : Stmt := top 10
abbrev s_b_need_house : Stmt := top 11
abbrev s_b_links : Stmt := top 12
abbrev s_b_turned : Stmt := top 13
abbrev s_b_purses : Stmt := top 14
abbrev s_b_search : Stmt := top 15
abbrev s_b_reached : Stmt := top 16
abbrev s_b_trace : Stmt := top 17
abbrev s_b_carry : Stmt := top 18
abbrev s_b_move : Stmt := top 19
abbrev s_b_shortest : Stmt := top 20
abbrev s_b_pay : Stmt := top 21
abbrev s_b_first : Stmt := top 22
abbrev s_b_bring : Stmt := top 23
abbrev s_b_held : Stmt := top 24
abbrev s_reach_of : Stmt := top 26
abbrev s_payers_of : Stmt := top 27
abbrev s_b_is_order : Stmt := top 28
abbrev s_b_joining : Stmt := top 29
abbrev s_b_are_sides : Stmt := top 30
abbrev s_b_peel : Stmt := top 31
abbrev s_peel_of : Stmt := top 32
abbrev s_peel_either : Stmt := top 33
abbrev s_b_both_pay : Stmt := top 34
abbrev s_classes_of : Stmt := top 35
abbrev s_law_pot : Stmt := top 37
abbrev s_law_draw : Stmt := top 38
abbrev s_law_order : Stmt := top 39
abbrev s_law_pairs : Stmt := top 40
abbrev s_law_web : Stmt := top 41
abbrev s_law_far : Stmt := top 42
abbrev s_law_far_web : Stmt := top 43
abbrev s_law_far_split : Stmt := top 44
abbrev s_law_purses : Stmt := top 45
abbrev s_law_standings : Stmt := top 46
abbrev s_law_lots : Stmt := top 47
abbrev s_law_slack : Stmt := top 48
abbrev s_law_same : Stmt := top 49
abbrev s_law_many : Stmt := top 50
abbrev s_law_least : Stmt := top 51
abbrev s_law_mosts : Stmt := top 52
abbrev s_law_shut : Stmt := top 53
abbrev s_law_block : Stmt := top 54
abbrev s_law_peel : Stmt := top 55
abbrev s_law_classes : Stmt := top 56
abbrev s_law_asked : Stmt := top 57
abbrev s_law_told : Stmt := top 58
abbrev s_law_houses_hold : Stmt := top 59
abbrev s_law_row_holds : Stmt := top 60
abbrev s_law_no_standings : Stmt := top 61
abbrev s_law_bad : Stmt := top 62
abbrev s_law_odd_holds : Stmt := top 63
abbrev s_law : Stmt := top 64
def mkD (x : Str) (st : Stmt) : He.DefD := ⟨(x, none), x, x, defArgs st, defBody st, defScope st, [], []⟩
def d_init : He.DefD := ⟨("NotUsable", some "__init__"), "__init__", "NotUsable.__init__", defArgs s_init, defBody s_init, defScope s_init, [], []⟩
def d_is_integer : He.DefD := mkD "is_integer" s_is_integer
def d_is_number : He.DefD := mkD "is_number" s_is_number
def d_is_purses : He.DefD := mkD "is_purses" s_is_purses
def d_b_is_house : He.DefD := mkD "b_is_house" s_b_is_house
def d_b_is_coins : He.DefD := mkD "b_is_coins" s_b_is_coins
def d_b_need_house : He.DefD := mkD "b_need_house" s_b_need_house
def d_b_links : He.DefD := mkD "b_links" s_b_links
def d_b_turned : He.DefD := mkD "b_turned" s_b_turned
def d_b_purses : He.DefD := mkD "b_purses" s_b_purses
def d_b_search : He.DefD := mkD "b_search" s_b_search
def d_b_reached : He.DefD := mkD "b_reached" s_b_reached
def d_b_trace : He.DefD := mkD "b_trace" s_b_trace
def d_b_carry : He.DefD := mkD "b_carry" s_b_carry
def d_b_move : He.DefD := mkD "b_move" s_b_move
def d_b_shortest : He.DefD := mkD "b_shortest" s_b_shortest
def d_b_pay : He.DefD := mkD "b_pay" s_b_pay
def d_b_first : He.DefD := mkD "b_first" s_b_first
def d_b_bring : He.DefD := mkD "b_bring" s_b_bring
def d_b_held : He.DefD := mkD "b_held" s_b_held
def d_reach_of : He.DefD := mkD "reach_of" s_reach_of
def d_payers_of : He.DefD := mkD "payers_of" s_payers_of
def d_b_is_order : He.DefD := mkD "b_is_order" s_b_is_order
def d_b_joining : He.DefD := mkD "b_joining" s_b_joining
def d_b_are_sides : He.DefD := mkD "b_are_sides" s_b_are_sides
def d_b_peel : He.DefD := mkD "b_peel" s_b_peel
def d_peel_of : He.DefD := mkD "peel_of" s_peel_of
def d_peel_either : He.DefD := mkD "peel_either" s_peel_either
def d_b_both_pay : He.DefD := mkD "b_both_pay" s_b_both_pay
def d_classes_of : He.DefD := mkD "classes_of" s_classes_of
def d_law_pot : He.DefD := mkD "_law_pot" s_law_pot
def d_law_draw : He.DefD := mkD "_law_draw" s_law_draw
def d_law_order : He.DefD := mkD "_law_order" s_law_order
def d_law_pairs : He.DefD := mkD "_law_pairs" s_law_pairs
def d_law_web : He.DefD := mkD "_law_web" s_law_web
def d_law_far : He.DefD := mkD "_law_far" s_law_far
def d_law_far_web : He.DefD := mkD "_law_far_web" s_law_far_web
def d_law_far_split : He.DefD := mkD "_law_far_split" s_law_far_split
def d_law_purses : He.DefD := mkD "_law_purses" s_law_purses
def d_law_standings : He.DefD := mkD "_law_standings" s_law_standings
def d_law_lots : He.DefD := mkD "_law_lots" s_law_lots
def d_law_slack : He.DefD := mkD "_law_slack" s_law_slack
def d_law_same : He.DefD := mkD "_law_same" s_law_same
def d_law_many : He.DefD := mkD "_law_many" s_law_many
def d_law_least : He.DefD := mkD "_law_least" s_law_least
def d_law_mosts : He.DefD := mkD "_law_mosts" s_law_mosts
def d_law_shut : He.DefD := mkD "_law_shut" s_law_shut
def d_law_block : He.DefD := mkD "_law_block" s_law_block
def d_law_peel : He.DefD := mkD "_law_peel" s_law_peel
def d_law_classes : He.DefD := mkD "_law_classes" s_law_classes
def d_law_asked : He.DefD := mkD "_law_asked" s_law_asked
def d_law_told : He.DefD := mkD "_law_told" s_law_told
def d_law_houses_hold : He.DefD := mkD "_law_houses_hold" s_law_houses_hold
def d_law_row_holds : He.DefD := mkD "_law_row_holds" s_law_row_holds
def d_law_no_standings : He.DefD := mkD "_law_no_standings" s_law_no_standings
def d_law_bad : He.DefD := mkD "_law_bad" s_law_bad
def d_law_odd_holds : He.DefD := mkD "_law_odd_holds" s_law_odd_holds
def d_law : He.DefD := mkD "law" s_law
def fnA : List He.DefD := [d_init, d_is_integer, d_is_number, d_is_purses, d_b_is_house, d_b_is_coins, d_b_need_house, d_b_links, d_b_turned, d_b_purses, d_b_search, d_b_reached, d_b_trace, d_b_carry, d_b_move, d_b_shortest, d_b_pay, d_b_first, d_b_bring, d_b_held, d_reach_of, d_payers_of, d_b_is_order, d_b_joining, d_b_are_sides, d_b_peel, d_peel_of, d_peel_either, d_b_both_pay, d_classes_of]
def fnB : List He.DefD := [d_law_pot, d_law_draw, d_law_order, d_law_pairs, d_law_web, d_law_far, d_law_far_web, d_law_far_split, d_law_purses, d_law_standings, d_law_lots, d_law_slack, d_law_same, d_law_many, d_law_least, d_law_mosts, d_law_shut, d_law_block, d_law_peel, d_law_classes, d_law_asked, d_law_told, d_law_houses_hold, d_law_row_holds, d_law_no_standings, d_law_bad, d_law_odd_holds, d_law]
def fn : List He.DefD := fnA ++ fnB
def faA : List He.Fa := [.glo "NotUsable", .glo "is_integer", .glo "is_number", .glo "is_purses", .glo "b_is_house", .glo "b_is_coins", .glo "b_need_house", .glo "b_links", .glo "b_turned", .glo "b_purses", .glo "b_search", .glo "b_reached", .glo "b_trace", .glo "b_carry", .glo "b_move", .glo "b_shortest", .glo "b_pay", .glo "b_first", .glo "b_bring", .glo "b_held", .glo "reach_of", .glo "payers_of", .glo "b_is_order", .glo "b_joining", .glo "b_are_sides", .glo "b_peel", .glo "peel_of", .glo "peel_either", .glo "b_both_pay", .glo "classes_of", .glo "_law_pot", .glo "_law_draw", .glo "_law_order", .glo "_law_pairs", .glo "_law_web"]
def faB : List He.Fa := [.glo "_law_far", .glo "_law_far_web", .glo "_law_far_split", .glo "_law_purses", .glo "_law_standings", .glo "_law_lots", .glo "_law_slack", .glo "_law_same", .glo "_law_many", .glo "_law_least", .glo "_law_mosts", .glo "_law_shut", .glo "_law_block", .glo "_law_peel", .glo "_law_classes", .glo "_law_asked", .glo "_law_told", .glo "_law_houses_hold", .glo "_law_row_holds", .glo "_law_no_standings", .glo "_law_bad", .glo "_law_odd_holds", .glo "law", .free "ValueError", .free "abs", .free "bool", .free "enumerate", .free "int", .free "isinstance", .free "len", .free "list", .free "max", .free "min", .free "range", .free "sorted", .free "str", .free "sum", .free "tuple", .free "zip"]
def fa : List He.Fa := faA ++ faB
/-- what is asked of the class of errors, by one Bool -/
abbrev aNU (K : PySem.W.Frag) : Addr := He.ga K "NotUsable"
abbrev aI (K : PySem.W.Frag) : Addr := He.ma K (aNU K) "__init__"
/-- the class of errors as its object stands: what HandS.ExcInit wants of it -/
def oexB (K : PySem.W.Frag) (C : Addr) : Bool := match K.lookup C with
  | some ⟨.type "type", _, .cls cd, sl⟩ => (match cd.mro, sl.toList with
    | .ref C' :: bm, [_, _, _, _, some (.builtin n), _] => C' == C && n == "ValueError.__new__" && !cd.hasDel && cd.hasDict && PySem.HandSPX.refsVE bm
    | _, _ => false)
  | _ => false
theorem oexB_ok {K : PySem.W.Frag} {C : Addr} (q : oexB K C = true) : ∃ nm q N bs bm sn sub ab col dd k0 k1 k2 k3 k5, K.lookup C = some (excClassObj nm q C N bs bm true sn sub ab col dd k0 k1 k2 k3 k5 "ValueError.__new__") ∧ PySem.HandSPX.refsVE bm = true := by
  unfold oexB at q
  split at q
  · rename_i dd cd sl ho
    split at q
    · rename_i C' bm k0 k1 k2 k3 n k5 hm hs
      simp only [Bool.and_eq_true, beq_iff_eq, Bool.not_eq_true'] at q
      obtain ⟨⟨⟨⟨rfl, rfl⟩, hdel⟩, hdi⟩, ht⟩ := q
      obtain ⟨nm, bs, mro, ns, qn, hd, sn, sub, ab, col, del⟩ := cd
      dsimp only at hm hdel hdi
      subst hm hdel hdi
      have hsl : sl = #[k0, k1, k2, k3, some (.builtin "ValueError.__new__"), k5] := by
        obtain ⟨l⟩ := sl
        simp only at hs
        rw [hs]
      subst hsl
      exact ⟨nm, qn, ns, bs, bm, sn, sub, ab, col, dd, k0, k1, k2, k3, k5, ho, ht⟩
    · cases q
  · cases q
def exB (K : PySem.W.Frag) : Bool :=
  oexB K (aNU K) &&
  (decide (PySem.W.findIn K (.ref (aNU K)) "__setattr__" = some (some (.builtin "object.__setattr__"))) &&
  (decide (PySem.W.subIn K (.ref (aNU K)) (.type "BaseException") = some true) &&
  (decide (PySem.W.typeIn K (.ref (aNU K)) = some (.type "type")) &&
  (PySem.W.keepIn K (.ref (aNU K)) &&
  (decide (PySem.W.findIn K (.ref (aNU K)) "word" = some none) &&
  (decide (PySem.W.findIn K (.ref (aNU K)) "at" = some none) &&
  (decide (PySem.W.findIn K (.ref (aNU K)) "__init__" = some (some (.ref (aI K)))) &&
  (decide (PySem.W.typeIn K (.ref (aI K)) = some (.type "function")) &&
  (decide (PySem.W.exmOne K (.ref (aNU K)) (.ref (aNU K)) = some true) &&
  xfB K (aNU K))))))))))
/-- what is known of the class of errors -/
structure NU (K : PySem.W.Frag) : Prop where
  oex : OexC K (aNU K)
  xf : XfC K (aNU K)
  nW : PySem.W.findIn K (.ref (aNU K)) "word" = some none
  nA : PySem.W.findIn K (.ref (aNU K)) "at" = some none
  iC : PySem.W.findIn K (.ref (aNU K)) "__init__" = some (some (.ref (aI K)))
  tI : PySem.W.typeIn K (.ref (aI K)) = some (.type "function")
  te : PySem.W.exmOne K (.ref (aNU K)) (.ref (aNU K)) = some true
theorem exB_ok {K : PySem.W.Frag} (h : exB K = true) : NU K := by
  obtain ⟨h1, h⟩ := Bool.and_eq_true_iff.mp h
  obtain ⟨h2, h⟩ := Bool.and_eq_true_iff.mp h
  obtain ⟨h3, h⟩ := Bool.and_eq_true_iff.mp h
  obtain ⟨h4, h⟩ := Bool.and_eq_true_iff.mp h
  obtain ⟨h5, h⟩ := Bool.and_eq_true_iff.mp h
  obtain ⟨h6, h⟩ := Bool.and_eq_true_iff.mp h
  obtain ⟨h7, h⟩ := Bool.and_eq_true_iff.mp h
  obtain ⟨h8, h⟩ := Bool.and_eq_true_iff.mp h
  obtain ⟨h9, h⟩ := Bool.and_eq_true_iff.mp h
  obtain ⟨ha, hb⟩ := Bool.and_eq_true_iff.mp h
  exact ⟨⟨oexB_ok h1, of_decide_eq_true h2, of_decide_eq_true h3, of_decide_eq_true h4, h5⟩, xfB_ok hb, of_decide_eq_true h6, of_decide_eq_true h7, of_decide_eq_true h8, of_decide_eq_true h9, of_decide_eq_true ha⟩
/-! ### the Hook: HeadHook2's, and the Bool -/
abbrev AlQ : Type := He.AlD × Bool
def obsQ (K : PySem.W.Frag) : AlQ := (He.obsD fa fn K, exB K)
def valQ : AlQ := (He.valD fn, true)
def SaysQ (K : PySem.W.Frag) : Prop := obsQ K = valQ
def obsQG (n : Nat) (g : Addr → Option Obj) : AlQ := obsQ (He.frG g (He.asD g n))
def hookQ (n : Nat) : PySem.W.Hook where
  α := AlQ
  obs := fun s => obsQG n s.heap.get?
  val := fun _ => valQ
  says := fun _ h => ∃ K : PySem.W.Frag, K.In h ∧ SaysQ K
  of := fun _ _ e => ⟨_, He.frG_in, e⟩
  keeps := fun _ _ _ ⟨K, hK, c⟩ k => ⟨K, PySem.W.Frag.In.keeps hK k, c⟩
theorem obsQG_eq {n : Nat} {g : Addr → Option Obj} {s : Shared} (h : ∀ a, g a = s.heap.get? a) : obsQG n g = (hookQ n).obs s := by
  have e : g = s.heap.get? := funext h
  rw [e] <;> rfl
theorem SaysQ.d {K : PySem.W.Frag} (c : SaysQ K) : He.SaysD fa fn K := congrArg (fun z : AlQ => z.1) c
theorem SaysQ.ex {K : PySem.W.Frag} (c : SaysQ K) : exB K = true := congrArg (fun z : AlQ => z.2) c
/-- a def by its datum, in Words' form -/
theorem fun_of {K : PySem.W.Frag} {x q : Str} {st : Stmt} {f : Addr} {fd : FuncData} (F : FunD K x q (defArgs st) (defBody st) (defScope st) [] [] f fd) : Fun K x q st f fd := by
  obtain ⟨oc, od, dV, kV, doc, pm, an, cdv, ct, osl, rfl, lk, hcd, hD, hK⟩ := F.ex
  rcases hD with ⟨_, rfl⟩ | ⟨e, _⟩
  · exact ⟨⟨oc, od, kV, doc, pm, an, cdv, ct, osl, rfl, lk, hcd⟩, F.kp⟩
  · exact absurd rfl e
end K8
set_option Elab.async false
set_option linter.all false
set_option maxRecDepth 100000
set_option maxHeartbeats 0
namespace K8
open PySem PySem.Spec PyProof.Rows L2
def loose0 : List PySem.Str := ["LedError", "WebError", "NotUsable", "is_integer", "is_number", "is_purses", "b_is_house", "b_is_coins", "b_need_house", "b_links", "b_turned", "b_purses", "b_search", "b_reached", "b_trace", "b_carry", "b_move", "b_shortest", "b_pay", "b_first"]
def loose1 : List PySem.Str := ["b_bring", "b_held", "reach_of", "payers_of", "b_is_order", "b_joining", "b_are_sides", "b_peel", "peel_of", "peel_either", "b_both_pay", "classes_of", "_law_pot", "_law_draw", "_law_order", "_law_pairs", "_law_web", "_law_far", "_law_far_web", "_law_far_split"]
def loose2 : List PySem.Str := ["_law_purses", "_law_standings", "_law_lots", "_law_slack", "_law_same", "_law_many", "_law_least", "_law_mosts", "_law_shut", "_law_block", "_law_peel", "_law_classes", "_law_asked", "_law_told", "_law_houses_hold", "_law_row_holds", "_law_no_standings", "_law_bad", "_law_odd_holds"]
def loose : List PySem.Str := loose0 ++ (loose1 ++ (loose2))
abbrev R : PySem.W.OpenRow := PySem.W.OpenLaw.row PySem.Challenge.rw_howeverled_k08_whole_reaches_and_peels
abbrev hk : PySem.W.Hook := hookQ 5
def ob (s : PySem.W.SharedT) : AlQ := obsQG 5 (HandSHeadRun.getT s)
theorem ob_eq (s : PySem.W.SharedT) : ob s = hk.obs s.abs := obsQG_eq (HandSHeadRun.getT_eq s)
theorem run (w : World) : HandSHeadRun.RunEq R (PySem.W.view R.prog [64]) hk ob 4000 loose w := by
  intro os
  kernel_rfl
end K8
set_option Elab.async false
set_option linter.all false
set_option maxRecDepth 100000
set_option maxHeartbeats 4000000
namespace K8
open PySem PySem.Spec PyProof.Rows L2
/-! ### own rules: an item of a list read for o[i] op= e -/
def rGetL (K : PySem.W.Frag) : V → V → Hp → VK → Prop := fun o i H Q => ∃ (p : Addr) (xs : List V) (k : Nat) (v : V), o = .ref p ∧ i = .int (k : Int) ∧ SqL K H p xs ∧ xs[k]? = some v ∧ Q v H
theorem get_list {X : Cx} : PGet X (rGetL X.K) := by
  intro pins s σ H o i ov iv Q I ro ri h
  obtain ⟨p, xs, k, v, rfl, rfl, hq, hx, q⟩ := h
  cases ro
  obtain ⟨t, rfl⟩ := ri
  obtain ⟨its, r, pl, hz⟩ := I.list hq
  obtain ⟨u, hu, ru⟩ := r.get hx
  have hk : k < its.length := (List.getElem?_eq_some_iff.mp hu).1
  have h63 := line63
  have hl := r.length
  exact wpAny_getItem_list pl.isList (Int.natCast_nonneg _) (by omega) (by simpa using hu) ⟨v, H, I, ru, q⟩
/-! ### x is True, x is False, x anything -/
def rIsTF : R2 := fun x y H Q => ∃ b : Bool, y = .bl b ∧ Q (.bl (decide (x = .bl b))) H
theorem op_isTF {X : Cx} : OpR X (compareOp .Is) rIsTF := by
  intro pins s σ H x y v u Q I rx ry h
  obtain ⟨b, rfl, q⟩ := h
  cases (show u = Value.bool b from ry)
  have key : ∀ v : Value, RelV x v → v ≠ .bool b → x ≠ .bl b := fun v r n e => by
    subst e
    exact n r
  by_cases e : x = .bl b
  · subst e
    cases (show v = Value.bool b from rx)
    exact wpAny_is_self rfl ⟨.bl true, H, I, rfl, by simpa using q⟩
  · have hv : v ≠ .bool b := fun z => by
      subst z
      cases x with
      | bl c =>
        have z2 : Value.bool b = Value.bool c := rx
        injection z2 with z3
        exact e (by rw [z3])
      | non => cases (show Value.bool b = Value.none from rx)
      | int i => obtain ⟨t, z2⟩ := (show ∃ t, Value.bool b = Value.int i t from rx); cases z2
      | str i => obtain ⟨t, z2⟩ := (show ∃ t, Value.bool b = Value.str i t from rx); cases z2
      | byt i => obtain ⟨t, z2⟩ := (show ∃ t, Value.bool b = Value.bytes i t from rx); cases z2
      | flt i => obtain ⟨t, z2⟩ := (show ∃ t, Value.bool b = Value.float i t from rx); cases z2
      | ref a => cases (show Value.bool b = Value.ref a from rx)
      | ty a => cases (show Value.bool b = Value.type a from rx)
    have q' : Q (.bl false) H := by simpa [e] using q
    have hp : plainIs v (.bool b) = true := by
      cases x with
      | bl c => cases (show v = Value.bool c from rx); rfl
      | non => cases (show v = Value.none from rx); rfl
      | int i => obtain ⟨t, z2⟩ := (show ∃ t, v = Value.int i t from rx); cases z2; rfl
      | str i => obtain ⟨t, z2⟩ := (show ∃ t, v = Value.str i t from rx); cases z2; rfl
      | byt i => obtain ⟨t, z2⟩ := (show ∃ t, v = Value.bytes i t from rx); cases z2; rfl
      | flt i => obtain ⟨t, z2⟩ := (show ∃ t, v = Value.float i t from rx); cases z2; rfl
      | ref a => cases (show v = Value.ref a from rx); rfl
      | ty a => cases (show v = Value.type a from rx); rfl
    exact wpAny_is_other hp hv ⟨.bl false, H, I, rfl, q'⟩
/-! ### f(k = e, ..), keywords alone -/
section
variable {X : Cx} {CX : CXT} {k : Nat} {f : Addr} {fd : FuncData} {ps ks : List Str} {sp : Sp} {E : XK} {x : Str} {p pos : Pos} {kws : List Keyword} {tk : TA}
theorem pe_callK0 {g : List Value → List Value → List Value} {gV : List V → List V → List V} (F : FnOk X.prog X.w X.K X.mg X.base CX k f fd ps sp) (hr : Room k X.A) (hg : Gl X x) (hm : X.mg x = some (.ref f)) (hk : PySem.W.keepIn X.K (.ref f) = true) (hb : KBinds X.K fd ps ks g gV) (hx : Passes CX X E)
    (hkw : PK X kws tk) (hall : (backToKw pos (keywordEach kws X.env)).all (·.1.isSome) = true := by rfl) (hks : (backToKw pos (keywordEach kws X.env)).filterMap (·.1) = ks := by rfl)
    (hdb : (x == ("__debug__" : Str)) = false := by decide)
    (hpl : ((backTo pos (starEach [] X.env)).any (·.1) || (backToKw pos (keywordEach kws X.env)).any (·.1.isNone)) = false := by rfl) :
    PE X (.Call (.Name x p) [] kws pos) (tCallK sp gV E tNil tk) := by
  refine ⟨fun pins s σ H Q I h => ?_⟩
  refine wpAny_Call_Name_kw (ld_glob I hg hm ?_ hdb)
  refine PySem.W.callWith_KW0 (h₀ := X.base) I.ok.mod.kin hk hall (thn (hkw.run pos pins s σ H _ I h) fun ws s2 ⟨zs, H2, I2, rz, q2⟩ => ⟨I2.kIn, ?_⟩) hpl
  rw [hks]
  exact run_fnk (us := []) F hr hb hx I2 .nil rz q2
end
/-! ### xs.extend(t), t a tuple -/
theorem extend_tupW (l : Addr) (items : Array Value) (n : Nat) (b : Addr) (items2 : Array Value) (n2 : Nat) (dd : Option Addr) (sl : Array (Option Value)) (hs0 : ¬(!items.isEmpty && Builtin.List.listTooLong (items.size + items2.size)) = true) (hs1 : items.size ≤ sizeLine) (hs2 : items.size + items2.size ≤ sizeLine + 1) :
    Meets (Builtin.«list.extend» ⟨[.ref l, .ref b], []⟩) (fun _ R s => s.heap.get? l = some { cls := .type "list", dict := none, data := .seq items n, slots := #[] } ∧ s.heap.get? b = some { cls := .type "tuple", dict := dd, data := .seq items2 n2, slots := sl } ∧ R (.ok (.ret Value.none)) { s with heap := s.heap.update l (Obj.mapSeq fun x => x ++ items2), toks := s.toks }) :=
  .of_wp fun prog w A R s h => by
    obtain ⟨hp, g, d, tk, os⟩ := s
    obtain ⟨hl, hb, h⟩ := h
    have f1 := AutoSeq1.idx_int
    have f2 := AutoSeq1.sub_tuple_tuple
    have f3 := AutoSeq1.sub_list_list
    have f4 := AutoSeq1.sub_tuple_list
    have f5 := AutoSeq1.sub_list_tuple
    have hz' : (items ++ items2).size ≤ sizeLine + 1 := by rw [Array.size_append]; exact hs2
    wp_walk using (wpAny_updateSeq hl rfl (hz := hs1) (_hz' := hz')), wpAny_loadPart' hl, wpAny_loadPart' hb
    exact ⟨_, rfl, h⟩
def rExtendT (K : PySem.W.Frag) : V → List V → Hp → VK → Prop := fun x vs H Q => ∃ l b xs zs, x = .ref l ∧ vs = [.ref b] ∧ H l = some (.lst xs) ∧ SqT K H b zs ∧ xs.length + zs.length ≤ sizeLine ∧ Q .non (upd H l (.lst (xs ++ zs)))
theorem mt_extendT {X : Cx} : MtM X "list.extend" (rExtendT X.K) := by
  intro pins s σ H x vs v us Q I rx rv h
  obtain ⟨l, b, xs, zs, rfl, rfl, hH, hB, hz, q⟩ := h
  cases rx
  obtain ⟨u, rfl, ru⟩ := rv.one
  cases ru
  obtain ⟨z, its, n, r, hl, e⟩ := I.lstM hH
  obtain ⟨its2, r2, ⟨⟨cls, dd, data, sl⟩, ho, hc, n2, hd⟩, hs⟩ := I.tuple hB
  simp only at hc hd
  subst hc hd
  have hl2 := r2.length
  have hsz : its.toArray.size + its2.toArray.size ≤ sizeLine := by rw [List.size_toArray, List.size_toArray]; omega
  have hlong : ¬ (!its.toArray.isEmpty && Builtin.List.listTooLong (its.toArray.size + its2.toArray.size)) = true := by
    rw [notLongL hsz, Bool.and_false]
    exact Bool.false_ne_true
  refine call_meets F.slot_list_extend ⟨_, e, rfl⟩ F.entry_list_extend (F.args_list_extend_2 _ _)
    (extend_tupW l its.toArray n b its2.toArray n2 dd sl hlong (by rw [List.size_toArray]; omega) (by omega)) ⟨e, ho, ?_⟩
  refine ⟨.non, _, I.lset (its' := its ++ its2) hH e (by simp) (r.append r2) ?_, rfl, q⟩
  rw [List.length_append]
  omega
end K8
set_option Elab.async false
set_option linter.all false
set_option maxRecDepth 100000
set_option maxHeartbeats 4000000
namespace K8
open PySem PySem.Spec PyProof.Rows L2
/-! ### own rules: {k: v}, the key a tuple of flat things -/
def tDispT (tk tv : TE) : TE := fun σ H Q => ∀ p, H p = none → tk σ (upd H p (.dT [])) fun x H1 => tv σ H1 fun y H2 => ∃ (b : Addr) (ks : List Key), x = .ref b ∧ H2 b = some (.tup (ks.map kV)) ∧ H2 p = some (.dT []) ∧ Q (.ref p) (upd H2 p (.dT [(ks, y)]))
theorem pe_dispT {X : Cx} {k v : Expr} {pos : Pos} {tk tv : TE} (hu : X.A.units + 1 < cLine) (hk : PE X k tk) (hv : PE X v tv) : PE X (.Dict [some k] [v] pos) (tDispT tk tv) := by
  refine ⟨fun pins s σ H Q I q => ?_⟩
  have hn := I.hok.fresh (Nat.le_refl s.heap.objs.size)
  have I1 := I.laid (a := s.heap.objs.size) (o := .dT []) (h' := s.heap.push { cls := .type "dict", data := .dict #[] }) (t' := s.toks) (fun _ _ q => Heap.get?_push_of_some _ q) (Nat.le_refl _) (dt_empty s.heap I.big)
  have PP : PPs X pos [some k] [v] [(tk, tv)] := pps_cons hk hv pps_nil
  have hshape := zip_pairTrees [some k] [v] X.env pos rfl rfl
  rw [arm_eval_Dict, hshape, dictDisplay_pairs (pairTrees [some k] [v] X.env pos) (fun e => by have := congrArg List.length e; simp [pairTrees_length [some k] [v] X.env pos rfl rfl] at this) (by rw [pairTrees_length [some k] [v] X.env pos rfl rfl]; show 1 < 17; decide)]
  refine wpAny_bind (wpAny_standAt (wpAny_bind (wpAny_subDictH (knd := tupleKind (mixKind X.prog X.w)) (Q := fun d s' => wpAny (model X.prog X.w) X.A (pure (Value.ref d)) (EP X pins σ Q) X.xe s') (show (tupleKind (mixKind X.prog X.w)).room X.A from Nat.lt_of_succ_lt hu) (by rw [pairTrees_length [some k] [v] X.env pos rfl rfl]; show 1 ≤ 15; decide)
    (wpAny_mono (PP.run pins _ σ _ (fun ps H2 => ∃ x y, ps = [(x, y)] ∧ ∃ (b : Addr) (ks : List Key), x = .ref b ∧ H2 b = some (.tup (ks.map kV)) ∧ H2 s.heap.objs.size = some (.dT []) ∧ Q (.ref s.heap.objs.size) (upd H2 s.heap.objs.size (.dT [(ks, y)]))) I1 ?_) (fun ws s2 h2 => ?_) fun _ _ e => e))))
  · show tk σ _ fun x H1 => tv σ H1 fun y H2 => tPairs [] σ H2 fun ps H3 => _
    have q' := q _ hn
    have e : (fun x H1 => tv σ H1 fun y H2 => tPairs [] σ H2 fun ps H3 => (∃ x' y', (x, y) :: ps = [(x', y')] ∧ ∃ (b : Addr) (ks : List Key), x' = .ref b ∧ H3 b = some (.tup (ks.map kV)) ∧ H3 s.heap.objs.size = some (.dT []) ∧ Q (.ref s.heap.objs.size) (upd H3 s.heap.objs.size (.dT [(ks, y')])))) =
        (fun x H1 => tv σ H1 fun y H2 => ∃ (b : Addr) (ks : List Key), x = .ref b ∧ H2 b = some (.tup (ks.map kV)) ∧ H2 s.heap.objs.size = some (.dT []) ∧ Q (.ref s.heap.objs.size) (upd H2 s.heap.objs.size (.dT [(ks, y)]))) := by
      funext x H1
      congr 1
      funext y H2
      apply propext
      constructor
      · rintro ⟨x', y', e, h⟩
        injection e with e1 e2
        injection e1 with e3 e4
        subst e3 e4
        exact h
      · intro h
        exact ⟨x, y, rfl, h⟩
    rw [e]
    exact q'
  · obtain ⟨ps, H2, I2, rel, x, y, rfl, b, ks, rfl, hb, hp, q2⟩ := h2
    cases rel with
    | cons r0 rr =>
      rename_i w0 ws'
      cases rr
      obtain ⟨w1, w2⟩ := w0
      obtain ⟨r1, r2⟩ := r0
      obtain rfl : w1 = Value.ref b := r1
      obtain ⟨z, hd, xs0, rel0, dd⟩ := dt_of I2.hok hp
      cases rel0
      refine ⟨[(ks, b, w2)], ⟨rfl, rfl, key_of I2.hok hb, True.intro⟩, dd, fun h' tk a hs => wpAny_pure ?_⟩
      obtain ⟨o, es, ep, hq, h2', h3, h4, _, h5⟩ := a
      refine ⟨.ref s.heap.objs.size, upd H2 s.heap.objs.size (.dT [(ks, y)]), d_write (ob := .dT [(ks, y)]) I2 (by rw [hp]; exact True.intro) hs ⟨o, hq⟩ ⟨?_, hd, [(ks, b, w2)], .cons ⟨rfl, ?_, r2⟩ .nil, o, es, ep, hq, h2', h3, h4, h5⟩, rfl, q2⟩
      · show 1 ≤ sizeLine
        decide
      · rw [upd_ne (ne_of hb hp (fun z => nomatch z))]
        exact hb
/-! ### t * k, k at least 1 -/
theorem tuple_mulOne (l : Addr) (items : Array Value) (n : Nat) (dd : Option Addr) (sl : Array (Option Value)) (u : Tok) :
    Meets (Builtin.«tuple.__mul__» ⟨[.ref l, .int 1 u], []⟩) (fun _ R s => s.heap.get? l = some { cls := .type "tuple", dict := dd, data := .seq items n, slots := sl } ∧ R (.ok (.ret (Value.ref l))) s) :=
  .of_wp fun prog w A R s h => by
    obtain ⟨hp, g, d, tk, os⟩ := s
    obtain ⟨hl, h⟩ := h
    have f1 := AutoSeq1.idx_int
    have c1 : (items.isEmpty || (1 : Int) == 1) = true := by simp
    wp_walk using wpAny_loadPart' hl
    repeat (first
      | (refine wpAny_ite_true (decide_eq_true c1) ?_; wp_walk using wpAny_loadPart' hl)
      | (refine wpAny_ite_false (decide_eq_false (by decide)) ?_; wp_walk using wpAny_loadPart' hl))
    exact ⟨_, rfl, h⟩
def rRepT1 (K : PySem.W.Frag) : R2 := fun x y H Q => ∃ l xs, x = .ref l ∧ y = .int 1 ∧ SqT K H l xs ∧ Q (.ref l) H
theorem op_repT1 {X : Cx} : OpR X (binaryOp .Mult) (rRepT1 X.K) := by
  intro pins s σ H x y v u Q I rx ry h
  obtain ⟨l, xs, rfl, rfl, hT, q⟩ := h
  cases rx
  obtain ⟨t, rfl⟩ := ry
  obtain ⟨its, r, ⟨⟨cls, dd, data, sl⟩, ho, hc, n, hd⟩, hs⟩ := I.tuple hT
  simp only at hc hd
  subst hc hd
  exact wpAny_binaryOp_repeat_ref (T := "tuple") (U := "int") (by decide) ⟨_, ho, rfl⟩ (fun s' => typeIs_int s' 1 t) noFill_tuple_mul F.fills_int_mul F.slot_int_rmul repeat_tuple F.slot_int_index.lookup
    (call_meets F.slot_int_rmul (typeIs_int s 1 t) F.entry_int_rmul (F.args_int_rmul_2 _ _) (int_rmul_tuple 1 t l its.toArray n dd sl)
      ⟨ho, rfl, ⟨_, ho, rfl⟩, call_meets F.slot_tuple_mul ⟨_, ho, rfl⟩ F.entry_tuple_mul (F.args_tuple_mul_2 _ _) (tuple_mulOne l its.toArray n dd sl t) ⟨ho, ⟨.ref l, H, I, rfl, q⟩⟩⟩)
/-- both: t * k, k from 1 -/
theorem op_repTk {X : Cx} : OpR X (binaryOp .Mult) (fun x y H Q => rRepT X.K x y H Q ∨ rRepT1 X.K x y H Q) := op_repT.or op_repT1
end K8
set_option Elab.async false
set_option linter.all false
set_option maxRecDepth 100000
set_option maxHeartbeats 4000000
namespace K8
open PySem PySem.Spec PyProof.Rows L2
/-! ### own rules: enumerate(t), t a tuple that is tracked -/
def IteT (a : Addr) : It :=
  ⟨fun i H => ∃ (xs : List V) (x : V), H a = some (.tup xs) ∧ xs[i]? = some x,
   fun i H v H' => ∃ T x, v = .ref T ∧ H T = none ∧ H' = upd H T (.tup [.int (i : Nat), x]) ∧ ∀ xs, H a = some (.tup xs) → xs[i]? = some x,
   fun i H => ∃ xs : List V, H a = some (.tup xs) ∧ i = xs.length⟩
theorem tup_at {X : Cx} {pins : List (Addr × Obj)} {σ : L2.St} {H : Hp} {s : Shared} {a : Addr} {xs : List V} (I : Inv X pins σ H s) (h : H a = some (.tup xs)) : ∃ its : List Value, Vals xs its ∧ s.heap.IsTuple a its.toArray ∧ xs.length ≤ sizeLine := by
  obtain ⟨hz, its, r, o, h1, h2, n, h3⟩ := (show ObjOk X.prog X.w H s.heap a (.tup xs) from I.hok a _ h)
  exact ⟨its, r, ⟨o, h1, h2, n, h3⟩, hz⟩
theorem turn_enumT {P : Program} {w : World} {K : PySem.W.Frag} {elts : List Expr} {kk : Nat} {tpos : Pos} (a e it : Addr) :
    Turn P w K (.Tuple elts kk tpos) (IteT a) [e, it] e (fun i h => (∃ old, IsEnum h e it (0 + (i : Int)) old) ∧ h.IsTupleIter it a i ∧ e ≠ it) where
  mem := by simp
  obj := fun i h st b hb => by
    obtain ⟨⟨old, he⟩, ⟨o, ho, hc, hd⟩, _⟩ := st
    rcases (show b = e ∨ b = it by simpa using hb) with z | z
    · subst z
      exact ⟨_, he, fun v q => nomatch q⟩
    · subst z
      exact ⟨o, ho, fun v q => by rw [hd] at q; cases q⟩
  keep := fun i h h' st k => by
    obtain ⟨⟨old, he⟩, hi, hne⟩ := st
    exact ⟨⟨old, k e (by simp) _ he⟩, hi.at fun o q => k it (by simp) o q, hne⟩
  item := by
    intro X hP hw hK hc i pins s σ H E I hf st hg
    subst hP hw hK
    obtain ⟨he, hit, hne⟩ := st
    obtain ⟨xs, x, hq, hx⟩ := hg
    obtain ⟨its, rv, p, hz⟩ := tup_at I hq
    have hil : i < its.toArray.size := by
      rw [List.size_toArray, ← rv.length]
      exact (List.getElem?_eq_some_iff.mp hx).1
    have hna : ∀ {b : Addr}, b ∈ [e, it] → a ≠ b := fun hb => ne_of_none hq (hf _ hb).1
    have G := GoesN.enumFrom (elts := elts) (x1 := kk) (pos := tpos) (prog := X.prog) (w := X.w) (A := X.A) 0 (Draws.tuple (A := X.A.in1) (I.ok.hd hc) it a (hna (by simp)) its.toArray) e hne
      (by intro hm; rcases (show e = it ∨ e = a by simpa using hm) with z | z; (exact hne z); (exact hna (by simp) z.symm)) (by simp)
    refine wpAny_mono (G.goes i s (fun v s2 => ∃ x H', Inv X pins σ H' s2 ∧ RelV x v ∧ (IteT a).yld i H x H' ∧ ((∃ old, IsEnum s2.heap e it (0 + ((i + 1 : Nat) : Int)) old) ∧ s2.heap.IsTupleIter it a (i + 1) ∧ e ≠ it) ∧ ∀ b ∈ [e, it], H' b = none) _ hil ⟨he, hit, p⟩ ?_) (fun r s1 h => h) fun _ _ e => e
    intro v h' tk hY st' hk htk
    obtain ⟨T, t, u, rfl, hT, hu, hT2⟩ := hY
    obtain ⟨st1, st2, st3⟩ := st'
    obtain ⟨u2, hu2, ru⟩ := rv.get hx
    have eu : u = u2 := by
      have e1 : its[i]? = some u := by simpa using hu
      rw [hu2] at e1
      exact (Option.some.inj e1).symm
    subst eu
    obtain ⟨o, o1, o2, n, o3⟩ := hT2
    have e0 : (0 : Int) + (i : Int) = ((i : Nat) : Int) := Int.zero_add _
    have new : ObjOk X.prog X.w (upd H T (.tup [.int (i : Nat), x])) h' T (.tup [.int (i : Nat), x]) :=
      ⟨by show 2 ≤ sizeLine; decide, [.int ((i : Nat) : Int) t, u], .cons ⟨_, rfl⟩ (.cons ru .nil), ⟨o, o1, o2, n, by rw [o3, e0]⟩⟩
    have I1 : Inv X pins σ (upd H T (.tup [.int (i : Nat), x])) { s with heap := h', toks := tk } := I.turnedNew (ch := [e, it]) (fun b ob hb q => hk b ob hb q) hf hT new
    refine ⟨.ref T, _, I1, rfl, ⟨T, x, rfl, I.hok.fresh hT, rfl, fun ys hy => by rw [hq] at hy; cases hy; exact hx⟩, ⟨st1, st2, hne⟩, fun b hb => ?_⟩
    have hbT : b ≠ T := fun z => by
      have hlt : b < s.heap.objs.size := by
        obtain ⟨old, he'⟩ := he
        obtain ⟨ob, q1, _⟩ := hit
        rcases (show b = e ∨ b = it by simpa using hb) with z | z
        · rw [z]; exact Heap.lt_size he'
        · rw [z]; exact Heap.lt_size q1
      rw [z] at hlt
      exact Nat.lt_irrefl _ (Nat.lt_of_lt_of_le hlt hT)
    rw [upd_ne hbT]
    exact (hf b hb).1
  done := by
    intro X hP hw hK hc i pins s σ H E I hf st hg
    subst hP hw hK
    obtain ⟨he, hit, hne⟩ := st
    obtain ⟨xs, hq, rfl⟩ := hg
    obtain ⟨its, rv, p, hz⟩ := tup_at I hq
    have hna : ∀ {b : Addr}, b ∈ [e, it] → a ≠ b := fun hb => ne_of_none hq (hf _ hb).1
    have G := GoesN.enumFrom (elts := elts) (x1 := kk) (pos := tpos) (prog := X.prog) (w := X.w) (A := X.A) 0 (Draws.tuple (A := X.A.in1) (I.ok.hd hc) it a (hna (by simp)) its.toArray) e hne
      (by intro hm; rcases (show e = it ∨ e = a by simpa using hm) with z | z; (exact hne z); (exact hna (by simp) z.symm)) (by simp)
    have hl : its.toArray.size = xs.length := by rw [List.size_toArray, ← rv.length]
    refine G.stops s _ E ⟨by rw [hl]; exact he, by rw [hl]; exact hit, p⟩ fun h' tk hk htk => ?_
    exact I.turnedL (t' := tk) (ch := [e, it]) hk hf
  self := fun A i s Q E st h => by
    obtain ⟨⟨_, he⟩, _⟩ := st
    exact wpAny_pyIter_enum he h
theorem meets_enum1 {v : Value} {o : Obj} {H : Heap → Prop} (B : Begins v o H) :
    Meets (Builtin.«enumerate.__new__» ⟨[.type "enumerate", v], []⟩) (fun _ R s => H s.heap ∧
      R (.ok (.ret (.ref (s.heap.push o).objs.size))) { s with heap := (s.heap.push o).push { cls := .type "enumerate", data := .fields #[.none, .bool false, .ref s.heap.objs.size, rawInt 0, .none, .none] } }) :=
  .of_wp fun prog w A R s h => by
    obtain ⟨hp, g, d, tk, os⟩ := s
    obtain ⟨h1, h⟩ := h
    have hsub := sub_enumerate
    have q1 : ∀ {A' : Around} {E : Value → Shared → Prop} {Q : Value → Shared → Prop}, Q (.ref hp.objs.size) ⟨hp.push o, g, d, tk, os⟩ → wpAny (model prog w) A' (pyIter v) Q E ⟨hp, g, d, tk, os⟩ :=
      fun q => B.iter prog w _ _ ⟨hp, g, d, tk, os⟩ _ h1 q
    wp_walk using q1
    refine wpAny_stack_any fun st => wpAny_pure ?_
    split
    · rename_i c _ _ _ _ _
      cases (c == Value.type "enumerate")
      · wp_walk using q1
        exact ⟨_, rfl, h⟩
      · wp_walk using q1
        exact ⟨_, rfl, h⟩
    · wp_walk using q1
      exact ⟨_, rfl, h⟩
def iEnumT (ta : TA) : TI := fun σ H R => ta σ H fun vs H1 => ∃ a xs, vs = [.ref a] ∧ H1 a = some (.tup xs) ∧ R (IteT a) H1
theorem pi_enumT {X : Cx} {e : Expr} {ta : TA} {p pos tpos : Pos} {elts : List Expr} {kk : Nat} (hg : Gl X "enumerate") (hm : X.mg "enumerate" = none) (ha : PA X [e] ta) (hs : starEach [e] X.env = [(false, eval e X.env)] := by rfl) :
    PI X (.Tuple elts kk tpos) (.Call (.Name "enumerate" p) [e] [] pos) (iEnumT ta) := by
  refine ⟨fun pins s σ H R I h => ?_⟩
  refine Call_ (ld_blt I hg hm boot_enumerate (PyProof.Rows.callWith_type1 (thn (ha.run pos pins s σ H _ I h) fun us s1 ⟨vs, H1, I1, r1, q1⟩ => ?_) hs rfl))
  obtain ⟨a, xs, ex, hq, q⟩ := q1
  subst ex
  cases r1 with
  | cons r rr =>
    cases rr
    cases r
    obtain ⟨its, rv, p', hz⟩ := tup_at I1 hq
    refine callType_new F.called_enumerate (by decide) (F.typeCall_enumerate_1 _) (F.newCall_enumerate_1 _) (fun obj => F.args_object_init_2 obj _) F.entry_enumerate_new (meets_enum1 (begins_tuple a its.toArray)) ⟨p', ?_⟩
    have hzz : (s1.heap.push { cls := .type "tuple_iterator", data := .fields #[.ref a, .int 0 0] }).objs.size = s1.heap.objs.size + 1 := Heap.size_push ..
    show _ ∧ _
    rw [hzz]
    have he : IsEnum ((s1.heap.push { cls := .type "tuple_iterator", data := .fields #[.ref a, .int 0 0] }).push { cls := .type "enumerate", data := .fields #[.none, .bool false, .ref s1.heap.objs.size, rawInt 0, .none, .none] }) (s1.heap.objs.size + 1) s1.heap.objs.size 0 .none := by
      have := Heap.get?_push_size (s1.heap.push { cls := .type "tuple_iterator", data := .fields #[.ref a, .int 0 0] }) (o := { cls := .type "enumerate", data := .fields #[.none, .bool false, .ref s1.heap.objs.size, rawInt 0, .none, .none] }) rfl
      rw [hzz] at this
      exact this
    refine ⟨⟨_, he, rfl⟩, wpAny_pyIter_enum he ?_⟩
    have I2 : Inv X pins σ H1 { s1 with heap := ((s1.heap.push { cls := .type "tuple_iterator", data := .fields #[.ref a, .int 0 0] }).push { cls := .type "enumerate", data := .fields #[.none, .bool false, .ref s1.heap.objs.size, rawInt 0, .none, .none] }) } :=
      I1.kept (t' := s1.toks) fun b o q => Heap.get?_push_of_some _ (Heap.get?_push_of_some _ q)
    refine ⟨s1.heap.objs.size + 1, [s1.heap.objs.size + 1, s1.heap.objs.size], _, _, H1, rfl, I2, turn_enumT a (s1.heap.objs.size + 1) s1.heap.objs.size, ⟨⟨.none, he⟩, ⟨_, Heap.get?_push_of_some _ (Heap.get?_push_size _ rfl), rfl, rfl⟩, Nat.succ_ne_self _⟩, fun b hb => ?_, q⟩
    have hle : s1.heap.objs.size ≤ b := by
      rcases (show b = s1.heap.objs.size + 1 ∨ b = s1.heap.objs.size by simpa using hb) with z | z
      · rw [z]; exact Nat.le_add_right _ _
      · rw [z]; exact Nat.le_refl _
    exact I1.fpOk hle (I1.hok.fresh hle)
theorem walk_enumT {a : Addr} {xs : List V} : Walk (IteT a) xs.length (fun H => H a = some (.tup xs)) (YPair (fun i => some (.int (i : Nat))) (fun i => xs[i]?)) := by
  refine ⟨fun i _ hi q => ⟨xs, xs[i], q, by simp [hi]⟩, fun _ q => ⟨xs, q, rfl⟩, fun i H v H' _ q y => ?_⟩
  obtain ⟨T, x, h1, h2, h3, h4⟩ := y
  exact ⟨T, .int (i : Nat), x, h1, h2, h3, rfl, h4 xs q⟩
/-! ### zip(t, xs), t a tuple, xs a list -/
def ItzM (a b : Addr) : It :=
  ⟨fun i H => ∃ (xs ys : List V) (x y : V), H a = some (.tup xs) ∧ H b = some (.lst ys) ∧ xs[i]? = some x ∧ ys[i]? = some y,
   fun i H v H' => ∃ T x y, v = .ref T ∧ H T = none ∧ H' = upd H T (.tup [x, y]) ∧ (∀ xs, H a = some (.tup xs) → xs[i]? = some x) ∧ ∀ ys, H b = some (.lst ys) → ys[i]? = some y,
   fun i H => ∃ xs ys : List V, H a = some (.tup xs) ∧ H b = some (.lst ys) ∧ i = min xs.length ys.length⟩
theorem lst_at {X : Cx} {pins : List (Addr × Obj)} {σ : L2.St} {H : Hp} {s : Shared} {a : Addr} {xs : List V} (I : Inv X pins σ H s) (h : H a = some (.lst xs)) : ∃ its : List Value, Vals xs its ∧ s.heap.IsList a its.toArray := by
  obtain ⟨its, r, p, _⟩ := I.list (SqL.of h)
  exact ⟨its, r, p.isList⟩
theorem turn_zipM {P : Program} {w : World} {K : PySem.W.Frag} {elts : List Expr} {kk : Nat} {tpos : Pos} (a b z TI TO i1 i2 : Addr) (S : ZipSep2 z TI TO i1 i2 [i1, a] [i2, b]) :
    Turn P w K (.Tuple elts kk tpos) (ItzM a b) [z, TI, TO, i1, i2] z (fun i h => IsZip h z TI TO .none ∧ IsTupOf2 h TI (.ref i1) (.ref i2) ∧ (∃ a1 a2, IsTupOf2 h TO a1 a2) ∧ h.IsTupleIter i1 a i ∧ h.IsListIter i2 b i) where
  mem := by simp
  obj := fun i h st c hc => by
    obtain ⟨hz, hTI, ⟨x, y, hTO⟩, ⟨o1, e1, _, d1⟩, ⟨o2, e2, _, d2⟩⟩ := st
    rcases (show c = z ∨ c = TI ∨ c = TO ∨ c = i1 ∨ c = i2 by simpa using hc) with q | q | q | q | q
    · rw [q]; exact ⟨_, hz, fun v q => nomatch q⟩
    · rw [q]; exact ⟨_, hTI, fun v q => nomatch q⟩
    · rw [q]; exact ⟨_, hTO, fun v q => nomatch q⟩
    · rw [q]; exact ⟨o1, e1, fun v q => by rw [d1] at q; cases q⟩
    · rw [q]; exact ⟨o2, e2, fun v q => by rw [d2] at q; cases q⟩
  keep := fun i h h' st k => by
    obtain ⟨hz, hTI, ⟨x, y, hTO⟩, h1, h2⟩ := st
    exact ⟨k z (by simp) _ hz, k TI (by simp) _ hTI, ⟨x, y, k TO (by simp) _ hTO⟩, h1.at fun o q => k i1 (by simp) o q, h2.at fun o q => k i2 (by simp) o q⟩
  item := by
    intro X hP hw hK hc i pins s σ H E I hf st hg
    subst hP hw hK
    obtain ⟨hz, hTI, hTO, h1, h2⟩ := st
    obtain ⟨xs, ys, x, y, hqx, hqy, hx, hy⟩ := hg
    obtain ⟨its, rv, p, _⟩ := tup_at I hqx
    obtain ⟨its2, rv2, p2⟩ := lst_at I hqy
    have hi1 : i < its.toArray.size := by
      rw [List.size_toArray, ← rv.length]
      exact (List.getElem?_eq_some_iff.mp hx).1
    have hi2 : i < its2.toArray.size := by
      rw [List.size_toArray, ← rv2.length]
      exact (List.getElem?_eq_some_iff.mp hy).1
    have G := GoesN.zip2 (elts := elts) (x1 := kk) (pos := tpos) (prog := X.prog) (w := X.w) (A := X.A) S
      (Draws.tuple (A := X.A.in1) (I.ok.hd hc) i1 a (ne_of_none hqx (hf i1 (by simp)).1) its.toArray) (Draws.list (A := X.A.in1) (I.ok.hd hc) i2 b (ne_of_none hqy (hf i2 (by simp)).1) its2.toArray)
    refine wpAny_mono (G.goes i s (fun v s2 => ∃ x H', Inv X pins σ H' s2 ∧ RelV x v ∧ (ItzM a b).yld i H x H' ∧ (IsZip s2.heap z TI TO .none ∧ IsTupOf2 s2.heap TI (.ref i1) (.ref i2) ∧ (∃ a1 a2, IsTupOf2 s2.heap TO a1 a2) ∧ s2.heap.IsTupleIter i1 a (i + 1) ∧ s2.heap.IsListIter i2 b (i + 1)) ∧ ∀ c ∈ [z, TI, TO, i1, i2], H' c = none) _ (by omega) ⟨hz, hTI, hTO, ⟨h1, p⟩, ⟨h2, p2⟩⟩ ?_) (fun r s1 h => h) fun _ _ e => e
    intro v h' tk hY st' hk htk
    obtain ⟨T, u, u2, rfl, hT, hu, hu2, hT2⟩ := hY
    obtain ⟨st1, st2, st3, ⟨st4, _⟩, ⟨st5, _⟩⟩ := st'
    obtain ⟨v1, hv1, ru⟩ := rv.get hx
    obtain ⟨v2, hv2, ru2⟩ := rv2.get hy
    have eu : u = v1 := by
      have e1 : its[i]? = some u := by simpa using hu
      rw [hv1] at e1
      exact (Option.some.inj e1).symm
    have eu2 : u2 = v2 := by
      have e1 : its2[i]? = some u2 := by simpa using hu2
      rw [hv2] at e1
      exact (Option.some.inj e1).symm
    subst eu eu2
    obtain ⟨o, o1, o2, n, o3⟩ := hT2
    have new : ObjOk X.prog X.w (upd H T (.tup [x, y])) h' T (.tup [x, y]) := ⟨by show 2 ≤ sizeLine; decide, [u, u2], .cons ru (.cons ru2 .nil), ⟨o, o1, o2, n, o3⟩⟩
    have I1 : Inv X pins σ (upd H T (.tup [x, y])) { s with heap := h', toks := tk } :=
      I.turnedNew (ch := [z, TI, TO, i1, i2]) (fun c ob hb q => hk c ob (fun hm => hb (by
        rcases (show c = z ∨ c = TO ∨ c = i1 ∨ c = i2 by simpa using hm) with q | q | q | q <;> simp [q])) q) hf hT new
    refine ⟨.ref T, _, I1, rfl, ⟨T, x, y, rfl, I.hok.fresh hT, rfl, fun l hl => by rw [hqx] at hl; cases hl; exact hx, fun l hl => by rw [hqy] at hl; cases hl; exact hy⟩, ⟨st1, st2, st3, st4, st5⟩, fun c hcm => ?_⟩
    have hlt : c < s.heap.objs.size := by
      obtain ⟨_, _, hTO⟩ := hTO
      obtain ⟨_, q1, _⟩ := h1
      obtain ⟨_, q2, _⟩ := h2
      rcases (show c = z ∨ c = TI ∨ c = TO ∨ c = i1 ∨ c = i2 by simpa using hcm) with q | q | q | q | q
      · rw [q]; exact Heap.lt_size hz
      · rw [q]; exact Heap.lt_size hTI
      · rw [q]; exact Heap.lt_size hTO
      · rw [q]; exact Heap.lt_size q1
      · rw [q]; exact Heap.lt_size q2
    rw [upd_ne (fun q => by rw [q] at hlt; exact Nat.lt_irrefl _ (Nat.lt_of_lt_of_le hlt hT))]
    exact (hf c hcm).1
  done := by
    intro X hP hw hK hc i pins s σ H E I hf st hg
    subst hP hw hK
    obtain ⟨hz, hTI, hTO, h1, h2⟩ := st
    obtain ⟨xs, ys, hqx, hqy, rfl⟩ := hg
    obtain ⟨its, rv, p, _⟩ := tup_at I hqx
    obtain ⟨its2, rv2, p2⟩ := lst_at I hqy
    have G := GoesN.zip2 (elts := elts) (x1 := kk) (pos := tpos) (prog := X.prog) (w := X.w) (A := X.A) S
      (Draws.tuple (A := X.A.in1) (I.ok.hd hc) i1 a (ne_of_none hqx (hf i1 (by simp)).1) its.toArray) (Draws.list (A := X.A.in1) (I.ok.hd hc) i2 b (ne_of_none hqy (hf i2 (by simp)).1) its2.toArray)
    have hl : min its.toArray.size its2.toArray.size = min xs.length ys.length := by rw [List.size_toArray, List.size_toArray, ← rv.length, ← rv2.length]
    refine G.stops s _ E (by rw [hl]; exact ⟨hz, hTI, hTO, ⟨h1, p⟩, ⟨h2, p2⟩⟩) fun h' tk hk htk => ?_
    exact I.turnedL (t' := tk) (ch := [z, TI, TO, i1, i2]) (fun c ob hb q => hk c ob (fun hm => hb (by
        rcases (show c = z ∨ c = TO ∨ c = i1 ∨ c = i2 by simpa using hm) with q | q | q | q <;> simp [q])) q) hf
  self := fun A i s Q E st h => wpAny_pyIter_zip st.1 h
def iZipM (ta : TA) : TI := fun σ H R => ta σ H fun vs H1 => ∃ a b xs ys, vs = [.ref a, .ref b] ∧ H1 a = some (.tup xs) ∧ H1 b = some (.lst ys) ∧ R (ItzM a b) H1
theorem pi_zipM {X : Cx} {e e2 : Expr} {ta : TA} {p pos tpos : Pos} {elts : List Expr} {kk : Nat} (hg : Gl X "zip") (hm : X.mg "zip" = none) (ha : PA X [e, e2] ta)
    (hs : starEach [e, e2] X.env = (false, eval e X.env) :: starEach [e2] X.env := by rfl) (hpl : (backTo pos (starEach [e2] X.env)).any (·.1) = false := by rfl) :
    PI X (.Tuple elts kk tpos) (.Call (.Name "zip" p) [e, e2] [] pos) (iZipM ta) := by
  refine ⟨fun pins s σ H R I h => ?_⟩
  refine Call_ (ld_blt I hg hm boot_zip (PyProof.Rows.callWith_type1 (thn (ha.run pos pins s σ H _ I h) fun us s1 ⟨vs, H1, I1, r1, q1⟩ => ?_) hs hpl))
  obtain ⟨a, b, xs, ys, ex, hqx, hqy, q⟩ := q1
  subst ex
  cases r1 with
  | cons ra rr =>
    cases rr with
    | cons rb rr2 =>
      cases rr2
      cases ra
      cases rb
      obtain ⟨its, rv, p1, _⟩ := tup_at I1 hqx
      obtain ⟨its2, rv2, p2⟩ := lst_at I1 hqy
      have ha' : a < s1.heap.objs.size := by obtain ⟨_, q, _⟩ := p1; exact Heap.lt_size q
      have hb' : b < s1.heap.objs.size := by obtain ⟨_, q, _⟩ := p2; exact Heap.lt_size q
      refine zip_begins2 (begins_tuple a its.toArray) (begins_list b its2.toArray) p1 p2 fun h' hz hTI hTO g1 g2 hsz hk => wpAny_pyIter_zip hz ?_
      have I2 : Inv X pins σ H1 { s1 with heap := h' } := I1.kept (t' := s1.toks) hk
      refine ⟨s1.heap.objs.size + 4, [s1.heap.objs.size + 4, s1.heap.objs.size + 2, s1.heap.objs.size + 3, s1.heap.objs.size, s1.heap.objs.size + 1], _, _, H1, rfl, I2, turn_zipM a b _ _ _ _ _ (zip_sep2 (N := s1.heap.objs.size) (fp1 := [a]) (fp2 := [b]) (by simpa using ha') (by simpa using hb')),
        ⟨hz, hTI, ⟨_, _, hTO⟩, ⟨_, g1, rfl, rfl⟩, ⟨_, g2, rfl, rfl⟩⟩, fun c hcm => ?_, q⟩
      have hle : s1.heap.objs.size ≤ c := by
        rcases (show c = s1.heap.objs.size + 4 ∨ c = s1.heap.objs.size + 2 ∨ c = s1.heap.objs.size + 3 ∨ c = s1.heap.objs.size ∨ c = s1.heap.objs.size + 1 by simpa using hcm) with z | z | z | z | z <;> rw [z] <;> first | exact Nat.le_add_right _ _ | exact Nat.le_refl _
      exact I1.fpOk hle (I1.hok.fresh hle)
theorem walk_zipM {a b : Addr} {xs ys : List V} {n : Nat} (h1 : xs.length = n) (h2 : ys.length = n) : Walk (ItzM a b) n (fun H => H a = some (.tup xs) ∧ H b = some (.lst ys)) (YPair (fun i => xs[i]?) (fun i => ys[i]?)) := by
  subst h1
  refine ⟨fun i _ hi q => ⟨xs, ys, xs[i], ys[i]'(by omega), q.1, q.2, by simp [hi], by simp [h2, hi]⟩, fun _ q => ⟨xs, ys, q.1, q.2, by omega⟩, fun i H v H' _ q y => ?_⟩
  obtain ⟨T, x, y, e1, e2, e3, e4, e5⟩ := y
  exact ⟨T, x, y, e1, e2, e3, e4 xs q.1, e5 ys q.2⟩
end K8
set_option Elab.async false
set_option linter.all false
set_option maxRecDepth 100000
set_option maxHeartbeats 4000000
namespace K8
open PySem PySem.Spec PyProof.Rows L2
/-! ### own rules: sorted of a list of tuples of ints, of any lengths, any number of them -/
theorem lexLt_asym : ∀ {x y : List Int}, HT.lexLt x y = true → HT.lexLt y x = false
  | [], [], h => by cases h
  | [], _ :: _, _ => rfl
  | _ :: _, [], h => by cases h
  | x :: xs, y :: ys, h => by
    rw [HT.lexLt_cons] at h ⊢
    by_cases e : x = y
    · rw [if_pos e] at h
      rw [if_pos e.symm]
      exact lexLt_asym h
    · rw [if_neg e] at h
      rw [if_neg (fun z => e z.symm)]
      have := of_decide_eq_true h
      exact decide_eq_false (by omega)
theorem lexLt_tr : ∀ {x y z : List Int}, HT.lexLt y x = false → HT.lexLt z y = false → HT.lexLt z x = false
  | [], [], z, _, h2 => h2
  | [], _ :: _, [], _, h2 => by cases h2
  | [], _ :: _, _ :: _, _, _ => rfl
  | x :: xs, [], z, h1, _ => by cases h1
  | x :: xs, y :: ys, [], _, h2 => by cases h2
  | x :: xs, y :: ys, z :: zs, h1, h2 => by
    rw [HT.lexLt_cons] at h1 h2 ⊢
    by_cases e1 : y = x
    · by_cases e2 : z = y
      · rw [if_pos e1] at h1
        rw [if_pos e2] at h2
        rw [if_pos (e2.trans e1)]
        exact lexLt_tr h1 h2
      · rw [if_neg e2] at h2
        rw [if_neg (by omega)]
        have := of_decide_eq_false h2
        exact decide_eq_false (by omega)
    · rw [if_neg e1] at h1
      have a := of_decide_eq_false h1
      by_cases e2 : z = y
      · rw [if_neg (by omega)]
        exact decide_eq_false (by omega)
      · rw [if_neg e2] at h2
        have b := of_decide_eq_false h2
        rw [if_neg (by omega)]
        exact decide_eq_false (by omega)
theorem swo_key (k : Value → List Int) : SrtO.Swo fun v u => HT.lexLt (k v) (k u) := ⟨fun _ _ h => lexLt_asym h, fun _ _ _ h1 h2 => lexLt_tr h1 h2⟩
/-- v is a tuple of the ints ns -/
def TupI (h : Heap) (v : Value) (ns : List Int) : Prop := ∃ a items, v = .ref a ∧ IsTup h a items ∧ IntsAre items.toList ns
section
variable {prog : Program} {w : World} {A : Around} {E : Value → Shared → Prop} {s : Shared} {Q : Bool → Shared → Prop}
theorem oneLtI (c : Bool) {p q : Int} {t u : Tok} (h : Q (decide (p < q)) s) : wpAny (model prog w) A (oneLt' c (.int p t) (.int q u)) Q E s := by
  cases c with
  | true => exact oneLt_int h
  | false => exact PySem.W.kat_one _ _ (PyProof.Rows.lt_int (Q := PySem.W.BoolBack Q) h)
theorem lexI {b : Bool} {xs ys : List Value} {ns ms : List Int} (i : Nat) (hx : IntsAre xs ns) (hy : IntsAre ys ms)
    (h : Q (HT.lexLt ns ms) s) : PySem.W.KatLex prog w A b (decide (ns.length < ms.length)) Q (xs.zip ys) i s := by
  induction hx generalizing ys ms i with
  | nil =>
    cases hy with
    | nil => exact PySem.W.kat_nil h
    | cons q u hy => exact PySem.W.kat_nil (by simpa [HT.lexLt] using h)
  | @cons p t xs ns hx ih =>
    cases hy with
    | nil => exact PySem.W.kat_nil (by simpa [HT.lexLt] using h)
    | @cons q u ys ms hy =>
      have e0 : decide ((p :: ns).length < (q :: ms).length) = decide (ns.length < ms.length) := by
        rw [List.length_cons, List.length_cons]
        exact decide_eq_decide.mpr (by omega)
      rw [e0]
      show PySem.W.KatLex prog w A b _ Q ((Value.int p t, Value.int q u) :: xs.zip ys) i s
      refine PySem.W.kat_cons (wpAny_eqBool_int ?_)
      rw [HT.lexLt_cons] at h
      by_cases e : p = q
      · subst e
        rw [beq_self_eq_true]
        rw [if_pos rfl] at h
        refine PySem.W.kat_yes ?_
        first
          | exact ih (i + 1) hy h
          | exact ih _ _ (i + 1) hy h
      · rw [show (p == q) = false from beq_eq_false_iff_ne.mpr e]
        rw [if_neg e] at h
        exact PySem.W.kat_no (oneLtI _ h)
theorem cmpT {vs : List Value} {k : Value → List Int} (hp : ∀ v ∈ vs, TupI s.heap v (k v)) (b : Bool) : SrtO.Cmp prog w A s (tuples' b) (fun p => p.1 ∈ vs) (SrtO.lt2 fun v u => HT.lexLt (k v) (k u)) := by
  intro p q hm hm'
  obtain ⟨a1, it1, e1, ⟨o1, g1, c1, n1, d1⟩, i1⟩ := hp _ hm
  obtain ⟨a2, it2, e2, ⟨o2, g2, c2, n2, d2⟩, i2⟩ := hp _ hm'
  show wpAny (model prog w) A (keyLt' (tuples' b) p.1 q.1) (fun r s' => s' = s ∧ r = HT.lexLt (k p.1) (k q.1)) (fun _ _ => False) s
  generalize hk1 : k p.1 = l1 at i1
  generalize hk2 : k q.1 = l2 at i2
  rw [e1, e2]
  refine PySem.W.kat_lt g1 d1 g2 d2 ?_
  have el : decide (it1.size < it2.size) = decide (l1.length < l2.length) := by
    rw [← Array.length_toList, ← Array.length_toList, i1.length, i2.length]
  rw [el]
  exact lexI 0 i1 i2 ⟨rfl, rfl⟩
theorem cmpO {vs : List Value} {k : Value → List Int} (hu : A.units < cLine) (hp : ∀ v ∈ vs, TupI s.heap v (k v)) : SrtO.Cmp prog w A s oneType' (fun p => p.1 ∈ vs) (SrtO.lt2 fun v u => HT.lexLt (k v) (k u)) := by
  intro p q hm hm'
  obtain ⟨a1, it1, e1, ⟨⟨c1, dd1, t1, s1⟩, g1, c1', n1, d1⟩, i1⟩ := hp _ hm
  obtain ⟨a2, it2, e2, ⟨⟨c2, dd2, t2, s2⟩, g2, c2', n2, d2⟩, i2⟩ := hp _ hm'
  show wpAny (model prog w) A (keyLt' oneType' p.1 q.1) (fun r s' => s' = s ∧ r = HT.lexLt (k p.1) (k q.1)) (fun _ _ => False) s
  generalize hk1 : k p.1 = l1 at i1
  generalize hk2 : k q.1 = l2 at i2
  rw [e1, e2]
  simp only at c1' d1 c2' d2
  subst c1' d1 c2' d2
  rw [keyLt'_oneType, oneLt'_eq]
  simp only [if_true]
  refine wpAny_bind (wpAny_cRoomFor hu ?_)
  refine wpAny_bind (wpAny_callSpecialIfBound?_slot (T := "tuple") (id := "tuple.__lt__") ⟨_, g1, rfl⟩ PySem.F.slot_tuple_lt (call_meets PySem.F.slot_tuple_lt ⟨_, g1, rfl⟩ PySem.F.entry_tuple_lt (PySem.F.args_tuple_lt_2 _ _) (HT.tuple_lt_ints a1 a2 it1 it2 n1 n2 dd1 dd2 s1 s2 l1 l2 i1 i2) ⟨g1, g2, ?_⟩))
  exact wpAny_truthy_bool ⟨rfl, rfl⟩
theorem firstsT : ∀ (vs : List Value) {k : Value → List Int}, (∀ v ∈ vs, TupI s.heap v (k v) ∧ k v ≠ []) → ∃ fs, PySem.W.KatTups s.heap vs fs ∧ fs.length = vs.length ∧ ∀ f, f ∈ fs → ∃ n t, f = Value.int n t
  | [], _, _ => ⟨[], PySem.W.KatTups.nil, rfl, fun f hf => by simp at hf⟩
  | v :: vs, k, h => by
    obtain ⟨fs, h1, h2, h3⟩ := firstsT vs (k := k) fun u hu => h u (List.mem_cons_of_mem _ hu)
    obtain ⟨⟨a, items, e, ⟨o, g, c, n, d⟩, i⟩, hne⟩ := h v List.mem_cons_self
    subst e
    generalize k (.ref a) = l at i hne
    cases hl : items.toList with
    | nil =>
      rw [hl] at i
      cases i
      exact absurd rfl hne
    | cons x xs =>
      rw [hl] at i
      cases i with
      | cons p t r =>
        refine ⟨.int p t :: fs, PySem.W.KatTups.cons g c d ?_ h1, by rw [List.length_cons, List.length_cons, h2], fun f hf => ?_⟩
        · rw [← Array.getElem?_toList, hl]
          rfl
        · rcases List.mem_cons.mp hf with e | hf
          · exact ⟨p, t, e⟩
          · exact h3 f hf
/-- the firsts of some tuples, some of them empty -/
theorem firstsE : ∀ (vs : List Value) {k : Value → List Int} {Q : List (Option Value) → Shared → Prop}, (∀ v ∈ vs, TupI s.heap v (k v)) → (∀ os : List (Option Value), os.length = vs.length → (∀ v r, vs = v :: r → k v = [] → ∃ r', os = none :: r') → Q os s) → wpAny (model prog w) A (vs.mapM firstOfTuple') Q E s
  | [], _, Q, _, h => by
    rw [List.mapM_nil]
    exact wpAny_pure (h [] rfl fun _ _ e => by cases e)
  | v :: vs, k, Q, hv, h => by
    obtain ⟨a, items, e, ⟨o, g, c, n, d⟩, i⟩ := hv v List.mem_cons_self
    subst e
    rw [List.mapM_cons]
    refine wpAny_bind ?_
    rw [PySem.W.kas_first_eq]
    refine wpAny_bind (PySem.W.Looks.here (show PySem.W.Looks (model prog w) s.heap (typeOf (.ref a)) o.cls from (PySem.W.Looks.ld g).andThen .now) ?_)
    rw [c, if_neg (by first | decide | simp)]
    refine wpAny_bind (listItems_at g d (wpAny_pure ?_))
    refine wpAny_bind (firstsE vs (k := k) (fun u hu => hv u (List.mem_cons_of_mem _ hu)) fun os ho _ => wpAny_pure (h _ (by rw [List.length_cons, List.length_cons, ho]) fun v' r' e' hk => ?_))
    injection e' with e1 e2
    subst e1
    rw [hk] at i
    cases hl : items.toList with
    | nil =>
      have z : items[0]? = none := by rw [← Array.getElem?_toList, hl]; rfl
      exact ⟨os, by rw [z]⟩
    | cons x xs =>
      rw [hl] at i
      cases i
theorem kindE {vs : List Value} {k : Value → List Int} {Q : SortKind → Shared → Prop} (h2 : 2 ≤ vs.length) (hv : ∀ v ∈ vs, TupI s.heap v (k v)) (h0 : ∀ v r, vs = v :: r → k v = []) (h : Q oneType' s) : wpAny (model prog w) A (keyKind' vs.toArray) Q E s := by
  rw [keyKind'_eq, List.mapM_toArray, map_eq_pure_bind]
  refine wpAny_bind (wpAny_bind (firstsE vs hv fun os ho hn => wpAny_pure ?_))
  obtain ⟨v1, r1, e1⟩ : ∃ v r, vs = v :: r := by
    match vs, h2 with
    | v :: r, _ => exact ⟨v, r, rfl⟩
  obtain ⟨r', e'⟩ := hn v1 r1 e1 (h0 v1 r1 e1)
  rw [e']
  rw [if_neg (by simp), if_neg (by simp)]
  rw [oneTypeOnly'_eq, List.mapM_toArray, map_eq_pure_bind]
  have hT : ∀ v ∈ vs, PySem.W.Looks (model prog w) s.heap (typeOf v) (.type "tuple") := fun v hm => by
    obtain ⟨a, items, e, ⟨o, g, c, n, d⟩, i⟩ := hv v hm
    subst e
    rw [← c]
    exact (PySem.W.Looks.ld g).andThen .now
  refine wpAny_bind (wpAny_bind (wpAny_bind (PySem.W.kas_mapM (r := .type "tuple") _ (fun v hv' Q' hq => (hT v hv').here hq) (wpAny_pure ?_))))
  have hall : ((List.map (fun _ => Value.type "tuple") vs).toArray.all fun x => x == Value.type "tuple") = true := by
    simp only [List.all_toArray, List.all_map, List.all_eq_true]
    intro _ _
    exact beq_self_eq_true _
  have h0' : (List.map (fun _ => Value.type "tuple") vs).toArray[0]? = some (Value.type "tuple") := by rw [e1]; simp
  rw [h0']
  simp only [hall, if_true]
  refine wpAny_pure ?_
  exact wpAny_pure h
theorem sortableT {a : Addr} {vs : List Value} {k : Value → List Int} (hu : A.units < cLine) (h2 : 2 ≤ vs.length) (hp : ∀ v ∈ vs, TupI s.heap v (k v)) (ha : ∀ o, s.heap.get? a = some o → o.cls ≠ .type "tuple")
    (hk : (∀ v ∈ vs, k v ≠ []) ∨ ∀ v r, vs = v :: r → k v = []) : SrtO.SortableO prog w A s a vs fun v u => HT.lexLt (k v) (k u) := by
  intro h' keep
  have hp' : ∀ v ∈ vs, TupI h' v (k v) := fun v hm => by
    obtain ⟨b, items, e, ⟨o, g, c, n, d⟩, i⟩ := hp v hm
    exact ⟨b, items, e, ⟨o, keep b o (fun z => by rw [z] at g; exact ha o g c) g, c, n, d⟩, i⟩
  rcases hk with hk | hk
  · obtain ⟨fs, h1, h2', h3⟩ := firstsT (s := { s with heap := h' }) vs (k := k) fun v hm => ⟨hp' v hm, hk v hm⟩
    refine ⟨tuples' true, fun Q E hq => ?_, cmpT hp' true⟩
    refine PySem.W.kat_kind (T := .type "int") h1 (by omega) (fun f hm => ?_) (by rfl) ?_
    · obtain ⟨x, t, rfl⟩ := h3 f hm
      exact PySem.W.Looks.now
    · have e : (Value.type "int" != Value.type "tuple") = true := by first | decide +kernel | rfl | decide
      rw [e]
      exact hq
  · exact ⟨oneType', fun Q E hq => kindE h2 hp' hk hq, cmpO hu hp'⟩
end
/-- sorted(xs), xs a list of tuples of ints: all of them not empty, or the first one empty -/
def rSortT (K : PySem.W.Frag) : List V → Hp → VK → Prop := fun vs H Q => ∃ (a : Addr) (ts : List Addr), vs = [V.ref a] ∧ SqL K H a (ts.map V.ref) ∧ (∀ t ∈ ts, ∃ ns : List Int, H t = some (.tup (ns.map V.int))) ∧
  ((∀ t ∈ ts, ∃ ns : List Int, H t = some (.tup (ns.map V.int)) ∧ ns ≠ []) ∨ (∀ t r, ts = t :: r → H t = some (.tup []))) ∧
  ∀ (ts' : List Addr) (p : Addr), ts'.Perm ts → H p = none → Q (.ref p) (upd H p (.lst (ts'.map V.ref)))
theorem perm_map_inv {α β : Type} (f : α → β) : ∀ {l : List β} {m : List α}, l.Perm (m.map f) → ∃ m' : List α, m'.Perm m ∧ l = m'.map f := by
  intro l m h
  generalize e : m.map f = n at h
  induction h generalizing m with
  | nil =>
    cases m with
    | nil => exact ⟨[], .refl _, rfl⟩
    | cons _ _ => cases e
  | cons x p ih =>
    cases m with
    | nil => cases e
    | cons y ys =>
      injection e with e1 e2
      obtain ⟨m', q, e3⟩ := ih e2
      exact ⟨y :: m', q.cons y, by rw [List.map_cons, e1, e3]⟩
  | swap x y l =>
    match m, e with
    | a :: b :: r, e =>
      injection e with e1 e2
      injection e2 with e2 e3
      exact ⟨b :: a :: r, .swap a b r, by rw [List.map_cons, List.map_cons, e1, e2, e3]⟩
  | trans p q ih1 ih2 =>
    obtain ⟨m2, q2, e2⟩ := ih2 e
    obtain ⟨m1, q1, e1⟩ := ih1 e2.symm
    exact ⟨m1, q1.trans q2, e1⟩
theorem ints_inj' {ns ms : List Int} (h : ns.map V.int = ms.map V.int) : ns = ms := by
  induction ns generalizing ms with
  | nil => cases ms with
    | nil => rfl
    | cons _ _ => cases h
  | cons x xs ih => cases ms with
    | nil => cases h
    | cons y ys =>
      rw [List.map_cons, List.map_cons] at h
      injection h with h1 h2
      injection h1 with h1
      rw [h1, ih h2]
open Classical in
theorem cr_sortT {X : Cx} (hu : X.A.units + 64 < cLine) : CallR X (.builtin "sorted") (rSortT X.K) := by
  intro pins s σ H vs us Q I r h
  obtain ⟨a, ts, rfl, hs, ht, hk, q⟩ := h
  obtain ⟨its, rv, hl, hz⟩ := I.list hs
  rw [Vals.ref1 r]
  have eits := refs_at rv
  subst eits
  let k : Value → List Int := fun v => if h : ∃ ns : List Int, ∃ t : Addr, v = .ref t ∧ H t = some (.tup (ns.map V.int)) then h.choose else []
  have kt : ∀ (t : Addr) (ns : List Int), H t = some (.tup (ns.map V.int)) → k (.ref t) = ns := fun t ns e => by
    have hx : ∃ ns : List Int, ∃ t' : Addr, Value.ref t = .ref t' ∧ H t' = some (.tup (ns.map V.int)) := ⟨ns, t, rfl, e⟩
    have e1 : k (.ref t) = hx.choose := dif_pos hx
    obtain ⟨t', q1, q2⟩ := hx.choose_spec
    injection q1 with q1
    subst q1
    rw [e] at q2
    injection q2 with q2
    injection q2 with q2
    exact e1.trans (ints_inj' q2).symm
  have hT : ∀ v ∈ ts.map Value.ref, TupI s.heap v (k v) := fun v hm => by
    obtain ⟨t, hm', rfl⟩ := List.mem_map.mp hm
    obtain ⟨ns, e⟩ := ht t hm'
    obtain ⟨its2, r2, p2, _⟩ := I.tuple (SqT.of (K := X.K) e)
    rw [kt t ns e]
    exact ⟨t, its2.toArray, rfl, p2, by simpa using r2.ints⟩
  have hlen : (ts.map Value.ref).length ≤ sizeLine := by simpa using hz
  refine SrtO.sorted_ord (swo_key k) hl.isList hlen (fun h2 h₁ b hb keep => ?_) fun out h1 h2 => ?_
  · refine sortableT (s := { s with heap := h₁ }) (k := k) (by show X.A.units + 2 < cLine; omega) h2 (fun v hm => ?_) (fun o e => by rw [hb] at e; cases e; exact (by decide : Value.type "list" ≠ Value.type "tuple")) ?_
    · obtain ⟨c, items, e, ⟨o, g, c', n, d⟩, i⟩ := hT v hm
      exact ⟨c, items, e, ⟨o, (keep c o g).2, c', n, d⟩, i⟩
    · rcases hk with hk | hk
      · refine .inl fun v hm => ?_
        obtain ⟨t, hm', rfl⟩ := List.mem_map.mp hm
        obtain ⟨ns, e, hne⟩ := hk t hm'
        rw [kt t ns e]
        exact hne
      · refine .inr fun v r e => ?_
        cases ts with
        | nil => cases e
        | cons t r' =>
          injection e with e1 e2
          rw [← e1]
          exact kt t [] (hk t r' rfl)
  · obtain ⟨ep, he'⟩ := PyProof.Rows.sortedAll_at s.heap (ts.map Value.ref) out.toArray
    obtain ⟨ts', pm, e'⟩ := perm_map_inv Value.ref h2.perm
    subst e'
    have hl2 : (ts'.map V.ref).length ≤ sizeLine := by
      rw [List.length_map, pm.length_eq]
      simpa using hz
    exact ⟨.ref _, upd H (s.heap.objs.size + 1) (.lst (ts'.map V.ref)), I.laid (t' := s.toks) (fun _ _ => PyProof.Rows.sortedAll_old) (Nat.le_succ _) ⟨hl2, ts'.map Value.ref, ep, vals_refs ts', he'⟩, rfl, q _ _ pm (I.hok.fresh (Nat.le_succ _))⟩
end K8
set_option Elab.async false
set_option linter.all false
set_option maxRecDepth 100000
set_option maxHeartbeats 4000000
namespace K8
open PySem PySem.Spec PyProof.Rows L2
/-! ### own rule: sorted(t), t a tuple of ints, fewer than 64 -/
def rSortTup (K : PySem.W.Frag) : List V → Hp → VK → Prop := fun vs H Q => ∃ (a : Addr) (ns : List Int), vs = [V.ref a] ∧ H a = some (.tup (ns.map V.int)) ∧ ns.length < 64 ∧
  ∀ (ns' : List Int) (p : Addr), ns'.Perm ns → ns'.Pairwise (· ≤ ·) → H p = none → Q (.ref p) (upd H p (.lst (ns'.map V.int)))
theorem cr_sortTup {X : Cx} : CallR X (.builtin "sorted") (rSortTup X.K) := by
  intro pins s σ H vs us Q I r h
  obtain ⟨a, ns, rfl, ht, h64, q⟩ := h
  rw [Vals.ref1 r]
  obtain ⟨hz, its, rv, o, g, c, n, d⟩ := (show ObjOk X.prog X.w H s.heap a (.tup (ns.map V.int)) from I.hok a _ ht)
  have hi := rv.ints
  have hl : its.length = ns.length := by
    rw [← rv.length, List.length_map]
  refine Calls.call_function_entry PyProof.Rows.kind_sorted PyProof.Rows.plain_sorted PyProof.Rows.entry_sorted (PyProof.Rows.args_sorted1 _) ?_
  unfold Builtin.«sorted»
  refine wpAny_bind (m := checkCount "sorted" 1 1 _) (wpAny_pure ?_)
  refine wpAny_bind (wpAny_collect_seq a (T := "tuple") (.inr rfl) g c d (fun h' hk => ?_) (by rw [List.size_toArray, hl, sizeLine_eq]; omega))
  have I1 : Inv X pins σ H { s with heap := h' } := I.kept (t' := s.toks) hk
  refine wpAny_bind (wpAny_newList ?_ (by show its.length ≤ sizeLine; rw [hl, sizeLine_eq]; omega))
  have hoL : (h'.push (seqObj "list" its.toArray 0)).get? h'.objs.size = some (seqObj "list" its.toArray 0) := Heap.get?_push_size _ rfl
  show wpAny _ _ _ _ _ { s with heap := h'.push (seqObj "list" its.toArray 0) }
  refine wpAny_bind (wpAny_holding (wpAny_call_entry PyProof.Rows.slot_list_sort ⟨_, hoL, rfl⟩ PyProof.Rows.entry_list_sort
    (PyProof.Rows.list_sort_tree (s := { s with heap := h'.push (seqObj "list" its.toArray 0) }) hoL hi (by rw [hl]; exact h64) fun out ys g1 g2 g3 => ⟨_, rfl, ?_⟩) (PyProof.Rows.args_list_sort _)))
  obtain ⟨e', he'⟩ := PyProof.Rows.sortedHeap_at (vs := its) (out := out) hoL
  have hlen : (ys.map V.int).length ≤ sizeLine := by
    rw [List.length_map, g2.length_eq, sizeLine_eq]
    omega
  refine wpAny_pure ⟨_, rfl, .ref h'.objs.size, upd H h'.objs.size (.lst (ys.map V.int)), I1.laid (t' := s.toks) (fun b u e => ?_) (Nat.le_refl _)
    (show ObjOk X.prog X.w _ _ _ (.lst (ys.map V.int)) from ⟨hlen, out.toList, e', vals_of_ints g1, by rw [Array.toArray_toList]; exact he'⟩), rfl, q ys _ g2 g3 (I1.hok.fresh (Nat.le_refl _))⟩
  have hb : b < h'.objs.size := Heap.lt_size e
  have z1 : (h'.push (seqObj "list" its.toArray 0)).get? b = some u := Heap.get?_push_of_some _ e
  have hne : b ≠ h'.objs.size := Nat.ne_of_lt hb
  exact (PyProof.Rows.sortedHeap_old hne (by rw [size_push']; exact Nat.lt_succ_of_lt hb)).trans z1
end K8
set_option Elab.async false
set_option linter.all false
set_option maxRecDepth 100000
set_option maxHeartbeats 4000000
namespace K8
open PySem PySem.Spec PyProof.Rows L2
/-! ### own rule: sum(t), t a tuple of ints of any size -/
theorem preSum_list (ns : List Int) : ∀ j, j ≤ ns.length → preSum (fun i => ns.getD i 0) j = (ns.take j).sum
  | 0, _ => by simp [preSum]
  | j + 1, h => by
    have hj : j < ns.length := h
    rw [preSum, preSum_list ns j (Nat.le_of_succ_le h), List.take_succ_eq_append_getElem hj, List.sum_append]
    simp [List.getD, hj]
def rSumT : List V → Hp → VK → Prop := fun vs H Q => ∃ (a : Addr) (ns : List Int), vs = [V.ref a] ∧ H a = some (.tup (ns.map V.int)) ∧ Q (.int ns.sum) H
theorem cr_sumT {X : Cx} (hc : X.calm = true) : CallR X (.builtin "sum") rSumT := by
  intro pins s σ H vs us Q I r h
  obtain ⟨a, ns, rfl, ht, q⟩ := h
  rw [Vals.ref1 r]
  obtain ⟨hz, its, rv, o, g, c, n, d⟩ := (show ObjOk X.prog X.w H s.heap a (.tup (ns.map V.int)) from I.hok a _ ht)
  have hi := rv.ints
  have hl : its.length = ns.length := by rw [← rv.length, List.length_map]
  have hT : s.heap.IsTuple a its.toArray := ⟨o, g, c, n, d⟩
  refine call_sum_walkG (wpAny_pyIter_tuple hT ?_)
  have hne : a ≠ s.heap.objs.size := Nat.ne_of_lt (Heap.lt_size g)
  refine ⟨s.heap.objs.size, _, _, _, _, _, fun i => ns.getD i 0, rfl, Walks.tuple (A := X.A.in1) (I.ok.hd hc) s.heap.objs.size a hne its.toArray,
    ⟨⟨_, Heap.get?_push_size _ rfl, rfl, rfl⟩, ⟨o, Heap.get?_push_of_some _ g, c, n, d⟩⟩, fun b hb => ?_, fun i v hv => ?_, fun h' tk t' hk => ?_⟩
  · rw [Heap.size_push]
    rcases (show b = s.heap.objs.size ∨ b = a by simpa using hb) with z | z
    · rw [z]; exact Nat.lt_succ_self _
    · rw [z]; exact Nat.lt_succ_of_lt (Heap.lt_size g)
  · have hv' : its[i]? = some v := by simpa using hv
    have hi' : i < its.length := (List.getElem?_eq_some_iff.mp hv').1
    have hx : (ns.map V.int)[i]? = some (V.int (ns.getD i 0)) := by
      rw [List.getElem?_map]
      have : i < ns.length := by omega
      simp [List.getD, this]
    obtain ⟨u, hu, ru⟩ := rv.get hx
    rw [hv'] at hu
    cases hu
    obtain ⟨t, e⟩ := ru
    exact ⟨t, e⟩
  · have e : preSum (fun i => ns.getD i 0) its.toArray.size = ns.sum := by
      rw [List.size_toArray, hl, preSum_list ns _ (Nat.le_refl _), List.take_length]
    rw [e]
    refine ⟨.int ns.sum, H, I.kept (t' := tk) fun b o q => hk b o (fun hm => ?_) (Heap.get?_push_of_some _ q), ⟨t', rfl⟩, q⟩
    have z : b = s.heap.objs.size := by simpa using hm
    rw [z] at q
    exact Nat.lt_irrefl _ (Heap.lt_size q)
end K8
set_option Elab.async false
set_option linter.all false
set_option maxRecDepth 100000
set_option maxHeartbeats 4000000
namespace K8
open PySem PySem.Spec PyProof.Rows L2
/-! ### heaps: all but what stands at S is kept, the tuples always -/
structure Kp (S : List Addr) (H H' : Hp) : Prop where
  keep : ∀ b o, H b = some o → b ∉ S → H' b = some o
  tup : ∀ b xs, H b = some (.tup xs) → H' b = some (.tup xs)
  dom : ∀ b o, H b = some o → ∃ o', H' b = some o'
abbrev Ex := Kp []
section
variable {S T : List Addr} {H H1 H2 H' : Hp} {p : Addr} {o o' : HO} {xs : List V}
theorem Kp.refl (S : List Addr) (H : Hp) : Kp S H H := ⟨fun _ _ h _ => h, fun _ _ h => h, fun _ o h => ⟨o, h⟩⟩
theorem Kp.trans (a : Kp S H H1) (b : Kp S H1 H2) : Kp S H H2 :=
  ⟨fun c o h n => b.keep c o (a.keep c o h n) n, fun c o h => b.tup c o (a.tup c o h), fun c o h => let ⟨o', h'⟩ := a.dom c o h; b.dom c o' h'⟩
theorem Kp.mono (a : Kp S H H') (h : ∀ x ∈ S, x ∈ T) : Kp T H H' := ⟨fun c o e n => a.keep c o e fun m => n (h c m), a.tup, a.dom⟩
theorem Kp.of_ex (a : Ex H H') : Kp S H H' := a.mono fun _ h => nomatch h
theorem Kp.new (h : H p = none) : Kp S H (upd H p o) :=
  ⟨fun c u e _ => by rw [upd_ne (ne_of_none e h)]; exact e, fun c u e => by rw [upd_ne (ne_of_none e h)]; exact e, fun c u e => ⟨u, by rw [upd_ne (ne_of_none e h)]; exact e⟩⟩
/-- a thing that is no tuple changed -/
theorem Kp.set (h : H p = some o) (ho : ∀ ys, o ≠ .tup ys) (hp : p ∈ S) : Kp S H (upd H p o') :=
  ⟨fun c u e n => by rw [upd_ne (fun z => n (by rw [z]; exact hp))]; exact e,
   fun c u e => by rw [upd_ne (fun z => by rw [z, h] at e; exact ho u (Option.some.inj e))]; exact e,
   fun c u e => by
    by_cases z : c = p
    · exact ⟨o', by rw [z, upd_same]⟩
    · exact ⟨u, by rw [upd_ne z]; exact e⟩⟩
theorem Kp.setL {ys : List V} (h : H p = some (.lst ys)) (hp : p ∈ S) : Kp S H (upd H p o') := Kp.set h (fun _ z => nomatch z) hp
/-- an object that the first heap does not know may be among the changed ones -/
theorem Kp.drop (a : Kp (p :: S) H H') (h : H p = none) : Kp S H H' :=
  ⟨fun c u e n => a.keep c u e fun m => (List.mem_cons.mp m).elim (fun z => ne_of_none e h z) n, a.tup, a.dom⟩
theorem Kp.free (a : Kp S H H') (h : H' p = none) : H p = none := by
  cases e : H p with
  | none => rfl
  | some u =>
    obtain ⟨u', e'⟩ := a.dom p u e
    rw [h] at e'
    cases e'
/-- what a later heap does not know, an earlier object is not -/
theorem Kp.ne (a : Kp S H H') (h : H p = some o) {q : Addr} (hq : H' q = none) : p ≠ q := fun z => by
  obtain ⟨u, e⟩ := a.dom p o h
  rw [z, hq] at e
  cases e
theorem Kp.nnew (a : Kp S H H1) (h : H1 p = none) : Kp S H (upd H1 p o) := a.trans (Kp.new h)
/-- .. something new in H1, changed -/
theorem Kp.mut (a : Kp S H H1) (h : H p = none) (h1 : H1 p = some o) (ho : ∀ ys, o ≠ .tup ys) : Kp S H (upd H1 p o') :=
  ((a.mono fun _ m => List.mem_cons_of_mem _ m).trans (Kp.set (S := p :: S) h1 ho List.mem_cons_self)).drop h
theorem Kp.mutL {ys : List V} (a : Kp S H H1) (h : H p = none) (h1 : H1 p = some (.lst ys)) : Kp S H (upd H1 p o') := a.mut h h1 fun _ z => nomatch z
end
/-! ### data on the heap: lists outside S -/
mutual
inductive Da (S : List Addr) (H : Hp) : V → PyData → Prop
  | non : Da S H .non .none
  | bl (b : Bool) : Da S H (.bl b) (.bool b)
  | int (i : Int) : Da S H (.int i) (.int i)
  | str (x : Str) : Da S H (.str x) (.str x)
  | lst {a : Addr} {xs : List V} {ds : List PyData} : a ∉ S → H a = some (.lst xs) → DaAll S H xs ds → Da S H (.ref a) (.list ds)
  | tup {a : Addr} {xs : List V} {ds : List PyData} : H a = some (.tup xs) → DaAll S H xs ds → Da S H (.ref a) (.tuple ds)
inductive DaAll (S : List Addr) (H : Hp) : List V → List PyData → Prop
  | nil : DaAll S H [] []
  | cons {v : V} {vs : List V} {d : PyData} {ds : List PyData} : Da S H v d → DaAll S H vs ds → DaAll S H (v :: vs) (d :: ds)
end
section
variable {S T : List Addr} {H H1 H' : Hp} {K : PySem.W.Frag}
mutual
theorem Da.kp (k : Kp S H H') : ∀ {v : V} {d : PyData}, Da S H v d → Da S H' v d
  | _, _, .non => .non
  | _, _, .bl b => .bl b
  | _, _, .int i => .int i
  | _, _, .str x => .str x
  | _, _, .lst n h r => .lst n (k.keep _ _ h n) (DaAll.kp k r)
  | _, _, .tup h r => .tup (k.tup _ _ h) (DaAll.kp k r)
theorem DaAll.kp (k : Kp S H H') : ∀ {vs : List V} {ds : List PyData}, DaAll S H vs ds → DaAll S H' vs ds
  | _, _, .nil => .nil
  | _, _, .cons h r => .cons (Da.kp k h) (DaAll.kp k r)
end
mutual
theorem Da.dp : ∀ {v : V} {d : PyData}, Da S H v d → Dp K H v d
  | _, _, .non => .non
  | _, _, .bl b => .bl b
  | _, _, .int i => .int i
  | _, _, .str x => .str x
  | _, _, .lst n h r => .lst (SqL.of h) (DaAll.dp r)
  | _, _, .tup h r => .tup (SqT.of h) (DaAll.dp r)
theorem DaAll.dp : ∀ {vs : List V} {ds : List PyData}, DaAll S H vs ds → DpAll K H vs ds
  | _, _, .nil => .nil
  | _, _, .cons h r => .cons (Da.dp h) (DaAll.dp r)
end
mutual
theorem Da.sub (hs : ∀ x ∈ T, x ∈ S) : ∀ {v : V} {d : PyData}, Da S H v d → Da T H v d
  | _, _, .non => .non
  | _, _, .bl b => .bl b
  | _, _, .int i => .int i
  | _, _, .str x => .str x
  | _, _, .lst n h r => .lst (fun m => n (hs _ m)) h (DaAll.sub hs r)
  | _, _, .tup h r => .tup h (DaAll.sub hs r)
theorem DaAll.sub (hs : ∀ x ∈ T, x ∈ S) : ∀ {vs : List V} {ds : List PyData}, DaAll S H vs ds → DaAll T H vs ds
  | _, _, .nil => .nil
  | _, _, .cons h r => .cons (Da.sub hs h) (DaAll.sub hs r)
end
theorem DaAll.len {vs : List V} {ds : List PyData} (h : DaAll S H vs ds) : vs.length = ds.length := by
  induction ds generalizing vs with
  | nil => cases h; rfl
  | cons d ds ih =>
    cases h with
    | cons _ r => rw [List.length_cons, List.length_cons, ih r]
theorem DaAll.get : ∀ {vs : List V} {ds : List PyData} {i : Nat} {d : PyData}, DaAll S H vs ds → ds[i]? = some d → ∃ v, vs[i]? = some v ∧ Da S H v d
  | _, _, i, d, .nil, e => by simp at e
  | _, _, 0, d, .cons h r, e => by
    simp at e
    subst e
    exact ⟨_, rfl, h⟩
  | _, _, i + 1, d, .cons h r, e => by
    obtain ⟨v, h1, h2⟩ := DaAll.get (i := i) (d := d) r (by simpa using e)
    exact ⟨v, by simpa using h1, h2⟩
theorem DaAll.getv : ∀ {vs : List V} {ds : List PyData} {i : Nat} {v : V}, DaAll S H vs ds → vs[i]? = some v → ∃ d, ds[i]? = some d ∧ Da S H v d
  | _, _, i, d, .nil, e => by simp at e
  | _, _, 0, d, .cons h r, e => by
    simp at e
    subst e
    exact ⟨_, rfl, h⟩
  | _, _, i + 1, d, .cons h r, e => by
    obtain ⟨v, h1, h2⟩ := DaAll.getv (i := i) (v := d) r (by simpa using e)
    exact ⟨v, by simpa using h1, h2⟩
theorem DaAll.app : ∀ {vs ws : List V} {ds es : List PyData}, DaAll S H vs ds → DaAll S H ws es → DaAll S H (vs ++ ws) (ds ++ es)
  | _, _, _, _, .nil, r => r
  | _, _, _, _, .cons h t, r => .cons h (DaAll.app t r)
theorem DaAll.ints (ns : List Int) : DaAll S H (ns.map V.int) (ns.map PyData.int) := by
  induction ns with
  | nil => exact .nil
  | cons n r ih => exact .cons (.int n) ih
theorem DaAll.ints_inv : ∀ {ns : List Int} {vs : List V}, DaAll S H vs (ns.map PyData.int) → vs = ns.map V.int
  | [], _, h => by cases h; rfl
  | n :: r, _, h => by
    cases h with
    | cons h1 h2 =>
      cases h1
      rw [DaAll.ints_inv h2]
      rfl
theorem Da.int_inv {v : V} {i : Int} (h : Da S H v (.int i)) : v = .int i := by cases h; rfl
theorem Da.tup_inv {v : V} {ds : List PyData} (h : Da S H v (.tuple ds)) : ∃ a xs, v = .ref a ∧ H a = some (.tup xs) ∧ DaAll S H xs ds := by
  cases h with
  | tup h r => exact ⟨_, _, rfl, h, r⟩
theorem Da.lst_inv {v : V} {ds : List PyData} (h : Da S H v (.list ds)) : ∃ a xs, v = .ref a ∧ a ∉ S ∧ H a = some (.lst xs) ∧ DaAll S H xs ds := by
  cases h with
  | lst n h r => exact ⟨_, _, rfl, n, h, r⟩
end
/-! ### defs that may raise, by name -/
structure CalX (P : Program) (w : World) (K : PySem.W.Frag) (mg : Str → Option Value) (base : Heap) (k : Nat) (x : Str) (ps : List Str) (sp : Sp) : Prop where
  ex : ∃ (f : Addr) (fd : FuncData), FnOk P w K mg base (L2.CX P w) k f fd ps sp ∧ mg x = some (.ref f) ∧ PySem.W.keepIn K (.ref f) = true ∧ Binds K fd ps []
section
variable {X : Cx} {k j : Nat} {sp : Sp} {E : XK} {x : Str} {ps : List Str} {p pos : Pos} {e : Expr} {es : List Expr} {t : TA} {W : WX}
/-- its call within another def that may raise -/
theorem pe_cx (c : CalX X.prog X.w X.K X.mg X.base k x ps sp) (hr : Room j X.A) (hk : k ≤ j) (hg : Gl X x) (hx : Passes (L2.CX X.prog X.w) X E) (ha : PA X (e :: es) t)
    (hdb : (x == ("__debug__" : Str)) = false := by decide) (he : starEach (e :: es) X.env = (false, eval e X.env) :: starEach es X.env := by rfl) (hpl : (backTo pos (starEach es X.env)).any (·.1) = false := by rfl) :
    PE X (.Call (.Name x p) (e :: es) [] pos) (tCall sp [] E t) := by
  obtain ⟨f, fd, F, hm, kp, b⟩ := c.ex
  exact pe_call F (hr.mono hk) hg hm kp b .nil hx ha hdb he hpl
/-- its call within a try -/
theorem pe_cxS (c : CalX X.prog X.w X.K X.mg X.base k x ps sp) (hr : Room j X.A) (hk : k ≤ j) (hg : Gl X x) (tk : Takes X W) (ha : PA X (e :: es) t)
    (hdb : (x == ("__debug__" : Str)) = false := by decide) (he : starEach (e :: es) X.env = (false, eval e X.env) :: starEach es X.env := by rfl) (hpl : (backTo pos (starEach es X.env)).any (·.1) = false := by rfl) :
    PE X (.Call (.Name x p) (e :: es) [] pos) (tCallS sp (WE W) t) := by
  obtain ⟨f, fd, F, hm, kp, b⟩ := c.ex
  exact pe_callS F (hr.mono hk) hg hm kp b (fun σ => passAt tk σ) ha hdb he hpl
theorem pi_or {tg : Expr} {w1 w2 : TI} (h1 : PI X tg e w1) (h2 : PI X tg e w2) : PI X tg e (fun σ H R => w1 σ H R ∨ w2 σ H R) :=
  ⟨fun pins s σ H R I h => h.elim (h1.run pins s σ H R I) (h2.run pins s σ H R I)⟩
end
/-! ### the built-in names that the module leaves as they are -/
structure Txt (mg : Str → Option Value) : Prop where
  abs : mg "abs" = none
  bool : mg "bool" = none
  enumerate : mg "enumerate" = none
  int : mg "int" = none
  isinstance : mg "isinstance" = none
  len : mg "len" = none
  list : mg "list" = none
  max : mg "max" = none
  min : mg "min" = none
  range : mg "range" = none
  sorted : mg "sorted" = none
  str : mg "str" = none
  sum : mg "sum" = none
  tuple : mg "tuple" = none
  zip : mg "zip" = none
end K8
set_option Elab.async false
set_option linter.all false
set_option maxRecDepth 100000
set_option maxHeartbeats 4000000
namespace K8
open PySem PySem.Spec PyProof.Rows L2
/-! ### data: kinds and tests -/
def tyD : PyData → String
  | .none => "NoneType"
  | .bool _ => "bool"
  | .int _ => "int"
  | .str _ => "str"
  | .list _ => "list"
  | .tuple _ => "tuple"
  | _ => ""
theorem Da.ty {S : List Addr} {H : Hp} {K : PySem.W.Frag} {v : V} {d : PyData} (h : Da S H v d) : TyX K H v (.type (tyD d)) := by
  cases h with
  | non => exact .base .non
  | bl b => exact .base (.bl b)
  | int i => exact .base (.int i)
  | str x => exact .base (.str x)
  | lst n h r => exact .base (.lst h)
  | tup h r => exact .base (.tup h)
def isI : PyData → Bool
  | .int _ => true
  | _ => false
def isN : PyData → Bool
  | .int i => decide (0 ≤ i)
  | _ => false
def isC : PyData → Bool
  | .int i => decide (1 ≤ i)
  | _ => false
def isH (n : Nat) : PyData → Bool
  | .int i => decide (0 ≤ i) && decide (i < n)
  | _ => false
def isP (n : Nat) : PyData → Bool
  | .tuple ds => decide (ds.length = n) && ds.all isN
  | _ => false
def isTup : PyData → Bool
  | .tuple _ => true
  | _ => false
def isStr : PyData → Bool
  | .str _ => true
  | _ => false
/-! ### lines and webs -/
structure Ln where
  a : Nat
  b : Nat
  r : Int
structure Wb where
  n : Nat
  ls : List Ln
def WebOk (W : Wb) : Prop := 1 ≤ W.n ∧ W.n ≤ 8 ∧ W.ls.length ≤ 60 ∧ ∀ l ∈ W.ls, l.a < l.b ∧ l.b < W.n ∧ 1 ≤ l.r
abbrev lnV (l : Ln) : List V := [.int l.a, .int l.b, .int l.r]
/-- tuples at ts hold the lines -/
def LnsAt (H : Hp) (ts : List Addr) (ls : List Ln) : Prop := ts.length = ls.length ∧ ∀ (i : Nat) (t : Addr) (l : Ln), ts[i]? = some t → ls[i]? = some l → H t = some (.tup (lnV l))
def WebAt (H : Hp) (v : V) (W : Wb) : Prop := ∃ a b ts, v = .ref a ∧ H a = some (.tup [.int W.n, .ref b]) ∧ H b = some (.tup (ts.map V.ref)) ∧ LnsAt H ts W.ls
theorem WebAt.kp {S : List Addr} {H H' : Hp} {v : V} {W : Wb} (h : WebAt H v W) (k : Kp S H H') : WebAt H' v W := by
  obtain ⟨a, b, ts, e, ha, hb, hl, hs⟩ := h
  exact ⟨a, b, ts, e, k.tup _ _ ha, k.tup _ _ hb, hl, fun i t l h1 h2 => k.tup _ _ (hs i t l h1 h2)⟩
theorem LnsAt.kp {S : List Addr} {H H' : Hp} {ts : List Addr} {ls : List Ln} (h : LnsAt H ts ls) (k : Kp S H H') : LnsAt H' ts ls :=
  ⟨h.1, fun i t l h1 h2 => k.tup _ _ (h.2 i t l h1 h2)⟩
theorem LnsAt.get {H : Hp} {ts : List Addr} {ls : List Ln} (h : LnsAt H ts ls) {i : Nat} {l : Ln} (e : ls[i]? = some l) : ∃ t, ts[i]? = some t ∧ (ts.map V.ref)[i]? = some (.ref t) ∧ H t = some (.tup (lnV l)) := by
  have hi : i < ls.length := (List.getElem?_eq_some_iff.mp e).1
  have hi' : i < ts.length := by rw [h.1]; exact hi
  have e1 : ts[i]? = some ts[i] := List.getElem?_eq_getElem hi'
  exact ⟨_, e1, by rw [List.getElem?_map, e1]; rfl, h.2 i _ l e1 e⟩
/-- the ints of a list or tuple -/
abbrev zs (xs : List Int) : List V := xs.map V.int
theorem zs_get {xs : List Int} {i : Nat} {x : Int} (h : xs[i]? = some x) : (zs xs)[i]? = some (.int x) := by
  rw [List.getElem?_map, h]; rfl
theorem zs_len (xs : List Int) : (zs xs).length = xs.length := List.length_map ..
/-- houses as ints -/
abbrev hs (xs : List Nat) : List Int := xs.map fun x : Nat => (x : Int)
theorem hs_len (xs : List Nat) : (hs xs).length = xs.length := List.length_map ..
/-! ### the error -/
abbrev nuFs (x : Str) : List (Str × V) := [("at", .int (-1)), ("word", .str x)]
end K8
set_option Elab.async false
set_option linter.all false
set_option maxRecDepth 100000
set_option maxHeartbeats 4000000
namespace K8
open PySem PySem.Spec PyProof.Rows L2
/-! ### builtins, by names of their promises -/
def rLenQ (K : PySem.W.Frag) : List V → Hp → VK → Prop := fun xs H Q => ∃ p ys, xs = [.ref p] ∧ (SqL K H p ys ∨ SqT K H p ys) ∧ Q (.int ys.length) H
def rListQ (K : PySem.W.Frag) : List V → Hp → VK → Prop := fun xs H Q => ∃ p ys, xs = [.ref p] ∧ (SqL K H p ys ∨ SqT K H p ys) ∧ ∀ l, H l = none → Q (.ref l) (upd H l (.lst ys))
def rTupQ (K : PySem.W.Frag) : List V → Hp → VK → Prop := fun xs H Q => ∃ p ys, xs = [.ref p] ∧ ((SqL K H p ys ∧ ∀ l, H l = none → Q (.ref l) (upd H l (.tup ys))) ∨ (SqT K H p ys ∧ Q (.ref p) H))
def rAbsQ : List V → Hp → VK → Prop := fun xs H Q => ∃ i, xs = [.int i] ∧ Q (.int (if i < 0 then -i else i)) H
def rMax2Q : List V → Hp → VK → Prop := fun xs H Q => ∃ i j, xs = [.int i, .int j] ∧ Q (.int (if j > i then j else i)) H
def rMin2Q : List V → Hp → VK → Prop := fun xs H Q => ∃ i j, xs = [.int i, .int j] ∧ Q (.int (if j < i then j else i)) H
def rIntQ : List V → Hp → VK → Prop := fun xs H Q => (∃ i, xs = [.int i] ∧ Q (.int i) H) ∨ ∃ k, xs = [.bl k] ∧ Q (.int (if k then 1 else 0)) H
def rSortDQ : List V → Hp → VK → Prop := fun xs H Q => ∃ (a : Addr) (kvs : List (Key × V)) (ks : List Int), xs = [.ref a] ∧ Rd H a (.dK kvs) ∧ kvs.map (·.1) = ks.map Sum.inl ∧ ks.length < 64 ∧
  ∀ (ys : List Int) (p : Addr), ys.Perm ks → ys.Pairwise (· ≤ ·) → H p = none → Q (.ref p) (upd H p (.lst (ys.map V.int)))
def rListDTQ : List V → Hp → VK → Prop := fun xs H Q => ∃ d kvs, xs = [V.ref d] ∧ Rd H d (.dT kvs) ∧ ∀ p bs, H p = none → IsKeys H kvs bs → Q (.ref p) (upd H p (.lst (bs.map V.ref)))
section
variable {X : Cx}
theorem cq_len : CallR X (.builtin "len") (rLenQ X.K) := call_len_seq
theorem cq_list : CallR X (.type "list") (rListQ X.K) := call_list_of
theorem cq_tup : CallR X (.type "tuple") (rTupQ X.K) := call_tuple_of
theorem cq_abs : CallR X (.builtin "abs") rAbsQ := call_abs
theorem cq_max (hc : X.calm = true) : CallR X (.builtin "max") rMax2Q := call_max2 hc
theorem cq_min (hc : X.calm = true) : CallR X (.builtin "min") rMin2Q := call_min2 hc
theorem cq_int : CallR X (.type "int") rIntQ := call_int1
theorem cq_sortD (hc : X.calm = true) : CallR X (.builtin "sorted") rSortDQ := call_sortedDI hc
theorem cq_listDT (hc : X.calm = true) : CallR X (.type "list") rListDTQ := call_list_dT hc
end
/-! ### readings, step by step -/
section
variable {σ : L2.St} {H : Hp} {Q : VK} {QT : Bool → Hp → Prop} {QA : List V → Hp → Prop} {D : Ends} {K : PySem.W.Frag} {te ta tb : TE} {tt tu : TT} {tr : TA} {t u : TS} {g : TG} {r : R2} {i : Nat} {x y v : V} {p : Addr} {xs : List V}
theorem g_var (e : σ[i]? = some (some v)) (h : Q v H) : tVar i σ H Q := ⟨v, e, h⟩
theorem g_c (h : Q v H) : tC v σ H Q := h
theorem g_nil (h : QA [] H) : tNil σ H QA := h
theorem g_cons (h : te σ H fun x H1 => tr σ H1 fun xs H2 => QA (x :: xs) H2) : tCons te tr σ H QA := h
theorem g_ret (h : te σ H D.rt) : tRet te D σ H := h
theorem g_drop (h : te σ H fun _ H1 => D.nx σ H1) : tDrop te D σ H := h
theorem g_seq (h : t { D with nx := u D } σ H) : tSeq t u D σ H := h
theorem g_next (h : D.nx σ H) : tNext D σ H := h
theorem g_break (h : D.bk σ H) : tBreak D σ H := h
theorem g_asg (h : te σ H fun x H1 => g x σ H1 D.nx) : tAsg te g D σ H := h
theorem g_name {q : L2.St → Hp → Prop} (h : q (σ.set i (some v)) H) : gName i v σ H q := h
theorem g_if (h : tt σ H fun b H1 => if b = true then t D σ H1 else u D σ H1) : tIfS tt t u D σ H := h
theorem g_ifE (h : tt σ H fun c H1 => if c = true then ta σ H1 Q else tb σ H1 Q) : tIf tt ta tb σ H Q := h
theorem g_test (h : te σ H fun x H' => ∃ k, x = .bl k ∧ QT k H') : tTest te σ H QT := h
theorem g_tB (h : te σ H fun x H1 => ∃ c, x = .bl c ∧ QT c H1) : tB te σ H QT := h
theorem g_op (h : ta σ H fun x H1 => tb σ H1 fun y H2 => r x y H2 Q) : tOp r ta tb σ H Q := h
theorem g_un {r : V → Hp → VK → Prop} (h : ta σ H fun x H1 => r x H1 Q) : tUn r ta σ H Q := h
theorem g_cb {r : List V → Hp → VK → Prop} (h : tr σ H fun vs H1 => r vs H1 Q) : tCB r tr σ H Q := h
theorem g_call {sp : Sp} {dvs : List V} {E : XK} (h : tr σ H fun vs H1 => sp (vs ++ dvs) H1 Q E) : tCall sp dvs E tr σ H Q := h
theorem g_i0 {f : Int → Int → V} {a b : Int} (h : Q (f a b) H) : rI0 f (.int a) (.int b) H Q := ⟨a, b, rfl, rfl, h⟩
theorem g_u {f : Int → V} {a : Int} (h : Q (f a) H) : rU f (.int a) H Q := ⟨a, rfl, h⟩
theorem g_add {a b : Int} (h : Q (.int (a + b)) H) : rAdd (.int a) (.int b) H Q := ⟨a, b, rfl, rfl, h⟩
theorem g_sub {a b : Int} (h : Q (.int (a - b)) H) : rSub (.int a) (.int b) H Q := ⟨a, b, rfl, rfl, h⟩
theorem g_eqI {a b : Int} (h : Q (.bl (decide (a = b))) H) : rEq (.int a) (.int b) H Q := ⟨rfl, by simpa using h⟩
theorem g_neI {a b : Int} (h : Q (.bl (!decide (a = b))) H) : rNe (.int a) (.int b) H Q := ⟨rfl, by simpa using h⟩
theorem g_bl {q : Bool → Prop} {b : Bool} (h : q b) : ∃ k, V.bl b = .bl k ∧ q k := ⟨b, rfl, h⟩
theorem g_and (h : tt σ H fun c H1 => if c = true then tu σ H1 QT else QT false H1) : tAnd tt tu σ H QT := h
theorem g_or (h : tt σ H fun c H1 => if c = true then QT true H1 else tu σ H1 QT) : tOr tt tu σ H QT := h
theorem g_not (h : tt σ H fun c H1 => QT (!c) H1) : tNot tt σ H QT := h
theorem g_andV (h : ta σ H fun x H1 => ∃ c, x = .bl c ∧ if c = true then tb σ H1 Q else Q (.bl false) H1) : tAndV ta tb σ H Q := h
theorem g_orV (h : ta σ H fun x H1 => ∃ c, x = .bl c ∧ if c = true then Q (.bl true) H1 else tb σ H1 Q) : tOrV ta tb σ H Q := h
theorem g_notV (h : ta σ H fun x H1 => ∃ c, x = .bl c ∧ Q (.bl (!c)) H1) : tNotV ta σ H Q := h
theorem g_isN (h : ta σ H fun x H1 => Q (.bl (decide (x = .non))) H1) : tIsN ta σ H Q := h
theorem g_notN (h : ta σ H fun x H1 => Q (.bl (!decide (x = .non))) H1) : tNotN ta σ H Q := h
theorem g_gnil {q : L2.St → Hp → Prop} (h : q σ H) : gNil [] σ H q := ⟨rfl, h⟩
theorem g_gcons {g : TG} {gs : TGs} {vs : List V} {q : L2.St → Hp → Prop} (h : g v σ H fun σ' H' => gs vs σ' H' q) : gCons g gs (v :: vs) σ H q := ⟨v, vs, rfl, h⟩
theorem g_gtup {gs : TGs} {n : Nat} {q : L2.St → Hp → Prop} (e : H p = some (.tup xs)) (hl : xs.length = n) (h : gs xs σ H q) : gTup K n gs (.ref p) σ H q := ⟨p, xs, rfl, .of e, hl, h⟩
theorem g_tup {q : VK} (hl : xs.length ≤ 100) (h : ∀ p, H p = none → q (.ref p) (upd H p (.tup xs))) : xs.length ≤ sizeLine ∧ ∀ p, H p = none → q (.ref p) (upd H p (.tup xs)) := ⟨Nat.le_of_lt (small1000 (by omega)), h⟩
/-- xs[j] -/
theorem g_ixT {j : Nat} (e : H p = some (.tup xs)) (ex : xs[j]? = some v) (h : Q v H) : rIxT K (.ref p) (.int (j : Nat)) H Q := ⟨p, xs, _, v, rfl, rfl, .of e, atI_nat ex, h⟩
theorem g_ixL {j : Nat} (e : H p = some (.lst xs)) (ex : xs[j]? = some v) (h : Q v H) : rIxL K (.ref p) (.int (j : Nat)) H Q := ⟨p, xs, _, v, rfl, rfl, .of e, atI_nat ex, h⟩
theorem g_lenL (e : H p = some (.lst xs)) (h : Q (.int xs.length) H) : rLenQ K [.ref p] H Q := ⟨p, xs, rfl, .inl (.of e), h⟩
theorem g_lenT (e : H p = some (.tup xs)) (h : Q (.int xs.length) H) : rLenQ K [.ref p] H Q := ⟨p, xs, rfl, .inr (.of e), h⟩
theorem g_listL (e : H p = some (.lst xs)) (h : ∀ l, H l = none → Q (.ref l) (upd H l (.lst xs))) : rListQ K [.ref p] H Q := ⟨p, xs, rfl, .inl (.of e), h⟩
theorem g_listT (e : H p = some (.tup xs)) (h : ∀ l, H l = none → Q (.ref l) (upd H l (.lst xs))) : rListQ K [.ref p] H Q := ⟨p, xs, rfl, .inr (.of e), h⟩
theorem g_tupL (e : H p = some (.lst xs)) (h : ∀ l, H l = none → Q (.ref l) (upd H l (.tup xs))) : rTupQ K [.ref p] H Q := ⟨p, xs, rfl, .inl ⟨.of e, h⟩⟩
theorem g_tupT (e : H p = some (.tup xs)) (h : Q (.ref p) H) : rTupQ K [.ref p] H Q := ⟨p, xs, rfl, .inr ⟨.of e, h⟩⟩
theorem g_abs {a : Int} (h : Q (.int (if a < 0 then -a else a)) H) : rAbsQ [.int a] H Q := ⟨a, rfl, h⟩
theorem g_max {a b : Int} (h : Q (.int (max a b)) H) : rMax2Q [.int a, .int b] H Q := ⟨a, b, rfl, by
  have : (if b > a then b else a) = max a b := by
    by_cases hh : b > a
    · rw [if_pos hh]; omega
    · rw [if_neg hh]; omega
  rw [this]
  exact h⟩
theorem g_min {a b : Int} (h : Q (.int (min a b)) H) : rMin2Q [.int a, .int b] H Q := ⟨a, b, rfl, by
  have : (if b < a then b else a) = min a b := by
    by_cases hh : b < a
    · rw [if_pos hh]; omega
    · rw [if_neg hh]; omega
  rw [this]
  exact h⟩
theorem g_int {a : Int} (h : Q (.int a) H) : rIntQ [.int a] H Q := .inl ⟨a, rfl, h⟩
/-- l.append(y) -/
theorem g_app (e : H p = some (.lst xs)) (hl : xs.length ≤ 1000) (h : Q .non (upd H p (.lst (xs ++ [y])))) : rAppend (.ref p) [y] H Q := ⟨p, xs, y, rfl, rfl, e, small1000 hl, h⟩
theorem g_bm {T : String} {r : V → List V → Hp → VK → Prop} (h : te σ H fun x H1 => tyV K T x H1 ∧ tr σ H1 fun zs H2 => r x zs H2 Q) : tBM K T r te tr σ H Q := h
theorem g_ty {B : Prop} (e : H p = some (.lst xs)) (h : B) : tyV K "list" (.ref p) H ∧ B := ⟨.inl ⟨rfl, _, .of e⟩, h⟩
end
section
variable {σ : L2.St} {H : Hp} {Q : VK} {D : Ends} {K : PySem.W.Frag} {te ta tb : TE} {tt tu : TT} {tr : TA} {t u : TS} {g : TG} {r : R2} {i : Nat} {x y v : V} {p : Addr} {xs : List V} {wi : TI} {R : It → Hp → Prop}
theorem g_lc {vs : List Nat} (h : wi σ H fun J H1 => ∀ D, H1 D = none → ∃ W : Nat → Nat → Hp → Prop, (∃ m, W 0 m (upd H1 D (.lst []))) ∧ ∀ i m H, W i m H →
  (J.stop i H ∧ Q (.ref D) H) ∨ (J.go i H ∧ ∃ Nx : Hp → Prop, (∀ H', Nx H' → ∃ m', m' < m ∧ W (i + 1) m' H') ∧ ∀ x H', J.yld i H x H' → g x (wipe σ vs) H' fun σ2 H2 => wipe σ2 vs = wipe σ vs ∧ tt σ2 H2 fun b H3 =>
    if b = true then te σ2 H3 fun y H4 => ∃ acc, H4 D = some (.lst acc) ∧ acc.length < sizeLine ∧ Nx (upd H4 D (.lst (acc ++ [y]))) else Nx H3)) : tLc wi g tt te vs σ H Q := h
theorem g_for {tb : TS} (h : wi σ H fun J H1 => ∃ W : Nat → Nat → L2.St → Hp → Prop, (∃ m, W 0 m σ H1) ∧ ∀ i m σ H, W i m σ H →
  (J.stop i H ∧ D.nx σ H) ∨ (J.go i H ∧ ∃ N : L2.St → Hp → Prop, (∀ σ' H', N σ' H' → ∃ m', m' < m ∧ W (i + 1) m' σ' H') ∧ ∀ x H', J.yld i H x H' → g x σ H' fun σ2 H2 => tb { D with nx := N, ct := N, bk := D.nx } σ2 H2)) : tFor wi g tb D σ H := h
theorem g_yes {q : Bool → Hp → Prop} (h : q true H) : tYes σ H q := h
theorem g_rng1 (h : tr σ H fun vs H1 => ∃ j : Int, vs = [.int j] ∧ -(2 ^ 62) ≤ j ∧ j < 2 ^ 62 ∧ R (Itr 0 j.toNat) H1) : iRng1 tr σ H R := h
theorem g_rng2 (h : tr σ H fun vs H1 => ∃ i j : Int, vs = [.int i, .int j] ∧ (-(2 ^ 62) ≤ i ∧ i < 2 ^ 62 ∧ -(2 ^ 62) ≤ j ∧ j < 2 ^ 62) ∧ R (Itr i (j - i).toNat) H1) : iRng2 tr σ H R := h
theorem g_rng {n : Nat} {q : It → Prop} (hn : n ≤ 1000000) (h : q (Itr 0 n)) : ∃ j : Int, [V.int (n : Int)] = [.int j] ∧ -(2 ^ 62) ≤ j ∧ j < 2 ^ 62 ∧ q (Itr 0 j.toNat) := ⟨n, rfl, by omega, by omega, h⟩
theorem g_il (h : te σ H fun x H1 => ∃ a, x = .ref a ∧ (∃ xs, SqL K H1 a xs) ∧ R (Itl K a) H1) : iList K te σ H R := h
theorem g_it (h : te σ H fun x H1 => ∃ a, x = .ref a ∧ (∃ xs, SqT K H1 a xs) ∧ R (Itt K a) H1) : iTup K te σ H R := h
theorem g_ovL {q : It → Prop} (e : H p = some (.lst xs)) (h : q (Itl K p)) : ∃ a, V.ref p = .ref a ∧ (∃ xs, SqL K H a xs) ∧ q (Itl K a) := ⟨p, rfl, ⟨xs, .of e⟩, h⟩
theorem g_ovT {q : It → Prop} (e : H p = some (.tup xs)) (h : q (Itt K p)) : ∃ a, V.ref p = .ref a ∧ (∃ xs, SqT K H a xs) ∧ q (Itt K a) := ⟨p, rfl, ⟨xs, .of e⟩, h⟩
theorem g_en (h : tr σ H fun vs H1 => ∃ a xs, vs = [.ref a] ∧ H1 a = some (.tup xs) ∧ R (IteT a) H1) : iEnumT tr σ H R := h
theorem g_zp (h : tr σ H fun vs H1 => ∃ a b xs ys, vs = [.ref a, .ref b] ∧ H1 a = some (.tup xs) ∧ H1 b = some (.lst ys) ∧ R (ItzM a b) H1) : iZipM tr σ H R := h
theorem g_mkT (h : tr σ H fun xs H1 => xs.length ≤ sizeLine ∧ ∀ p, H1 p = none → Q (.ref p) (upd H1 p (.tup xs))) : tTup tr σ H Q := h
theorem g_mkL (h : tr σ H fun xs H1 => xs.length ≤ sizeLine ∧ ∀ p, H1 p = none → Q (.ref p) (upd H1 p (.lst xs))) : tLst tr σ H Q := h
end
theorem ixN_n {n j : Nat} (hj : j < n) : ixN n (j : Int) = some j := by
  unfold ixN
  rw [if_pos (by omega), if_pos (by omega)]
  simp
section
variable {σ : L2.St} {H : Hp} {Q : VK} {D : Ends} {K : PySem.W.Frag} {te to ti : TE} {x y v : V} {p : Addr} {xs : List V} {i k : Nat}
theorem g_augS {tget : V → V → Hp → VK → Prop} {tip : TIp} {tset : TSet} (h : to σ H fun o H1 => ti σ H1 fun i H2 => tget o i H2 fun x H3 => te σ H3 fun y H4 => tip x y H4 fun z H5 => tset o i z H5 fun H6 => D.nx σ H6) : tAugS to ti te tget tip tset D σ H := h
theorem g_aug {tip : TIp} (e : σ[i]? = some (some x)) (h : te σ H fun y H1 => tip x y H1 fun z H2 => D.nx (σ.set i (some z)) H2) : tAug i te tip D σ H := ⟨x, e, h⟩
theorem g_ipI {f : Int → Int → Int} {a b : Int} (h : Q (.int (f a b)) H) : ipI f (.int a) (.int b) H Q := ⟨a, b, rfl, rfl, h⟩
theorem g_getL (e : H p = some (.lst xs)) (ex : xs[k]? = some v) (h : Q v H) : rGetL K (.ref p) (.int (k : Nat)) H Q := ⟨p, xs, k, v, rfl, rfl, .of e, ex, h⟩
theorem g_setL {q : Hp → Prop} (e : H p = some (.lst xs)) (hk : k < xs.length) (h : q (upd H p (.lst (xs.set k v)))) : rSetL (.ref p) (.int (k : Nat)) v H q := ⟨p, xs, k, k, rfl, rfl, e, ixN_n hk, h⟩
theorem g_gsub {t : TSet} {q : L2.St → Hp → Prop} (h : to σ H fun o H1 => ti σ H1 fun i H2 => t o i v H2 fun H3 => q σ H3) : gSub to ti t v σ H q := h
theorem g_rep {n : Nat} {a : Int} (e : H p = some (.lst [.int a])) (hn : n ≤ 1000) (h : ∀ q, H q = none → Q (.ref q) (upd H q (.lst (zs (List.replicate n a))))) : rRep (.ref p) (.int (n : Nat)) H Q := by
  refine ⟨p, n, _, rfl, rfl, e, by omega, by omega, ?_, fun q hq => ?_⟩
  · have := small1000 hn
    show 1 * n ≤ sizeLine
    omega
  · have : (List.replicate ((n : Nat) : Int).toNat [V.int a]).flatten = zs (List.replicate n a) := by
      show (List.replicate n [V.int a]).flatten = _
      clear h hn
      induction n with
      | zero => rfl
      | succ n ih =>
        rw [List.replicate_succ, List.flatten_cons, List.replicate_succ, ih]
        rfl
    rw [this]
    exact h q hq
end
def rMin3Q : List V → Hp → VK → Prop := fun xs H Q => ∃ i j k, xs = [.int i, .int j, .int k] ∧ Q (.int (min (min i j) k)) H
theorem cq_min3 {X : Cx} (hc : X.calm = true) : CallR X (.builtin "min") rMin3Q := by
  intro pins s σ H xs us Q I r h
  obtain ⟨i, j, k, rfl, q⟩ := h
  refine call_min3Nu hc pins s σ H _ us Q I r ⟨_, _, _, .int (min (min i j) k), rfl, ?_, q⟩
  have m2 : ∀ a b : Int, nuMin2 (.int a) (.int b) = some (.int (min a b)) := fun a b => by
    show (some (decide (b < a))).map (fun c => if c = true then V.int b else V.int a) = _
    by_cases h : b < a
    · rw [decide_eq_true h]
      show some (V.int b) = _
      congr 2
      omega
    · rw [decide_eq_false h]
      show some (V.int a) = _
      congr 2
      omega
  show (nuMin2 (.int i) (.int j)).bind (fun m => nuMin2 m (.int k)) = _
  rw [m2]
  exact m2 _ _
theorem g_min3 {H : Hp} {Q : VK} {a b c : Int} (h : Q (.int (min (min a b) c)) H) : rMin3Q [.int a, .int b, .int c] H Q := ⟨a, b, c, rfl, h⟩
def tTrQ (K : PySem.W.Frag) (ta : TE) : TT := fun σ H Q => ta σ H fun x H' => ∃ k, TruV K x H' k ∧ Q k H'
theorem kpt_truth {X : Cx} {K : PySem.W.Frag} {a : Expr} {ta : TE} (h : X.K = K) (ha : PE X a ta) (he : ∀ whole, isTrue a X.env whole = (do let v ← whole; standAt a.pos; holding [v] (truthy v))) : PT X a (tTrQ K ta) := h ▸ pt_truth ha he
theorem g_trq {σ : L2.St} {H : Hp} {K : PySem.W.Frag} {ta : TE} {Q : Bool → Hp → Prop} (h : ta σ H fun x H' => ∃ k, TruV K x H' k ∧ Q k H') : tTrQ K ta σ H Q := h
theorem g_lock {t : TS} {D : Ends} {σ : L2.St} {H : Hp} (h : ∃ d u, H d = some u ∧ Mut (some u) ∧ ∀ od, t ⟨fun σ' H' => H' d = some (.frz od u) ∧ D.nx σ' (upd H' d u), fun v H' => H' d = some (.frz od u) ∧ D.rt v (upd H' d u), fun σ' H' => H' d = some (.frz od u) ∧ D.bk σ' (upd H' d u), fun σ' H' => H' d = some (.frz od u) ∧ D.ct σ' (upd H' d u)⟩ σ (upd H d (.frz od u))) : tLock t D σ H := h
theorem g_mko {C : Addr} {sp : Sp} {dvs : List V} {tr : TA} {σ : L2.St} {H : Hp} {Q : XK} (h : tr σ H fun vs H1 => vs.length ≤ 1000 ∧ ∀ a, H1 a = none → sp (.ref a :: (vs ++ dvs)) (upd H1 a (exo a C none))
  (fun v H2 => v = .non ∧ ∃ (d : Addr) (fs : List (Str × V)), H2 a = some (exo a C (some d)) ∧ H2 d = some (exd d fs) ∧ H1 d = none ∧ Q (.ref C) (some d) (upd (del H2 a) d (.xd fs))) (fun _ _ _ => False)) : tMkO C sp dvs tr σ H Q := h
theorem g_keys {td : TE} {σ : L2.St} {H : Hp} {R : It → Hp → Prop} (h : td σ H fun x H1 => ∃ d o, x = .ref d ∧ ((∃ kvs, H1 d = some (.frz o (.dK kvs)) ∧ R (Itk d o kvs) H1) ∨ ∃ kvs, H1 d = some (.frz o (.dT kvs)) ∧ R (Itkt d o kvs) H1)) : iKeys td σ H R := h
/-! ### the rules that name the frag, by K -/
section
variable {X : Cx} {K : PySem.W.Frag} (h : X.K = K)
include h
theorem kx_list : IxR X (rIxL K) := h ▸ ix_list
theorem kx_tup : IxR X (rIxT K) := h ▸ ix_tup
theorem kq_len : CallR X (.builtin "len") (rLenQ K) := h ▸ cq_len
theorem kq_list : CallR X (.type "list") (rListQ K) := h ▸ cq_list
theorem kq_tup : CallR X (.type "tuple") (rTupQ K) := h ▸ cq_tup
theorem kop_in : OpR X (compareOp .In) (rIn K false) := h ▸ op_in_seq
theorem kop_notIn : OpR X (compareOp .NotIn) (rIn K true) := h ▸ op_notIn_seq
theorem k_isi : CallR X (.builtin "isinstance") (rIsi K) := h ▸ call_isi
theorem kr_sum (hc : X.calm = true) : CallR X (.builtin "sum") (rSum K) := h ▸ cr_sum hc
theorem kr_min (hc : X.calm = true) : CallR X (.builtin "min") (rMin K) := h ▸ cr_min hc
theorem kr_max (hc : X.calm = true) : CallR X (.builtin "max") (rMax K) := h ▸ cr_max hc
theorem kop_catA : OpR X (binaryOp .Add) (rCatA K) := h ▸ op_catA
theorem ksl_tup : SlR X (rSlA K) := h ▸ sl_tupA
theorem ksl_list : SlR X (rSlL K) := h ▸ sl_list
theorem kr_sortT (hu : X.A.units + 64 < cLine) : CallR X (.builtin "sorted") (rSortT K) := h ▸ cr_sortT hu
theorem kr_sorted : CallR X (.builtin "sorted") (rSorted K) := h ▸ cr_sorted
theorem kr_sortTup : CallR X (.builtin "sorted") (rSortTup K) := h ▸ cr_sortTup
theorem kop_eqD (hu : X.A.units + 64 < cLine) : OpR X (compareOp .Eq) (rEqD K) := h ▸ op_eqD hu
theorem kop_neD (hu : X.A.units + 64 < cLine) : OpR X (compareOp .NotEq) (rNeD K) := h ▸ op_neD hu
theorem kget_list : PGet X (rGetL K) := h ▸ get_list
theorem kpi_list {tg l : Expr} {tl : TE} (hl : PE X l tl) : PI X tg l (iList K tl) := h ▸ pi_list hl
theorem kpi_tup {tg l : Expr} {tl : TE} (hl : PE X l tl) : PI X tg l (iTup K tl) := h ▸ pi_tup hl
theorem kpg_tup {es : List Expr} {k : Nat} {t : TGs} {n : Nat} {pos : Pos} (hc : X.calm = true) (hp : PGs X es t)
    (hn : (assignEach es X.env).length = n := by rfl) (hst : (assignEach es X.env).findIdx? (·.1) = none := by rfl) : PG X (.Tuple es k pos) (gTup K n t) := h ▸ pg_tup hc hp hn hst
theorem kmt_extendT : MtM X "list.extend" (rExtendT K) := h ▸ mt_extendT
theorem kpe_revL {e : Expr} {te : TE} {k : Nat} {p1 p2 p3 pos : Pos} (he : PE X e te) : PE X (.Subscript e (.Slice none none (some (.UnaryOp .USub (.Constant (.int 1) k p1) p2)) p3) pos) (tRevL K te) := h ▸ pe_revL he
end
section
variable {H : Hp} {ts : List Addr} {ls : List Ln}
theorem LnsAt.ref (h : LnsAt H ts ls) {i : Nat} {x : V} {l : Ln} (e : (ts.map V.ref)[i]? = some x) (el : ls[i]? = some l) : ∃ t, x = .ref t ∧ H t = some (.tup (lnV l)) := by
  obtain ⟨t, _, e2, e3⟩ := h.get el
  rw [e2] at e
  exact ⟨t, (Option.some.inj e).symm, e3⟩
theorem zs_at {xs : List Int} {i : Nat} {x : V} {c : Int} (e : (zs xs)[i]? = some x) (ec : xs[i]? = some c) : x = .int c := by
  rw [zs_get ec] at e
  exact (Option.some.inj e).symm
end
section
variable {σ : L2.St} {H : Hp} {Q : VK} {D : Ends} {K : PySem.W.Frag} {td ty tv tk te : TE} {x y v : V} {p : Addr} {xs : List V} {i k : Nat} {tr : TA} {g : TG} {tt : TT} {wi : TI}
theorem g_dget (h : td σ H fun x H1 => ty σ H1 fun y H2 => ∃ a v, x = .ref a ∧ DGet H2 a y (some v) ∧ Q v H2) : tDGet td ty σ H Q := h
theorem g_din (h : ty σ H fun y H1 => td σ H1 fun x H2 => ∃ a o, x = .ref a ∧ DGet H2 a y o ∧ Q (.bl o.isSome) H2) : tDIn ty td σ H Q := h
theorem g_dnotin (h : ty σ H fun y H1 => td σ H1 fun x H2 => ∃ a o, x = .ref a ∧ DGet H2 a y o ∧ Q (.bl (!o.isSome)) H2) : tDNotIn ty td σ H Q := h
theorem g_dput (h : tv σ H fun v H1 => td σ H1 fun x H2 => ty σ H2 fun y H3 => ∃ a H4, x = .ref a ∧ DPut H3 a y v H4 ∧ D.nx σ H4) : sDPut td ty tv D σ H := h
theorem g_dc {vs : List Nat} (h : wi σ H fun J H1 => ∀ D, H1 D = none → ∃ W : Nat → Nat → Hp → Prop, (∃ m, W 0 m (upd H1 D (.dK []))) ∧ ∀ i m H, W i m H →
  (J.stop i H ∧ Q (.ref D) H) ∨ (J.go i H ∧ ∃ Nx : Hp → Prop, (∀ H', Nx H' → ∃ m', m' < m ∧ W (i + 1) m' H') ∧ ∀ x H', J.yld i H x H' → g x (wipe σ vs) H' fun σ2 H2 => wipe σ2 vs = wipe σ vs ∧ tt σ2 H2 fun b H3 =>
    if b = true then tk σ2 H3 fun y H4 => tv σ2 H4 fun z H5 => ∃ kvs k, y = kV k ∧ H5 D = some (.dK kvs) ∧ kvs.length < sizeLine ∧ Nx (upd H5 D (.dK (putK kvs k z))) else Nx H3)) : tDc wi g tt tk tv vs σ H Q := h
theorem g_sl {r : V → Option Int → Option Int → Hp → VK → Prop} {tl th : TO} (h : te σ H fun x H1 => tl σ H1 fun l H2 => th σ H2 fun u H3 => r x l u H3 Q) : tSl r te tl th σ H Q := h
theorem g_nopart {q : Option Int → Hp → Prop} (h : q none H) : tNoPart σ H q := h
theorem g_part {q : Option Int → Hp → Prop} (h : te σ H fun x H1 => ∃ i, x = .int i ∧ q (some i) H1) : tPart te σ H q := h
theorem g_exI {a : Int} {q : Int → Prop} (h : q a) : ∃ i, V.int a = .int i ∧ q i := ⟨a, rfl, h⟩
theorem g_revL (h : te σ H fun x H1 => ∃ a xs, x = .ref a ∧ SqL K H1 a xs ∧ ∀ p, H1 p = none → Q (.ref p) (upd H1 p (.lst xs.reverse))) : tRevL K te σ H Q := h
end
theorem dc_it {J : It} {n : Nat} {G : Hp → Prop} {Y : Nat → Hp → V → Hp → Prop} (w : Walk J n G Y) {g : TG} {tt : TT} {tk tv : TE} {vs : List Nat} {σ : L2.St} {H1 : Hp} {D : Addr} {Qd : Hp → Prop} (Pv : Nat → Hp → Prop) (h0 : Pv 0 (upd H1 D (.dK []))) (hG : ∀ i H, i ≤ n → Pv i H → G H)
    (hs : ∀ i x H H', i < n → Pv i H → Y i H x H' → g x (wipe σ vs) H' fun σ2 H2 => wipe σ2 vs = wipe σ vs ∧ tt σ2 H2 fun b H3 =>
      if b = true then tk σ2 H3 fun y H4 => tv σ2 H4 fun z H5 => ∃ kvs k, y = kV k ∧ H5 D = some (.dK kvs) ∧ kvs.length < sizeLine ∧ Pv (i + 1) (upd H5 D (.dK (putK kvs k z))) else Pv (i + 1) H3) (hd : ∀ H, Pv n H → Qd H) :
    ∃ W : Nat → Nat → Hp → Prop, (∃ m, W 0 m (upd H1 D (.dK []))) ∧ ∀ i m H, W i m H →
      (J.stop i H ∧ Qd H) ∨ (J.go i H ∧ ∃ Nx : Hp → Prop, (∀ H', Nx H' → ∃ m', m' < m ∧ W (i + 1) m' H') ∧ ∀ x H', J.yld i H x H' → g x (wipe σ vs) H' fun σ2 H2 => wipe σ2 vs = wipe σ vs ∧ tt σ2 H2 fun b H3 =>
        if b = true then tk σ2 H3 fun y H4 => tv σ2 H4 fun z H5 => ∃ kvs k, y = kV k ∧ H5 D = some (.dK kvs) ∧ kvs.length < sizeLine ∧ Nx (upd H5 D (.dK (putK kvs k z))) else Nx H3) := by
  refine ⟨fun i m H => m = n - i ∧ i ≤ n ∧ Pv i H, ⟨n, by simp, Nat.zero_le _, h0⟩, ?_⟩
  rintro i m H ⟨rfl, hi, p⟩
  have q := hG i H hi p
  by_cases hlt : i < n
  · refine .inr ⟨w.goes i H hlt q, Pv (i + 1), fun H' p' => ⟨n - (i + 1), by omega, rfl, hlt, p'⟩, fun x H' y => hs i x H H' hlt p (w.yields i H x H' hlt q y)⟩
  · have e : i = n := by omega
    subst e
    exact .inl ⟨w.stops H q, hd H p⟩
/-- ints in a list or a tuple -/
def SeqI (H : Hp) (v : V) (xs : List Int) : Prop := ∃ a, v = .ref a ∧ (H a = some (.lst (zs xs)) ∨ H a = some (.tup (zs xs)))
/-- a name that holds a list or a tuple -/
def iSq (i : Nat) : TI := fun σ H R => ∃ v, σ[i]? = some (some v) ∧ ∃ a xs, v = .ref a ∧ (H a = some (.lst xs) ∨ H a = some (.tup xs)) ∧ ∀ J, Walk J xs.length (fun H' => H' a = H a) (YAt xs) → R J H
theorem kpi_seq {X : Cx} {tg l : Expr} {i : Nat} (hl : PE X l (tVar i)) : PI X tg l (iSq i) := by
  refine ⟨fun pins s σ H R I h => ?_⟩
  obtain ⟨v, e, a, xs, rfl, ho, q⟩ := h
  rcases ho with ho | ho
  · exact (pi_list hl).run pins s σ H R I ⟨_, e, a, rfl, ⟨xs, .of ho⟩, q _ (walk_list.mono (fun H' e => .of (by rw [e]; exact ho)) fun _ _ _ _ _ _ y => y)⟩
  · exact (pi_tup hl).run pins s σ H R I ⟨_, e, a, rfl, ⟨xs, .of ho⟩, q _ (walk_tup.mono (fun H' e => .of (by rw [e]; exact ho)) fun _ _ _ _ _ _ y => y)⟩
theorem g_sq {i : Nat} {σ : L2.St} {H : Hp} {R : It → Hp → Prop} {v : V} (e : σ[i]? = some (some v)) (h : ∃ a xs, v = .ref a ∧ (H a = some (.lst xs) ∨ H a = some (.tup xs)) ∧ ∀ J, Walk J xs.length (fun H' => H' a = H a) (YAt xs) → R J H) : iSq i σ H R := ⟨v, e, h⟩
theorem g_while {c : TT} {tb : TS} {D : Ends} {σ : L2.St} {H : Hp} (h : ∃ W : Nat → L2.St → Hp → Prop, (∃ m, W m σ H) ∧ ∀ m σ H, W m σ H →
  c σ H fun b H1 => if b = true then ∃ N : L2.St → Hp → Prop, (∀ σ' H', N σ' H' → ∃ m', m' < m ∧ W m' σ' H') ∧ tb { D with nx := N, ct := N, bk := D.nx } σ H1 else D.nx σ H1) : tWhile c tb D σ H := h
theorem sz {xs : List V} (h : xs.length ≤ 100 := by simp) : xs.length ≤ sizeLine := Nat.le_of_lt (small1000 (by omega))
/-! ### isinstance on data -/
def isB : PyData → Bool
  | .bool _ => true
  | _ => false
section
variable {S : List Addr} {H : Hp} {Q : VK} {K : PySem.W.Frag} {v : V} {d : PyData}
theorem g_isiI (hd : Da S H v d) (h : Q (.bl (isI d || isB d)) H) : rIsi K [v, .ty "int"] H Q := by
  have ht := hd.ty (K := K)
  cases hd <;> exact ⟨_, _, _, _, _, rfl, .ty _, ht, kit_ty (by dsimp only [tyD, isI, isB, isTup, isStr]; decide +kernel), h⟩
theorem g_isiB (hd : Da S H v d) (h : Q (.bl (isB d)) H) : rIsi K [v, .ty "bool"] H Q := by
  have ht := hd.ty (K := K)
  cases hd <;> exact ⟨_, _, _, _, _, rfl, .ty _, ht, kit_ty (by dsimp only [tyD, isI, isB, isTup, isStr]; decide +kernel), h⟩
theorem g_isiT (hd : Da S H v d) (h : Q (.bl (isTup d)) H) : rIsi K [v, .ty "tuple"] H Q := by
  have ht := hd.ty (K := K)
  cases hd <;> exact ⟨_, _, _, _, _, rfl, .ty _, ht, kit_ty (by dsimp only [tyD, isI, isB, isTup, isStr]; decide +kernel), h⟩
theorem g_isiS (hd : Da S H v d) (h : Q (.bl (isStr d)) H) : rIsi K [v, .ty "str"] H Q := by
  have ht := hd.ty (K := K)
  cases hd <;> exact ⟨_, _, _, _, _, rfl, .ty _, ht, kit_ty (by dsimp only [tyD, isI, isB, isTup, isStr]; decide +kernel), h⟩
end
/-- defs that do not raise, by name -/
structure Cal (P : Program) (w : World) (K : PySem.W.Frag) (mg : Str → Option Value) (base : Heap) (k : Nat) (x : Str) (sp : Sp) : Prop where
  ex : ∃ (f : Addr) (fd : FuncData) (ps : List Str), FnOk P w K mg base CX0 k f fd ps sp ∧ mg x = some (.ref f) ∧ PySem.W.keepIn K (.ref f) = true ∧ Binds K fd ps []
section
variable {X : Cx} {k j : Nat} {sp : Sp} {x : Str} {p pos : Pos} {e : Expr} {es : List Expr} {t : TA}
theorem pe_c (c : Cal X.prog X.w X.K X.mg X.base k x sp) (hr : Room j X.A) (hk : k ≤ j) (hg : Gl X x) (ha : PA X (e :: es) t)
    (hdb : (x == ("__debug__" : Str)) = false := by decide) (he : starEach (e :: es) X.env = (false, eval e X.env) :: starEach es X.env := by rfl) (hpl : (backTo pos (starEach es X.env)).any (·.1) = false := by rfl) :
    PE X (.Call (.Name x p) (e :: es) [] pos) (tCall sp [] E0 t) := by
  obtain ⟨f, fd, ps, F, hm, kp, b⟩ := c.ex
  exact pe_call F (hr.mono hk) hg hm kp b .nil pass0 ha hdb he hpl
end
end K8
set_option Elab.async false
set_option linter.all false
set_option maxRecDepth 100000
set_option maxHeartbeats 4000000
namespace K8
open PySem PySem.Spec PyProof.Rows L2
section
variable {X : Cx}
/-- name = {..} by a comprehension -/
theorem ps_setDc {i : Nat} {y : Str} {py : Pos} {kx vx tg iter : Expr} {ifs : List Expr} {scope : Scope} {own : List (Str × Nat)} {pos spos : Pos} {wi : TI} {g : TG} {tt : TT} {tk tv : TE} (hc : X.calm = true) (hN : X.N.Nodup) (hy : X.N[i]? = some y) (hyl : X.env.scope.names.lookup y = some .local)
    (hsw : swapsWith (.DictComp kx vx [⟨tg, iter, ifs, 0⟩] scope pos) (some (.Name y py)) spos.line X.env = pure true) (hi : PI X tg iter wi) (ok : BlkOk X.N X.env.scope scope own)
    (hg : ∀ (s : Shared) (H : Hp) (C : Addr) (cl : List (Str × Addr)) (fp : List Addr), PG (X.blk s H scope (compEnvC scope cl C X.env) fp) tg g) (ht : ∀ (s : Shared) (H : Hp) (C : Addr) (cl : List (Str × Addr)) (fp : List Addr), PTs (X.blk s H scope (compEnvC scope cl C X.env) fp) ifs tt)
    (hk : ∀ (s : Shared) (H : Hp) (C : Addr) (cl : List (Str × Addr)) (fp : List Addr), PE (X.blk s H scope (compEnvC scope cl C X.env) fp) kx tk)
    (he : ∀ (s : Shared) (H : Hp) (C : Addr) (cl : List (Str × Addr)) (fp : List Addr), PE (X.blk s H scope (compEnvC scope cl C X.env) fp) vx tv) (hs : ∀ x, foldedSetIterable iter X.env x = pure x := by intro _; rfl) :
    PS X (.Assign [.Name y py] (.DictComp kx vx [⟨tg, iter, ifs, 0⟩] scope pos) spos) (tAsg (tDc wi g tt tk tv (own.map (·.2))) (gName i)) := by
  refine ⟨fun pins s σ H D I h => ?_⟩
  rw [exec_Assign_Name_used _ _ _ _ hsw]
  refine wpAny_bind (wpAny_standAt (wpAny_bind ?_))
  show wpAny _ X.A (do let _ ← comprehension (.DictComp kx vx [⟨tg, iter, ifs, 0⟩] scope pos) scope X.env (firstIterPos [⟨tg, iter, ifs, 0⟩] pos) newDict false (eval iter X.env) (some (assign (.Name y py) X.env))) _ _ s
  have h : tDc wi g tt tk tv (own.map (·.2)) σ H (fun x H1 => gName i x σ H1 D.nx) := h
  refine wpAny_bind (thn (dc_core (Qf := fun _ s' => SP X pins D .next s') hc hN I hi ok hg ht hk he hs h fun L C s' m H' I' q hn f => ?_) fun _ s' hq => wpAny_pure (wpAny_pure hq))
  show wpAny _ _ (assign (.Name y py) X.env (.ref L)) _ _ _
  refine wpAny_assign_Name (store_ok2 (v := V.ref L) I' hN hy (.inl hyl) rfl (fun s2 I2 ⟨a, sb, ha⟩ => ?_) (.inr hyl))
  obtain ⟨f0, f1, f2, f3, f4, f5⟩ := f
  have haC : C ≠ a := by
    rcases ha with z | z
    · rw [z]; exact f1
    · exact fun e => f4 y a z e.symm
  refine ⟨m, hn.sameBut sb haC, fun h3 sb3 => ?_⟩
  exact ⟨_, H', I2.turned (t' := s2.toks) (fun b o hb e => (sb3.2 b hb).trans e) f0 f1 f3 f4 f5, q⟩
theorem sw_trueD {kx vx : Expr} {gs : List Comprehension} {scope : Scope} {pos py : Pos} {y : Str} {l : Nat} {env : Env} (hk : env.scope.kind = .function) (hy : env.scope.names.lookup y = some .local) (hl : (py.line == pos.line) = true)
    (ha : (scope.names.any fun (n, k) => n == y && (k == .local || k == .cell)) = false) : swapsWith (.DictComp kx vx gs scope pos) (some (.Name y py)) l env = pure true := by
  have ky : env.kindOf y = some .local := hy
  have hb : env.blockKind = .function := by unfold Env.blockKind; rw [hk]; rfl
  unfold swapsWith
  simp only [hb, ky, ha, Expr.pos, hl]
  rfl
end
end K8
set_option Elab.async false
set_option linter.all false
set_option maxRecDepth 100000
set_option maxHeartbeats 4000000
namespace K8
open PySem PySem.Spec PyProof.Rows L2
theorem eqvAll_ints : ∀ xs ys : List Int, PyData.eqvAll (xs.map PyData.int) (ys.map PyData.int) = decide (xs = ys)
  | [], [] => by simp [PyData.eqvAll]
  | [], _ :: _ => by simp [PyData.eqvAll]
  | _ :: _, [] => by simp [PyData.eqvAll]
  | a :: r, b :: t => by
    simp only [List.map_cons, PyData.eqvAll, PyData.eqv, eqvAll_ints r t]
    by_cases h : a = b <;> by_cases h' : r = t <;> simp [h, h']
theorem eqv_ints (xs ys : List Int) : PyData.eqv (.list (xs.map PyData.int)) (.list (ys.map PyData.int)) = decide (xs = ys) := by
  simp only [PyData.eqv]
  exact eqvAll_ints xs ys
section
variable {H : Hp} {Q : VK} {K : PySem.W.Frag} {p q : Addr} {xs ys : List Int} {D : List Nat} {x : Nat} {a : Int}
theorem g_eqZ (e1 : H p = some (.lst (zs xs))) (e2 : H q = some (.lst (zs ys))) (h : Q (.bl (decide (xs = ys))) H) : rEqD K (.ref p) (.ref q) H Q := by
  refine ⟨_, _, .lst (.of e1) (DaAll.ints (S := []) (H := H) xs).dp, .lst (.of e2) (DaAll.ints (S := []) (H := H) ys).dp, PySem.W.shaped_ints xs, PySem.W.shaped_ints ys, ?_⟩
  rw [eqv_ints]
  exact h
theorem flat_zs (xs : List Int) : (zs xs).all flatV = true := by
  rw [List.all_eq_true]
  intro v hv
  obtain ⟨y, _, rfl⟩ := List.mem_map.mp hv
  rfl
theorem inV_zs (a : Int) (xs : List Int) : inV (.int a) (zs xs) = decide (a ∈ xs) := by
  unfold inV
  rw [Bool.eq_iff_iff, List.any_eq_true, decide_eq_true_iff]
  constructor
  · rintro ⟨y, hy, e⟩
    obtain ⟨b, hb, rfl⟩ := List.mem_map.mp hy
    have : b = a := eq_of_beq (show (b == a) = true from e)
    rw [← this]
    exact hb
  · intro h
    exact ⟨.int a, List.mem_map.mpr ⟨a, h, rfl⟩, beq_self_eq_true a⟩
theorem mem_hs {x : Nat} {D : List Nat} : (x : Int) ∈ hs D ↔ x ∈ D := by
  constructor
  · intro h
    obtain ⟨y, hy, e⟩ := List.mem_map.mp h
    have : y = x := by omega
    rw [← this]
    exact hy
  · exact fun h => List.mem_map.mpr ⟨x, h, rfl⟩
theorem inV_hs (x : Nat) (D : List Nat) : inV (.int (x : Int)) (zs (hs D)) = decide (x ∈ D) := by
  rw [inV_zs, decide_eq_decide]
  exact mem_hs
theorem g_ninL (e : H p = some (.lst (zs (hs D)))) (h : Q (.bl (!decide (x ∈ D))) H) : rIn K true (.int (x : Int)) (.ref p) H Q := by
  refine ⟨p, _, rfl, .inl (.of e), rfl, flat_zs _, ?_⟩
  rw [inV_hs]
  exact h
theorem g_ninT (e : H p = some (.tup (zs (hs D)))) (h : Q (.bl (!decide (x ∈ D))) H) : rIn K true (.int (x : Int)) (.ref p) H Q := by
  refine ⟨p, _, rfl, .inr (.of e), rfl, flat_zs _, ?_⟩
  rw [inV_hs]
  exact h
theorem g_inL (e : H p = some (.lst (zs (hs D)))) (h : Q (.bl (decide (x ∈ D))) H) : rIn K false (.int (x : Int)) (.ref p) H Q := by
  refine ⟨p, _, rfl, .inl (.of e), rfl, flat_zs _, ?_⟩
  rw [inV_hs]
  exact h
theorem g_inT (e : H p = some (.tup (zs (hs D)))) (h : Q (.bl (decide (x ∈ D))) H) : rIn K false (.int (x : Int)) (.ref p) H Q := by
  refine ⟨p, _, rfl, .inr (.of e), rfl, flat_zs _, ?_⟩
  rw [inV_hs]
  exact h
theorem g_ninTS {s : Str} {ws : List Str} (e : H p = some (.tup (ws.map V.str))) (h : Q (.bl (!decide (s ∈ ws))) H) : rIn K true (.str s) (.ref p) H Q := by
  refine ⟨p, _, rfl, .inr (.of e), rfl, ?_, ?_⟩
  · rw [List.all_eq_true]
    intro v hv
    obtain ⟨y, _, rfl⟩ := List.mem_map.mp hv
    rfl
  · have : inV (.str s) (ws.map V.str) = decide (s ∈ ws) := by
      unfold inV
      rw [Bool.eq_iff_iff, List.any_eq_true, decide_eq_true_iff]
      constructor
      · rintro ⟨y, hy, e⟩
        obtain ⟨b, hb, rfl⟩ := List.mem_map.mp hy
        have : b = s := eq_of_beq (show (b == s) = true from e)
        rw [← this]
        exact hb
      · intro h
        exact ⟨.str s, List.mem_map.mpr ⟨s, h, rfl⟩, beq_self_eq_true s⟩
    rw [this]
    exact h
theorem g_eqS {s t : Str} (h : Q (.bl (decide (s = t))) H) : rEq (.str s) (.str t) H Q := ⟨rfl, by simpa using h⟩
/-- ranges laid out -/
theorem g_lrg {te : L2.St → Hp → (Int → Int → Hp → Prop) → Prop} {σ : L2.St} (h : te σ H fun a b H1 => RgOk a b ∧ ∀ q, H1 q = none → Q (.ref q) (upd H1 q (.lst (rgV a b)))) : tLstRg te σ H Q := h
theorem g_trg {te : L2.St → Hp → (Int → Int → Hp → Prop) → Prop} {σ : L2.St} (h : te σ H fun a b H1 => RgOk a b ∧ ∀ q, H1 q = none → Q (.ref q) (upd H1 q (.tup (rgV a b)))) : tTupRg te σ H Q := h
theorem g_rg1 {te : TE} {σ : L2.St} {R : Int → Int → Hp → Prop} (h : te σ H fun x H1 => ∃ n, x = .int n ∧ R 0 n H1) : tRg1 te σ H R := h
theorem rgV_nat (n : Nat) : rgV 0 (n : Int) = zs (hs (List.range n)) := by
  unfold rgV zs hs
  rw [List.map_map]
  have : ((n : Int) - 0).toNat = n := by omega
  rw [this]
  exact List.map_congr_left fun i _ => by show V.int (0 + (i : Int)) = V.int (i : Int); rw [Int.zero_add]
theorem rg_ok {n : Nat} (h : n ≤ 1000) : RgOk 0 (n : Int) := RgOk.of_le (by omega) (by omega) (by omega) (by omega)
end
section
variable {H : Hp} {Q : VK} {K : PySem.W.Frag} {a b : Int}
theorem g_cut {t u : TS} {D : Ends} {σ : L2.St} {H : Hp} (h : ∃ Mid : L2.St → Hp → Prop, t { D with nx := Mid } σ H ∧ ∀ σ' H', Mid σ' H' → u D σ' H') : Evl.tCut t u D σ H := h
theorem g_mulR (hb : -(2 ^ 64) < b ∧ b < 2 ^ 64) (h : Q (.int (a * b)) H) : rI CMul (fun i j => .int (i * j)) (.int a) (.int b) H Q := ⟨a, b, rfl, rfl, .inr hb, h⟩
theorem g_mulL (ha : -(2 ^ 64) < a ∧ a < 2 ^ 64) (h : Q (.int (a * b)) H) : rI CMul (fun i j => .int (i * j)) (.int a) (.int b) H Q := ⟨a, b, rfl, rfl, .inl ha, h⟩
theorem g_mod (hb : 0 < b) (h : Q (.int (a % b)) H) : rI (fun _ j => 0 < j) (fun i j => .int (i % j)) (.int a) (.int b) H Q := ⟨a, b, rfl, rfl, hb, h⟩
theorem g_div (hb : 0 < b ∧ b < 1073741824) (h : Q (.int (a / b)) H) : rI CDiv (fun i j => .int (i / j)) (.int a) (.int b) H Q := ⟨a, b, rfl, rfl, hb, h⟩
end
/-- a[i] of a list or a tuple -/
def rIxQ (K : PySem.W.Frag) : R2 := fun x y H Q => rIxL K x y H Q ∨ rIxT K x y H Q
theorem kx_seq {X : Cx} {K : PySem.W.Frag} (h : X.K = K) : IxR X (rIxQ K) := h ▸ ix_list.or ix_tup
theorem g_ixQ {H : Hp} {Q : VK} {K : PySem.W.Frag} {p : Addr} {xs : List V} {v : V} {j : Nat} (e : H p = some (.lst xs) ∨ H p = some (.tup xs)) (ex : xs[j]? = some v) (h : Q v H) : rIxQ K (.ref p) (.int (j : Nat)) H Q :=
  e.elim (fun e => .inl (g_ixL e ex h)) fun e => .inr (g_ixT e ex h)
theorem g_disp {tk tv : TE} {σ : L2.St} {H : Hp} {Q : VK} (h : ∀ p, H p = none → tk σ (upd H p (.dT [])) fun x H1 => tv σ H1 fun y H2 => ∃ (b : Addr) (ks : List Key), x = .ref b ∧ H2 b = some (.tup (ks.map kV)) ∧ H2 p = some (.dT []) ∧ Q (.ref p) (upd H2 p (.dT [(ks, y)]))) : tDispT tk tv σ H Q := h
theorem g_dnew {σ : L2.St} {H : Hp} {Q : VK} (h : ∀ p, H p = none → Q (.ref p) (upd H p (.dT []))) : tDNewT σ H Q := h
end K8
set_option Elab.async false
set_option linter.all false
namespace K8
/-! ### lines, splits, purses: plain -/
def Split (ls : List Ln) (near : List Int) : Prop := near.length = ls.length ∧ ∀ (i : Nat) (l : Ln) (c : Int), ls[i]? = some l → near[i]? = some c → 0 ≤ c ∧ c ≤ l.r
def turn : List Ln → List Int → List Int
  | l :: ls, c :: cs => (l.r - c) :: turn ls cs
  | _, _ => []
def purse : List Ln → List Int → Nat → Int
  | l :: ls, c :: cs, v => (if l.a = v then c else 0) + (if l.b = v then l.r - c else 0) + purse ls cs v
  | _, _, _ => 0
def Edge (ls : List Ln) (near : List Int) (u i o : Nat) : Prop := ∃ l c, ls[i]? = some l ∧ near[i]? = some c ∧ ((l.a = u ∧ l.b = o ∧ 1 ≤ c) ∨ (l.b = u ∧ l.a = o ∧ 1 ≤ l.r - c))
/-- reached from starts, not into D -/
inductive Rch (ls : List Ln) (near : List Int) (D : List Nat) (st : List Nat) : Nat → Prop
  | base {v : Nat} : v ∈ st → Rch ls near D st v
  | step {u i o : Nat} : Rch ls near D st u → Edge ls near u i o → o ∉ D → Rch ls near D st o
theorem turn_len : ∀ (ls : List Ln) (near : List Int), near.length = ls.length → (turn ls near).length = ls.length
  | [], [], _ => rfl
  | l :: ls, c :: cs, h => by
    show (turn ls cs).length + 1 = ls.length + 1
    rw [turn_len ls cs (by simpa using h)]
  | [], _ :: _, h => by simp at h
  | _ :: _, [], h => by simp at h
theorem turn_get : ∀ (ls : List Ln) (near : List Int) (i : Nat) (l : Ln) (c : Int), ls[i]? = some l → near[i]? = some c → (turn ls near)[i]? = some (l.r - c)
  | l :: ls, c :: cs, 0, l', c', h, h2 => by
    simp at h h2
    subst h h2
    rfl
  | l :: ls, c :: cs, i + 1, l', c', h, h2 => by
    show (turn ls cs)[i]? = _
    exact turn_get ls cs i l' c' (by simpa using h) (by simpa using h2)
  | [], _, _, _, _, h, _ => by simp at h
  | _ :: _, [], _, _, _, _, h => by simp at h
theorem purse_take : ∀ (ls : List Ln) (near : List Int) (i : Nat) (l : Ln) (c : Int) (v : Nat), ls[i]? = some l → near[i]? = some c →
    purse (ls.take (i + 1)) (near.take (i + 1)) v = purse (ls.take i) (near.take i) v + ((if l.a = v then c else 0) + (if l.b = v then l.r - c else 0))
  | l :: ls, c :: cs, 0, l', c', v, h, h2 => by
    simp at h h2
    subst h h2
    simp [purse]
  | l :: ls, c :: cs, i + 1, l', c', v, h, h2 => by
    have ih := purse_take ls cs i l' c' v (by simpa using h) (by simpa using h2)
    show (if l.a = v then c else 0) + (if l.b = v then l.r - c else 0) + purse (ls.take (i + 1)) (cs.take (i + 1)) v = (if l.a = v then c else 0) + (if l.b = v then l.r - c else 0) + purse (ls.take i) (cs.take i) v + _
    rw [ih]
    omega
  | [], _, _, _, _, _, h, _ => by simp at h
  | _ :: _, [], _, _, _, _, _, h => by simp at h
end K8
set_option Elab.async false
set_option linter.all false
namespace K8
theorem nodup_le : ∀ (n : Nat) (xs : List Nat), xs.Nodup → (∀ x ∈ xs, x < n) → xs.length ≤ n
  | 0, xs, _, h => by
    cases xs with
    | nil => exact Nat.le_refl _
    | cons x r => exact absurd (h x List.mem_cons_self) (Nat.not_lt_zero x)
  | n + 1, xs, nd, h => by
    have h1 := nodup_le n (xs.erase n) (nd.erase n) (fun x hx => by
      have h2 := (List.Nodup.mem_erase_iff nd).mp hx
      have := h x h2.2
      omega)
    have h2 := List.length_erase (a := n) (l := xs)
    split at h2 <;> omega
/-! ### what a search leaves -/
abbrev Bk := List (Nat × Option (Nat × Nat))
abbrev keysB (bk : Bk) : List Nat := bk.map Prod.fst
structure BkOk (ls : List Ln) (near : List Int) (D st : List Nat) (bk : Bk) : Prop where
  nd : (keysB bk).Nodup
  st1 : ∀ h, (h, none) ∈ bk → h ∈ st
  st2 : ∀ h ∈ st, h ∈ keysB bk
  lk : ∀ (j : Nat) (h i u : Nat), bk[j]? = some (h, some (i, u)) → (∃ j', j' < j ∧ (keysB bk)[j']? = some u) ∧ Edge ls near u i h ∧ h ∉ D
/-- the first m are done -/
def Shut (ls : List Ln) (near : List Int) (D : List Nat) (bk : Bk) (m : Nat) : Prop := ∀ (j u : Nat), j < m → (keysB bk)[j]? = some u → ∀ i o, Edge ls near u i o → o ∉ D → o ∈ keysB bk
theorem BkOk.rch {ls : List Ln} {near : List Int} {D st : List Nat} {bk : Bk} (h : BkOk ls near D st bk) : ∀ (j v : Nat), (keysB bk)[j]? = some v → Rch ls near D st v := by
  intro j
  induction j using Nat.strongRecOn with
  | ind j ih =>
    intro v hv
    rw [List.getElem?_map] at hv
    cases e : bk[j]? with
    | none => rw [e] at hv; cases hv
    | some q =>
      rw [e] at hv
      obtain ⟨h', o⟩ := q
      cases hv
      cases o with
      | none => exact .base (h.st1 _ (List.mem_of_getElem? e))
      | some iu =>
        obtain ⟨i, u⟩ := iu
        obtain ⟨⟨j', hj, e'⟩, ed, hd⟩ := h.lk j _ _ _ e
        exact .step (ih j' hj u e') ed hd
theorem rch_keys {ls : List Ln} {near : List Int} {D st : List Nat} {bk : Bk} (h : BkOk ls near D st bk) (s : Shut ls near D bk bk.length) (v : Nat) : v ∈ keysB bk ↔ Rch ls near D st v := by
  constructor
  · intro hv
    obtain ⟨j, hj⟩ := List.mem_iff_getElem?.mp hv
    exact h.rch j v hj
  · intro hv
    induction hv with
    | base hs => exact h.st2 _ hs
    | step _ ed hd ih =>
      obtain ⟨j, hj⟩ := List.mem_iff_getElem?.mp ih
      have := (List.getElem?_eq_some_iff.mp hj).1
      rw [List.length_map] at this
      exact s j _ this hj _ _ ed hd
theorem Edge.lt {W : Wb} (ok : WebOk W) {near : List Int} {u i o : Nat} (e : Edge W.ls near u i o) : o < W.n ∧ u < W.n ∧ u ≠ o := by
  obtain ⟨l, c, e1, _, e3⟩ := e
  have := ok.2.2.2 l (List.mem_of_getElem? e1)
  rcases e3 with ⟨h1, h2, _⟩ | ⟨h1, h2, _⟩ <;> omega
theorem BkOk.lt {W : Wb} (ok : WebOk W) {near : List Int} {D st : List Nat} {bk : Bk} (h : BkOk W.ls near D st bk) (hs : ∀ x ∈ st, x < W.n) : ∀ x ∈ keysB bk, x < W.n := by
  intro x hx
  obtain ⟨q, hq, rfl⟩ := List.mem_map.mp hx
  obtain ⟨h', o⟩ := q
  cases o with
  | none => exact hs _ (h.st1 _ hq)
  | some iu =>
    obtain ⟨j, hj⟩ := List.mem_iff_getElem?.mp hq
    exact ((h.lk j _ _ _ hj).2.1.lt ok).1
theorem BkOk.len {W : Wb} (ok : WebOk W) {near : List Int} {D st : List Nat} {bk : Bk} (h : BkOk W.ls near D st bk) (hs : ∀ x ∈ st, x < W.n) : bk.length ≤ W.n := by
  have := nodup_le W.n _ h.nd (h.lt ok hs)
  rwa [List.length_map] at this
theorem BkOk.push {ls : List Ln} {near : List Int} {D st : List Nat} {bk : Bk} (h : BkOk ls near D st bk) {u i o : Nat} (hu : u ∈ keysB bk) (ed : Edge ls near u i o) (hd : o ∉ D) (ho : o ∉ keysB bk) : BkOk ls near D st (bk ++ [(o, some (i, u))]) := by
  refine ⟨?_, fun x hx => ?_, fun x hx => ?_, fun j x i' u' e => ?_⟩
  · rw [keysB, List.map_append, List.nodup_append]
    exact ⟨h.nd, by simp, fun a ha b hb => by
      have : b = o := by simpa using hb
      intro z
      exact ho (by rw [← this, ← z]; exact ha)⟩
  · rcases List.mem_append.mp hx with q | q
    · exact h.st1 x q
    · simp at q
  · rw [keysB, List.map_append]
    exact List.mem_append_left _ (h.st2 x hx)
  · have hlen : (keysB bk).length = bk.length := List.length_map ..
    by_cases hj : j < bk.length
    · rw [List.getElem?_append_left hj] at e
      obtain ⟨⟨j', h1, h2⟩, h3⟩ := h.lk j x i' u' e
      refine ⟨⟨j', h1, ?_⟩, h3⟩
      rw [keysB, List.map_append, List.getElem?_append_left (by rw [hlen]; omega)]
      exact h2
    · rw [List.getElem?_append_right (by omega)] at e
      have e0 : j - bk.length = 0 := by
        cases hz : j - bk.length with
        | zero => rfl
        | succ m => rw [hz] at e; simp at e
      rw [e0] at e
      simp at e
      obtain ⟨rfl, rfl, rfl⟩ := e
      obtain ⟨j', hj'⟩ := List.mem_iff_getElem?.mp hu
      have := (List.getElem?_eq_some_iff.mp hj').1
      refine ⟨⟨j', by omega, ?_⟩, ed, hd⟩
      rw [keysB, List.map_append, List.getElem?_append_left this]
      exact hj'
end K8
set_option Elab.async false
set_option linter.all false
namespace K8
/-! ### ways -/
def EdgeC (ls : List Ln) (near : List Int) (c : Int) (u i o : Nat) : Prop := ∃ l x, ls[i]? = some l ∧ near[i]? = some x ∧ ((l.a = u ∧ l.b = o ∧ c ≤ x) ∨ (l.b = u ∧ l.a = o ∧ c ≤ l.r - x))
theorem edge_one {ls : List Ln} {near : List Int} {u i o : Nat} : EdgeC ls near 1 u i o ↔ Edge ls near u i o := Iff.rfl
inductive Way (ls : List Ln) (near : List Int) (c : Int) : Nat → List Nat → Nat → Prop
  | nil (u : Nat) : Way ls near c u [] u
  | cons {u i o v : Nat} {w : List Nat} : EdgeC ls near c u i o → Way ls near c o w v → Way ls near c u (i :: w) v
/-- the lines join, whatever lies on them -/
inductive Chn (ls : List Ln) : Nat → List Nat → Nat → Prop
  | nil (u : Nat) : Chn ls u [] u
  | cons {u i o v : Nat} {w : List Nat} {l : Ln} : ls[i]? = some l → ((l.a = u ∧ l.b = o) ∨ (l.b = u ∧ l.a = o)) → Chn ls o w v → Chn ls u (i :: w) v
theorem Way.chn {ls : List Ln} {near : List Int} {c : Int} {u v : Nat} {w : List Nat} (h : Way ls near c u w v) : Chn ls u w v := by
  induction h with
  | nil u => exact .nil u
  | cons e _ ih =>
    obtain ⟨l, x, h1, _, h2⟩ := e
    exact .cons h1 (h2.elim (fun q => .inl ⟨q.1, q.2.1⟩) fun q => .inr ⟨q.1, q.2.1⟩) ih
def mv (ls : List Ln) : List Int → Nat → List Nat → Int → List Int
  | near, _, [], _ => near
  | near, u, i :: w, c => match ls[i]? with
    | some l => if l.a = u then mv ls (near.set i (near.getD i 0 - c)) l.b w c else mv ls (near.set i (near.getD i 0 + c)) l.a w c
    | none => near
theorem mv_len (ls : List Ln) (c : Int) : ∀ (w : List Nat) (near : List Int) (u : Nat), (mv ls near u w c).length = near.length
  | [], near, u => rfl
  | i :: w, near, u => by
    unfold mv
    cases ls[i]? with
    | none => rfl
    | some l =>
      show (if l.a = u then _ else _ : List Int).length = _
      split
      · rw [mv_len ls c w, List.length_set]
      · rw [mv_len ls c w, List.length_set]
theorem purse_set : ∀ (ls : List Ln) (near : List Int) (i : Nat) (l : Ln) (x x' : Int) (y : Nat), ls[i]? = some l → near[i]? = some x →
    purse ls (near.set i x') y = purse ls near y + ((if l.a = y then x' - x else 0) + (if l.b = y then x - x' else 0))
  | l :: ls, c :: cs, 0, l', x, x', y, h, h2 => by
    simp at h h2
    subst h h2
    show (if l.a = y then x' else 0) + (if l.b = y then l.r - x' else 0) + purse ls cs y = (if l.a = y then c else 0) + (if l.b = y then l.r - c else 0) + purse ls cs y + _
    split <;> split <;> omega
  | l :: ls, c :: cs, i + 1, l', x, x', y, h, h2 => by
    have ih := purse_set ls cs i l' x x' y (by simpa using h) (by simpa using h2)
    show (if l.a = y then c else 0) + (if l.b = y then l.r - c else 0) + purse ls (cs.set i x') y = (if l.a = y then c else 0) + (if l.b = y then l.r - c else 0) + purse ls cs y + _
    rw [ih]
    omega
  | [], _, _, _, _, _, _, h, _ => by simp at h
  | _ :: _, [], _, _, _, _, _, _, h => by simp at h
theorem Split.set {ls : List Ln} {near : List Int} (h : Split ls near) {i : Nat} {l : Ln} {x : Int} (el : ls[i]? = some l) (hx : 0 ≤ x ∧ x ≤ l.r) : Split ls (near.set i x) := by
  refine ⟨by rw [List.length_set]; exact h.1, fun j l' c e1 e2 => ?_⟩
  rw [List.getElem?_set] at e2
  split at e2
  · rename_i hij
    subst hij
    rw [el] at e1
    cases e1
    split at e2
    · cases e2
      exact hx
    · cases e2
  · exact h.2 j l' c e1 e2
theorem Way.set {ls : List Ln} {near : List Int} {c : Int} {u v : Nat} {w : List Nat} (h : Way ls near c u w v) {i : Nat} (x : Int) (hi : i ∉ w) : Way ls (near.set i x) c u w v := by
  induction h with
  | nil u => exact .nil u
  | cons e _ ih =>
    obtain ⟨l, y, h1, h2, h3⟩ := e
    refine .cons ⟨l, y, h1, ?_, h3⟩ (ih fun z => hi (List.mem_cons_of_mem _ z))
    rw [List.getElem?_set, if_neg (fun z => hi (by rw [z]; exact List.mem_cons_self))]
    exact h2
theorem mv_ok {ls : List Ln} {c : Int} (h0 : 0 ≤ c) (ne : ∀ l ∈ ls, l.a ≠ l.b) : ∀ (w : List Nat) (near : List Int) (u v : Nat), Split ls near → Way ls near c u w v → w.Nodup →
    Split ls (mv ls near u w c) ∧ ∀ y, purse ls (mv ls near u w c) y = purse ls near y - (if y = u then c else 0) + (if y = v then c else 0)
  | [], near, u, v, hs, hw, _ => by
    cases hw
    refine ⟨hs, fun y => ?_⟩
    show purse ls near y = _
    split <;> omega
  | i :: w, near, u, v, hs, hw, nd => by
    cases hw with
    | @cons _ _ o _ _ e hw =>
    obtain ⟨l, x, h1, h2, h3⟩ := e
    have hn := ne l (List.mem_of_getElem? h1)
    have hb := hs.2 i l x h1 h2
    have nd' := List.nodup_cons.mp nd
    have hg : near.getD i 0 = x := by rw [List.getD_eq_getElem?_getD, h2]; rfl
    have key : ∀ x', (x' = x - c ∧ l.a = u ∧ l.b = o ∧ c ≤ x) ∨ (x' = x + c ∧ l.b = u ∧ l.a = o ∧ c ≤ l.r - x) → Split ls (mv ls (near.set i x') o w c) ∧ ∀ y, purse ls (mv ls (near.set i x') o w c) y = purse ls near y - (if y = u then c else 0) + (if y = v then c else 0) := by
      intro x' hx
      have hs' : Split ls (near.set i x') := hs.set h1 (by omega)
      obtain ⟨q1, q2⟩ := mv_ok h0 ne w (near.set i x') o v hs' (hw.set x' nd'.1) nd'.2
      refine ⟨q1, fun y => ?_⟩
      rw [q2 y, purse_set ls near i l x x' y h1 h2]
      rcases hx with ⟨e1, e2, e3, _⟩ | ⟨e1, e2, e3, _⟩
      · subst e2 e3 e1
        repeat' split
        all_goals omega
      · subst e2 e3 e1
        repeat' split
        all_goals omega
    unfold mv
    rw [h1]
    show Split ls (if l.a = u then mv ls (near.set i (near.getD i 0 - c)) l.b w c else mv ls (near.set i (near.getD i 0 + c)) l.a w c) ∧ ∀ y, purse ls (if l.a = u then mv ls (near.set i (near.getD i 0 - c)) l.b w c else mv ls (near.set i (near.getD i 0 + c)) l.a w c) y = _
    rw [hg]
    rcases h3 with ⟨e2, e3, e4⟩ | ⟨e2, e3, e4⟩
    · rw [if_pos e2, e3]
      exact key _ (.inl ⟨rfl, e2, e3, e4⟩)
    · rw [if_neg (by omega), e3]
      exact key _ (.inr ⟨rfl, e2, e3, e4⟩)
/-- a smaller amount -/
theorem Way.le {ls : List Ln} {near : List Int} {c c' : Int} {u v : Nat} {w : List Nat} (h : Way ls near c u w v) (hc : c' ≤ c) : Way ls near c' u w v := by
  induction h with
  | nil u => exact .nil u
  | cons e _ ih =>
    obtain ⟨l, y, h1, h2, h3⟩ := e
    refine .cons ⟨l, y, h1, h2, ?_⟩ ih
    rcases h3 with ⟨e1, e2, e3⟩ | ⟨e1, e2, e3⟩
    · exact .inl ⟨e1, e2, by omega⟩
    · exact .inr ⟨e1, e2, by omega⟩
theorem Way.rch {ls : List Ln} {near : List Int} {D st : List Nat} {u v : Nat} {w : List Nat} (h : Way ls near 1 u w v) (hu : Rch ls near [] st u) : Rch ls near [] st v := by
  induction h with
  | nil u => exact hu
  | cons e _ ih => exact ih (.step hu e List.not_mem_nil)
end K8
set_option Elab.async false
set_option linter.all false
namespace K8
/-! ### cuts -/
def cut : List Ln → List Int → (Nat → Bool) → Int
  | l :: ls, c :: cs, X => (if X l.a = true ∧ X l.b = false then c else 0) + (if X l.b = true ∧ X l.a = false then l.r - c else 0) + cut ls cs X
  | _, _, _ => 0
def inside : List Ln → (Nat → Bool) → Int
  | l :: ls, X => (if X l.a = true ∧ X l.b = true then l.r else 0) + inside ls X
  | [], _ => 0
def psum (p : Nat → Int) (X : Nat → Bool) : Nat → Int
  | 0 => 0
  | n + 1 => psum p X n + (if X n = true then p n else 0)
/-- the slack of X: from lines and purses alone -/
def slack (W : Wb) (p : Nat → Int) (X : Nat → Bool) : Int := psum p X W.n - inside W.ls X
theorem psum_congr {p q : Nat → Int} {X : Nat → Bool} : ∀ (n : Nat), (∀ v, v < n → X v = true → p v = q v) → psum p X n = psum q X n
  | 0, _ => rfl
  | n + 1, h => by
    unfold psum
    rw [psum_congr n fun v hv => h v (by omega)]
    by_cases e : X n = true
    · rw [if_pos e, if_pos e, h n (by omega) e]
    · rw [if_neg e, if_neg e]
theorem psum_add (p q : Nat → Int) (X : Nat → Bool) : ∀ (n : Nat), psum (fun v => p v + q v) X n = psum p X n + psum q X n
  | 0 => rfl
  | n + 1 => by
    unfold psum
    rw [psum_add p q X n]
    split <;> omega
theorem psum_sub (p q : Nat → Int) (X : Nat → Bool) : ∀ (n : Nat), psum (fun v => p v - q v) X n = psum p X n - psum q X n
  | 0 => rfl
  | n + 1 => by
    unfold psum
    rw [psum_sub p q X n]
    split <;> omega
theorem psum_at (a : Nat) (c : Int) (X : Nat → Bool) : ∀ (n : Nat), psum (fun v => if a = v then c else 0) X n = if a < n ∧ X a = true then c else 0
  | 0 => by simp [psum]
  | n + 1 => by
    unfold psum
    rw [psum_at a c X n]
    by_cases e : a = n
    · subst e
      by_cases x : X a = true
      · simp [x]
      · simp [x]
    · by_cases h : a < n
      · by_cases x : X a = true
        · have : a < n + 1 := by omega
          by_cases y : X n = true <;> simp [h, x, y, this, e]
        · by_cases y : X n = true <;> simp [x, y, e]
      · have : ¬ a < n + 1 := by omega
        by_cases y : X n = true <;> simp [h, y, this, e]
theorem psum_zero (X : Nat → Bool) : ∀ n, psum (fun _ => 0) X n = 0
  | 0 => rfl
  | n + 1 => by
    unfold psum
    rw [psum_zero X n]
    split <;> rfl
theorem psum_purse (n : Nat) (X : Nat → Bool) : ∀ (ls : List Ln) (near : List Int), near.length = ls.length → (∀ l ∈ ls, l.a < n ∧ l.b < n) → psum (purse ls near) X n = inside ls X + cut ls near X
  | [], [], _, _ => psum_zero X n
  | l :: ls, c :: cs, h, hb => by
    have ih := psum_purse n X ls cs (by simpa using h) fun l' hl => hb l' (List.mem_cons_of_mem _ hl)
    have e : psum (purse (l :: ls) (c :: cs)) X n = psum (fun v => ((if l.a = v then c else 0) + (if l.b = v then l.r - c else 0)) + purse ls cs v) X n := rfl
    have h1 := hb l List.mem_cons_self
    rw [e, psum_add, psum_add, psum_at, psum_at, ih]
    show _ = ((if X l.a = true ∧ X l.b = true then l.r else 0) + inside ls X) + ((if X l.a = true ∧ X l.b = false then c else 0) + (if X l.b = true ∧ X l.a = false then l.r - c else 0) + cut ls cs X)
    by_cases x : X l.a = true <;> by_cases y : X l.b = true <;> simp [x, y, h1.1, h1.2] <;> omega
  | [], _ :: _, h, _ => by simp at h
  | _ :: _, [], h, _ => by simp at h
theorem slack_cut {W : Wb} (ok : WebOk W) {near : List Int} (hn : near.length = W.ls.length) {p : Nat → Int} (hp : ∀ v, v < W.n → p v = purse W.ls near v) (X : Nat → Bool) : slack W p X = cut W.ls near X := by
  unfold slack
  rw [psum_congr W.n fun v hv _ => hp v hv, psum_purse W.n X W.ls near hn fun l hl => by have := ok.2.2.2 l hl; omega]
  omega
theorem cut_nonneg {ls : List Ln} {near : List Int} (X : Nat → Bool) (h : Split ls near) : 0 ≤ cut ls near X := by
  induction ls generalizing near with
  | nil => cases near <;> exact Int.le_refl 0
  | cons l ls ih =>
    cases near with
    | nil => exact Int.le_refl 0
    | cons c cs =>
      have h0 := h.2 0 l c rfl rfl
      have := ih (near := cs) ⟨by simpa using h.1, fun i l' c' e1 e2 => h.2 (i + 1) l' c' (by simpa using e1) (by simpa using e2)⟩
      unfold cut
      split <;> split <;> omega
theorem cut_term {ls : List Ln} {near : List Int} (X : Nat → Bool) (h : Split ls near) {i : Nat} {l : Ln} {c : Int} (e1 : ls[i]? = some l) (e2 : near[i]? = some c) :
    (if X l.a = true ∧ X l.b = false then c else 0) + (if X l.b = true ∧ X l.a = false then l.r - c else 0) ≤ cut ls near X := by
  induction ls generalizing near i with
  | nil => simp at e1
  | cons l0 ls ih =>
    cases near with
    | nil => simp at e2
    | cons c0 cs =>
      have h' : Split ls cs := ⟨by simpa using h.1, fun i l' c' e1 e2 => h.2 (i + 1) l' c' (by simpa using e1) (by simpa using e2)⟩
      cases i with
      | zero =>
        simp at e1 e2
        subst e1 e2
        have := cut_nonneg X h'
        show _ ≤ (if X l0.a = true ∧ X l0.b = false then c0 else 0) + (if X l0.b = true ∧ X l0.a = false then l0.r - c0 else 0) + cut ls cs X
        omega
      | succ i =>
        have := ih h' (by simpa using e1) (by simpa using e2)
        have h0 := h.2 0 l0 c0 rfl rfl
        show _ ≤ (if X l0.a = true ∧ X l0.b = false then c0 else 0) + (if X l0.b = true ∧ X l0.a = false then l0.r - c0 else 0) + cut ls cs X
        have q1 : (0 : Int) ≤ (if X l0.a = true ∧ X l0.b = false then c0 else 0) := by split <;> omega
        have q2 : (0 : Int) ≤ (if X l0.b = true ∧ X l0.a = false then l0.r - c0 else 0) := by split <;> omega
        omega
theorem edge_cut {ls : List Ln} {near : List Int} (X : Nat → Bool) (h : Split ls near) {u i o : Nat} (e : Edge ls near u i o) (hu : X u = true) (ho : X o = false) : 1 ≤ cut ls near X := by
  obtain ⟨l, c, e1, e2, e3⟩ := e
  have := cut_term X h e1 e2
  have hb := h.2 i l c e1 e2
  rcases e3 with ⟨rfl, rfl, h1⟩ | ⟨rfl, rfl, h1⟩
  · rw [if_pos ⟨hu, ho⟩, if_neg (fun z => by rw [ho] at z; exact Bool.false_ne_true z.1)] at this
    omega
  · rw [if_neg (fun z => by rw [ho] at z; exact Bool.false_ne_true z.1), if_pos ⟨hu, ho⟩] at this
    omega
theorem cut_zero {ls : List Ln} {near : List Int} (X : Nat → Bool) (h : Split ls near) (hx : ∀ u i o, Edge ls near u i o → X u = true → X o = true) : cut ls near X = 0 := by
  induction ls generalizing near with
  | nil => cases near <;> rfl
  | cons l ls ih =>
    cases near with
    | nil => rfl
    | cons c cs =>
      have h' : Split ls cs := ⟨by simpa using h.1, fun i l' c' e1 e2 => h.2 (i + 1) l' c' (by simpa using e1) (by simpa using e2)⟩
      have h0 := h.2 0 l c rfl rfl
      have := ih h' fun u i o ⟨l', c', e1, e2, e3⟩ => hx u (i + 1) o ⟨l', c', by simpa using e1, by simpa using e2, e3⟩
      show (if X l.a = true ∧ X l.b = false then c else 0) + (if X l.b = true ∧ X l.a = false then l.r - c else 0) + cut ls cs X = 0
      rw [this]
      have q1 : (if X l.a = true ∧ X l.b = false then c else 0) = 0 := by
        split
        · rename_i z
          by_cases hc : 1 ≤ c
          · have := hx l.a 0 l.b ⟨l, c, rfl, rfl, .inl ⟨rfl, rfl, hc⟩⟩ z.1
            rw [z.2] at this
            cases this
          · omega
        · rfl
      have q2 : (if X l.b = true ∧ X l.a = false then l.r - c else 0) = 0 := by
        split
        · rename_i z
          by_cases hc : 1 ≤ l.r - c
          · have := hx l.b 0 l.a ⟨l, c, rfl, rfl, .inr ⟨rfl, rfl, hc⟩⟩ z.1
            rw [z.2] at this
            cases this
          · omega
        · rfl
      omega
theorem rch_in {ls : List Ln} {near : List Int} {D st : List Nat} {v : Nat} (h : Rch ls near D st v) (X : Nat → Bool) (hs : ∀ s ∈ st, X s = true) (hx : ∀ u i o, Edge ls near u i o → o ∉ D → X u = true → X o = true) : X v = true := by
  induction h with
  | base q => exact hs _ q
  | step _ e hd ih => exact hx _ _ _ e hd ih
theorem rch_cut {ls : List Ln} {near : List Int} {st : List Nat} {v : Nat} (hsp : Split ls near) (h : Rch ls near [] st v) (X : Nat → Bool) (hs : ∀ s ∈ st, X s = true) (hv : X v = false) : 1 ≤ cut ls near X := by
  by_cases z : 1 ≤ cut ls near X
  · exact z
  · have := rch_in h X hs fun u i o e _ hu => by
      cases ho : X o with
      | true => rfl
      | false => exact absurd (edge_cut X hsp e hu ho) z
    rw [hv] at this
    cases this
/-- what is reached, as a set -/
noncomputable def rset (ls : List Ln) (near : List Int) (D st : List Nat) : Nat → Bool := fun v => @decide (Rch ls near D st v) (Classical.propDecidable _)
theorem rset_iff {ls : List Ln} {near : List Int} {D st : List Nat} {v : Nat} : rset ls near D st v = true ↔ Rch ls near D st v := by
  unfold rset
  exact @decide_eq_true_iff _ (Classical.propDecidable _)
theorem rset_not {ls : List Ln} {near : List Int} {D st : List Nat} {v : Nat} : rset ls near D st v = false ↔ ¬ Rch ls near D st v := by
  rw [← rset_iff]
  cases rset ls near D st v <;> simp
theorem rset_cut {ls : List Ln} {near : List Int} {st : List Nat} (hsp : Split ls near) : cut ls near (rset ls near [] st) = 0 :=
  cut_zero _ hsp fun u i o e hu => rset_iff.mpr (.step (rset_iff.mp hu) e List.not_mem_nil)
/-- c coins from h to t -/
def shift (p : Nat → Int) (h t : Nat) (c : Int) : Nat → Int := fun y => p y - (if y = h then c else 0) + (if y = t then c else 0)
theorem psum_shift {p : Nat → Int} {h t : Nat} {c : Int} (X : Nat → Bool) {n : Nat} (hh : h < n) (ht : t < n) : psum (shift p h t c) X n = psum p X n - (if X h = true then c else 0) + (if X t = true then c else 0) := by
  have e : psum (shift p h t c) X n = psum (fun v => (p v - (if h = v then c else 0)) + (if t = v then c else 0)) X n := psum_congr n fun v _ _ => by
    unfold shift
    congr 1
    · congr 1
      by_cases z : v = h
      · rw [if_pos z, if_pos z.symm]
      · rw [if_neg z, if_neg fun q => z q.symm]
    · by_cases z : v = t
      · rw [if_pos z, if_pos z.symm]
      · rw [if_neg z, if_neg fun q => z q.symm]
  rw [e, psum_add, psum_sub, psum_at, psum_at]
  simp [hh, ht]
theorem slack_shift {W : Wb} {p : Nat → Int} {h t : Nat} {c : Int} (X : Nat → Bool) (hh : h < W.n) (ht : t < W.n) : slack W (shift p h t c) X = slack W p X - (if X h = true then c else 0) + (if X t = true then c else 0) := by
  unfold slack
  rw [psum_shift X hh ht]
  omega
/-- a standing: the purses of some split -/
def Stand (W : Wb) (p : Nat → Int) : Prop := ∃ near, Split W.ls near ∧ ∀ v, v < W.n → p v = purse W.ls near v
theorem Stand.slack {W : Wb} (ok : WebOk W) {p : Nat → Int} (h : Stand W p) (X : Nat → Bool) : 0 ≤ slack W p X := by
  obtain ⟨near, hs, hp⟩ := h
  rw [slack_cut ok hs.1 hp]
  exact cut_nonneg X hs
/-- all of it is inside -/
def total (W : Wb) : Int := inside W.ls fun _ => true
theorem Stand.total {W : Wb} (ok : WebOk W) {p : Nat → Int} (h : Stand W p) : psum p (fun _ => true) W.n = total W := by
  obtain ⟨near, hs, hp⟩ := h
  have := slack_cut ok hs.1 hp fun _ => true
  rw [cut_zero _ hs fun _ _ _ _ _ => rfl] at this
  unfold K8.slack at this
  unfold K8.total
  omega
end K8
set_option Elab.async false
set_option linter.all false
namespace K8
theorem psum_le {p q : Nat → Int} {X : Nat → Bool} : ∀ (n : Nat), (∀ v, v < n → X v = true → q v ≤ p v) → psum q X n ≤ psum p X n
  | 0, _ => Int.le_refl 0
  | n + 1, h => by
    have := psum_le n fun v hv => h v (by omega)
    unfold psum
    by_cases e : X n = true
    · have := h n (by omega) e
      rw [if_pos e, if_pos e]; omega
    · rw [if_neg e, if_neg e]; omega
theorem psum_lt {p q : Nat → Int} {X : Nat → Bool} : ∀ (n : Nat), (∀ v, v < n → X v = true → q v ≤ p v) → ∀ a, a < n → X a = true → q a < p a → psum q X n < psum p X n
  | 0, _, a, ha, _, _ => absurd ha (Nat.not_lt_zero a)
  | n + 1, h, a, ha, hx, hl => by
    by_cases z : a = n
    · subst z
      have := psum_le a (p := p) (q := q) (X := X) fun v hv => h v (by omega)
      unfold psum
      rw [if_pos hx, if_pos hx]; omega
    · have := psum_lt n (fun v hv => h v (by omega)) a (by omega) hx hl
      unfold psum
      by_cases e : X n = true
      · have := h n (by omega) e
        rw [if_pos e, if_pos e]; omega
      · rw [if_neg e, if_neg e]; omega
theorem psum_eq {p q : Nat → Int} {n : Nat} (h : ∀ v, v < n → q v ≤ p v) (e : psum q (fun _ => true) n = psum p (fun _ => true) n) : ∀ v, v < n → q v = p v := fun v hv => by
  by_cases z : q v < p v
  · have := psum_lt (X := fun _ => true) n (fun v hv _ => h v hv) v hv rfl z
    omega
  · have := h v hv
    omega
theorem psum_list : ∀ (xs : List Int) (n : Nat), n ≤ xs.length → psum (fun v => xs.getD v 0) (fun _ => true) n = (xs.take n).sum
  | xs, 0, _ => by rw [List.take_zero]; rfl
  | xs, n + 1, h => by
    unfold psum
    rw [psum_list xs n (by omega), List.take_add_one, List.getElem?_eq_getElem (show n < xs.length by omega), List.sum_append, if_pos rfl, List.getD_eq_getElem?_getD, List.getElem?_eq_getElem (show n < xs.length by omega)]
    simp
theorem inside_all : ∀ ls : List Ln, inside ls (fun _ => true) = (ls.map Ln.r).sum
  | [] => rfl
  | l :: ls => by
    show (if true = true ∧ true = true then l.r else 0) + inside ls _ = _
    rw [inside_all ls, if_pos ⟨rfl, rfl⟩, List.map_cons, List.sum_cons]
/-- the excess -/
def exc (p g : Nat → Int) (n : Nat) : Int := psum (fun v => max 0 (p v - g v)) (fun _ => true) n
theorem exc_nonneg {p g : Nat → Int} {n : Nat} : 0 ≤ exc p g n := by
  have := psum_le (p := fun v => max 0 (p v - g v)) (q := fun _ => 0) (X := fun _ => true) n fun v _ _ => by
    show (0 : Int) ≤ max 0 (p v - g v)
    omega
  rw [psum_zero] at this
  exact this
theorem exc_shift {p g : Nat → Int} {n h t : Nat} {c : Int} (hh : h < n) (ht : t < n) (hc : 0 ≤ c) (h1 : c ≤ p h - g h) (h2 : c ≤ g t - p t) (p' : Nat → Int) (hp : ∀ v, v < n → p' v = p v - (if v = h then c else 0) + (if v = t then c else 0)) (c1 : 1 ≤ c) : exc p' g n < exc p g n := by
  unfold exc
  refine psum_lt n (fun v hv _ => ?_) h hh rfl ?_
  · show max 0 (p' v - g v) ≤ max 0 (p v - g v)
    rw [hp v hv]
    by_cases e1 : v = h
    · by_cases e2 : v = t
      · rw [if_pos e1, if_pos e2]; omega
      · rw [if_pos e1, if_neg e2]; omega
    · by_cases e2 : v = t
      · subst e2
        rw [if_neg e1, if_pos rfl]; omega
      · rw [if_neg e1, if_neg e2]; omega
  · show max 0 (p' h - g h) < max 0 (p h - g h)
    rw [hp h hh, if_pos rfl, if_neg (fun z => by subst z; omega)]
    omega
theorem purse_total {W : Wb} (ok : WebOk W) {near : List Int} (h : Split W.ls near) : psum (purse W.ls near) (fun _ => true) W.n = total W :=
  Stand.total ok ⟨near, h, fun _ _ => rfl⟩
/-- none under the goal among what is reached from those above it: then none is above it -/
theorem no_under {W : Wb} (ok : WebOk W) {near : List Int} (hs : Split W.ls near) {g : Nat → Int} (hg : Stand W g) {st : List Nat} (hst : ∀ v, v ∈ st → v < W.n ∧ g v < purse W.ls near v) (hu : ∀ v, v < W.n → Rch W.ls near [] st v → g v ≤ purse W.ls near v) : st = [] := by
  cases st with
  | nil => rfl
  | cons h r =>
    exfalso
    have h0 := hst h List.mem_cons_self
    have e1 := rset_cut (st := h :: r) hs
    have e2 := slack_cut ok hs.1 (p := purse W.ls near) (fun _ _ => rfl) (rset W.ls near [] (h :: r))
    have e3 := hg.slack ok (rset W.ls near [] (h :: r))
    have e4 := psum_lt (p := purse W.ls near) (q := g) (X := rset W.ls near [] (h :: r)) W.n (fun v hv hx => hu v hv (rset_iff.mp hx)) h h0.1 (rset_iff.mpr (.base List.mem_cons_self)) h0.2
    unfold slack at e2 e3
    omega
end K8
set_option Elab.async false
set_option linter.all false
namespace K8
theorem purse_nonneg : ∀ {ls : List Ln} {near : List Int} (v : Nat), Split ls near → 0 ≤ purse ls near v
  | [], [], _, _ => Int.le_refl 0
  | l :: ls, c :: cs, v, h => by
    have h0 := h.2 0 l c rfl rfl
    have := purse_nonneg (ls := ls) (near := cs) v ⟨by simpa using h.1, fun i l' c' e1 e2 => h.2 (i + 1) l' c' (by simpa using e1) (by simpa using e2)⟩
    unfold purse
    split <;> split <;> omega
  | [], _ :: _, _, h => by have := h.1; simp at this
  | _ :: _, [], _, h => by have := h.1; simp at this
theorem turn_split {ls : List Ln} {near : List Int} (h : Split ls near) : Split ls (turn ls near) := by
  refine ⟨turn_len _ _ h.1, fun i l c e1 e2 => ?_⟩
  have hi : i < near.length := by rw [h.1]; exact (List.getElem?_eq_some_iff.mp e1).1
  have e3 : near[i]? = some near[i] := List.getElem?_eq_getElem hi
  have := h.2 i l _ e1 e3
  rw [turn_get _ _ _ _ _ e1 e3] at e2
  cases e2
  omega
theorem turn_cut : ∀ (ls : List Ln) (near : List Int) (X : Nat → Bool), near.length = ls.length → cut ls (turn ls near) X = cut ls near fun v => !X v
  | [], [], _, _ => rfl
  | l :: ls, c :: cs, X, h => by
    have ih := turn_cut ls cs X (by simpa using h)
    show (if X l.a = true ∧ X l.b = false then l.r - c else 0) + (if X l.b = true ∧ X l.a = false then l.r - (l.r - c) else 0) + cut ls (turn ls cs) X = (if (!X l.a) = true ∧ (!X l.b) = false then c else 0) + (if (!X l.b) = true ∧ (!X l.a) = false then l.r - c else 0) + cut ls cs _
    rw [ih]
    cases X l.a <;> cases X l.b <;> simp <;> omega
  | [], _ :: _, _, h => by simp at h
  | _ :: _, [], _, h => by simp at h
/-- a coin can go from h to v -/
def Reaches (W : Wb) (p : Nat → Int) (h v : Nat) : Prop := ∀ X : Nat → Bool, X h = true → X v = false → 1 ≤ slack W p X
theorem rch_reaches {W : Wb} (ok : WebOk W) {near : List Int} (hs : Split W.ls near) {p : Nat → Int} (hp : ∀ v, v < W.n → p v = purse W.ls near v) (h v : Nat) : Rch W.ls near [] [h] v ↔ Reaches W p h v := by
  constructor
  · intro r X x1 x2
    rw [slack_cut ok hs.1 hp]
    exact rch_cut hs r X (by simpa using x1) x2
  · intro r
    by_cases z : Rch W.ls near [] [h] v
    · exact z
    · have := r (rset W.ls near [] [h]) (rset_iff.mpr (.base List.mem_cons_self)) (rset_not.mpr z)
      rw [slack_cut ok hs.1 hp, rset_cut hs] at this
      omega
theorem rch_turn {W : Wb} (ok : WebOk W) {near : List Int} (hs : Split W.ls near) {p : Nat → Int} (hp : ∀ v, v < W.n → p v = purse W.ls near v) (h v : Nat) : Rch W.ls (turn W.ls near) [] [h] v ↔ Reaches W p v h := by
  constructor
  · intro r X x1 x2
    rw [slack_cut ok hs.1 hp]
    have := rch_cut (turn_split hs) r (fun v => !X v) (by simpa using x2) (by simpa using x1)
    rw [turn_cut _ _ _ hs.1] at this
    simpa using this
  · intro r
    by_cases z : Rch W.ls (turn W.ls near) [] [h] v
    · exact z
    · have x1 : rset W.ls (turn W.ls near) [] [h] h = true := rset_iff.mpr (.base List.mem_cons_self)
      have x2 : rset W.ls (turn W.ls near) [] [h] v = false := rset_not.mpr z
      have := r (fun v => !rset W.ls (turn W.ls near) [] [h] v) (by rw [x2]; rfl) (by rw [x1]; rfl)
      rw [slack_cut ok hs.1 hp, ← turn_cut _ _ _ hs.1, rset_cut (turn_split hs)] at this
      omega
end K8
set_option Elab.async false
set_option linter.all false
namespace K8
/-! ### peeling -/
noncomputable def lotOf (W : Wb) (near : List Int) (D : List Nat) (h : Nat) : List Nat := (List.range W.n).filter (rset W.ls near D [h])
noncomputable def peelL (W : Wb) (near : List Int) : List (Nat × Bool) → List Nat → List (List Nat)
  | [], _ => []
  | (h, b) :: r, D => if h ∈ D then peelL W near r D else
      lotOf W (if b = true then near else turn W.ls near) D h :: peelL W near r (D ++ lotOf W (if b = true then near else turn W.ls near) D h)
theorem mem_lot {W : Wb} {near : List Int} {D : List Nat} {h v : Nat} : v ∈ lotOf W near D h ↔ v < W.n ∧ Rch W.ls near D [h] v := by
  unfold lotOf
  rw [List.mem_filter, List.mem_range, rset_iff]
theorem lot_pw {W : Wb} {near : List Int} {D : List Nat} {h : Nat} : (lotOf W near D h).Pairwise (· < ·) := by
  unfold lotOf
  refine List.Pairwise.filter _ ?_
  generalize W.n = n
  induction n with
  | zero => exact List.Pairwise.nil
  | succ n ih =>
    rw [List.range_succ, List.pairwise_append]
    refine ⟨ih, List.pairwise_singleton _ _, fun a ha b hb => ?_⟩
    rw [List.mem_range] at ha
    have : b = n := by simpa using hb
    omega
theorem lot_nd {W : Wb} {near : List Int} {D : List Nat} {h : Nat} : (lotOf W near D h).Nodup := lot_pw.imp fun q => Nat.ne_of_lt q
theorem rch_out {ls : List Ln} {near : List Int} {D : List Nat} {h v : Nat} (r : Rch ls near D [h] v) (hh : h ∉ D) : v ∉ D := by
  induction r with
  | base q => rw [List.mem_singleton.mp q]; exact hh
  | step _ _ hd _ => exact hd
theorem lot_out {W : Wb} {near : List Int} {D : List Nat} {h v : Nat} (m : v ∈ lotOf W near D h) (hh : h ∉ D) : v ∉ D := rch_out (mem_lot.mp m).2 hh
theorem lot_self {W : Wb} {near : List Int} {D : List Nat} {h : Nat} (hh : h < W.n) : h ∈ lotOf W near D h := mem_lot.mpr ⟨hh, .base List.mem_cons_self⟩
theorem lot_app {W : Wb} {near : List Int} {D : List Nat} {h : Nat} (nd : D.Nodup) (hh : h ∉ D) : (D ++ lotOf W near D h).Nodup := by
  rw [List.nodup_append]
  exact ⟨nd, lot_nd, fun a ha b hb z => lot_out hb hh (by rw [← z]; exact ha)⟩
end K8
set_option Elab.async false
set_option linter.all false
namespace K8
/-! ### classes -/
def Both (W : Wb) (p : Nat → Int) (c : Int) (a b : Nat) : Prop := (∀ X : Nat → Bool, X a = true → X b = false → c ≤ slack W p X) ∧ ∀ X : Nat → Bool, X b = true → X a = false → c ≤ slack W p X
theorem Both.symm {W : Wb} {p : Nat → Int} {c : Int} {a b : Nat} (h : Both W p c a b) : Both W p c b a := ⟨h.2, h.1⟩
theorem Both.trans {W : Wb} {p : Nat → Int} {c : Int} {a b d : Nat} (h : Both W p c a b) (g : Both W p c b d) : Both W p c a d := by
  refine ⟨fun X x1 x2 => ?_, fun X x1 x2 => ?_⟩
  · cases e : X b with
    | true => exact g.1 X e x2
    | false => exact h.1 X x1 e
  · cases e : X b with
    | true => exact h.2 X e x2
    | false => exact g.2 X x1 e
/-- the least of its class, for the first n houses -/
def IsClass (n : Nat) (R : Nat → Nat → Prop) (xs : List Nat) : Prop := xs.length = n ∧ ∀ (v : Nat), v < n → ∃ m, xs[v]? = some m ∧ m ≤ v ∧ (m = v ∨ R m v) ∧ ∀ m', m' < m → ¬ R m' v
theorem IsClass.uniq {n : Nat} {R : Nat → Nat → Prop} {xs ys : List Nat} (h : IsClass n R xs) (g : IsClass n R ys) : xs = ys := by
  refine List.ext_getElem? fun v => ?_
  by_cases hv : v < n
  · obtain ⟨m, e1, a1, b1, c1⟩ := h.2 v hv
    obtain ⟨k, e2, a2, b2, c2⟩ := g.2 v hv
    rw [e1, e2]
    congr 1
    rcases Nat.lt_trichotomy m k with z | z | z
    · rcases b1 with rfl | b1
      · omega
      · exact absurd b1 (c2 m z)
    · exact z
    · rcases b2 with rfl | b2
      · omega
      · exact absurd b2 (c1 k z)
  · rw [List.getElem?_eq_none (by rw [h.1]; omega), List.getElem?_eq_none (by rw [g.1]; omega)]
/-- none was found below: none is -/
theorem class_none {h i : Nat} {R : Nat → Nat → Prop} (tr : ∀ a b c, R a b → R b c → R a c) {xs : List Nat} (cl : IsClass h R xs) (hi : i ≤ h) (no : ∀ o, o < i → ¬ (xs[o]? = some o ∧ R o h)) : ∀ m, m < i → ¬ R m h := by
  intro m hm r
  obtain ⟨k, e, a, b, c⟩ := cl.2 m (by omega)
  have rk : R k h := by
    rcases b with rfl | b
    · exact r
    · exact tr _ _ _ b r
  refine no k (by omega) ⟨?_, rk⟩
  obtain ⟨k2, e2, a2, b2, c2⟩ := cl.2 k (by omega)
  rw [e2]
  congr 1
  rcases b2 with b2 | b2
  · exact b2
  · rcases Nat.lt_or_ge k2 k with z | z
    · rcases b with rfl | b
      · exact absurd b2 (c k2 z)
      · exact absurd (tr _ _ _ b2 b) (c k2 z)
    · omega
theorem IsClass.snoc {h m : Nat} {R : Nat → Nat → Prop} {xs : List Nat} (cl : IsClass h R xs) (h1 : m ≤ h) (h2 : m = h ∨ R m h) (h3 : ∀ m', m' < m → ¬ R m' h) : IsClass (h + 1) R (xs ++ [m]) := by
  refine ⟨by rw [List.length_append, cl.1]; rfl, fun v hv => ?_⟩
  by_cases z : v < h
  · obtain ⟨k, e, q⟩ := cl.2 v z
    exact ⟨k, by rw [List.getElem?_append_left (by rw [cl.1]; exact z)]; exact e, q⟩
  · have : v = h := by omega
    subst this
    exact ⟨m, by rw [List.getElem?_append_right (by rw [cl.1]; omega), cl.1, Nat.sub_self]; rfl, h1, h2, h3⟩
end K8
set_option Elab.async false
set_option linter.all false
namespace K8
theorem inside_take : ∀ (ls : List Ln) (i : Nat) (l : Ln) (X : Nat → Bool), ls[i]? = some l → inside (ls.take (i + 1)) X = inside (ls.take i) X + (if X l.a = true ∧ X l.b = true then l.r else 0)
  | l :: ls, 0, l', X, h => by
    simp at h
    subst h
    show (if X l.a = true ∧ X l.b = true then l.r else 0) + 0 = 0 + _
    omega
  | l :: ls, i + 1, l', X, h => by
    have ih := inside_take ls i l' X (by simpa using h)
    show (if X l.a = true ∧ X l.b = true then l.r else 0) + inside (ls.take (i + 1)) X = (if X l.a = true ∧ X l.b = true then l.r else 0) + inside (ls.take i) X + _
    rw [ih]
    omega
  | [], _, _, _, h => by simp at h
/-- membership -/
def memB (l : List Nat) : Nat → Bool := fun v => decide (v ∈ l)
theorem memB_iff {l : List Nat} {v : Nat} : memB l v = true ↔ v ∈ l := decide_eq_true_iff
theorem memB_not {l : List Nat} {v : Nat} : memB l v = false ↔ v ∉ l := decide_eq_false_iff_not
theorem psum_cons {p : Nat → Int} {a : Nat} {l : List Nat} (ha : a ∉ l) : ∀ n, psum p (memB (a :: l)) n = psum p (memB l) n + (if a < n then p a else 0)
  | 0 => rfl
  | n + 1 => by
    unfold psum
    rw [psum_cons ha n]
    by_cases z : a = n
    · subst z
      rw [if_pos (memB_iff.mpr List.mem_cons_self), if_neg (fun h => ha (memB_iff.mp h)), if_neg (Nat.lt_irrefl a), if_pos (Nat.lt_succ_self a)]
    · have e : memB (a :: l) n = memB l n := by
        unfold memB
        rw [decide_eq_decide, List.mem_cons]
        exact ⟨fun h => h.elim (fun h => absurd h.symm z) id, .inr⟩
      rw [e]
      by_cases h : a < n
      · rw [if_pos h, if_pos (show a < n + 1 by omega)]
        split <;> omega
      · rw [if_neg h, if_neg (show ¬ a < n + 1 by omega)]
        split <;> omega
theorem psum_mem {p : Nat → Int} {n : Nat} : ∀ {l : List Nat}, l.Nodup → (∀ x ∈ l, x < n) → psum p (memB l) n = (l.map p).sum
  | [], _, _ => by
    have : psum p (memB []) n = psum (fun _ => 0) (memB []) n := psum_congr n fun v _ h => absurd (memB_iff.mp h) List.not_mem_nil
    rw [this, psum_zero]
    rfl
  | a :: l, nd, h => by
    have nd' := List.nodup_cons.mp nd
    rw [psum_cons nd'.1, psum_mem nd'.2 fun x hx => h x (List.mem_cons_of_mem _ hx), if_pos (h a List.mem_cons_self), List.map_cons, List.sum_cons]
    omega
end K8
set_option Elab.async false
set_option linter.all false
namespace K8
theorem Way.snoc {ls : List Ln} {near : List Int} {c : Int} {u v o i : Nat} {w : List Nat} (h : Way ls near c u w v) (e : EdgeC ls near c v i o) : Way ls near c u (w ++ [i]) o := by
  induction h with
  | nil u => exact .cons e (.nil o)
  | cons e' _ ih => exact .cons e' (ih e)
theorem ways_grow {W : Wb} (ok : WebOk W) {near : List Int} {h t : Nat} (hh : h < W.n) (hr : Rch W.ls near [] [h] t) : ∀ (m : Nat) (V : List Nat), W.n - V.length = m → V.Nodup → (∀ v ∈ V, v < W.n) → h ∈ V →
    (∀ v ∈ V, ∃ w, Way W.ls near 1 h w v ∧ w.Nodup ∧ ∀ i ∈ w, ∀ l, W.ls[i]? = some l → l.a ∈ V ∧ l.b ∈ V) → ∃ w, Way W.ls near 1 h w t ∧ w.Nodup := by
  intro m
  induction m with
  | zero =>
    intro V hm nd hlt hV hw
    by_cases ht : t ∈ V
    · obtain ⟨w, h1, h2, _⟩ := hw t ht
      exact ⟨w, h1, h2⟩
    · exfalso
      have h1 := nodup_le W.n (t :: V) (List.nodup_cons.mpr ⟨ht, nd⟩) fun v hv => by
        rcases List.mem_cons.mp hv with z | z
        · rw [z]
          cases hr with
          | base q => rw [List.mem_singleton.mp q]; exact hh
          | step _ e _ => exact (e.lt ok).1
        · exact hlt v z
      rw [List.length_cons] at h1
      omega
  | succ m ih =>
    intro V hm nd hlt hV hw
    by_cases ht : t ∈ V
    · obtain ⟨w, h1, h2, _⟩ := hw t ht
      exact ⟨w, h1, h2⟩
    · by_cases hx : ∃ u i o, Edge W.ls near u i o ∧ u ∈ V ∧ o ∉ V
      · obtain ⟨u, i, o, ed, hu, ho⟩ := hx
        have hol := (ed.lt ok).1
        refine ih (o :: V) (by rw [List.length_cons]; omega) (List.nodup_cons.mpr ⟨ho, nd⟩) (fun v hv => ?_) (List.mem_cons_of_mem _ hV) fun v hv => ?_
        · rcases List.mem_cons.mp hv with z | z
          · rw [z]; exact hol
          · exact hlt v z
        · rcases List.mem_cons.mp hv with z | z
          · subst z
            obtain ⟨w, h1, h2, h3⟩ := hw u hu
            obtain ⟨l, x, el, ex, hor⟩ := ed
            have hends : (l.a ∈ v :: V ∧ l.b ∈ v :: V) ∧ ¬ (l.a ∈ V ∧ l.b ∈ V) := by
              rcases hor with ⟨e1, e2, _⟩ | ⟨e1, e2, _⟩
              · rw [e1, e2]
                exact ⟨⟨List.mem_cons_of_mem _ hu, List.mem_cons_self⟩, fun z => ho z.2⟩
              · rw [e1, e2]
                exact ⟨⟨List.mem_cons_self, List.mem_cons_of_mem _ hu⟩, fun z => ho z.1⟩
            have hiw : i ∉ w := fun z => hends.2 (h3 i z l el)
            refine ⟨w ++ [i], h1.snoc ⟨l, x, el, ex, hor⟩, ?_, fun i' hi' l' el' => ?_⟩
            · rw [List.nodup_append]
              exact ⟨h2, by simp, fun a ha b hb z => hiw (by rw [← List.mem_singleton.mp hb, ← z]; exact ha)⟩
            · rcases List.mem_append.mp hi' with z | z
              · have := h3 i' z l' el'
                exact ⟨List.mem_cons_of_mem _ this.1, List.mem_cons_of_mem _ this.2⟩
              · rw [List.mem_singleton.mp z, el] at el'
                cases el'
                exact hends.1
          · obtain ⟨w, h1, h2, h3⟩ := hw v z
            exact ⟨w, h1, h2, fun i' hi' l' el' => ⟨List.mem_cons_of_mem _ (h3 i' hi' l' el').1, List.mem_cons_of_mem _ (h3 i' hi' l' el').2⟩⟩
      · exfalso
        have := rch_in hr (memB V) (fun s hs => memB_iff.mpr (by rw [List.mem_singleton.mp hs]; exact hV)) fun u i o e _ hu => by
          by_cases z : o ∈ V
          · exact memB_iff.mpr z
          · exact absurd ⟨u, i, o, e, memB_iff.mp hu, z⟩ hx
        exact ht (memB_iff.mp this)
/-- one coin goes -/
theorem Stand.coin {W : Wb} (ok : WebOk W) {p : Nat → Int} {h t : Nat} (hh : h < W.n) (s : Stand W p) (hr : Reaches W p h t) : Stand W (shift p h t 1) := by
  obtain ⟨near, hs, hp⟩ := s
  have r := (rch_reaches ok hs hp h t).mpr hr
  obtain ⟨w, hw, nd⟩ := ways_grow ok hh r (W.n - 1) [h] rfl (by simp) (by simpa using hh) List.mem_cons_self fun v hv => by
    rw [List.mem_singleton.mp hv]
    exact ⟨[], .nil h, List.nodup_nil, fun i hi => absurd hi List.not_mem_nil⟩
  obtain ⟨m1, m2⟩ := mv_ok (c := 1) (by omega) (fun l hl => by have := ok.2.2.2 l hl; omega) w near h t hs hw nd
  refine ⟨_, m1, fun v hv => ?_⟩
  rw [m2 v]
  show p v - _ + _ = _
  rw [hp v hv]
def IsLeast (W : Wb) (p : Nat → Int) (h t : Nat) (k : Int) : Prop := (∃ X : Nat → Bool, X h = true ∧ X t = false ∧ slack W p X = k) ∧ ∀ X : Nat → Bool, X h = true → X t = false → k ≤ slack W p X
theorem inside_one {ls : List Ln} (ne : ∀ l ∈ ls, l.a ≠ l.b) (h : Nat) : inside ls (memB [h]) = 0 := by
  induction ls with
  | nil => rfl
  | cons l r ih =>
    show (if memB [h] l.a = true ∧ memB [h] l.b = true then l.r else 0) + inside r _ = 0
    rw [ih fun x hx => ne x (List.mem_cons_of_mem _ hx), if_neg]
    · rfl
    · rintro ⟨z1, z2⟩
      have e1 := List.mem_singleton.mp (memB_iff.mp z1)
      have e2 := List.mem_singleton.mp (memB_iff.mp z2)
      exact ne l List.mem_cons_self (e1.trans e2.symm)
theorem slack_one {W : Wb} (ok : WebOk W) {p : Nat → Int} {h : Nat} (hh : h < W.n) : slack W p (memB [h]) = p h := by
  unfold slack
  rw [inside_one (fun l hl => by have := ok.2.2.2 l hl; omega), psum_mem (by simp) (by simpa using hh)]
  simp
theorem many_least {W : Wb} (ok : WebOk W) {p : Nat → Int} {h t : Nat} (hh : h < W.n) (ht : t < W.n) (hne : h ≠ t) {k : Int} (s : Stand W (shift p h t k)) (hor : ¬ Stand W (shift p h t (k + 1)) ∨ k = p h) : IsLeast W p h t k := by
  have low : ∀ X : Nat → Bool, X h = true → X t = false → k ≤ slack W p X := fun X x1 x2 => by
    have := s.slack ok X
    rw [slack_shift X hh ht, x1, x2] at this
    simp at this
    omega
  refine ⟨?_, low⟩
  rcases hor with hor | rfl
  · by_cases z : ∃ X : Nat → Bool, X h = true ∧ X t = false ∧ slack W p X = k
    · exact z
    · exfalso
      apply hor
      have hr : Reaches W (shift p h t k) h t := fun X x1 x2 => by
        have h1 := low X x1 x2
        have h2 : slack W p X ≠ k := fun e => z ⟨X, x1, x2, e⟩
        rw [slack_shift X hh ht, x1, x2]
        simp
        omega
      obtain ⟨near, q1, q2⟩ := s.coin ok hh hr
      refine ⟨near, q1, fun v hv => ?_⟩
      rw [← q2 v hv]
      unfold shift
      by_cases a : v = h
      · by_cases b : v = t
        · simp [a, b]; omega
        · simp [a, b, hne]; omega
      · by_cases b : v = t
        · simp [a, b]; omega
        · simp [a, b]
  · exact ⟨memB [h], memB_iff.mpr List.mem_cons_self, memB_not.mpr fun z => hne (List.mem_singleton.mp z).symm, slack_one ok hh⟩
theorem slack_congr {W : Wb} (ok : WebOk W) {p : Nat → Int} {X Y : Nat → Bool} (h : ∀ v, v < W.n → X v = Y v) : slack W p X = slack W p Y := by
  have e1 : ∀ m, m ≤ W.n → psum p X m = psum p Y m := by
    intro m
    induction m with
    | zero => intro _; rfl
    | succ m ih =>
      intro hm
      unfold psum
      rw [ih (by omega), h m (by omega)]
  have e2 : ∀ ls : List Ln, (∀ l ∈ ls, l.a < W.n ∧ l.b < W.n) → inside ls X = inside ls Y := by
    intro ls
    induction ls with
    | nil => intro _; rfl
    | cons l r ih =>
      intro hl
      have := hl l List.mem_cons_self
      show (if X l.a = true ∧ X l.b = true then l.r else 0) + inside r X = (if Y l.a = true ∧ Y l.b = true then l.r else 0) + inside r Y
      rw [ih fun x hx => hl x (List.mem_cons_of_mem _ hx), h _ this.1, h _ this.2]
  unfold slack
  rw [e1 _ (Nat.le_refl _), e2 _ fun l hl => by have := ok.2.2.2 l hl; omega]
/-- the lot of a set -/
def lotS (n : Nat) (X : Nat → Bool) : List Nat := (List.range n).filter X
theorem mem_lotS {n : Nat} {X : Nat → Bool} {v : Nat} : v ∈ lotS n X ↔ v < n ∧ X v = true := by
  unfold lotS
  rw [List.mem_filter, List.mem_range]
theorem lotS_eq {n : Nat} {X : Nat → Bool} {v : Nat} (h : v < n) : memB (lotS n X) v = X v := by
  cases e : X v with
  | true => exact memB_iff.mpr (mem_lotS.mpr ⟨h, e⟩)
  | false => exact memB_not.mpr fun z => by rw [(mem_lotS.mp z).2] at e; cases e
theorem lotS_pw {n : Nat} {X : Nat → Bool} : (lotS n X).Pairwise (· < ·) := by
  unfold lotS
  refine List.Pairwise.filter _ ?_
  induction n with
  | zero => exact List.Pairwise.nil
  | succ n ih =>
    rw [List.range_succ, List.pairwise_append]
    refine ⟨ih, List.pairwise_singleton _ _, fun a ha b hb => ?_⟩
    rw [List.mem_range] at ha
    have : b = n := by simpa using hb
    omega
theorem sumR_le {ls : List Ln} (h : ∀ l ∈ ls, 1 ≤ l.r) (pr : List Ln → Int) (h0 : pr [] = 1) (h1 : ∀ l r, pr (l :: r) = (l.r + 1) * pr r) : inside ls (fun _ => true) + 1 ≤ pr ls ∧ 1 ≤ pr ls := by
  induction ls with
  | nil => rw [h0]; exact ⟨by decide, by decide⟩
  | cons l r ih =>
    obtain ⟨i1, i2⟩ := ih fun x hx => h x (List.mem_cons_of_mem _ hx)
    have hl := h l List.mem_cons_self
    rw [h1, Int.add_mul, Int.one_mul]
    have m1 : l.r * 1 ≤ l.r * pr r := Int.mul_le_mul_of_nonneg_left i2 (by omega)
    show (if true = true ∧ true = true then l.r else 0) + inside r _ + 1 ≤ _ ∧ _
    rw [if_pos (show true = true ∧ true = true from ⟨rfl, rfl⟩)]
    omega
theorem purse_le : ∀ {ls : List Ln} {near : List Int} (v : Nat), (∀ l ∈ ls, l.a ≠ l.b) → Split ls near → purse ls near v ≤ inside ls fun _ => true
  | [], [], _, _, _ => Int.le_refl 0
  | l :: ls, c :: cs, v, ne, h => by
    have h0 := h.2 0 l c rfl rfl
    have hn := ne l List.mem_cons_self
    have := purse_le (ls := ls) (near := cs) v (fun x hx => ne x (List.mem_cons_of_mem _ hx)) ⟨by simpa using h.1, fun i l' c' e1 e2 => h.2 (i + 1) l' c' (by simpa using e1) (by simpa using e2)⟩
    show (if l.a = v then c else 0) + (if l.b = v then l.r - c else 0) + purse ls cs v ≤ (if true = true ∧ true = true then l.r else 0) + inside ls _
    rw [if_pos (show true = true ∧ true = true from ⟨rfl, rfl⟩)]
    by_cases z1 : l.a = v
    · rw [if_pos z1, if_neg (fun z2 => hn (z1.trans z2.symm))]; omega
    · rw [if_neg z1]
      split <;> omega
  | [], _ :: _, _, _, h => by have := h.1; simp at this
  | _ :: _, [], _, _, h => by have := h.1; simp at this
end K8
set_option Elab.async false
set_option linter.all false
namespace K8
/-! ### within the houses R -/
def cT (X : Nat → Bool) (l : Ln) (c : Int) : Int := (if X l.a = true ∧ X l.b = false then c else 0) + (if X l.b = true ∧ X l.a = false then l.r - c else 0)
def cutR (R : Nat → Bool) : List Ln → List Int → (Nat → Bool) → Int
  | l :: ls, c :: cs, X => (if R l.a = true ∧ R l.b = true then cT X l c else 0) + cutR R ls cs X
  | _, _, _ => 0
def purseR (R : Nat → Bool) : List Ln → List Int → Nat → Int
  | l :: ls, c :: cs, v => (if R l.a = true ∧ R l.b = true then (if l.a = v then c else 0) + (if l.b = v then l.r - c else 0) else 0) + purseR R ls cs v
  | _, _, _ => 0
theorem psum_purseR (n : Nat) (R X : Nat → Bool) (hX : ∀ v, X v = true → R v = true) : ∀ (ls : List Ln) (near : List Int), near.length = ls.length → (∀ l ∈ ls, l.a < n ∧ l.b < n) → psum (purseR R ls near) X n = inside ls X + cutR R ls near X
  | [], [], _, _ => psum_zero X n
  | l :: ls, c :: cs, h, hb => by
    have ih := psum_purseR n R X hX ls cs (by simpa using h) fun l' hl => hb l' (List.mem_cons_of_mem _ hl)
    have h1 := hb l List.mem_cons_self
    show _ = ((if X l.a = true ∧ X l.b = true then l.r else 0) + inside ls X) + ((if R l.a = true ∧ R l.b = true then cT X l c else 0) + cutR R ls cs X)
    by_cases hR : R l.a = true ∧ R l.b = true
    · have e : psum (purseR R (l :: ls) (c :: cs)) X n = psum (fun v => ((if l.a = v then c else 0) + (if l.b = v then l.r - c else 0)) + purseR R ls cs v) X n := psum_congr n fun v _ _ => by
        show (if R l.a = true ∧ R l.b = true then (if l.a = v then c else 0) + (if l.b = v then l.r - c else 0) else 0) + purseR R ls cs v = _
        rw [if_pos hR]
      rw [e, psum_add, psum_add, psum_at, psum_at, ih, if_pos hR]
      unfold cT
      by_cases x : X l.a = true <;> by_cases y : X l.b = true <;> simp [x, y, h1.1, h1.2] <;> omega
    · have e : psum (purseR R (l :: ls) (c :: cs)) X n = psum (purseR R ls cs) X n := psum_congr n fun v _ _ => by
        show (if R l.a = true ∧ R l.b = true then _ else 0) + purseR R ls cs v = _
        rw [if_neg hR]
        omega
      rw [e, ih, if_neg hR, if_neg (fun z => hR ⟨hX _ z.1, hX _ z.2⟩)]
      omega
  | [], _ :: _, h, _ => by simp at h
  | _ :: _, [], h, _ => by simp at h
def LeftOk (W : Wb) (near : List Int) (R : Nat → Bool) (left : Nat → Int) : Prop := ∀ v, v < W.n → R v = true → left v = purseR R W.ls near v
theorem slackR {W : Wb} (ok : WebOk W) {near : List Int} (hn : near.length = W.ls.length) {R : Nat → Bool} {left : Nat → Int} (hl : LeftOk W near R left) {X : Nat → Bool} (hX : ∀ v, X v = true → R v = true) : slack W left X = cutR R W.ls near X := by
  unfold slack
  rw [psum_congr W.n fun v hv hx => hl v hv (hX v hx), psum_purseR W.n R X hX W.ls near hn fun l hl => by have := ok.2.2.2 l hl; omega]
  omega
theorem cT_nonneg {X : Nat → Bool} {l : Ln} {c : Int} (h : 0 ≤ c ∧ c ≤ l.r) : 0 ≤ cT X l c := by
  unfold cT
  split <;> split <;> omega
theorem cutR_nonneg {R : Nat → Bool} {ls : List Ln} {near : List Int} (X : Nat → Bool) (h : Split ls near) : 0 ≤ cutR R ls near X := by
  induction ls generalizing near with
  | nil => cases near <;> exact Int.le_refl 0
  | cons l ls ih =>
    cases near with
    | nil => exact Int.le_refl 0
    | cons c cs =>
      have h0 := cT_nonneg (X := X) (h.2 0 l c rfl rfl)
      have := ih (near := cs) ⟨by simpa using h.1, fun i l' c' e1 e2 => h.2 (i + 1) l' c' (by simpa using e1) (by simpa using e2)⟩
      unfold cutR
      split <;> omega
theorem cutR_zero_iff {R : Nat → Bool} {ls : List Ln} {near : List Int} (X : Nat → Bool) (h : Split ls near) (hX : ∀ v, X v = true → R v = true) : cutR R ls near X = 0 ↔ ∀ u i o, Edge ls near u i o → R o = true → X u = true → X o = true := by
  induction ls generalizing near with
  | nil =>
    constructor
    · rintro _ u i o ⟨l, c, e, _⟩
      simp at e
    · intro _
      cases near <;> rfl
  | cons l ls ih =>
    cases near with
    | nil => have := h.1; simp at this
    | cons c cs =>
      have h0 := h.2 0 l c rfl rfl
      have h' : Split ls cs := ⟨by simpa using h.1, fun i l' c' e1 e2 => h.2 (i + 1) l' c' (by simpa using e1) (by simpa using e2)⟩
      have hn := cutR_nonneg (R := R) X h'
      have ht := cT_nonneg (X := X) h0
      have key : (if R l.a = true ∧ R l.b = true then cT X l c else 0) = 0 ↔ (1 ≤ c → R l.b = true → X l.a = true → X l.b = true) ∧ (1 ≤ l.r - c → R l.a = true → X l.b = true → X l.a = true) := by
        unfold cT
        have ra := hX l.a
        have rb := hX l.b
        cases xa : X l.a <;> cases xb : X l.b <;> cases qa : R l.a <;> cases qb : R l.b <;> simp [xa, xb, qa, qb] at ra rb ⊢ <;> omega
      show (if R l.a = true ∧ R l.b = true then cT X l c else 0) + cutR R ls cs X = 0 ↔ _
      have hsplit : (if R l.a = true ∧ R l.b = true then cT X l c else 0) + cutR R ls cs X = 0 ↔ (if R l.a = true ∧ R l.b = true then cT X l c else 0) = 0 ∧ cutR R ls cs X = 0 := by
        have q : 0 ≤ (if R l.a = true ∧ R l.b = true then cT X l c else 0) := by split <;> omega
        omega
      rw [hsplit, key, ih h']
      constructor
      · rintro ⟨⟨h1, h2⟩, h3⟩ u i o ⟨l', c', e1, e2, e3⟩ ro xu
        cases i with
        | zero =>
          simp at e1 e2
          subst e1 e2
          rcases e3 with ⟨rfl, rfl, e⟩ | ⟨rfl, rfl, e⟩
          · exact h1 e ro xu
          · exact h2 e ro xu
        | succ i => exact h3 u i o ⟨l', c', by simpa using e1, by simpa using e2, e3⟩ ro xu
      · intro h1
        refine ⟨⟨fun e ro xu => h1 l.a 0 l.b ⟨l, c, rfl, rfl, .inl ⟨rfl, rfl, e⟩⟩ ro xu, fun e ro xu => h1 l.b 0 l.a ⟨l, c, rfl, rfl, .inr ⟨rfl, rfl, e⟩⟩ ro xu⟩, fun u i o ⟨l', c', e1, e2, e3⟩ => h1 u (i + 1) o ⟨l', c', by simpa using e1, by simpa using e2, e3⟩⟩
theorem edge_turn {ls : List Ln} {near : List Int} (h : Split ls near) {u i o : Nat} : Edge ls (turn ls near) u i o ↔ Edge ls near o i u := by
  constructor
  · rintro ⟨l, c, e1, e2, e3⟩
    have hi : i < near.length := by rw [h.1]; exact (List.getElem?_eq_some_iff.mp e1).1
    have e4 : near[i]? = some near[i] := List.getElem?_eq_getElem hi
    rw [turn_get _ _ _ _ _ e1 e4] at e2
    cases e2
    refine ⟨l, _, e1, e4, ?_⟩
    rcases e3 with ⟨rfl, rfl, e⟩ | ⟨rfl, rfl, e⟩
    · exact .inr ⟨rfl, rfl, e⟩
    · exact .inl ⟨rfl, rfl, by omega⟩
  · rintro ⟨l, c, e1, e2, e3⟩
    refine ⟨l, _, e1, turn_get _ _ _ _ _ e1 e2, ?_⟩
    rcases e3 with ⟨rfl, rfl, e⟩ | ⟨rfl, rfl, e⟩
    · exact .inr ⟨rfl, rfl, by omega⟩
    · exact .inl ⟨rfl, rfl, e⟩
theorem sub_len : ∀ {xs ys : List Nat}, xs.Nodup → (∀ x ∈ xs, x ∈ ys) → xs.length ≤ ys.length
  | [], _, _, _ => Nat.zero_le _
  | x :: xs, ys, nd, h => by
    have nd' := List.nodup_cons.mp nd
    have hx := h x List.mem_cons_self
    have := sub_len (xs := xs) (ys := ys.erase x) nd'.2 fun z hz => (List.mem_erase_of_ne (fun e => nd'.1 (by rw [← e]; exact hz))).mpr (h z (List.mem_cons_of_mem _ hz))
    rw [List.length_erase_of_mem hx] at this
    have : 0 < ys.length := List.length_pos_of_mem hx
    rw [List.length_cons]
    omega
theorem sub_eq {xs ys : List Nat} (nd : xs.Nodup) (h : ∀ x ∈ xs, x ∈ ys) (hl : ys.length ≤ xs.length) : ∀ y, y ∈ ys → y ∈ xs := fun y hy => by
  by_cases z : y ∈ xs
  · exact z
  · have := sub_len (xs := y :: xs) (ys := ys) (List.nodup_cons.mpr ⟨z, nd⟩) fun v hv => by
      rcases List.mem_cons.mp hv with e | e
      · rw [e]; exact hy
      · exact h v e
    rw [List.length_cons] at this
    omega
/-- a shut lot of what is left -/
def ShutL (W : Wb) (near : List Int) (D : List Nat) (l : List Nat) : Prop := ∀ u i o, Edge W.ls near u i o → o ∉ D → u ∈ l → o ∈ l
def restB (n : Nat) (D : List Nat) : Nat → Bool := fun v => decide (v < n ∧ v ∉ D)
theorem restB_iff {n : Nat} {D : List Nat} {v : Nat} : restB n D v = true ↔ v < n ∧ v ∉ D := decide_eq_true_iff
theorem shut_iff {W : Wb} (ok : WebOk W) {near : List Int} (hs : Split W.ls near) {D : List Nat} {left : Nat → Int} (hl : LeftOk W near (restB W.n D) left) {l : List Nat} (h1 : ∀ x ∈ l, x < W.n ∧ x ∉ D) : slack W left (memB l) = 0 ↔ ShutL W near D l := by
  have hX : ∀ v, memB l v = true → restB W.n D v = true := fun v hv => restB_iff.mpr (h1 v (memB_iff.mp hv))
  rw [slackR ok hs.1 hl hX, cutR_zero_iff _ hs hX]
  constructor
  · intro h u i o e ho hu
    exact memB_iff.mp (h u i o e (restB_iff.mpr ⟨(e.lt ok).1, ho⟩) (memB_iff.mpr hu))
  · intro h u i o e ho hu
    exact memB_iff.mpr (h u i o e (restB_iff.mp ho).2 (memB_iff.mp hu))
theorem lot_shut {W : Wb} (ok : WebOk W) {near : List Int} {D : List Nat} {h : Nat} : ShutL W near D (lotOf W near D h) := fun u i o e ho hu => mem_lot.mpr ⟨(e.lt ok).1, .step (mem_lot.mp hu).2 e ho⟩
theorem lot_least {W : Wb} {near : List Int} {D : List Nat} {h : Nat} {l : List Nat} (hl : ShutL W near D l) (hh : h ∈ l) : ∀ v ∈ lotOf W near D h, v ∈ l := fun v hv => by
  have := rch_in (mem_lot.mp hv).2 (memB l) (fun s hs => memB_iff.mpr (by rw [List.mem_singleton.mp hs]; exact hh)) fun u i o e ho hu => memB_iff.mpr (hl u i o e ho (memB_iff.mp hu))
  exact memB_iff.mp this
/-- those that are not among the payers -/
noncomputable def othersOf (W : Wb) (near : List Int) (D : List Nat) (h : Nat) : List Nat := lotS W.n fun v => decide (v ∉ D ∧ v ∉ lotOf W (turn W.ls near) D h)
theorem mem_others {W : Wb} {near : List Int} {D : List Nat} {h v : Nat} : v ∈ othersOf W near D h ↔ v < W.n ∧ v ∉ D ∧ v ∉ lotOf W (turn W.ls near) D h := by
  unfold othersOf
  rw [mem_lotS, decide_eq_true_iff]
theorem others_shut {W : Wb} (ok : WebOk W) {near : List Int} (hs : Split W.ls near) {D : List Nat} {h : Nat} : ShutL W near D (othersOf W near D h) := fun u i o e ho hu => by
  obtain ⟨h1, h2, h3⟩ := mem_others.mp hu
  refine mem_others.mpr ⟨(e.lt ok).1, ho, fun z => h3 (mem_lot.mpr ⟨h1, .step (mem_lot.mp z).2 ((edge_turn hs).mpr e) h2⟩)⟩
theorem others_most {W : Wb} {near : List Int} (hs : Split W.ls near) {D : List Nat} {h : Nat} {l : List Nat} (hl : ShutL W near D l) (h1 : ∀ x ∈ l, x < W.n ∧ x ∉ D) (hh : h ∉ l) (hD : h ∉ D) : ∀ v ∈ l, v ∈ othersOf W near D h := fun v hv => by
  refine mem_others.mpr ⟨(h1 v hv).1, (h1 v hv).2, fun z => ?_⟩
  have hout : ∀ {x : Nat}, Rch W.ls (turn W.ls near) D [h] x → x ∉ D ∧ x ∉ l := fun {x} r => by
    induction r with
    | base q => rw [List.mem_singleton.mp q]; exact ⟨hD, hh⟩
    | step _ e ho ih => exact ⟨ho, fun m => ih.2 (hl _ _ _ ((edge_turn hs).mp e) ih.1 m)⟩
  exact (hout (mem_lot.mp z).2).2 hv
/-! ### what is left when a block is gone -/
def subR (B R : Nat → Bool) : List Ln → Nat → Int
  | l :: ls, v => (if B l.a = true ∧ R l.b = true then (if l.b = v then l.r else 0) else if B l.b = true ∧ R l.a = true then (if l.a = v then l.r else 0) else 0) + subR B R ls v
  | [], _ => 0
theorem subR_take (B R : Nat → Bool) (v : Nat) : ∀ (ls : List Ln) (i : Nat) (l : Ln), ls[i]? = some l → subR B R (ls.take (i + 1)) v = subR B R (ls.take i) v + (if B l.a = true ∧ R l.b = true then (if l.b = v then l.r else 0) else if B l.b = true ∧ R l.a = true then (if l.a = v then l.r else 0) else 0)
  | l :: ls, 0, l', h => by
    simp at h
    subst h
    show _ + 0 = 0 + _
    omega
  | l :: ls, i + 1, l', h => by
    have ih := subR_take B R v ls i l' (by simpa using h)
    show _ + subR B R (ls.take (i + 1)) v = _ + subR B R (ls.take i) v + _
    rw [ih]
    omega
  | [], _, _, h => by simp at h
theorem purse_gone (out : Bool) {B R R' : Nat → Bool} (hR : ∀ v, R' v = (R v && !B v)) (hB : ∀ v, B v = true → R v = true) : ∀ {ls : List Ln} {near : List Int}, Split ls near →
    (∀ u i o, Edge ls near u i o → (if out = true then R o = true → B u = true → B o = true else R o = true → R' u = true → R' o = true)) → ∀ v, R' v = true → purseR R ls near v = purseR R' ls near v + (if out = true then subR B R' ls v else 0)
  | [], [], _, _, v, _ => by
    show (0 : Int) = 0 + (if out = true then 0 else 0)
    split <;> rfl
  | l :: ls, c :: cs, h, hc, v, hv => by
    have h0 := h.2 0 l c rfl rfl
    have ih := purse_gone out hR hB (ls := ls) (near := cs) ⟨by simpa using h.1, fun i l' c' e1 e2 => h.2 (i + 1) l' c' (by simpa using e1) (by simpa using e2)⟩ (fun u i o ⟨l', c', e1, e2, e3⟩ => hc u (i + 1) o ⟨l', c', by simpa using e1, by simpa using e2, e3⟩) v hv
    have c1 : 1 ≤ c → _ := fun e => hc l.a 0 l.b ⟨l, c, rfl, rfl, .inl ⟨rfl, rfl, e⟩⟩
    have c2 : 1 ≤ l.r - c → _ := fun e => hc l.b 0 l.a ⟨l, c, rfl, rfl, .inr ⟨rfl, rfl, e⟩⟩
    show (if R l.a = true ∧ R l.b = true then (if l.a = v then c else 0) + (if l.b = v then l.r - c else 0) else 0) + purseR R ls cs v = (if R' l.a = true ∧ R' l.b = true then (if l.a = v then c else 0) + (if l.b = v then l.r - c else 0) else 0) + purseR R' ls cs v + (if out = true then (if B l.a = true ∧ R' l.b = true then (if l.b = v then l.r else 0) else if B l.b = true ∧ R' l.a = true then (if l.a = v then l.r else 0) else 0) + subR B R' ls v else 0)
    rw [ih]
    have ra := hR l.a
    have rb := hR l.b
    have ba := hB l.a
    have bb := hB l.b
    have va : l.a = v → R' l.a = true := fun e => by rw [e]; exact hv
    have vb : l.b = v → R' l.b = true := fun e => by rw [e]; exact hv
    cases out <;> cases qa : R l.a <;> cases qb : R l.b <;> cases pa : B l.a <;> cases pb : B l.b <;> simp [qa, qb, pa, pb] at ra rb ba bb <;> simp [qa, qb, pa, pb, ra, rb] at va vb c1 c2 ⊢ <;> by_cases ea : l.a = v <;> by_cases eb : l.b = v <;> simp [ea, eb] at va vb ⊢ <;> omega
  | [], _ :: _, h, _, _, _ => by have := h.1; simp at this
  | _ :: _, [], h, _, _, _ => by have := h.1; simp at this
end K8
set_option Elab.async false
set_option linter.all false
namespace K8
def hold : List Ln → Nat → Int
  | l :: ls, v => (if v = l.a ∨ v = l.b then l.r else 0) + hold ls v
  | [], _ => 0
theorem hold_take : ∀ (ls : List Ln) (i : Nat) (l : Ln) (v : Nat), ls[i]? = some l → hold (ls.take (i + 1)) v = hold (ls.take i) v + (if v = l.a ∨ v = l.b then l.r else 0)
  | l :: ls, 0, l', v, h => by
    simp at h
    subst h
    show _ + 0 = 0 + _
    omega
  | l :: ls, i + 1, l', v, h => by
    have ih := hold_take ls i l' v (by simpa using h)
    show _ + hold (ls.take (i + 1)) v = _ + hold (ls.take i) v + _
    rw [ih]
    omega
  | [], _, _, _, h => by simp at h
theorem hold_turn : ∀ {ls : List Ln} {near : List Int} (v : Nat), (∀ l ∈ ls, l.a ≠ l.b) → near.length = ls.length → purse ls (turn ls near) v = hold ls v - purse ls near v
  | [], [], _, _, _ => rfl
  | l :: ls, c :: cs, v, ne, h => by
    have ih := hold_turn (ls := ls) (near := cs) v (fun x hx => ne x (List.mem_cons_of_mem _ hx)) (by simpa using h)
    have hn := ne l List.mem_cons_self
    show (if l.a = v then l.r - c else 0) + (if l.b = v then l.r - (l.r - c) else 0) + purse ls (turn ls cs) v = (if v = l.a ∨ v = l.b then l.r else 0) + hold ls v - ((if l.a = v then c else 0) + (if l.b = v then l.r - c else 0) + purse ls cs v)
    rw [ih]
    by_cases z1 : l.a = v
    · have z2 : ¬ l.b = v := fun z => hn (z1.trans z.symm)
      rw [if_pos z1, if_neg z2, if_pos (.inl z1.symm), if_pos z1, if_neg z2]
      omega
    · by_cases z2 : l.b = v
      · rw [if_neg z1, if_pos z2, if_pos (.inr z2.symm), if_neg z1, if_pos z2]
        omega
      · rw [if_neg z1, if_neg z2, if_neg (fun z => z.elim (fun e => z1 e.symm) fun e => z2 e.symm), if_neg z1, if_neg z2]
        omega
  | [], _ :: _, _, _, h => by simp at h
  | _ :: _, [], _, _, h => by simp at h
theorem least_reach {W : Wb} {p : Nat → Int} {h v : Nat} {k : Int} (l : IsLeast W p h v k) : 0 < k ↔ Reaches W p h v := by
  constructor
  · intro hk X x1 x2
    have := l.2 X x1 x2
    omega
  · intro r
    obtain ⟨⟨X, x1, x2, x3⟩, _⟩ := l
    have := r X x1 x2
    omega
theorem reach_self {W : Wb} {p : Nat → Int} {h : Nat} : Reaches W p h h := fun X x1 x2 => by rw [x1] at x2; cases x2
end K8
set_option Elab.async false
set_option linter.all false
namespace K8
theorem pw_eq : ∀ {xs ys : List Nat}, xs.Pairwise (· < ·) → ys.Pairwise (· < ·) → (∀ v, v ∈ xs ↔ v ∈ ys) → xs = ys
  | [], [], _, _, _ => rfl
  | [], y :: _, _, _, h => absurd ((h y).mpr List.mem_cons_self) List.not_mem_nil
  | x :: _, [], _, _, h => absurd ((h x).mp List.mem_cons_self) List.not_mem_nil
  | x :: xs, y :: ys, hx, hy, h => by
    rw [List.pairwise_cons] at hx hy
    have e : x = y := by
      have h1 := (h x).mp List.mem_cons_self
      have h2 := (h y).mpr List.mem_cons_self
      rcases List.mem_cons.mp h1 with z | z
      · exact z
      · rcases List.mem_cons.mp h2 with z2 | z2
        · exact z2.symm
        · have := hx.1 y z2
          have := hy.1 x z
          omega
    subst e
    congr 1
    refine pw_eq hx.2 hy.2 fun v => ⟨fun hv => ?_, fun hv => ?_⟩
    · rcases List.mem_cons.mp ((h v).mp (List.mem_cons_of_mem _ hv)) with z | z
      · have := hx.1 v hv
        omega
      · exact z
    · rcases List.mem_cons.mp ((h v).mpr (List.mem_cons_of_mem _ hv)) with z | z
      · have := hy.1 v hv
        omega
      · exact z
def SameR (W : Wb) (n1 n2 : List Int) (D : List Nat) : Prop := ∀ v, v < W.n → restB W.n D v = true → purseR (restB W.n D) W.ls n1 v = purseR (restB W.n D) W.ls n2 v
theorem shut_same {W : Wb} (ok : WebOk W) {n1 n2 : List Int} (h1 : Split W.ls n1) (h2 : Split W.ls n2) {D : List Nat} (s : SameR W n1 n2 D) {l : List Nat} (hl : ∀ x ∈ l, x < W.n ∧ x ∉ D) : ShutL W n1 D l ↔ ShutL W n2 D l := by
  have a := shut_iff ok h1 (D := D) (left := purseR (restB W.n D) W.ls n1) (fun _ _ _ => rfl) hl
  have b := shut_iff ok h2 (D := D) (left := purseR (restB W.n D) W.ls n1) (fun v hv hr => s v hv hr) hl
  exact a.symm.trans b
theorem lot_in {W : Wb} {near : List Int} {D : List Nat} {h : Nat} (hD : h ∉ D) : ∀ x ∈ lotOf W near D h, x < W.n ∧ x ∉ D := fun x hx => ⟨(mem_lot.mp hx).1, lot_out hx hD⟩
theorem lot_same {W : Wb} (ok : WebOk W) {n1 n2 : List Int} (h1 : Split W.ls n1) (h2 : Split W.ls n2) {D : List Nat} (s : SameR W n1 n2 D) {h : Nat} (hh : h < W.n) (hD : h ∉ D) (b : Bool) :
    lotOf W (if b = true then n1 else turn W.ls n1) D h = lotOf W (if b = true then n2 else turn W.ls n2) D h := by
  cases b with
  | true =>
    show lotOf W n1 D h = lotOf W n2 D h
    refine pw_eq lot_pw lot_pw fun v => ⟨fun hv => ?_, fun hv => ?_⟩
    · exact lot_least ((shut_same ok h1 h2 s (lot_in hD)).mpr (lot_shut ok)) (lot_self hh) v hv
    · exact lot_least ((shut_same ok h1 h2 s (lot_in hD)).mp (lot_shut ok)) (lot_self hh) v hv
  | false =>
    show lotOf W (turn W.ls n1) D h = lotOf W (turn W.ls n2) D h
    have oin : ∀ {n : List Int}, ∀ x ∈ othersOf W n D h, x < W.n ∧ x ∉ D := fun {n} x hx => ⟨(mem_others.mp hx).1, (mem_others.mp hx).2.1⟩
    have onh : ∀ {n : List Int}, h ∉ othersOf W n D h := fun {n} hx => (mem_others.mp hx).2.2 (lot_self hh)
    have e1 : ∀ v, v ∈ othersOf W n1 D h ↔ v ∈ othersOf W n2 D h := fun v => ⟨fun hv => others_most h2 ((shut_same ok h1 h2 s oin).mp (others_shut ok h1)) oin onh hD v hv, fun hv => others_most h1 ((shut_same ok h1 h2 s oin).mpr (others_shut ok h2)) oin onh hD v hv⟩
    have key : ∀ {n m : List Int}, (∀ v, v ∈ othersOf W n D h ↔ v ∈ othersOf W m D h) → ∀ v, v ∈ lotOf W (turn W.ls n) D h → v ∈ lotOf W (turn W.ls m) D h := fun {n m} e v hv => by
      by_cases z : v ∈ lotOf W (turn W.ls m) D h
      · exact z
      · have := lot_in hD v hv
        exact absurd hv (mem_others.mp ((e v).mpr (mem_others.mpr ⟨this.1, this.2, z⟩))).2.2
    exact pw_eq lot_pw lot_pw fun v => ⟨key e1 v, key (fun v => (e1 v).symm) v⟩
theorem closed_of {W : Wb} (ok : WebOk W) {near : List Int} (hsp : Split W.ls near) {D : List Nat} {h : Nat} (b : Bool) : ∀ u i o, Edge W.ls near u i o → (if b = true then restB W.n D o = true → memB (lotOf W (if b = true then near else turn W.ls near) D h) u = true → memB (lotOf W (if b = true then near else turn W.ls near) D h) o = true else restB W.n D o = true → restB W.n (D ++ lotOf W (if b = true then near else turn W.ls near) D h) u = true → restB W.n (D ++ lotOf W (if b = true then near else turn W.ls near) D h) o = true) := fun u i o e => by
  cases b
  · rw [if_neg Bool.false_ne_true]
    show restB W.n D o = true → restB W.n (D ++ lotOf W (turn W.ls near) D h) u = true → restB W.n (D ++ lotOf W (turn W.ls near) D h) o = true
    intro ro ru
    have h1 := restB_iff.mp ro
    have h2 := restB_iff.mp ru
    refine restB_iff.mpr ⟨h1.1, fun z => ?_⟩
    rcases List.mem_append.mp z with z | z
    · exact h1.2 z
    · exact h2.2 (List.mem_append_right _ (mem_lot.mpr ⟨h2.1, .step (mem_lot.mp z).2 ((edge_turn hsp).mpr e) fun y => h2.2 (List.mem_append_left _ y)⟩))
  · rw [if_pos rfl]
    show restB W.n D o = true → memB (lotOf W near D h) u = true → memB (lotOf W near D h) o = true
    intro ro hu
    exact memB_iff.mpr (lot_shut ok u i o e (restB_iff.mp ro).2 (memB_iff.mp hu))
theorem rest_app (n : Nat) (D lot : List Nat) (v : Nat) : restB n (D ++ lot) v = (restB n D v && !memB lot v) := by
  rw [Bool.eq_iff_iff, Bool.and_eq_true, Bool.not_eq_true', restB_iff, restB_iff, memB_not, List.mem_append]
  exact ⟨fun z => ⟨⟨z.1, fun y => z.2 (.inl y)⟩, fun y => z.2 (.inr y)⟩, fun z => ⟨z.1.1, fun y => y.elim z.1.2 z.2⟩⟩
theorem peel_same {W : Wb} (ok : WebOk W) {n1 n2 : List Int} (h1 : Split W.ls n1) (h2 : Split W.ls n2) : ∀ (todo : List (Nat × Bool)) (D : List Nat), (∀ q ∈ todo, q.1 < W.n) → SameR W n1 n2 D → peelL W n1 todo D = peelL W n2 todo D
  | [], _, _, _ => rfl
  | (h, b) :: r, D, ht, s => by
    have hh : h < W.n := ht (h, b) List.mem_cons_self
    have ht' : ∀ q ∈ r, q.1 < W.n := fun q hq => ht q (List.mem_cons_of_mem _ hq)
    by_cases hD : h ∈ D
    · show (if h ∈ D then peelL W n1 r D else _) = (if h ∈ D then peelL W n2 r D else _)
      rw [if_pos hD, if_pos hD]
      exact peel_same ok h1 h2 r D ht' s
    · have el := lot_same ok h1 h2 s hh hD b
      have s' : SameR W n1 n2 (D ++ lotOf W (if b = true then n1 else turn W.ls n1) D h) := fun v hv hr => by
        have g1 := purse_gone b (rest_app W.n D (lotOf W (if b = true then n1 else turn W.ls n1) D h)) (fun v hv => restB_iff.mpr (lot_in hD v (memB_iff.mp hv))) h1 (closed_of ok h1 b) v hr
        have g2 := purse_gone b (rest_app W.n D (lotOf W (if b = true then n2 else turn W.ls n2) D h)) (fun v hv => restB_iff.mpr (lot_in hD v (memB_iff.mp hv))) h2 (closed_of ok h2 b) v (by rw [← el]; exact hr)
        rw [← el] at g2
        have := s v hv (by rw [rest_app] at hr; exact (Bool.and_eq_true_iff.mp hr).1)
        omega
      show (if h ∈ D then _ else lotOf W (if b = true then n1 else turn W.ls n1) D h :: peelL W n1 r (D ++ lotOf W (if b = true then n1 else turn W.ls n1) D h)) = (if h ∈ D then _ else lotOf W (if b = true then n2 else turn W.ls n2) D h :: peelL W n2 r (D ++ lotOf W (if b = true then n2 else turn W.ls n2) D h))
      rw [if_neg hD, if_neg hD, peel_same ok h1 h2 r _ ht' s', el]
end K8
set_option Elab.async false
set_option linter.all false
set_option maxRecDepth 100000
set_option maxHeartbeats 4000000
namespace K8
open PySem PySem.Spec PyProof.Rows L2
local macro_rules | `(tactic| walk_at "s") => `(tactic| repeat (first
  | with_reducible refine g_seq ?_ | with_reducible refine g_ret ?_ | with_reducible refine g_asg ?_ | with_reducible refine g_name ?_ | with_reducible refine g_c ?_ | with_reducible refine g_op ?_ | with_reducible refine g_cons ?_ | with_reducible refine g_nil ?_
  | (with_reducible show tVar _ _ _ _; refine g_var rfl ?_) | with_reducible refine g_cb ?_ | with_reducible refine g_call ?_ | with_reducible refine g_if ?_ | with_reducible refine g_test ?_ | with_reducible refine g_tB ?_ | with_reducible refine g_i0 ?_ | with_reducible refine g_bl ?_
  | with_reducible refine g_add ?_ | with_reducible refine g_sub ?_ | with_reducible refine g_eqI ?_ | with_reducible refine g_neI ?_ | with_reducible refine g_drop ?_ | with_reducible refine g_next ?_ | with_reducible refine g_break ?_ | with_reducible refine g_un ?_ | with_reducible refine g_u ?_
  | with_reducible refine g_ifE ?_ | with_reducible refine g_and ?_ | with_reducible refine g_or ?_ | with_reducible refine g_not ?_ | with_reducible refine g_andV ?_ | with_reducible refine g_orV ?_ | with_reducible refine g_notV ?_ | with_reducible refine g_isN ?_ | with_reducible refine g_notN ?_
  | with_reducible refine g_gnil ?_ | with_reducible refine g_gcons ?_ | with_reducible refine g_bm ?_ | with_reducible refine g_abs ?_ | with_reducible refine g_max ?_ | with_reducible refine g_min ?_ | with_reducible refine g_int ?_ | with_reducible refine g_lc ?_ | with_reducible refine g_for ?_ | with_reducible refine g_yes ?_ | with_reducible refine g_rng1 ?_ | with_reducible refine g_rng2 ?_ | with_reducible refine g_il ?_ | with_reducible refine g_it ?_ | with_reducible refine g_en ?_ | with_reducible refine g_zp ?_ | with_reducible refine g_mkT ?_ | with_reducible refine g_mkL ?_ | with_reducible refine g_augS ?_ | (with_reducible show tAug _ _ _ _ _ _; refine g_aug rfl ?_) | with_reducible refine g_ipI ?_ | with_reducible refine g_gsub ?_ | with_reducible refine g_dget ?_ | with_reducible refine g_din ?_ | with_reducible refine g_dnotin ?_ | with_reducible refine g_dput ?_ | with_reducible refine g_dc ?_ | with_reducible refine g_sl ?_ | with_reducible refine g_nopart ?_ | with_reducible refine g_part ?_ | with_reducible refine g_exI ?_ | with_reducible refine g_revL ?_ | (with_reducible show iSq _ _ _ _; refine g_sq rfl ?_) | with_reducible refine g_while ?_ | with_reducible refine g_min3 ?_ | with_reducible refine g_trq ?_ | with_reducible refine g_lock ?_ | with_reducible refine g_mko ?_ | with_reducible refine g_keys ?_ | with_reducible refine iteT ?_ | with_reducible refine iteF ?_))
section
variable {P : Program} {w : World} {K : PySem.W.Frag} {mg : Str → Option Value} {base : Heap} {f : Addr} {fd : FuncData} {k : Nat}
theorem sc_is_integer : FnScope ["thing"] ["thing"] (defScope s_is_integer) := ⟨rfl, rfl, rfl, by decide +kernel, rfl, by decide +kernel, by decide +kernel⟩
def sp_is_integer : Sp := fun vs H Q _ => ∃ (S : List Addr) (v : V) (d : PyData), vs = [v] ∧ Da S H v d ∧ Q (.bl (isI d)) H
theorem ok_is_integer (F : Fun K "is_integer" "is_integer" s_is_integer f fd) (T : Txt mg) : FnOk P w K mg base CX0 (k + 1) f fd ["thing"] sp_is_integer := by
  have sc := sc_is_integer
  refine F.ok sc (fun vs H Q E h => ?_) (fun cdv A outer s H vs Q E hr h => ?_)
  · obtain ⟨S, v, d, rfl, _⟩ := h
    rfl
  · obtain ⟨S, v, d, rfl, hd, q⟩ := h
    refine ⟨_, (pss_one (ps_ret (pe_and (pe_callB (k_isi (K := K) rfl) (by rfl) T.isinstance (by decide +kernel) (pa_cons (pv 0) (pa_cons (pe_bltn (v := .ty "int") (by rfl) T.int (by decide +kernel) rfl) pa_nil))) (pe_one (pe_not (pe_callB (k_isi (K := K) rfl) (by rfl) T.isinstance (by decide +kernel) (pa_cons (pv 0) (pa_cons (pe_bltn (v := .ty "bool") (by rfl) T.bool (by decide +kernel) rfl) pa_nil)))))))), ?_⟩
    walk_at "s"
    refine g_isiI hd ?_
    walk_at "s"
    refine ite2 (fun e => ?_) (fun e => ?_)
    · walk_at "s"
      refine g_isiB hd ?_
      walk_at "s"
      cases d <;> first | exact q | cases e
    · cases d <;> first | exact q | exact absurd rfl e
theorem sc_is_number : FnScope ["thing"] ["thing"] (defScope s_is_number) := ⟨rfl, rfl, rfl, by decide +kernel, rfl, by decide +kernel, by decide +kernel⟩
def sp_is_number : Sp := fun vs H Q _ => ∃ (S : List Addr) (v : V) (d : PyData), vs = [v] ∧ Da S H v d ∧ Q (.bl (isN d)) H
theorem ok_is_number (F : Fun K "is_number" "is_number" s_is_number f fd) (T : Txt mg) (c_is_integer : Cal P w K mg base 1 "is_integer" sp_is_integer) : FnOk P w K mg base CX0 2 f fd ["thing"] sp_is_number := by
  have sc := sc_is_number
  refine F.ok sc (fun vs H Q E h => ?_) (fun cdv A outer s H vs Q E hr h => ?_)
  · obtain ⟨S, v, d, rfl, _⟩ := h
    rfl
  · obtain ⟨S, v, d, rfl, hd, q⟩ := h
    refine ⟨_, (pss_one (ps_ret (pe_and (pe_c c_is_integer hr (by decide) (by rfl) (pa_cons (pv 0) pa_nil)) (pe_one (pe_cmpR op_ge (pv 0) pe_int (nomark _)))))), ?_⟩
    walk_at "s"
    refine ⟨S, v, d, rfl, hd, ?_⟩
    walk_at "s"
    cases hd with
    | int i =>
      refine iteT ?_
      walk_at "s"
      exact q
    | _ =>
      refine iteF ?_
      exact q
theorem sc_b_is_coins : FnScope ["thing"] ["thing"] (defScope s_b_is_coins) := ⟨rfl, rfl, rfl, by decide +kernel, rfl, by decide +kernel, by decide +kernel⟩
def sp_b_is_coins : Sp := fun vs H Q _ => ∃ (S : List Addr) (v : V) (d : PyData), vs = [v] ∧ Da S H v d ∧ Q (.bl (isC d)) H
theorem ok_b_is_coins (F : Fun K "b_is_coins" "b_is_coins" s_b_is_coins f fd) (T : Txt mg) (c_is_integer : Cal P w K mg base 1 "is_integer" sp_is_integer) : FnOk P w K mg base CX0 2 f fd ["thing"] sp_b_is_coins := by
  have sc := sc_b_is_coins
  refine F.ok sc (fun vs H Q E h => ?_) (fun cdv A outer s H vs Q E hr h => ?_)
  · obtain ⟨S, v, d, rfl, _⟩ := h
    rfl
  · obtain ⟨S, v, d, rfl, hd, q⟩ := h
    refine ⟨_, (pss_one (ps_ret (pe_and (pe_c c_is_integer hr (by decide) (by rfl) (pa_cons (pv 0) pa_nil)) (pe_one (pe_cmpR op_ge (pv 0) pe_int (nomark _)))))), ?_⟩
    walk_at "s"
    refine ⟨S, v, d, rfl, hd, ?_⟩
    walk_at "s"
    cases hd with
    | int i =>
      refine iteT ?_
      walk_at "s"
      exact q
    | _ =>
      refine iteF ?_
      exact q
theorem sc_is_purses : FnScope ["size", "thing", "purse"] ["size", "thing"] (defScope s_is_purses) := ⟨rfl, rfl, rfl, by decide +kernel, rfl, by decide +kernel, by decide +kernel⟩
def sp_is_purses : Sp := fun vs H Q _ => ∃ (S : List Addr) (n : Nat) (v : V) (d : PyData), vs = [.int n, v] ∧ Da S H v d ∧ Q (.bl (isP n d)) H
theorem ok_is_purses (F : Fun K "is_purses" "is_purses" s_is_purses f fd) (T : Txt mg) (c_is_number : Cal P w K mg base 2 "is_number" sp_is_number) : FnOk P w K mg base CX0 3 f fd ["size", "thing"] sp_is_purses := by
  have sc := sc_is_purses
  refine F.ok sc (fun vs H Q E h => ?_) (fun cdv A outer s H vs Q E hr h => ?_)
  · obtain ⟨S, n, v, d, rfl, _⟩ := h
    rfl
  · obtain ⟨S, n, v, d, rfl, hd, q⟩ := h
    refine ⟨_, (pss_cons (ps_if (PW.pt (pw_or (pt_not (pt_val (pe_callB (k_isi (K := K) rfl) (by rfl) T.isinstance (by decide +kernel) (pa_cons (pv 1) (pa_cons (pe_bltn (v := .ty "tuple") (by rfl) T.tuple (by decide +kernel) rfl) pa_nil))))) (pw_or1 (pt_cmpR op_ne (pe_callB (kq_len (K := K) rfl) (by rfl) T.len (by decide +kernel) (pa_cons (pv 1) pa_nil)) (pv 0) (nomark _)))))
        (pss_one (ps_ret pe_bl))
        pss_nil)
      (pss_cons (ps_for PassesOwn.never rfl (kpi_tup (K := K) rfl (pv 1)) (pg_name (i := 2) sc.nd rfl (by first | exact Or.inl rfl | exact Or.inr rfl))
        (pss_one (ps_if (pt_not (pt_val (pe_c c_is_number hr (by decide) (by rfl) (pa_cons (pv 2) pa_nil))))
          (pss_one (ps_ret pe_bl))
          pss_nil)))
      (pss_one (ps_ret pe_bl)))), ?_⟩
    walk_at "s"
    refine g_isiT hd ?_
    walk_at "s"
    cases hd with
    | @tup a xs ds ha hx =>
      refine iteF ?_
      walk_at "s"
      refine g_lenT ha ?_
      walk_at "s"
      refine ite2 (fun e => ?_) (fun e => ?_)
      · walk_at "s"
        have e' : ¬ (ds.length = n) := fun z => by
          rw [hx.len, z] at e
          simp at e
        have : isP n (.tuple ds) = false := by simp [isP, e']
        rw [this] at q
        exact q
      · walk_at "s"
        have e' : ds.length = n := by
          rw [hx.len] at e
          simp at e
          omega
        refine ⟨a, rfl, ⟨xs, .of ha⟩, for_it (walk_tup (xs := xs)) (fun i σ H' => H' = H ∧ (∀ j : Nat, j < i → ∀ d, ds[j]? = some d → isN d = true) ∧ ∃ y, σ = [some (.int n), some (.ref a), y]) ⟨rfl, fun j hj => absurd hj (Nat.not_lt_zero j), none, rfl⟩ (fun i σ H' _ h => by rw [h.1]; exact .of ha) (fun i x σ H1 H2 hi h hy => ?_) (fun σ H1 h => ?_)⟩
        · obtain ⟨rfl, hall, y, rfl⟩ := h
          obtain ⟨rfl, ex⟩ := hy
          obtain ⟨d, ed, hd⟩ := hx.getv ex
          walk_at "s"
          refine ⟨S, x, d, rfl, hd, ?_⟩
          walk_at "s"
          cases hn : isN d with
          | true =>
            refine iteF ?_
            walk_at "s"
            refine ⟨rfl, fun j hj d' hd' => ?_, _, rfl⟩
            rcases Nat.lt_succ_iff_lt_or_eq.mp hj with h | h
            · exact hall j h d' hd'
            · rw [h, ed] at hd'
              rw [← Option.some.inj hd', hn]
          | false =>
            refine iteT ?_
            walk_at "s"
            have : isP n (.tuple ds) = false := by
              have : ds.all isN = false := by
                rw [List.all_eq_false]
                exact ⟨d, List.mem_of_getElem? ed, by rw [hn]; exact Bool.false_ne_true⟩
              simp [isP, this]
            rw [this] at q
            exact q
        · obtain ⟨rfl, hall, y, rfl⟩ := h
          walk_at "s"
          have : isP n (.tuple ds) = true := by
            have : ds.all isN = true := by
              rw [List.all_eq_true]
              intro d hd
              obtain ⟨j, hj, rfl⟩ := List.mem_iff_getElem.mp hd
              exact hall j (by rw [hx.len]; exact hj) _ (List.getElem?_eq_getElem hj)
            simp [isP, this, e']
          rw [this] at q
          exact q
    | _ =>
      refine iteT ?_
      walk_at "s"
      exact q
theorem sc_b_is_house : FnScope ["web", "thing"] ["web", "thing"] (defScope s_b_is_house) := ⟨rfl, rfl, rfl, by decide +kernel, rfl, by decide +kernel, by decide +kernel⟩
def sp_b_is_house : Sp := fun vs H Q _ => ∃ (S : List Addr) (W : Wb) (u v : V) (d : PyData), vs = [u, v] ∧ WebAt H u W ∧ Da S H v d ∧ Q (.bl (isH W.n d)) H
theorem ok_b_is_house (F : Fun K "b_is_house" "b_is_house" s_b_is_house f fd) (T : Txt mg) (c_is_number : Cal P w K mg base 2 "is_number" sp_is_number) : FnOk P w K mg base CX0 3 f fd ["web", "thing"] sp_b_is_house := by
  have sc := sc_b_is_house
  refine F.ok sc (fun vs H Q E h => ?_) (fun cdv A outer s H vs Q E hr h => ?_)
  · obtain ⟨S, W, u, v, d, rfl, _⟩ := h
    rfl
  · obtain ⟨S, W, u, v, d, rfl, hw, hd, q⟩ := h
    obtain ⟨a, b, ts, rfl, ha, hb, hl⟩ := hw
    refine ⟨_, (pss_one (ps_ret (pe_and (pe_c c_is_number hr (by decide) (by rfl) (pa_cons (pv 1) pa_nil)) (pe_one (pe_cmpR op_lt (pv 1) (pe_ix (kx_tup (K := K) rfl) (pv 0) pe_int (fun _ _ => rfl)) (nomark _)))))), ?_⟩
    walk_at "s"
    refine ⟨S, v, d, rfl, hd, ?_⟩
    walk_at "s"
    cases hd with
    | int i =>
      refine ite2 (fun e => ?_) (fun e => ?_)
      · walk_at "s"
        refine g_ixT (j := 0) ha rfl ?_
        walk_at "s"
        have e' : 0 ≤ i := of_decide_eq_true e
        have : isH W.n (.int i) = decide (i < W.n) := by simp [isH, e']
        rw [this] at q
        exact q
      · have e' : ¬ 0 ≤ i := fun z => e (decide_eq_true z)
        have : isH W.n (.int i) = false := by simp [isH, e']
        rw [this] at q
        exact q
    | _ =>
      refine iteF ?_
      exact q
end
end K8
set_option Elab.async false
set_option linter.all false
set_option maxRecDepth 100000
set_option maxHeartbeats 4000000
namespace K8
open PySem PySem.Spec PyProof.Rows L2
local macro_rules | `(tactic| walk_at "s") => `(tactic| repeat (first
  | with_reducible refine g_seq ?_ | with_reducible refine g_ret ?_ | with_reducible refine g_asg ?_ | with_reducible refine g_name ?_ | with_reducible refine g_c ?_ | with_reducible refine g_op ?_ | with_reducible refine g_cons ?_ | with_reducible refine g_nil ?_
  | (with_reducible show tVar _ _ _ _; refine g_var rfl ?_) | with_reducible refine g_cb ?_ | with_reducible refine g_call ?_ | with_reducible refine g_if ?_ | with_reducible refine g_test ?_ | with_reducible refine g_tB ?_ | with_reducible refine g_i0 ?_ | with_reducible refine g_bl ?_
  | with_reducible refine g_add ?_ | with_reducible refine g_sub ?_ | with_reducible refine g_eqI ?_ | with_reducible refine g_neI ?_ | with_reducible refine g_drop ?_ | with_reducible refine g_next ?_ | with_reducible refine g_break ?_ | with_reducible refine g_un ?_ | with_reducible refine g_u ?_
  | with_reducible refine g_ifE ?_ | with_reducible refine g_and ?_ | with_reducible refine g_or ?_ | with_reducible refine g_not ?_ | with_reducible refine g_andV ?_ | with_reducible refine g_orV ?_ | with_reducible refine g_notV ?_ | with_reducible refine g_isN ?_ | with_reducible refine g_notN ?_
  | with_reducible refine g_gnil ?_ | with_reducible refine g_gcons ?_ | with_reducible refine g_bm ?_ | with_reducible refine g_abs ?_ | with_reducible refine g_max ?_ | with_reducible refine g_min ?_ | with_reducible refine g_int ?_ | with_reducible refine g_lc ?_ | with_reducible refine g_for ?_ | with_reducible refine g_yes ?_ | with_reducible refine g_rng1 ?_ | with_reducible refine g_rng2 ?_ | with_reducible refine g_il ?_ | with_reducible refine g_it ?_ | with_reducible refine g_en ?_ | with_reducible refine g_zp ?_ | with_reducible refine g_mkT ?_ | with_reducible refine g_mkL ?_ | with_reducible refine g_augS ?_ | (with_reducible show tAug _ _ _ _ _ _; refine g_aug rfl ?_) | with_reducible refine g_ipI ?_ | with_reducible refine g_gsub ?_ | with_reducible refine g_dget ?_ | with_reducible refine g_din ?_ | with_reducible refine g_dnotin ?_ | with_reducible refine g_dput ?_ | with_reducible refine g_dc ?_ | with_reducible refine g_sl ?_ | with_reducible refine g_nopart ?_ | with_reducible refine g_part ?_ | with_reducible refine g_exI ?_ | with_reducible refine g_revL ?_ | (with_reducible show iSq _ _ _ _; refine g_sq rfl ?_) | with_reducible refine g_while ?_ | with_reducible refine g_min3 ?_ | with_reducible refine g_trq ?_ | with_reducible refine g_lock ?_ | with_reducible refine g_mko ?_ | with_reducible refine g_keys ?_ | with_reducible refine iteT ?_ | with_reducible refine iteF ?_))
section
variable {P : Program} {w : World} {K : PySem.W.Frag} {mg : Str → Option Value} {base : Heap} {f : Addr} {fd : FuncData} {k : Nat}
theorem sc_init : FnScope ["self", "word", "at"] ["self", "word", "at"] (defScope s_init) := ⟨rfl, rfl, rfl, by decide +kernel, rfl, by decide +kernel, by decide +kernel⟩
def sp_init (K : PySem.W.Frag) : Sp := fun vs H Q _ => ∃ (e : Addr) (x : Str) (a : Int), vs = [.ref e, .str x, .int a] ∧ H e = some (exo e (aNU K) none) ∧
  ∀ dx, H dx = none → dx ≠ e → Q .non (upd (upd (upd H dx (exd dx [("word", .str x)])) e (exo e (aNU K) (some dx))) dx (exd dx [("at", .int a), ("word", .str x)]))
theorem ok_init (F : Fun K "__init__" "NotUsable.__init__" s_init f fd) (N : NU K) : FnOk P w K mg base CX0 (k + 1) f fd ["self", "word", "at"] (sp_init K) := by
  have sc := sc_init
  refine F.ok sc (fun vs H Q E h => ?_) (fun cdv A outer s H vs Q E hr h => ?_)
  · obtain ⟨e, x, a, rfl, _⟩ := h
    rfl
  · obtain ⟨e, x, a, rfl, he, q⟩ := h
    refine ⟨_, (pss_cons (ps_ost (pv 0) (pv 1))
      (pss_one (ps_ost (pv 0) (pv 2)))), ?_⟩
    walk_at "s"
    refine ⟨_, rfl, _, rfl, e, aNU K, rfl, N.oex, N.nW, .inl ⟨he, fun dx hdx ne => ?_⟩⟩
    refine ⟨_, rfl, _, rfl, e, aNU K, rfl, N.oex, N.nA, .inr ⟨dx, _, upd_same, by rw [upd_ne ne, upd_same], by show 1 ≤ 900; decide, q dx hdx ne⟩⟩
/-- what the defs that raise need -/
structure NI (P : Program) (w : World) (K : PySem.W.Frag) (mg : Str → Option Value) (base : Heap) : Prop where
  nu : NU K
  gI : mg "NotUsable" = some (.ref (aNU K))
  ini : ∃ fdI, FnOk P w K mg base CX0 1 (aI K) fdI ["self", "word", "at"] (sp_init K) ∧ Binds K fdI ["self", "word", "at"] []
/-- the way out by the error x -/
def Out (K : PySem.W.Frag) (S : List Addr) (H : Hp) (E : XK) (x : Str) : Prop := ∀ (dx : Addr) (H' : Hp), Kp S H H' → H' dx = some (.xd (nuFs x)) → E (.ref (aNU K)) (some dx) H'
theorem Out.kp {S : List Addr} {H H1 : Hp} {E : XK} {x : Str} (o : Out K S H E x) (k : Kp S H H1) : Out K S H1 E x := fun dx H' k' e => o dx H' (k.trans k') e
theorem Out.ex {S : List Addr} {H H1 : Hp} {E : XK} {x : Str} (o : Out K S H E x) (k : Kp S H H1) : Out K [] H1 E x := fun dx H' k' e => o dx H' (k.trans (.of_ex k')) e
theorem raise_nu {H : Hp} {E : XK} {x : Str} (o : Out K [] H E x) (a : Addr) (ha : H a = none) : sp_init K (.ref a :: ([.str x, .int (-1)] ++ [])) (upd H a (exo a (aNU K) none))
    (fun v H2 => v = .non ∧ ∃ (d : Addr) (fs : List (Str × V)), H2 a = some (exo a (aNU K) (some d)) ∧ H2 d = some (exd d fs) ∧ H d = none ∧ E (.ref (aNU K)) (some d) (upd (del H2 a) d (.xd fs))) (fun _ _ _ => False) := by
  refine ⟨a, x, -1, rfl, upd_same, fun dx hdx ne => ⟨rfl, dx, _, by rw [upd_ne ne.symm, upd_same], upd_same, by rw [upd_ne ne] at hdx; exact hdx, ?_⟩⟩
  rw [upd_ne ne] at hdx
  refine o dx _ ⟨fun b u e _ => ?_, fun b u e => ?_, fun b u e => ⟨u, ?_⟩⟩ upd_same
  all_goals
    have n1 : b ≠ a := ne_of_none e ha
    have n2 : b ≠ dx := ne_of_none e hdx
    rw [upd_ne n2]
    simp only [del, n1]
    rw [if_neg (by simpa using n1)]
    rw [upd_ne n2, upd_ne n1, upd_ne n2, upd_ne n1]
    exact e
theorem sc_b_need_house : FnScope ["web", "house", "word"] ["web", "house", "word"] (defScope s_b_need_house) := ⟨rfl, rfl, rfl, by decide +kernel, rfl, by decide +kernel, by decide +kernel⟩
def sp_b_need_house (K : PySem.W.Frag) : Sp := fun vs H Q E => ∃ (S : List Addr) (W : Wb) (u v : V) (d : PyData) (x : Str), vs = [u, v, .str x] ∧ WebAt H u W ∧ Da S H v d ∧ (isH W.n d = true → Q .non H) ∧ (isH W.n d = false → Out K [] H E x)
theorem ok_b_need_house (F : Fun K "b_need_house" "b_need_house" s_b_need_house f fd) (T : Txt mg) (N : NI P w K mg base) (c_b_is_house : Cal P w K mg base 3 "b_is_house" sp_b_is_house) : FnOk P w K mg base (L2.CX P w) 4 f fd ["web", "house", "word"] (sp_b_need_house K) := by
  have sc := sc_b_need_house
  have NUx := N.nu
  have gI := N.gI
  obtain ⟨fdI, cI, bI⟩ := N.ini
  refine F.okX sc (fun vs H Q E h => ?_) (fun cdv A outer s H vs Q E hr h => ?_)
  · obtain ⟨S, W, u, v, d, x, rfl, _⟩ := h
    rfl
  · obtain ⟨S, W, u, v, d, x, rfl, hw, hd, q, o⟩ := h
    refine ⟨_, (pss_one (ps_if (pt_not (pt_val (pe_c c_b_is_house hr (by decide) (by rfl) (pa_cons (pv 0) (pa_cons (pv 1) pa_nil)))))
        (pss_one (ps_raise rfl (takes_of rfl rfl rfl rfl) (pmk_oex NUx.oex NUx.iC NUx.tI cI (hr.mono (by decide)) bI .nil pass0 (by rfl) gI (pa_cons (pv 2) (pa_cons (pe_un un_neg pe_int) pa_nil)))))
        pss_nil)), ?_⟩
    walk_at "s"
    refine ⟨S, W, u, v, d, rfl, hw, hd, ?_⟩
    walk_at "s"
    cases e : isH W.n d with
    | true =>
      refine iteF ?_
      walk_at "s"
      exact q e
    | false =>
      refine iteT ?_
      walk_at "s"
      exact ⟨by show 2 ≤ 1000; decide, fun a ha => raise_nu (o e) a ha⟩
end
end K8
set_option Elab.async false
set_option linter.all false
set_option maxRecDepth 100000
set_option maxHeartbeats 4000000
namespace K8
open PySem PySem.Spec PyProof.Rows L2
local macro_rules | `(tactic| walk_at "s") => `(tactic| repeat (first
  | with_reducible refine g_seq ?_ | with_reducible refine g_ret ?_ | with_reducible refine g_asg ?_ | with_reducible refine g_name ?_ | with_reducible refine g_c ?_ | with_reducible refine g_op ?_ | with_reducible refine g_cons ?_ | with_reducible refine g_nil ?_
  | (with_reducible show tVar _ _ _ _; refine g_var rfl ?_) | with_reducible refine g_cb ?_ | with_reducible refine g_call ?_ | with_reducible refine g_if ?_ | with_reducible refine g_test ?_ | with_reducible refine g_tB ?_ | with_reducible refine g_i0 ?_ | with_reducible refine g_bl ?_
  | with_reducible refine g_add ?_ | with_reducible refine g_sub ?_ | with_reducible refine g_eqI ?_ | with_reducible refine g_neI ?_ | with_reducible refine g_drop ?_ | with_reducible refine g_next ?_ | with_reducible refine g_break ?_ | with_reducible refine g_un ?_ | with_reducible refine g_u ?_
  | with_reducible refine g_ifE ?_ | with_reducible refine g_and ?_ | with_reducible refine g_or ?_ | with_reducible refine g_not ?_ | with_reducible refine g_andV ?_ | with_reducible refine g_orV ?_ | with_reducible refine g_notV ?_ | with_reducible refine g_isN ?_ | with_reducible refine g_notN ?_
  | with_reducible refine g_gnil ?_ | with_reducible refine g_gcons ?_ | with_reducible refine g_bm ?_ | with_reducible refine g_abs ?_ | with_reducible refine g_max ?_ | with_reducible refine g_min ?_ | with_reducible refine g_int ?_ | with_reducible refine g_lc ?_ | with_reducible refine g_for ?_ | with_reducible refine g_yes ?_ | with_reducible refine g_rng1 ?_ | with_reducible refine g_rng2 ?_ | with_reducible refine g_il ?_ | with_reducible refine g_it ?_ | with_reducible refine g_en ?_ | with_reducible refine g_zp ?_ | with_reducible refine g_mkT ?_ | with_reducible refine g_mkL ?_ | with_reducible refine g_augS ?_ | (with_reducible show tAug _ _ _ _ _ _; refine g_aug rfl ?_) | with_reducible refine g_ipI ?_ | with_reducible refine g_gsub ?_ | with_reducible refine g_dget ?_ | with_reducible refine g_din ?_ | with_reducible refine g_dnotin ?_ | with_reducible refine g_dput ?_ | with_reducible refine g_dc ?_ | with_reducible refine g_sl ?_ | with_reducible refine g_nopart ?_ | with_reducible refine g_part ?_ | with_reducible refine g_exI ?_ | with_reducible refine g_revL ?_ | (with_reducible show iSq _ _ _ _; refine g_sq rfl ?_) | with_reducible refine g_while ?_ | with_reducible refine g_min3 ?_ | with_reducible refine g_trq ?_ | with_reducible refine g_lock ?_ | with_reducible refine g_mko ?_ | with_reducible refine g_keys ?_ | with_reducible refine iteT ?_ | with_reducible refine iteF ?_))
/-! ### links -/
def IsLink (ls : List Ln) (u j o : Nat) (b : Bool) : Prop := ∃ l, ls[j]? = some l ∧ ((b = true ∧ l.a = u ∧ l.b = o) ∨ (b = false ∧ l.b = u ∧ l.a = o))
abbrev lkV (j o : Nat) (b : Bool) : List V := [.int j, .int o, .bl b]
def Rows (H : Hp) (rs : List Addr) (m : Nat) (P : Nat → Nat → Nat → Bool → Prop) : Prop := ∀ (u : Nat) (r : Addr), rs[u]? = some r → ∃ ts : List Addr, H r = some (.lst (ts.map V.ref)) ∧ ts.length ≤ m ∧
  (∀ t ∈ ts, ∃ j o b, H t = some (.tup (lkV j o b)) ∧ P u j o b) ∧ (∀ j o b, P u j o b → ∃ t ∈ ts, H t = some (.tup (lkV j o b)))
theorem Rows.kp {S : List Addr} {H H' : Hp} {rs : List Addr} {m : Nat} {P : Nat → Nat → Nat → Bool → Prop} (h : Rows H rs m P) (k : Kp S H H') (hs : ∀ r ∈ rs, r ∉ S) : Rows H' rs m P := by
  intro u r e
  obtain ⟨ts, h1, h2, h3, h4⟩ := h u r e
  refine ⟨ts, k.keep _ _ h1 (hs r (List.mem_of_getElem? e)), h2, fun t ht => ?_, fun j o b hp => ?_⟩
  · obtain ⟨j, o, b, q1, q2⟩ := h3 t ht
    exact ⟨j, o, b, k.tup _ _ q1, q2⟩
  · obtain ⟨t, q1, q2⟩ := h4 j o b hp
    exact ⟨t, q1, k.tup _ _ q2⟩
theorem Rows.app {H : Hp} {rs : List Addr} {m : Nat} {P P' : Nat → Nat → Nat → Bool → Prop} (h : Rows H rs m P) (nd : rs.Nodup) {q r : Addr} (hq : H q = none) {u j o : Nat} {b : Bool} (e : rs[u]? = some r) {xs : List V} (hx : H r = some (.lst xs))
    (hP : ∀ u' j' o' b', P' u' j' o' b' ↔ P u' j' o' b' ∨ (u' = u ∧ j' = j ∧ o' = o ∧ b' = b)) : Rows (upd (upd H q (.tup (lkV j o b))) r (.lst (xs ++ [.ref q]))) rs (m + 1) P' := by
  intro u' r' e'
  obtain ⟨ts, h1, h2, h3, h4⟩ := h u' r' e'
  have nq : ∀ t o, H t = some o → t ≠ q := fun t o z => ne_of_none z hq
  have tu : ∀ t zs, H t = some (.tup zs) → (upd (upd H q (.tup (lkV j o b))) r (.lst (xs ++ [.ref q]))) t = some (.tup zs) := fun t zs z => by
    rw [upd_ne (fun w => by rw [w, hx] at z; cases z), upd_ne (nq _ _ z)]
    exact z
  have nqr : q ≠ r := (nq r _ hx).symm
  by_cases hu : u' = u
  · subst hu
    have er : r' = r := Option.some.inj (e'.symm.trans e)
    subst er
    have ex : xs = ts.map V.ref := by
      rw [hx] at h1
      cases h1
      rfl
    subst ex
    refine ⟨ts ++ [q], by rw [upd_same, List.map_append]; rfl, by rw [List.length_append]; exact Nat.add_le_add_right h2 1, fun t ht => ?_, fun j' o' b' hp => ?_⟩
    · rcases List.mem_append.mp ht with ht | ht
      · obtain ⟨j', o', b', q1, q2⟩ := h3 t ht
        exact ⟨j', o', b', tu _ _ q1, (hP _ _ _ _).mpr (.inl q2)⟩
      · cases List.mem_singleton.mp ht
        exact ⟨j, o, b, by rw [upd_ne nqr, upd_same], (hP _ _ _ _).mpr (.inr ⟨rfl, rfl, rfl, rfl⟩)⟩
    · rcases (hP _ _ _ _).mp hp with hp | ⟨_, rfl, rfl, rfl⟩
      · obtain ⟨t, q1, q2⟩ := h4 _ _ _ hp
        exact ⟨t, List.mem_append_left _ q1, tu _ _ q2⟩
      · exact ⟨q, by simp, by rw [upd_ne nqr, upd_same]⟩
  · have nr : r' ≠ r := fun z => hu (by
      subst z
      have i1 := (List.getElem?_eq_some_iff.mp e)
      have i2 := (List.getElem?_eq_some_iff.mp e')
      exact (List.getElem_inj nd).mp (i2.2.trans i1.2.symm))
    refine ⟨ts, by rw [upd_ne nr, upd_ne (nq _ _ h1)]; exact h1, Nat.le_succ_of_le h2, fun t ht => ?_, fun j' o' b' hp => ?_⟩
    · obtain ⟨j', o', b', q1, q2⟩ := h3 t ht
      exact ⟨j', o', b', tu _ _ q1, (hP _ _ _ _).mpr (.inl q2)⟩
    · rcases (hP _ _ _ _).mp hp with hp | ⟨z, _⟩
      · obtain ⟨t, q1, q2⟩ := h4 _ _ _ hp
        exact ⟨t, q1, tu _ _ q2⟩
      · exact absurd z hu
/-- the links of W but for those to houses of D; their lists outside S -/
def LksAt (S : List Addr) (H : Hp) (v : V) (W : Wb) (D : List Nat) : Prop := ∃ (L : Addr) (rs : List Addr), v = .ref L ∧ H L = some (.lst (rs.map V.ref)) ∧ rs.length = W.n ∧ L ∉ S ∧ (∀ r ∈ rs, r ∉ S) ∧
  Rows H rs 200 (fun u j o b => IsLink W.ls u j o b ∧ o ∉ D)
theorem LksAt.kp {S : List Addr} {H H' : Hp} {v : V} {W : Wb} {D : List Nat} (h : LksAt S H v W D) (k : Kp S H H') : LksAt S H' v W D := by
  obtain ⟨L, rs, e, h1, h2, h3, h4, h5⟩ := h
  exact ⟨L, rs, e, k.keep _ _ h1 h3, h2, h3, h4, h5.kp k h4⟩
theorem LksAt.sub {S T : List Addr} {H : Hp} {v : V} {W : Wb} {D : List Nat} (h : LksAt S H v W D) (hs : ∀ x ∈ T, x ∈ S) : LksAt T H v W D := by
  obtain ⟨L, rs, e, h1, h2, h3, h4, h5⟩ := h
  exact ⟨L, rs, e, h1, h2, fun m => h3 (hs _ m), fun r hr m => h4 r hr (hs _ m), h5⟩
section
variable {P : Program} {w : World} {K : PySem.W.Frag} {mg : Str → Option Value} {base : Heap} {f : Addr} {fd : FuncData} {k : Nat}
theorem sc_b_links : FnScope ["web", "links", "line", "one", "other", "_"] ["web"] (defScope s_b_links) := ⟨rfl, rfl, rfl, by decide +kernel, rfl, by decide +kernel, by decide +kernel⟩
def sp_b_links : Sp := fun vs H Q _ => ∃ (W : Wb) (u : V), vs = [u] ∧ WebAt H u W ∧ WebOk W ∧
  ∀ (H' : Hp) (v : V), Ex H H' → (∀ S : List Addr, (∀ s ∈ S, ∃ o, H s = some o) → LksAt S H' v W []) → Q v H'
theorem isLink_take {ls : List Ln} {i : Nat} {l : Ln} (e : ls[i]? = some l) (u j o : Nat) (b : Bool) : IsLink (ls.take (i + 1)) u j o b ↔ IsLink (ls.take i) u j o b ∨ (j = i ∧ ((b = true ∧ l.a = u ∧ l.b = o) ∨ (b = false ∧ l.b = u ∧ l.a = o))) := by
  constructor
  · rintro ⟨l', h, q⟩
    rw [List.getElem?_take] at h
    split at h
    · rename_i hj
      rcases Nat.lt_succ_iff_lt_or_eq.mp hj with z | z
      · exact .inl ⟨l', by rw [List.getElem?_take, if_pos z]; exact h, q⟩
      · subst z
        rw [e] at h
        cases h
        exact .inr ⟨rfl, q⟩
    · cases h
  · rintro (⟨l', h, q⟩ | ⟨rfl, q⟩)
    · rw [List.getElem?_take] at h
      split at h
      · rename_i hj
        exact ⟨l', by rw [List.getElem?_take, if_pos (Nat.lt_succ_of_lt hj)]; exact h, q⟩
      · cases h
    · exact ⟨l, by rw [List.getElem?_take, if_pos (Nat.lt_succ_self _)]; exact e, q⟩
theorem ok_b_links (F : Fun K "b_links" "b_links" s_b_links f fd) (T : Txt mg) : FnOk P w K mg base CX0 1 f fd ["web"] sp_b_links := by
  have sc := sc_b_links
  refine F.ok sc (fun vs H Q E h => ?_) (fun cdv A outer s H vs Q E hr h => ?_)
  · obtain ⟨W, u, rfl, _⟩ := h
    rfl
  · obtain ⟨W, u, rfl, hw, ok, q⟩ := h
    obtain ⟨a, c, ls, rfl, ha, hc, hl⟩ := hw
    obtain ⟨o1, o2, o3, o4⟩ := ok
    refine ⟨_, (pss_cons (ps_setLc (i := 1) (own := [("_", 5)]) rfl sc.nd rfl rfl (sw_true rfl rfl rfl (by decide +kernel)) (pi_range1 (by rfl) T.range (pa_cons (pe_ix (kx_tup (K := K) rfl) (pv 0) pe_int (fun _ _ => rfl)) pa_nil)) (blkOk_by (N := ["web", "links", "line", "one", "other", "_"]) (sc := defScope s_b_links) (by decide +kernel)) (fun _ _ _ _ _ => (pg_name (i := 5) sc.nd rfl (by first | exact Or.inl rfl | exact Or.inr rfl))) (fun _ _ _ _ _ => pts_nil) (fun _ _ _ _ _ => (pe_lst pa_nil)))
      (pss_cons (ps_for PassesOwn.never rfl (pi_enumT (by rfl) T.enumerate (pa_cons (pe_ix (kx_tup (K := K) rfl) (pv 0) pe_int (fun _ _ => rfl)) pa_nil)) (kpg_tup (K := K) (n := 2) rfl rfl (pgs_cons (pg_name (i := 2) sc.nd rfl (by first | exact Or.inl rfl | exact Or.inr rfl)) (pgs_cons (kpg_tup (K := K) (n := 3) rfl rfl (pgs_cons (pg_name (i := 3) sc.nd rfl (by first | exact Or.inl rfl | exact Or.inr rfl)) (pgs_cons (pg_name (i := 4) sc.nd rfl (by first | exact Or.inl rfl | exact Or.inr rfl)) (pgs_cons (pg_name (i := 5) sc.nd rfl (by first | exact Or.inl rfl | exact Or.inr rfl)) pgs_nil)))) pgs_nil)))
        (pss_cons (ps_expr (pe_bm PySem.F.plainAttrs_list PySem.F.slot_list_append PySem.F.type_list_append mt_append (pe_ix (kx_list (K := K) rfl) (pv 1) (pv 3) (fun _ _ => rfl)) (pa_cons (pe_tup (pa_cons (pv 2) (pa_cons (pv 4) (pa_cons pe_bl pa_nil)))) pa_nil)))
        (pss_one (ps_expr (pe_bm PySem.F.plainAttrs_list PySem.F.slot_list_append PySem.F.type_list_append mt_append (pe_ix (kx_list (K := K) rfl) (pv 1) (pv 4) (fun _ _ => rfl)) (pa_cons (pe_tup (pa_cons (pv 2) (pa_cons (pv 3) (pa_cons pe_bl pa_nil)))) pa_nil))))))
      (pss_one (ps_ret (pv 1))))), ?_⟩
    walk_at "s"
    refine g_ixT (j := 0) ha rfl ?_
    walk_at "s"
    refine ⟨_, rfl, by omega, by omega, fun D hD => ?_⟩
    refine lc_range (n := W.n) (fun i H' => Ex H H' ∧ ∃ rs : List Addr, rs.length = i ∧ H' D = some (.lst (rs.map V.ref)) ∧ rs.Nodup ∧ D ∉ rs ∧ (∀ r ∈ rs, H r = none ∧ H' r = some (.lst []))) ⟨.new hD, [], rfl, upd_same, List.nodup_nil, List.not_mem_nil, fun r hr => absurd hr List.not_mem_nil⟩ (fun i H1 hi h => ?_) (fun H1 h => ?_)
    · obtain ⟨k1, rs, hlen, hD1, nd, nD, hr⟩ := h
      walk_at "s"
      refine ⟨rfl, ?_⟩
      walk_at "s"
      refine ⟨Nat.zero_le _, fun p hp => ?_⟩
      have np : D ≠ p := ne_of_none hD1 hp
      refine ⟨rs.map V.ref, by rw [upd_ne np]; exact hD1, small1000 (by rw [List.length_map]; omega), ?_, rs ++ [p], by simp [hlen], by rw [upd_same, List.map_append]; rfl, ?_, ?_, fun r hr' => ?_⟩
      · exact (k1.nnew hp).mutL hD (by rw [upd_ne np]; exact hD1)
      · rw [List.nodup_append]
        exact ⟨nd, by simp, fun x hx y hy => by cases List.mem_singleton.mp hy; exact ne_of_none (hr x hx).2 hp⟩
      · rw [List.mem_append]
        exact fun z => z.elim nD fun z => np (List.mem_singleton.mp z)
      · rcases List.mem_append.mp hr' with z | z
        · have := hr r z
          refine ⟨this.1, ?_⟩
          rw [upd_ne (fun w => nD (by rw [← w]; exact z)), upd_ne (ne_of_none this.2 hp)]
          exact this.2
        · cases List.mem_singleton.mp z
          exact ⟨k1.free hp, by rw [upd_ne np.symm, upd_same]⟩
    · obtain ⟨k1, rs, hlen, hD1, nd, nD, hr⟩ := h
      walk_at "s"
      refine g_ixT (j := 1) (k1.tup _ _ ha) rfl ?_
      walk_at "s"
      refine ⟨c, _, rfl, k1.tup _ _ hc, ?_⟩
      refine for_it (walk_enumT (xs := ls.map V.ref)) (fun i σ H' => Ex H H' ∧ H' D = some (.lst (rs.map V.ref)) ∧ Rows H' rs (2 * i) (fun u j o b => IsLink (W.ls.take i) u j o b) ∧ ∃ y2 y3 y4 y5, σ = [some (.ref a), some (.ref D), y2, y3, y4, y5]) ?_ ?_ (fun i x σ H2 H3 hi h hy => ?_) (fun σ H2 h => ?_)
      · refine ⟨k1, hD1, fun u r e => ⟨[], (hr r (List.mem_of_getElem? e)).2, Nat.le_refl _, fun t ht => absurd ht List.not_mem_nil, fun j o b ⟨l, e, _⟩ => ?_⟩, none, none, none, none, rfl⟩
        rw [List.take_zero] at e
        cases e
      · exact fun i σ H' _ h => h.1.tup _ _ hc
      · obtain ⟨k2, hD2, hR, y2, y3, y4, y5, rfl⟩ := h
        obtain ⟨p, x1, x2, rfl, hp, rfl, ex1, ex2⟩ := hy
        cases ex1
        replace ex2 : (ls.map V.ref)[i]? = some x2 := ex2
        rw [List.length_map, hl.1] at hi
        have el : W.ls[i]? = some W.ls[i] := List.getElem?_eq_getElem hi
        obtain ⟨t, rfl, ht⟩ := hl.ref ex2 el
        have okl := o4 _ (List.getElem_mem hi)
        generalize W.ls[i] = l at *
        have k3 : Ex H (upd H2 p (.tup [.int i, .ref t])) := k2.nnew hp
        have hD3 : upd H2 p (.tup [.int i, .ref t]) D = some (.lst (rs.map V.ref)) := by rw [upd_ne (ne_of_none hD2 hp)]; exact hD2
        have hR3 : Rows (upd H2 p (.tup [.int i, .ref t])) rs (2 * i) (fun u j o b => IsLink (W.ls.take i) u j o b) := hR.kp (.new (S := []) hp) fun _ _ => List.not_mem_nil
        refine g_gtup upd_same rfl ?_
        walk_at "s"
        refine g_gtup (k3.tup _ _ ht) rfl ?_
        walk_at "s"
        obtain ⟨r1, er1⟩ : ∃ r, rs[l.a]? = some r := ⟨_, List.getElem?_eq_getElem (by omega)⟩
        obtain ⟨r2, er2⟩ : ∃ r, rs[l.b]? = some r := ⟨_, List.getElem?_eq_getElem (by omega)⟩
        obtain ⟨ts1, hr1, hm1, _⟩ := hR3 _ _ er1
        generalize upd H2 p (.tup [.int i, .ref t]) = H3 at *
        refine g_ixL (j := l.a) hD3 (by rw [List.getElem?_map, er1]; rfl) ?_
        walk_at "s"
        refine g_ty hr1 ?_
        walk_at "s"
        refine ⟨sz, fun q1 hq1 => ?_⟩
        walk_at "s"
        refine g_app (by rw [upd_ne (ne_of_none hr1 hq1)]; exact hr1) (by rw [List.length_map]; omega) ?_
        have mD : ∀ r, r ∈ rs → D ≠ r := fun r hr z => nD (z ▸ hr)
        have hR4 := hR3.app nd hq1 (u := l.a) (j := i) (o := l.b) (b := true) (P' := fun u j o b => IsLink (W.ls.take i) u j o b ∨ (u = l.a ∧ j = i ∧ o = l.b ∧ b = true)) er1 hr1 (fun u j o b => Iff.rfl)
        have k4 : Ex H (upd (upd H3 q1 (.tup (lkV i l.b true))) r1 (.lst (ts1.map V.ref ++ [.ref q1]))) := (k3.nnew hq1).mutL (hr r1 (List.mem_of_getElem? er1)).1 (by rw [upd_ne (ne_of_none hr1 hq1)]; exact hr1)
        have hD4 : (upd (upd H3 q1 (.tup (lkV i l.b true))) r1 (.lst (ts1.map V.ref ++ [.ref q1]))) D = some (.lst (rs.map V.ref)) := by rw [upd_ne (mD _ (List.mem_of_getElem? er1)), upd_ne (ne_of_none hD3 hq1)]; exact hD3
        generalize (upd (upd H3 q1 (.tup (lkV i l.b true))) r1 (.lst (ts1.map V.ref ++ [.ref q1]))) = H4 at *
        walk_at "s"
        obtain ⟨ts2, hr2, hm2, _⟩ := hR4 _ _ er2
        refine g_ixL (j := l.b) hD4 (by rw [List.getElem?_map, er2]; rfl) ?_
        walk_at "s"
        refine g_ty hr2 ?_
        walk_at "s"
        refine ⟨sz, fun q2 hq2 => ?_⟩
        walk_at "s"
        refine g_app (by rw [upd_ne (ne_of_none hr2 hq2)]; exact hr2) (by rw [List.length_map]; omega) ?_
        walk_at "s"
        have hR5 := hR4.app nd hq2 (u := l.b) (j := i) (o := l.a) (b := false) (P' := fun u j o b => IsLink (W.ls.take (i + 1)) u j o b) er2 hr2 (fun u j o b => by
          rw [isLink_take el]
          constructor
          · rintro (h | ⟨rfl, ⟨rfl, rfl, rfl⟩ | ⟨rfl, rfl, rfl⟩⟩)
            · exact .inl (.inl h)
            · exact .inl (.inr ⟨rfl, rfl, rfl, rfl⟩)
            · exact .inr ⟨rfl, rfl, rfl, rfl⟩
          · rintro ((h | ⟨rfl, rfl, rfl, rfl⟩) | ⟨rfl, rfl, rfl, rfl⟩)
            · exact .inl h
            · exact .inr ⟨rfl, .inl ⟨rfl, rfl, rfl⟩⟩
            · exact .inr ⟨rfl, .inr ⟨rfl, rfl, rfl⟩⟩)
        refine ⟨(k4.nnew hq2).mutL (hr r2 (List.mem_of_getElem? er2)).1 (by rw [upd_ne (ne_of_none hr2 hq2)]; exact hr2), ?_, ?_, _, _, _, _, rfl⟩
        · rw [upd_ne (mD _ (List.mem_of_getElem? er2)), upd_ne (ne_of_none hD4 hq2)]
          exact hD4
        · exact hR5
      · obtain ⟨k2, hD2, hR, y2, y3, y4, y5, rfl⟩ := h
        walk_at "s"
        refine q H2 (.ref D) k2 fun S hS => ⟨D, rs, rfl, hD2, hlen, fun m => ?_, fun r hr' m => ?_, ?_⟩
        · obtain ⟨o, e⟩ := hS D m
          rw [hD] at e
          cases e
        · obtain ⟨o, e⟩ := hS r m
          rw [(hr r hr').1] at e
          cases e
        · rw [List.length_map, hl.1, List.take_length] at hR
          intro u r e
          obtain ⟨ts, h1, h2, h3, h4⟩ := hR u r e
          exact ⟨ts, h1, by omega, fun t ht => let ⟨j, o, b, q1, q2⟩ := h3 t ht; ⟨j, o, b, q1, q2, List.not_mem_nil⟩, fun j o b hp => h4 j o b hp.1⟩
end
end K8
set_option Elab.async false
set_option linter.all false
set_option maxRecDepth 100000
set_option maxHeartbeats 4000000
namespace K8
open PySem PySem.Spec PyProof.Rows L2
local macro_rules | `(tactic| walk_at "s") => `(tactic| repeat (first
  | with_reducible refine g_seq ?_ | with_reducible refine g_ret ?_ | with_reducible refine g_asg ?_ | with_reducible refine g_name ?_ | with_reducible refine g_c ?_ | with_reducible refine g_op ?_ | with_reducible refine g_cons ?_ | with_reducible refine g_nil ?_
  | (with_reducible show tVar _ _ _ _; refine g_var rfl ?_) | with_reducible refine g_cb ?_ | with_reducible refine g_call ?_ | with_reducible refine g_if ?_ | with_reducible refine g_test ?_ | with_reducible refine g_tB ?_ | with_reducible refine g_i0 ?_ | with_reducible refine g_bl ?_
  | with_reducible refine g_add ?_ | with_reducible refine g_sub ?_ | with_reducible refine g_eqI ?_ | with_reducible refine g_neI ?_ | with_reducible refine g_drop ?_ | with_reducible refine g_next ?_ | with_reducible refine g_break ?_ | with_reducible refine g_un ?_ | with_reducible refine g_u ?_
  | with_reducible refine g_ifE ?_ | with_reducible refine g_and ?_ | with_reducible refine g_or ?_ | with_reducible refine g_not ?_ | with_reducible refine g_andV ?_ | with_reducible refine g_orV ?_ | with_reducible refine g_notV ?_ | with_reducible refine g_isN ?_ | with_reducible refine g_notN ?_
  | with_reducible refine g_gnil ?_ | with_reducible refine g_gcons ?_ | with_reducible refine g_bm ?_ | with_reducible refine g_abs ?_ | with_reducible refine g_max ?_ | with_reducible refine g_min ?_ | with_reducible refine g_int ?_ | with_reducible refine g_lc ?_ | with_reducible refine g_for ?_ | with_reducible refine g_yes ?_ | with_reducible refine g_rng1 ?_ | with_reducible refine g_rng2 ?_ | with_reducible refine g_il ?_ | with_reducible refine g_it ?_ | with_reducible refine g_en ?_ | with_reducible refine g_zp ?_ | with_reducible refine g_mkT ?_ | with_reducible refine g_mkL ?_ | with_reducible refine g_augS ?_ | (with_reducible show tAug _ _ _ _ _ _; refine g_aug rfl ?_) | with_reducible refine g_ipI ?_ | with_reducible refine g_gsub ?_ | with_reducible refine g_dget ?_ | with_reducible refine g_din ?_ | with_reducible refine g_dnotin ?_ | with_reducible refine g_dput ?_ | with_reducible refine g_dc ?_ | with_reducible refine g_sl ?_ | with_reducible refine g_nopart ?_ | with_reducible refine g_part ?_ | with_reducible refine g_exI ?_ | with_reducible refine g_revL ?_ | (with_reducible show iSq _ _ _ _; refine g_sq rfl ?_) | with_reducible refine g_while ?_ | with_reducible refine g_min3 ?_ | with_reducible refine g_trq ?_ | with_reducible refine g_lock ?_ | with_reducible refine g_mko ?_ | with_reducible refine g_keys ?_ | with_reducible refine iteT ?_ | with_reducible refine iteF ?_))
section
variable {P : Program} {w : World} {K : PySem.W.Frag} {mg : Str → Option Value} {base : Heap} {f : Addr} {fd : FuncData} {k : Nat}
/-- a new list of ints -/
def NewL (H : Hp) (Q : VK) (xs : List Int) : Prop := ∀ (q : Addr) (H' : Hp), Ex H H' → H q = none → H' q = some (.lst (zs xs)) → Q (.ref q) H'
theorem sc_b_turned : FnScope ["web", "near", "coins", "row"] ["web", "near"] (defScope s_b_turned) := ⟨rfl, rfl, rfl, by decide +kernel, rfl, by decide +kernel, by decide +kernel⟩
def sp_b_turned : Sp := fun vs H Q _ => ∃ (W : Wb) (u : V) (p : Addr) (near : List Int), vs = [u, .ref p] ∧ WebAt H u W ∧ WebOk W ∧ H p = some (.lst (zs near)) ∧ near.length = W.ls.length ∧ NewL H Q (turn W.ls near)
theorem ok_b_turned (F : Fun K "b_turned" "b_turned" s_b_turned f fd) (T : Txt mg) : FnOk P w K mg base CX0 1 f fd ["web", "near"] sp_b_turned := by
  have sc := sc_b_turned
  refine F.ok sc (fun vs H Q E h => ?_) (fun cdv A outer s H vs Q E hr h => ?_)
  · obtain ⟨W, u, p, near, rfl, _⟩ := h
    rfl
  · obtain ⟨W, u, p, near, rfl, hw, ok, hp, hn, q⟩ := h
    obtain ⟨a, c, ls, rfl, ha, hc, hl⟩ := hw
    obtain ⟨o1, o2, o3, o4⟩ := ok
    refine ⟨_, (pss_one (ps_ret (pe_lc (own := [("row", 3), ("coins", 2)]) rfl sc.nd (pi_zipM (by rfl) T.zip (pa_cons (pe_ix (kx_tup (K := K) rfl) (pv 0) pe_int (fun _ _ => rfl)) (pa_cons (pv 1) pa_nil))) (blkOk_by (N := ["web", "near", "coins", "row"]) (sc := defScope s_b_turned) (by decide +kernel)) (fun _ _ _ _ _ => (kpg_tup (K := K) (n := 2) rfl rfl (pgs_cons (pg_name (i := 3) sc.nd rfl (by first | exact Or.inl rfl | exact Or.inr rfl)) (pgs_cons (pg_name (i := 2) sc.nd rfl (by first | exact Or.inl rfl | exact Or.inr rfl)) pgs_nil)))) (fun _ _ _ _ _ => pts_nil) (fun _ _ _ _ _ => (pe_op op_sub (pe_ix (kx_tup (K := K) rfl) (pv 3) pe_int (fun _ _ => rfl)) (pv 2)))))), ?_⟩
    walk_at "s"
    refine g_ixT (j := 1) ha rfl ?_
    walk_at "s"
    refine ⟨c, p, _, _, rfl, hc, hp, fun D hD => ?_⟩
    refine lc_it (walk_zipM (xs := ls.map V.ref) (ys := zs near) (n := W.ls.length) (by rw [List.length_map, hl.1]) (by rw [zs_len, hn])) (fun i H' => Ex H H' ∧ H' D = some (.lst (zs ((turn W.ls near).take i)))) ⟨.new hD, upd_same⟩ (fun i H' _ h => ⟨h.1.tup _ _ hc, h.1.keep _ _ hp List.not_mem_nil⟩) (fun i x H1 H2 hi h hy => ?_) (fun H1 h => ?_)
    · obtain ⟨k1, hD1⟩ := h
      obtain ⟨T, x1, x2, rfl, hT, rfl, e1, e2⟩ := hy
      have el : W.ls[i]? = some W.ls[i] := List.getElem?_eq_getElem hi
      have ec : near[i]? = some (near[i]'(by omega)) := List.getElem?_eq_getElem (by omega)
      obtain ⟨t, rfl, ht⟩ := hl.ref e1 el
      cases zs_at e2 ec
      have et := turn_get _ _ _ _ _ el ec
      refine g_gtup upd_same rfl ?_
      walk_at "s"
      refine ⟨rfl, ?_⟩
      walk_at "s"
      refine g_ixT (j := 2) ((Kp.new (S := []) hT).tup _ _ (k1.tup _ _ ht)) rfl ?_
      walk_at "s"
      have hD2 : upd H1 T (.tup [.ref t, .int (near[i]'(by omega))]) D = some (.lst (zs ((turn W.ls near).take i))) := by rw [upd_ne (ne_of_none hD1 hT)]; exact hD1
      refine ⟨_, hD2, small1000 (by rw [zs_len, List.length_take]; omega), (k1.nnew hT).mutL hD hD2, ?_⟩
      rw [upd_same, List.take_add_one, et, zs, zs, List.map_append]
      rfl
    · obtain ⟨k1, hD1⟩ := h
      rw [List.take_of_length_le (by rw [turn_len _ _ hn]; exact Nat.le_refl _)] at hD1
      exact q D H1 k1 hD hD1
theorem sc_b_purses : FnScope ["web", "near", "purses", "one", "other", "room", "coins"] ["web", "near"] (defScope s_b_purses) := ⟨rfl, rfl, rfl, by decide +kernel, rfl, by decide +kernel, by decide +kernel⟩
def sp_b_purses : Sp := fun vs H Q _ => ∃ (W : Wb) (u : V) (p : Addr) (near : List Int), vs = [u, .ref p] ∧ WebAt H u W ∧ WebOk W ∧ H p = some (.lst (zs near)) ∧ near.length = W.ls.length ∧
  ∀ xs : List Int, xs.length = W.n → (∀ v, v < W.n → xs[v]? = some (purse W.ls near v)) → NewL H Q xs
theorem ok_b_purses (F : Fun K "b_purses" "b_purses" s_b_purses f fd) (T : Txt mg) : FnOk P w K mg base CX0 1 f fd ["web", "near"] sp_b_purses := by
  have sc := sc_b_purses
  refine F.ok sc (fun vs H Q E h => ?_) (fun cdv A outer s H vs Q E hr h => ?_)
  · obtain ⟨W, u, p, near, rfl, _⟩ := h
    rfl
  · obtain ⟨W, u, p, near, rfl, hw, ok, hp, hn, q⟩ := h
    obtain ⟨a, c, ls, rfl, ha, hc, hl⟩ := hw
    obtain ⟨o1, o2, o3, o4⟩ := ok
    refine ⟨_, (pss_cons (ps_set (i := 2) sc.nd rfl (by first | exact Or.inl rfl | exact Or.inr rfl) (pe_op op_rep (pe_lst (pa_cons pe_int pa_nil)) (pe_ix (kx_tup (K := K) rfl) (pv 0) pe_int (fun _ _ => rfl))))
      (pss_cons (ps_for PassesOwn.never rfl (pi_zipM (by rfl) T.zip (pa_cons (pe_ix (kx_tup (K := K) rfl) (pv 0) pe_int (fun _ _ => rfl)) (pa_cons (pv 1) pa_nil))) (kpg_tup (K := K) (n := 2) rfl rfl (pgs_cons (kpg_tup (K := K) (n := 3) rfl rfl (pgs_cons (pg_name (i := 3) sc.nd rfl (by first | exact Or.inl rfl | exact Or.inr rfl)) (pgs_cons (pg_name (i := 4) sc.nd rfl (by first | exact Or.inl rfl | exact Or.inr rfl)) (pgs_cons (pg_name (i := 5) sc.nd rfl (by first | exact Or.inl rfl | exact Or.inr rfl)) pgs_nil)))) (pgs_cons (pg_name (i := 6) sc.nd rfl (by first | exact Or.inl rfl | exact Or.inr rfl)) pgs_nil)))
        (pss_cons (ps_augS (pv 2) (pv 3) (kget_list (K := K) rfl) (pv 6) ip_add set_list)
        (pss_one (ps_augS (pv 2) (pv 4) (kget_list (K := K) rfl) (pe_op op_sub (pv 5) (pv 6)) ip_add set_list))))
      (pss_one (ps_ret (pv 2))))), ?_⟩
    walk_at "s"
    refine ⟨sz, fun z hz => ?_⟩
    walk_at "s"
    have k0 : Ex H (upd H z (.lst [.int 0])) := .new hz
    refine g_ixT (j := 0) (k0.tup _ _ ha) rfl ?_
    walk_at "s"
    refine g_rep upd_same (by omega) fun r hr0 => ?_
    walk_at "s"
    have hrH := k0.free hr0
    have k1 := k0.nnew (o := .lst (zs (List.replicate W.n 0))) hr0
    refine g_ixT (j := 1) (k1.tup _ _ ha) rfl ?_
    walk_at "s"
    refine ⟨c, p, _, _, rfl, k1.tup _ _ hc, k1.keep _ _ hp List.not_mem_nil, ?_⟩
    refine for_it (walk_zipM (xs := ls.map V.ref) (ys := zs near) (n := W.ls.length) (by rw [List.length_map, hl.1]) (by rw [zs_len, hn])) (fun i σ H' => Ex H H' ∧ (∃ xs : List Int, H' r = some (.lst (zs xs)) ∧ xs.length = W.n ∧ ∀ v, v < W.n → xs[v]? = some (purse (W.ls.take i) (near.take i) v)) ∧ ∃ y3 y4 y5 y6, σ = [some (.ref a), some (.ref p), some (.ref r), y3, y4, y5, y6]) ?_ (fun i σ H' _ h => ⟨h.1.tup _ _ hc, h.1.keep _ _ hp List.not_mem_nil⟩) (fun i x σ H1 H2 hi h hy => ?_) (fun σ H1 h => ?_)
    · refine ⟨k1, ⟨_, upd_same, List.length_replicate, fun v hv => ?_⟩, none, none, none, none, rfl⟩
      rw [List.getElem?_replicate, if_pos hv]
      rfl
    · obtain ⟨k2, ⟨xs, hx, hxl, hxs⟩, y3, y4, y5, y6, rfl⟩ := h
      obtain ⟨T, x1, x2, rfl, hT, rfl, e1, e2⟩ := hy
      have el : W.ls[i]? = some W.ls[i] := List.getElem?_eq_getElem hi
      have ec : near[i]? = some (near[i]'(by omega)) := List.getElem?_eq_getElem (by omega)
      obtain ⟨t, rfl, ht⟩ := hl.ref e1 el
      cases zs_at e2 ec
      have okl := o4 _ (List.getElem_mem hi)
      have pt := fun v => purse_take _ _ _ _ _ v el ec
      generalize near[i]'(by omega) = cc at *
      generalize W.ls[i] = l at *
      have k3 : Ex H (upd H1 T (.tup [.ref t, .int cc])) := k2.nnew hT
      have hx3 : upd H1 T (.tup [.ref t, .int cc]) r = some (.lst (zs xs)) := by rw [upd_ne (ne_of_none hx hT)]; exact hx
      generalize hH3 : upd H1 T (.tup [.ref t, .int cc]) = H3 at *
      refine g_gtup (by rw [← hH3, upd_same]) rfl ?_
      walk_at "s"
      refine g_gtup (k3.tup _ _ ht) rfl ?_
      walk_at "s"
      have ga := hxs l.a (by omega)
      refine g_getL hx3 (zs_get ga) ?_
      walk_at "s"
      refine g_setL hx3 (by rw [zs_len]; omega) ?_
      walk_at "s"
      rw [← List.map_set]
      have k4 := k3.mutL (o' := .lst (zs (xs.set l.a (purse (W.ls.take i) (near.take i) l.a + cc)))) hrH hx3
      refine g_getL upd_same (k := l.b) (v := .int (purse (W.ls.take i) (near.take i) l.b)) (zs_get ?_) ?_
      · rw [List.getElem?_set, if_neg (by omega)]
        exact hxs l.b (by omega)
      walk_at "s"
      refine g_setL upd_same (by rw [zs_len, List.length_set]; omega) ?_
      walk_at "s"
      rw [← List.map_set]
      refine ⟨k4.mutL hrH upd_same, ⟨_, upd_same, by rw [List.length_set, List.length_set]; exact hxl, fun v hv => ?_⟩, _, _, _, _, rfl⟩
      rw [pt v]
      by_cases hb : l.b = v
      · rw [if_pos hb, if_neg (by omega), List.getElem?_set, if_pos hb, if_pos (by rw [List.length_set]; omega), ← hb]
        congr 1
        omega
      · rw [if_neg hb, List.getElem?_set, if_neg hb, List.getElem?_set]
        by_cases hb2 : l.a = v
        · rw [if_pos hb2, if_pos (by omega), if_pos hb2, ← hb2]
          congr 1
          omega
        · rw [if_neg hb2, if_neg hb2, hxs v hv]
          congr 1
          omega
    · obtain ⟨k2, ⟨xs, hx, hxl, hxs⟩, y3, y4, y5, y6, rfl⟩ := h
      walk_at "s"
      rw [List.take_of_length_le (Nat.le_refl _), List.take_of_length_le (by omega)] at hxs
      exact q xs hxl hxs r H1 k2 hrH hx
end
end K8
set_option Elab.async false
set_option linter.all false
set_option maxRecDepth 100000
set_option maxHeartbeats 4000000
namespace K8
open PySem PySem.Spec PyProof.Rows L2
local macro_rules | `(tactic| walk_at "s") => `(tactic| repeat (first
  | with_reducible refine g_seq ?_ | with_reducible refine g_ret ?_ | with_reducible refine g_asg ?_ | with_reducible refine g_name ?_ | with_reducible refine g_c ?_ | with_reducible refine g_op ?_ | with_reducible refine g_cons ?_ | with_reducible refine g_nil ?_
  | (with_reducible show tVar _ _ _ _; refine g_var rfl ?_) | with_reducible refine g_cb ?_ | with_reducible refine g_call ?_ | with_reducible refine g_if ?_ | with_reducible refine g_test ?_ | with_reducible refine g_tB ?_ | with_reducible refine g_i0 ?_ | with_reducible refine g_bl ?_
  | with_reducible refine g_add ?_ | with_reducible refine g_sub ?_ | with_reducible refine g_eqI ?_ | with_reducible refine g_neI ?_ | with_reducible refine g_drop ?_ | with_reducible refine g_next ?_ | with_reducible refine g_break ?_ | with_reducible refine g_un ?_ | with_reducible refine g_u ?_
  | with_reducible refine g_ifE ?_ | with_reducible refine g_and ?_ | with_reducible refine g_or ?_ | with_reducible refine g_not ?_ | with_reducible refine g_andV ?_ | with_reducible refine g_orV ?_ | with_reducible refine g_notV ?_ | with_reducible refine g_isN ?_ | with_reducible refine g_notN ?_
  | with_reducible refine g_gnil ?_ | with_reducible refine g_gcons ?_ | with_reducible refine g_bm ?_ | with_reducible refine g_abs ?_ | with_reducible refine g_max ?_ | with_reducible refine g_min ?_ | with_reducible refine g_int ?_ | with_reducible refine g_lc ?_ | with_reducible refine g_for ?_ | with_reducible refine g_yes ?_ | with_reducible refine g_rng1 ?_ | with_reducible refine g_rng2 ?_ | with_reducible refine g_il ?_ | with_reducible refine g_it ?_ | with_reducible refine g_en ?_ | with_reducible refine g_zp ?_ | with_reducible refine g_mkT ?_ | with_reducible refine g_mkL ?_ | with_reducible refine g_augS ?_ | (with_reducible show tAug _ _ _ _ _ _; refine g_aug rfl ?_) | with_reducible refine g_ipI ?_ | with_reducible refine g_gsub ?_ | with_reducible refine g_dget ?_ | with_reducible refine g_din ?_ | with_reducible refine g_dnotin ?_ | with_reducible refine g_dput ?_ | with_reducible refine g_dc ?_ | with_reducible refine g_sl ?_ | with_reducible refine g_nopart ?_ | with_reducible refine g_part ?_ | with_reducible refine g_exI ?_ | with_reducible refine g_revL ?_ | (with_reducible show iSq _ _ _ _; refine g_sq rfl ?_) | with_reducible refine g_while ?_ | with_reducible refine g_min3 ?_ | with_reducible refine g_trq ?_ | with_reducible refine g_lock ?_ | with_reducible refine g_mko ?_ | with_reducible refine g_keys ?_ | with_reducible refine iteT ?_ | with_reducible refine iteF ?_))
/-! ### the dict of a search -/
def BV (H : Hp) (v : V) : Option (Nat × Nat) → Prop
  | none => v = .non
  | some (i, u) => ∃ t, v = .ref t ∧ H t = some (.tup [.int i, .int u])
def BackAt (H : Hp) (D : Addr) (bk : Bk) : Prop := ∃ kvs : List (Key × V), H D = some (.dK kvs) ∧ kvs.map (·.1) = (keysB bk).map (fun h : Nat => (Sum.inl (h : Int) : Key)) ∧
  ∀ (j h : Nat) (o : Option (Nat × Nat)), bk[j]? = some (h, o) → ∃ v, kvs[j]? = some (Sum.inl (h : Int), v) ∧ BV H v o
theorem BV.tup {S : List Addr} {H H' : Hp} {v : V} {o : Option (Nat × Nat)} (h : BV H v o) (k : Kp S H H') : BV H' v o := by
  cases o with
  | none => exact h
  | some iu =>
    obtain ⟨t, e, ht⟩ := h
    exact ⟨t, e, k.tup _ _ ht⟩
theorem BackAt.kp {S : List Addr} {H H' : Hp} {D : Addr} {bk : Bk} (h : BackAt H D bk) (k : Kp S H H') (hD : D ∉ S) : BackAt H' D bk := by
  obtain ⟨kvs, h1, h2, h3⟩ := h
  exact ⟨kvs, k.keep _ _ h1 hD, h2, fun j x o e => let ⟨v, q1, q2⟩ := h3 j x o e; ⟨v, q1, q2.tup k⟩⟩
theorem keyInj {a b : Nat} (h : (Sum.inl (a : Int) : Key) = Sum.inl (b : Int)) : a = b := by
  have := Sum.inl.inj h
  omega
theorem back_none {kvs : List (Key × V)} {bk : Bk} (h : kvs.map (·.1) = (keysB bk).map (fun h : Nat => (Sum.inl (h : Int) : Key))) (x : Nat) : (valV kvs (Sum.inl (x : Int))).isSome = decide (x ∈ keysB bk) := by
  cases e : valV kvs (Sum.inl (x : Int)) with
  | none =>
    have h1 := valV_not e
    rw [h] at h1
    have : x ∉ keysB bk := fun z => h1 (List.mem_map.mpr ⟨x, z, rfl⟩)
    simp [this]
  | some v =>
    have h1 := valV_in e
    rw [h] at h1
    obtain ⟨y, hy, q⟩ := List.mem_map.mp h1
    rw [← keyInj q]
    simp [hy]
theorem back_nd {bk : Bk} (nd : (keysB bk).Nodup) : ((keysB bk).map (fun h : Nat => (Sum.inl (h : Int) : Key))).Nodup := by
  rw [List.Nodup, List.pairwise_map]
  exact nd.imp fun hab z => hab (keyInj z)
/-- back[h] -/
theorem BackAt.get {H : Hp} {D : Addr} {bk : Bk} (b : BackAt H D bk) (nd : (keysB bk).Nodup) {j h : Nat} {o : Option (Nat × Nat)} (e : bk[j]? = some (h, o)) : ∃ v, DGet H D (.int (h : Int)) (some v) ∧ BV H v o := by
  obtain ⟨kvs, h1, h2, h3⟩ := b
  obtain ⟨v, q1, q2⟩ := h3 j h o e
  refine ⟨v, ?_, q2⟩
  have := val_nodup (kvs := kvs) (by rw [h2]; exact back_nd nd) _ (List.mem_of_getElem? q1)
  have g := DGet.k (k := Sum.inl (h : Int)) h1
  rw [this] at g
  exact g
theorem BackAt.has {H : Hp} {D : Addr} {bk : Bk} (b : BackAt H D bk) (x : Nat) : ∃ o, DGet H D (.int (x : Int)) o ∧ o.isSome = decide (x ∈ keysB bk) := by
  obtain ⟨kvs, h1, h2, h3⟩ := b
  exact ⟨_, DGet.k (k := Sum.inl (x : Int)) h1, back_none h2 x⟩
/-- back[o] = v -/
theorem BackAt.put {H : Hp} {D : Addr} {bk : Bk} (b : BackAt H D bk) {x : Nat} (hx : x ∉ keysB bk) {v : V} {o : Option (Nat × Nat)} (hv : BV H v o) (hl : bk.length ≤ 100) :
    ∃ kvs, H D = some (.dK kvs) ∧ kvs.length = bk.length ∧ BackAt (upd H D (.dK (putK kvs (Sum.inl (x : Int)) v))) D (bk ++ [(x, o)]) := by
  obtain ⟨kvs, h1, h2, h3⟩ := b
  have hlen : kvs.length = bk.length := by
    have := congrArg List.length h2
    simpa using this
  have hn : valV kvs (Sum.inl (x : Int)) = none := by
    have := back_none h2 x
    rw [decide_eq_false hx] at this
    cases e : valV kvs (Sum.inl (x : Int)) with
    | none => rfl
    | some v => rw [e] at this; cases this
  have tu : ∀ {v : V} {o : Option (Nat × Nat)} (ob : HO), BV H v o → BV (upd H D ob) v o := fun {v o} ob hb => by
    cases o with
    | none => exact hb
    | some iu =>
      obtain ⟨t, e, ht⟩ := hb
      exact ⟨t, e, by rw [upd_ne (fun z => by rw [z, h1] at ht; cases ht)]; exact ht⟩
  refine ⟨kvs, h1, hlen, _, upd_same, ?_, fun j h o' e => ?_⟩
  · rw [putK_new v hn, keysB, List.map_append, List.map_append, List.map_append, h2]
    rfl
  · rw [putK_new v hn]
    by_cases hj : j < bk.length
    · rw [List.getElem?_append_left hj] at e
      obtain ⟨v', q1, q2⟩ := h3 j h o' e
      exact ⟨v', by rw [List.getElem?_append_left (by omega)]; exact q1, tu _ q2⟩
    · rw [List.getElem?_append_right (by omega)] at e
      have e0 : j - bk.length = 0 := by
        cases hz : j - bk.length with
        | zero => rfl
        | succ m => rw [hz] at e; simp at e
      rw [e0] at e
      simp at e
      obtain ⟨rfl, rfl⟩ := e
      exact ⟨v, by rw [List.getElem?_append_right (by omega), hlen, e0]; rfl, tu _ hv⟩
theorem Shut.ext {ls : List Ln} {near : List Int} {D : List Nat} {bk ext : Bk} {m : Nat} (h : Shut ls near D bk m) (hm : m ≤ bk.length) : Shut ls near D (bk ++ ext) m := by
  intro j u hj e i o ed hd
  have hlen : (keysB bk).length = bk.length := List.length_map ..
  rw [keysB, List.map_append, List.getElem?_append_left (by rw [hlen]; omega)] at e
  rw [keysB, List.map_append]
  exact List.mem_append_left _ (h j u hj e i o ed hd)
/-- the capacity that a link shows -/
theorem link_edge {W : Wb} (ok : WebOk W) {near : List Int} {u j o : Nat} {b : Bool} {l : Ln} {c : Int} (k : IsLink W.ls u j o b) (el : W.ls[j]? = some l) (ec : near[j]? = some c) :
    Edge W.ls near u j o ↔ 1 ≤ (if b = true then c else l.r - c) := by
  obtain ⟨l', e', q⟩ := k
  rw [el] at e'
  cases e'
  have hl := ok.2.2.2 l (List.mem_of_getElem? el)
  constructor
  · rintro ⟨l2, c2, e1, e2, q2⟩
    rw [el] at e1
    rw [ec] at e2
    cases e1
    cases e2
    rcases q with ⟨rfl, h1, h2⟩ | ⟨rfl, h1, h2⟩ <;> rcases q2 with ⟨h3, h4, h5⟩ | ⟨h3, h4, h5⟩ <;> simp <;> omega
  · intro h
    refine ⟨l, c, el, ec, ?_⟩
    rcases q with ⟨rfl, h1, h2⟩ | ⟨rfl, h1, h2⟩
    · exact .inl ⟨h1, h2, by simpa using h⟩
    · exact .inr ⟨h1, h2, by simpa using h⟩
theorem edge_link {W : Wb} {near : List Int} {u j o : Nat} (h : Edge W.ls near u j o) : ∃ b, IsLink W.ls u j o b := by
  obtain ⟨l, c, e1, _, q⟩ := h
  rcases q with ⟨h1, h2, _⟩ | ⟨h1, h2, _⟩
  · exact ⟨true, l, e1, .inl ⟨rfl, h1, h2⟩⟩
  · exact ⟨false, l, e1, .inr ⟨rfl, h1, h2⟩⟩
section
variable {P : Program} {w : World} {K : PySem.W.Frag} {mg : Str → Option Value} {base : Heap} {f : Addr} {fd : FuncData} {k : Nat}
theorem sc_b_search : FnScope ["web", "links", "near", "starts", "least", "lines", "back", "queue", "at", "house", "line", "other", "first", "coins"] ["web", "links", "near", "starts", "least"] (defScope s_b_search) := ⟨rfl, rfl, rfl, by decide +kernel, rfl, by decide +kernel, by decide +kernel⟩
def sp_b_search : Sp := fun vs H Q _ => ∃ (W : Wb) (u lk v : V) (p : Addr) (near : List Int) (D st : List Nat), vs = [u, lk, .ref p, v, .int 1] ∧ WebAt H u W ∧ WebOk W ∧ LksAt [] H lk W D ∧ H p = some (.lst (zs near)) ∧ near.length = W.ls.length ∧
  SeqI H v (hs st) ∧ st.Nodup ∧ (∀ x ∈ st, x < W.n) ∧
  ∀ (dd : Addr) (H' : Hp) (bk : Bk), Ex H H' → H dd = none → BackAt H' dd bk → BkOk W.ls near D st bk → Shut W.ls near D bk bk.length → Q (.ref dd) H'
theorem ok_b_search (F : Fun K "b_search" "b_search" s_b_search f fd) (T : Txt mg) : FnOk P w K mg base CX0 1 f fd ["web", "links", "near", "starts", "least"] sp_b_search := by
  have sc := sc_b_search
  refine F.ok sc (fun vs H Q E h => ?_) (fun cdv A outer s H vs Q E hr h => ?_)
  · obtain ⟨W, u, lk, v, p, near, D, st, rfl, _⟩ := h
    rfl
  · obtain ⟨W, u, lk, v, p, near, D, st, rfl, hw, ok, hlk, hp, hn, hst, nd, hlt, q⟩ := h
    have hw' := hw
    obtain ⟨a, c, ls, rfl, ha, hc, hl⟩ := hw'
    obtain ⟨sa, rfl, hsa⟩ := hst
    have hstl : st.length ≤ W.n := nodup_le _ _ nd hlt
    have hn8 := ok.2.1
    have hu := hu_of hr
    refine ⟨_, (pss_cons (ps_set (i := 5) sc.nd rfl (by first | exact Or.inl rfl | exact Or.inr rfl) (pe_ix (kx_tup (K := K) rfl) (pv 0) pe_int (fun _ _ => rfl)))
      (pss_cons (ps_setDc (i := 6) (own := [("house", 9)]) rfl sc.nd rfl rfl (sw_trueD rfl rfl rfl (by decide +kernel)) (kpi_seq (pv 3)) (blkOk_by (N := ["web", "links", "near", "starts", "least", "lines", "back", "queue", "at", "house", "line", "other", "first", "coins"]) (sc := defScope s_b_search) (by decide +kernel)) (fun _ _ _ _ _ => (pg_name (i := 9) sc.nd rfl (by first | exact Or.inl rfl | exact Or.inr rfl))) (fun _ _ _ _ _ => pts_nil) (fun _ _ _ _ _ => (pv 9)) (fun _ _ _ _ _ => pe_non))
      (pss_cons (ps_set (i := 7) sc.nd rfl (by first | exact Or.inl rfl | exact Or.inr rfl) (pe_callTy (kq_list (K := K) rfl) (by rfl) T.list (by decide +kernel) (pa_cons (pv 3) pa_nil)))
      (pss_cons (ps_set (i := 8) sc.nd rfl (by first | exact Or.inl rfl | exact Or.inr rfl) pe_int)
      (pss_cons (ps_while PassesOwn.never (pt_cmpR op_lt (pv 8) (pe_callB (kq_len (K := K) rfl) (by rfl) T.len (by decide +kernel) (pa_cons (pv 7) pa_nil)) (nomark _))
        (pss_cons (ps_set (i := 9) sc.nd rfl (by first | exact Or.inl rfl | exact Or.inr rfl) (pe_ix (kx_list (K := K) rfl) (pv 7) (pv 8) (fun _ _ => rfl)))
        (pss_cons (ps_aug (i := 8) sc.nd rfl (by first | exact Or.inl rfl | exact Or.inr rfl) pe_int ip_add)
        (pss_one (ps_for PassesOwn.never rfl (kpi_list (K := K) rfl (pe_ix (kx_list (K := K) rfl) (pv 1) (pv 9) (fun _ _ => rfl))) (kpg_tup (K := K) (n := 3) rfl rfl (pgs_cons (pg_name (i := 10) sc.nd rfl (by first | exact Or.inl rfl | exact Or.inr rfl)) (pgs_cons (pg_name (i := 11) sc.nd rfl (by first | exact Or.inl rfl | exact Or.inr rfl)) (pgs_cons (pg_name (i := 12) sc.nd rfl (by first | exact Or.inl rfl | exact Or.inr rfl)) pgs_nil))))
          (pss_cons (ps_set (i := 13) sc.nd rfl (by first | exact Or.inl rfl | exact Or.inr rfl) (pe_ifExp (pt_val (pv 12)) (pe_ix (kx_list (K := K) rfl) (pv 2) (pv 10) (fun _ _ => rfl)) (pe_op op_sub (pe_ix (kx_tup (K := K) rfl) (pe_ix (kx_tup (K := K) rfl) (pv 5) (pv 10) (fun _ _ => rfl)) pe_int (fun _ _ => rfl)) (pe_ix (kx_list (K := K) rfl) (pv 2) (pv 10) (fun _ _ => rfl)))))
          (pss_one (ps_if (PW.pt (pw_and (pt_cmpR op_ge (pv 13) (pv 4) (nomark _)) (pw_and1 (pt_cmp (pc_dnotin hu (pv 11) (pv 6))))))
            (pss_cons (ps_dput hu (pv 6) (pv 11) (pe_tup (pa_cons (pv 10) (pa_cons (pv 9) pa_nil))) rfl)
            (pss_one (ps_expr (pe_bm PySem.F.plainAttrs_list PySem.F.slot_list_append PySem.F.type_list_append mt_append (pv 7) (pa_cons (pv 11) pa_nil)))))
            pss_nil))))))))
      (pss_one (ps_ret (pv 6)))))))), ?_⟩
    walk_at "s"
    refine g_ixT (j := 1) ha rfl ?_
    walk_at "s"
    refine ⟨sa, zs (hs st), rfl, hsa, fun J wk D0 hD0 => ?_⟩
    have hk0 : ∀ H', Ex H H' → H' sa = H sa := fun H' e => by rcases hsa with z | z <;> rw [e.keep _ _ z List.not_mem_nil, z]
    refine dc_it wk (fun i H' => Ex H H' ∧ BackAt H' D0 ((st.take i).map fun x => (x, none))) ⟨.new hD0, [], upd_same, rfl, fun j h o e => by simp at e⟩ (fun i H' _ h => hk0 H' h.1) (fun i x H1 H2 hi h hy => ?_) (fun H1 h => ?_)
    · obtain ⟨k1, b1⟩ := h
      obtain ⟨rfl, ex⟩ := hy
      rw [zs_len, hs_len] at hi
      have es : st[i]? = some st[i] := List.getElem?_eq_getElem hi
      cases zs_at ex (by rw [List.getElem?_map, es]; rfl)
      walk_at "s"
      refine ⟨rfl, ?_⟩
      walk_at "s"
      have hx : st[i] ∉ keysB ((st.take i).map fun x => (x, (none : Option (Nat × Nat)))) := by
        rw [keysB, List.map_map]
        intro z
        obtain ⟨y, hy, e⟩ := List.mem_map.mp z
        obtain ⟨j, hj⟩ := List.mem_iff_getElem?.mp hy
        rw [List.getElem?_take] at hj
        split at hj
        · rename_i hji
          have e' : y = st[i] := e
          rw [e'] at hj
          have := (List.getElem_inj nd).mp ((List.getElem?_eq_some_iff.mp hj).2.trans rfl)
          omega
        · cases hj
      obtain ⟨kvs, h1, h2, h3⟩ := b1.put hx (v := .non) (o := none) rfl (by rw [List.length_map, List.length_take]; omega)
      refine ⟨kvs, Sum.inl ((st[i] : Nat) : Int), rfl, h1, small1000 (by rw [h2, List.length_map, List.length_take]; omega), k1.mut hD0 h1 (fun _ z => nomatch z), ?_⟩
      rw [List.take_add_one, es, List.map_append]
      exact h3
    · obtain ⟨k1, b1⟩ := h
      rw [zs_len, hs_len, List.take_length] at b1
      walk_at "s"
      refine ⟨sa, zs (hs st), rfl, ?_, fun lq hlq => ?_⟩
      · rcases hsa with z | z
        · exact .inl (.of (k1.keep _ _ z List.not_mem_nil))
        · exact .inr (.of (k1.tup _ _ z))
      walk_at "s"
      have hqH : H lq = none := k1.free hlq
      have k2 : Ex H (upd H1 lq (.lst (zs (hs st)))) := k1.nnew hlq
      have b2 : BackAt (upd H1 lq (.lst (zs (hs st)))) D0 (st.map fun x => (x, none)) := b1.kp (.new (S := []) hlq) List.not_mem_nil
      have hDq : D0 ≠ lq := by
        obtain ⟨kvs, h1, _⟩ := b1
        exact ne_of_none h1 hlq
      have hkeys : keysB (st.map fun x => (x, (none : Option (Nat × Nat)))) = st := by
        rw [keysB, List.map_map]
        exact List.map_id st
      refine ⟨fun m σ H' => ∃ (at' : Nat) (bk : Bk) (y9 y10 y11 y12 y13 : Option V), σ = [some (.ref a), some lk, some (.ref p), some (.ref sa), some (.int 1), some (.ref c), some (.ref D0), some (.ref lq), some (.int at'), y9, y10, y11, y12, y13] ∧
        Ex H H' ∧ BackAt H' D0 bk ∧ H' lq = some (.lst (zs (hs (keysB bk)))) ∧ BkOk W.ls near D st bk ∧ Shut W.ls near D bk at' ∧ at' ≤ bk.length ∧ m + at' = W.n, ⟨W.n, 0, _, _, _, _, _, _, rfl, k2, b2, ?_, ⟨?_, ?_, ?_, ?_⟩, ?_, Nat.zero_le _, rfl⟩, fun m σ H2 h => ?_⟩
      · rw [hkeys]
        exact upd_same
      · rw [hkeys]
        exact nd
      · intro x hx
        obtain ⟨y, hy, e⟩ := List.mem_map.mp hx
        cases e
        exact hy
      · intro x hx
        rw [hkeys]
        exact hx
      · intro j x i u e
        rw [List.getElem?_map] at e
        cases e2 : st[j]? <;> rw [e2] at e <;> cases e
      · exact fun j u hj => absurd hj (Nat.not_lt_zero j)
      · obtain ⟨at', bk, y9, y10, y11, y12, y13, rfl, k3, b3, hq3, bo, sh, hat, hm⟩ := h
        have hblen := bo.len ok hlt
        have hklen : (keysB bk).length = bk.length := List.length_map ..
        walk_at "s"
        refine g_lenL hq3 ?_
        walk_at "s"
        refine ite2 (fun e => ?_) (fun e => ?_)
        · have e1 : at' < bk.length := by
            have := of_decide_eq_true e
            rw [zs_len, hs_len, hklen] at this
            omega
          refine ⟨fun σ' H' => ∃ m', m' < m ∧ _, fun _ _ h => h, ?_⟩
          obtain ⟨u, hu1⟩ : ∃ u, (keysB bk)[at']? = some u := ⟨_, List.getElem?_eq_getElem (by omega)⟩
          have hult : u < W.n := bo.lt ok hlt u (List.mem_of_getElem? hu1)
          walk_at "s"
          refine g_ixL (j := at') hq3 (zs_get (by rw [List.getElem?_map, hu1]; rfl)) ?_
          walk_at "s"
          obtain ⟨L, rs, rfl, hL, hrl, _, _, hR⟩ := hlk
          obtain ⟨r, hr1⟩ : ∃ r, rs[u]? = some r := ⟨_, List.getElem?_eq_getElem (by omega)⟩
          obtain ⟨ts, hts, _, hts1, hts2⟩ := hR u r hr1
          refine g_ixL (j := u) (k3.keep _ _ hL List.not_mem_nil) (by rw [List.getElem?_map, hr1]; rfl) ?_
          walk_at "s"
          refine ⟨r, rfl, ⟨_, .of (k3.keep _ _ hts List.not_mem_nil)⟩, ?_⟩
          refine for_it (walk_list (xs := ts.map V.ref)) (fun i σ H' => ∃ (bk' ext : Bk) (y10 y11 y12 y13 : Option V), bk' = bk ++ ext ∧ σ = [some (.ref a), some (.ref L), some (.ref p), some (.ref sa), some (.int 1), some (.ref c), some (.ref D0), some (.ref lq), some (.int ((at' : Int) + 1)), some (.int (u : Int)), y10, y11, y12, y13] ∧
            Ex H H' ∧ BackAt H' D0 bk' ∧ H' lq = some (.lst (zs (hs (keysB bk')))) ∧ BkOk W.ls near D st bk' ∧ ∀ (x : Nat) (t : Addr), x < i → ts[x]? = some t → ∀ j o b, H t = some (.tup (lkV j o b)) → Edge W.ls near u j o → o ∈ keysB bk')
            ⟨bk, [], _, _, _, _, (List.append_nil _).symm, rfl, k3, b3, hq3, bo, fun x t hx => absurd hx (Nat.not_lt_zero x)⟩ (fun i σ H' _ h => ?_) (fun i x σ H3 H4 hi h hy => ?_) (fun σ H3 h => ?_)
          · obtain ⟨_, _, _, _, _, _, _, _, k4, _⟩ := h
            exact .of (k4.keep _ _ hts List.not_mem_nil)
          · obtain ⟨bk', ext, y10, y11, y12, y13, hext, rfl, k4, b4, hq4, bo4, hall⟩ := h
            obtain ⟨rfl, ex⟩ := hy
            rw [List.length_map] at hi
            have et : ts[i]? = some ts[i] := List.getElem?_eq_getElem hi
            rw [List.getElem?_map, et] at ex
            cases ex
            obtain ⟨j, o, b, ht, hkl, hoD⟩ := hts1 _ (List.getElem_mem hi)
            obtain ⟨l, el, hlo⟩ := hkl
            have hkl : IsLink W.ls u j o b := ⟨l, el, hlo⟩
            have hj : j < W.ls.length := (List.getElem?_eq_some_iff.mp el).1
            have ec : near[j]? = some (near[j]'(by omega)) := List.getElem?_eq_getElem (by omega)
            have hed := link_edge ok hkl el ec
            have hp4 := k4.keep _ _ hp List.not_mem_nil
            have hblen' := bo4.len ok hlt
            obtain ⟨tl, _, etl, htl⟩ := hl.get el
            have hult2 : u ∈ keysB bk' := by
              rw [hext, keysB, List.map_append]
              exact List.mem_append_left _ (List.mem_of_getElem? hu1)
            refine g_gtup (k4.tup _ _ ht) rfl ?_
            walk_at "s"
            have hlast : ∀ bk2 : Bk, (∀ z ∈ keysB bk', z ∈ keysB bk2) → (Edge W.ls near u j o → o ∈ keysB bk2) → ∀ (x : Nat) (t : Addr), x < i + 1 → ts[x]? = some t → ∀ j o b, H t = some (.tup (lkV j o b)) → Edge W.ls near u j o → o ∈ keysB bk2 := by
              intro bk2 hsub ho x t hx e j' o' b' ht' ed
              rcases Nat.lt_succ_iff_lt_or_eq.mp hx with z | z
              · exact hsub _ (hall x t z e j' o' b' ht' ed)
              · subst z
                rw [et] at e
                cases e
                rw [ht] at ht'
                simp at ht'
                obtain ⟨e1, e2, _⟩ := ht'
                have e1 : j = j' := by omega
                have e2 : o = o' := by omega
                subst e1 e2
                exact ho ed
            have olt : o < W.n := by
              have := ok.2.2.2 l (List.mem_of_getElem? el)
              rcases hlo with ⟨_, h1, h2⟩ | ⟨_, h1, h2⟩ <;> omega
            cases b
            case' false =>
              have hed' : Edge W.ls near u j o ↔ 1 ≤ l.r - near[j]'(by omega) := by simpa using hed
              refine iteF ?_
              walk_at "s"
              refine g_ixT (j := j) (k4.tup _ _ hc) etl ?_
              walk_at "s"
              refine g_ixT (j := 2) (k4.tup _ _ htl) rfl ?_
              walk_at "s"
              refine g_ixL (j := j) hp4 (zs_get ec) ?_
              walk_at "s"
              generalize l.r - near[j]'(by omega) = cc at *
            case' true =>
              have hed' : Edge W.ls near u j o ↔ 1 ≤ near[j]'(by omega) := by simpa using hed
              walk_at "s"
              refine g_ixL (j := j) hp4 (zs_get ec) ?_
              walk_at "s"
              generalize near[j]'(by omega) = cc at *
            all_goals
              refine ite2 (fun e1 => ?_) (fun e1 => ?_)
              · have e1 : 1 ≤ cc := of_decide_eq_true e1
                walk_at "s"
                obtain ⟨oo, hg, hsm⟩ := b4.has o
                refine ⟨D0, oo, rfl, hg, ?_⟩
                walk_at "s"
                rw [hsm]
                by_cases ho : o ∈ keysB bk'
                · rw [decide_eq_true ho]
                  refine iteF ?_
                  walk_at "s"
                  exact ⟨bk', ext, _, _, _, _, hext, rfl, k4, b4, hq4, bo4, hlast _ (fun z h => h) fun _ => ho⟩
                · rw [decide_eq_false ho]
                  refine iteT ?_
                  walk_at "s"
                  refine ⟨sz, fun t2 ht2 => ?_⟩
                  walk_at "s"
                  have k5 : Ex H (upd H4 t2 (.tup [.int j, .int u])) := k4.nnew ht2
                  have b5 : BackAt (upd H4 t2 (.tup [.int j, .int u])) D0 bk' := b4.kp (.new (S := []) ht2) List.not_mem_nil
                  obtain ⟨kvs, hk1, hk2, hk3⟩ := b5.put ho (v := .ref t2) (o := some (j, u)) ⟨t2, rfl, upd_same⟩ (by omega)
                  refine ⟨D0, _, rfl, DPut.k (k := Sum.inl (o : Int)) hk1 (small1000 (by omega)), ?_⟩
                  have k6 := k5.mut (o' := .dK (putK kvs (Sum.inl (o : Int)) (.ref t2))) hD0 hk1 (fun _ z => nomatch z)
                  have hq6 : (upd (upd H4 t2 (.tup [.int j, .int u])) D0 (.dK (putK kvs (Sum.inl (o : Int)) (.ref t2)))) lq = some (.lst (zs (hs (keysB bk')))) := by
                    rw [upd_ne hDq.symm, upd_ne (ne_of_none hq4 ht2)]
                    exact hq4
                  walk_at "s"
                  refine g_ty hq6 ?_
                  walk_at "s"
                  have hkl' : (keysB bk').length = bk'.length := List.length_map ..
                  refine g_app hq6 (by rw [zs_len, hs_len, hkl']; omega) ?_
                  walk_at "s"
                  have ed := hed'.mpr e1
                  refine ⟨bk' ++ [(o, some (j, u))], ext ++ [(o, some (j, u))], _, _, _, _, by rw [hext, List.append_assoc], rfl, k6.mutL hqH hq6, ?_, ?_, bo4.push hult2 ed hoD ho, hlast _ (fun z h => ?_) fun _ => ?_⟩
                  · obtain ⟨kv2, z1, z2, z3⟩ := hk3
                    refine ⟨kv2, by rw [upd_ne hDq]; exact z1, z2, fun x h o e => ?_⟩
                    obtain ⟨v, w1, w2⟩ := z3 x h o e
                    refine ⟨v, w1, ?_⟩
                    cases o with
                    | none => exact w2
                    | some iu =>
                      obtain ⟨t, e3, e4⟩ := w2
                      exact ⟨t, e3, by rw [upd_ne (fun z => by rw [z, hq6] at e4; cases e4)]; exact e4⟩
                  · rw [upd_same]
                    simp [keysB, zs, hs]
                  · rw [keysB, List.map_append]
                    exact List.mem_append_left _ h
                  · rw [keysB, List.map_append]
                    exact List.mem_append_right _ (by simp)
              · have e1 : ¬ 1 ≤ cc := fun z => e1 (decide_eq_true z)
                walk_at "s"
                exact ⟨bk', ext, _, _, _, _, hext, rfl, k4, b4, hq4, bo4, hlast _ (fun z h => h) fun ed => absurd (hed'.mp ed) e1⟩
          · obtain ⟨bk', ext, y10, y11, y12, y13, hext, rfl, k4, b4, hq4, bo4, hall⟩ := h
            refine ⟨m - 1, by omega, at' + 1, bk', _, _, _, _, _, rfl, k4, b4, hq4, bo4, ?_, ?_, by omega⟩
            · intro j v hj e2 i o ed hd
              rcases Nat.lt_succ_iff_lt_or_eq.mp hj with z | z
              · rw [hext] at e2 ⊢
                exact sh.ext hat j v z e2 i o ed hd
              · subst z
                rw [hext, keysB, List.map_append, List.getElem?_append_left (by rw [hklen]; omega), hu1] at e2
                cases e2
                obtain ⟨b, hb⟩ := edge_link ed
                obtain ⟨t, ht1, ht2⟩ := hts2 i o b ⟨hb, hd⟩
                obtain ⟨x, hx⟩ := List.mem_iff_getElem?.mp ht1
                exact hall x t (by rw [List.length_map]; exact (List.getElem?_eq_some_iff.mp hx).1) hx i o b ht2 ed
            · rw [hext, List.length_append]
              omega
        · have e1 : at' = bk.length := by
            have : ¬ at' < bk.length := fun z => e (decide_eq_true (by rw [zs_len, hs_len, hklen]; omega))
            omega
          walk_at "s"
          rw [e1] at sh
          exact q D0 H2 bk k3 hD0 b3 bo sh
end
end K8
set_option Elab.async false
set_option linter.all false
set_option maxRecDepth 100000
set_option maxHeartbeats 4000000
namespace K8
open PySem PySem.Spec PyProof.Rows L2
local macro_rules | `(tactic| walk_at "s") => `(tactic| repeat (first
  | with_reducible refine g_seq ?_ | with_reducible refine g_ret ?_ | with_reducible refine g_asg ?_ | with_reducible refine g_name ?_ | with_reducible refine g_c ?_ | with_reducible refine g_op ?_ | with_reducible refine g_cons ?_ | with_reducible refine g_nil ?_
  | (with_reducible show tVar _ _ _ _; refine g_var rfl ?_) | with_reducible refine g_cb ?_ | with_reducible refine g_call ?_ | with_reducible refine g_if ?_ | with_reducible refine g_test ?_ | with_reducible refine g_tB ?_ | with_reducible refine g_i0 ?_ | with_reducible refine g_bl ?_
  | with_reducible refine g_add ?_ | with_reducible refine g_sub ?_ | with_reducible refine g_eqI ?_ | with_reducible refine g_neI ?_ | with_reducible refine g_drop ?_ | with_reducible refine g_next ?_ | with_reducible refine g_break ?_ | with_reducible refine g_un ?_ | with_reducible refine g_u ?_
  | with_reducible refine g_ifE ?_ | with_reducible refine g_and ?_ | with_reducible refine g_or ?_ | with_reducible refine g_not ?_ | with_reducible refine g_andV ?_ | with_reducible refine g_orV ?_ | with_reducible refine g_notV ?_ | with_reducible refine g_isN ?_ | with_reducible refine g_notN ?_
  | with_reducible refine g_gnil ?_ | with_reducible refine g_gcons ?_ | with_reducible refine g_bm ?_ | with_reducible refine g_abs ?_ | with_reducible refine g_max ?_ | with_reducible refine g_min ?_ | with_reducible refine g_int ?_ | with_reducible refine g_lc ?_ | with_reducible refine g_for ?_ | with_reducible refine g_yes ?_ | with_reducible refine g_rng1 ?_ | with_reducible refine g_rng2 ?_ | with_reducible refine g_il ?_ | with_reducible refine g_it ?_ | with_reducible refine g_en ?_ | with_reducible refine g_zp ?_ | with_reducible refine g_mkT ?_ | with_reducible refine g_mkL ?_ | with_reducible refine g_augS ?_ | (with_reducible show tAug _ _ _ _ _ _; refine g_aug rfl ?_) | with_reducible refine g_ipI ?_ | with_reducible refine g_gsub ?_ | with_reducible refine g_dget ?_ | with_reducible refine g_din ?_ | with_reducible refine g_dnotin ?_ | with_reducible refine g_dput ?_ | with_reducible refine g_dc ?_ | with_reducible refine g_sl ?_ | with_reducible refine g_nopart ?_ | with_reducible refine g_part ?_ | with_reducible refine g_exI ?_ | with_reducible refine g_revL ?_ | (with_reducible show iSq _ _ _ _; refine g_sq rfl ?_) | with_reducible refine g_while ?_ | with_reducible refine g_min3 ?_ | with_reducible refine g_trq ?_ | with_reducible refine g_lock ?_ | with_reducible refine g_mko ?_ | with_reducible refine g_keys ?_ | with_reducible refine iteT ?_ | with_reducible refine iteF ?_))
theorem hs_perm {ys : List Int} {ks : List Nat} (h : ys.Perm (hs ks)) (nd : ks.Nodup) (hp : ys.Pairwise (· ≤ ·)) : ∃ xs : List Nat, ys = hs xs ∧ xs.Perm ks ∧ xs.Pairwise (· < ·) := by
  obtain ⟨xs, h1, h2⟩ := perm_map_inv (fun x : Nat => (x : Int)) h
  subst h2
  refine ⟨xs, rfl, h1, ?_⟩
  have nd' : xs.Nodup := h1.nodup_iff.mpr nd
  rw [List.pairwise_map] at hp
  have := hp.and nd'
  exact this.imp fun {a b} q => by
    have h1 : (a : Int) ≤ b := q.1
    have h2 : a ≠ b := q.2
    omega
section
variable {P : Program} {w : World} {K : PySem.W.Frag} {mg : Str → Option Value} {base : Heap} {f : Addr} {fd : FuncData} {k : Nat}
theorem sc_b_reached : FnScope ["web", "links", "near", "starts"] ["web", "links", "near", "starts"] (defScope s_b_reached) := ⟨rfl, rfl, rfl, by decide +kernel, rfl, by decide +kernel, by decide +kernel⟩
def sp_b_reached : Sp := fun vs H Q _ => ∃ (W : Wb) (u lk v : V) (p : Addr) (near : List Int) (D st : List Nat), vs = [u, lk, .ref p, v] ∧ WebAt H u W ∧ WebOk W ∧ LksAt [] H lk W D ∧ H p = some (.lst (zs near)) ∧ near.length = W.ls.length ∧
  SeqI H v (hs st) ∧ st.Nodup ∧ (∀ x ∈ st, x < W.n) ∧
  ∀ (xs : List Nat) (q : Addr) (H' : Hp), Ex H H' → H' q = some (.tup (zs (hs xs))) → xs.Pairwise (· < ·) → (∀ v, v ∈ xs ↔ Rch W.ls near D st v) → (∀ v ∈ xs, v < W.n) → Q (.ref q) H'
theorem ok_b_reached (F : Fun K "b_reached" "b_reached" s_b_reached f fd) (T : Txt mg) (c_b_search : Cal P w K mg base 1 "b_search" sp_b_search) : FnOk P w K mg base CX0 2 f fd ["web", "links", "near", "starts"] sp_b_reached := by
  have sc := sc_b_reached
  refine F.ok sc (fun vs H Q E h => ?_) (fun cdv A outer s H vs Q E hr h => ?_)
  · obtain ⟨W, u, lk, v, p, near, D, st, rfl, _⟩ := h
    rfl
  · obtain ⟨W, u, lk, v, p, near, D, st, rfl, hw, ok, hlk, hp, hn, hst, nd, hlt, q⟩ := h
    refine ⟨_, (pss_one (ps_ret (pe_callTy (kq_tup (K := K) rfl) (by rfl) T.tuple (by decide +kernel) (pa_cons (pe_callB (cq_sortD rfl) (by rfl) T.sorted (by decide +kernel) (pa_cons (pe_c c_b_search hr (by decide) (by rfl) (pa_cons (pv 0) (pa_cons (pv 1) (pa_cons (pv 2) (pa_cons (pv 3) (pa_cons pe_int pa_nil)))))) pa_nil)) pa_nil)))), ?_⟩
    walk_at "s"
    refine ⟨W, u, lk, v, p, near, D, st, rfl, hw, ok, hlk, hp, hn, hst, nd, hlt, fun dd H1 bk k1 _ b1 bo sh => ?_⟩
    walk_at "s"
    obtain ⟨kvs, h1, h2, h3⟩ := b1
    have hl := bo.len ok hlt
    refine ⟨dd, kvs, hs (keysB bk), rfl, .of h1, h2.trans (by simp [hs, List.map_map, Function.comp_def]), by rw [hs_len, List.length_map]; have := ok.2.1; omega, fun ys p1 hperm hpw hp1 => ?_⟩
    obtain ⟨xs, rfl, hx1, hx2⟩ := hs_perm hperm bo.nd hpw
    walk_at "s"
    refine g_tupL upd_same fun p2 hp2 => ?_
    have hmem : ∀ v, v ∈ xs ↔ v ∈ keysB bk := fun v => hx1.mem_iff
    exact q xs p2 _ ((k1.nnew hp1).nnew hp2) upd_same hx2 (fun v => (hmem v).trans (rch_keys bo sh v)) fun v hv => bo.lt ok hlt v ((hmem v).mp hv)
theorem sc_b_trace : FnScope ["back", "house", "way", "line"] ["back", "house"] (defScope s_b_trace) := ⟨rfl, rfl, rfl, by decide +kernel, rfl, by decide +kernel, by decide +kernel⟩
def sp_b_trace : Sp := fun vs H Q _ => ∃ (W : Wb) (dd : Addr) (bk : Bk) (near : List Int) (D st : List Nat) (t : Nat), vs = [.ref dd, .int t] ∧ WebOk W ∧ BackAt H dd bk ∧ BkOk W.ls near D st bk ∧ (∀ x ∈ st, x < W.n) ∧ t ∈ keysB bk ∧
  ∀ (h : Nat) (way : List Nat) (q q2 : Addr) (H' : Hp), Ex H H' → H' q = some (.tup [.int h, .ref q2]) → H' q2 = some (.tup (zs (hs way))) → h ∈ st → Way W.ls near 1 h way t → way.Nodup → way.length ≤ 8 → Q (.ref q) H'
theorem ok_b_trace (F : Fun K "b_trace" "b_trace" s_b_trace f fd) (T : Txt mg) : FnOk P w K mg base CX0 1 f fd ["back", "house"] sp_b_trace := by
  have sc := sc_b_trace
  refine F.ok sc (fun vs H Q E h => ?_) (fun cdv A outer s H vs Q E hr h => ?_)
  · obtain ⟨W, dd, bk, near, D, st, t, rfl, _⟩ := h
    rfl
  · obtain ⟨W, dd, bk, near, D, st, t, rfl, ok, hb, bo, hlt, ht, q⟩ := h
    have hu := hu_of hr
    have hblen := bo.len ok hlt
    have hn8 := ok.2.1
    have hklen : (keysB bk).length = bk.length := List.length_map ..
    obtain ⟨j0, hj0⟩ := List.mem_iff_getElem?.mp ht
    refine ⟨_, (pss_cons (ps_set (i := 2) sc.nd rfl (by first | exact Or.inl rfl | exact Or.inr rfl) (pe_lst pa_nil))
      (pss_cons (ps_while PassesOwn.never (pt_cmp (pc_notN (pe_dget hu (pv 0) (pv 1) (fun _ _ => rfl))))
        (pss_cons (ps_asg (pe_dget hu (pv 0) (pv 1) (fun _ _ => rfl)) (kpg_tup (K := K) (n := 2) rfl rfl (pgs_cons (pg_name (i := 3) sc.nd rfl (by first | exact Or.inl rfl | exact Or.inr rfl)) (pgs_cons (pg_name (i := 1) sc.nd rfl (by first | exact Or.inl rfl | exact Or.inr rfl)) pgs_nil))))
        (pss_one (ps_expr (pe_bm PySem.F.plainAttrs_list PySem.F.slot_list_append PySem.F.type_list_append mt_append (pv 2) (pa_cons (pv 3) pa_nil))))))
      (pss_one (ps_ret (pe_tup (pa_cons (pv 1) (pa_cons (pe_callTy (kq_tup (K := K) rfl) (by rfl) T.tuple (by decide +kernel) (pa_cons (kpe_revL (K := K) rfl (pv 2)) pa_nil)) pa_nil))))))), ?_⟩
    walk_at "s"
    refine ⟨sz, fun L hL => ?_⟩
    walk_at "s"
    refine ⟨fun m σ H' => ∃ (j h : Nat) (w : List Nat) (y : Option V), σ = [some (.ref dd), some (.int h), some (.ref L), y] ∧ m = j ∧ Ex H H' ∧ H' L = some (.lst (zs (hs w))) ∧ (keysB bk)[j]? = some h ∧ Way W.ls near 1 h w.reverse t ∧ w.Nodup ∧ w.length + j ≤ j0 ∧
      ∀ i ∈ w, ∀ l, W.ls[i]? = some l → ∀ jj : Nat, ((keysB bk)[jj]? = some l.a ∨ (keysB bk)[jj]? = some l.b) → j ≤ jj, ⟨j0, j0, t, [], none, rfl, rfl, .new hL, upd_same, hj0, .nil t, List.nodup_nil, by simp, fun i hi => absurd hi List.not_mem_nil⟩, fun m σ H2 h => ?_⟩
    obtain ⟨j, h, w, y, rfl, rfl, k1, hL1, hj, hway, ndw, hwl, hpos⟩ := h
    have hjlt : m < bk.length := by rw [← hklen]; exact (List.getElem?_eq_some_iff.mp hj).1
    have hj0lt : j0 < bk.length := by rw [← hklen]; exact (List.getElem?_eq_some_iff.mp hj0).1
    obtain ⟨o, ho⟩ : ∃ o, bk[m]? = some (h, o) := by
      rw [List.getElem?_map] at hj
      cases e : bk[m]? with
      | none => rw [e] at hj; cases hj
      | some q => rw [e] at hj; cases hj; exact ⟨q.2, rfl⟩
    obtain ⟨v, hv, hbv⟩ := (hb.kp k1 List.not_mem_nil).get bo.nd ho
    walk_at "s"
    refine ⟨dd, v, rfl, hv, ?_⟩
    walk_at "s"
    cases o with
    | none =>
      have hv0 : v = .non := hbv
      rw [hv0]
      refine iteF ?_
      walk_at "s"
      refine ⟨L, _, rfl, .of hL1, fun p1 hp1 => ?_⟩
      walk_at "s"
      refine g_tupL upd_same fun p2 hp2 => ?_
      walk_at "s"
      refine ⟨sz, fun p3 hp3 => ?_⟩
      rw [← List.map_reverse, ← List.map_reverse] at *
      refine q h w.reverse p3 p2 _ (((k1.nnew hp1).nnew hp2).nnew hp3) upd_same ?_ (bo.st1 h (List.mem_of_getElem? ho)) hway (by rw [List.Nodup, List.pairwise_reverse]; exact ndw.imp fun h => h.symm) (by rw [List.length_reverse]; omega)
      rw [upd_ne (ne_of_none upd_same hp3), upd_same]
    | some iu =>
      obtain ⟨i, u⟩ := iu
      obtain ⟨t1, rfl, ht1⟩ := hbv
      refine iteT ?_
      refine ⟨fun σ' H' => ∃ m', m' < m ∧ _, fun _ _ h => h, ?_⟩
      walk_at "s"
      refine ⟨dd, .ref t1, rfl, hv, ?_⟩
      refine g_gtup ht1 rfl ?_
      walk_at "s"
      refine g_ty hL1 ?_
      walk_at "s"
      refine g_app hL1 (by rw [zs_len, hs_len]; omega) ?_
      walk_at "s"
      obtain ⟨⟨j', hj', ej'⟩, ed, _⟩ := bo.lk m h i u ho
      obtain ⟨l, x, el, ex, hor⟩ := ed
      have hiw : i ∉ w := fun z => by
        have := hpos i z l el j' (hor.elim (fun q => .inl (by rw [q.1]; exact ej')) fun q => .inr (by rw [q.1]; exact ej'))
        omega
      have uniq : ∀ (a b z : Nat), (keysB bk)[a]? = some z → (keysB bk)[b]? = some z → a = b := fun a b z h1 h2 => by
        have i1 := List.getElem?_eq_some_iff.mp h1
        have i2 := List.getElem?_eq_some_iff.mp h2
        exact (List.getElem_inj bo.nd).mp (i1.2.trans i2.2.symm)
      refine ⟨j', hj', j', u, w ++ [i], _, rfl, rfl, k1.mutL hL hL1, ?_, ej', ?_, ?_, by rw [List.length_append]; simp; omega, ?_⟩
      · rw [upd_same]
        simp [zs, hs]
      · rw [List.reverse_append]
        exact .cons ⟨l, x, el, ex, hor⟩ hway
      · rw [List.nodup_append]
        exact ⟨ndw, by simp, fun a ha b hb z => hiw (by have : b = i := by simpa using hb
                                                        rw [← this, ← z]; exact ha)⟩
      · intro i' hi' l' el' jj hjj
        rcases List.mem_append.mp hi' with z | z
        · have := hpos i' z l' el' jj hjj
          omega
        · have : i' = i := by simpa using z
          subst this
          rw [el] at el'
          cases el'
          rcases hor with ⟨e1, e2, _⟩ | ⟨e1, e2, _⟩ <;> rcases hjj with z | z
          · have := uniq jj j' u (by rw [← e1]; exact z) ej'
            omega
          · have := uniq jj m h (by rw [← e2]; exact z) hj
            omega
          · have := uniq jj m h (by rw [← e2]; exact z) hj
            omega
          · have := uniq jj j' u (by rw [← e1]; exact z) ej'
            omega
end
end K8
set_option Elab.async false
set_option linter.all false
set_option maxRecDepth 100000
set_option maxHeartbeats 4000000
namespace K8
open PySem PySem.Spec PyProof.Rows L2
local macro_rules | `(tactic| walk_at "s") => `(tactic| repeat (first
  | with_reducible refine g_seq ?_ | with_reducible refine g_ret ?_ | with_reducible refine g_asg ?_ | with_reducible refine g_name ?_ | with_reducible refine g_c ?_ | with_reducible refine g_op ?_ | with_reducible refine g_cons ?_ | with_reducible refine g_nil ?_
  | (with_reducible show tVar _ _ _ _; refine g_var rfl ?_) | with_reducible refine g_cb ?_ | with_reducible refine g_call ?_ | with_reducible refine g_if ?_ | with_reducible refine g_test ?_ | with_reducible refine g_tB ?_ | with_reducible refine g_i0 ?_ | with_reducible refine g_bl ?_
  | with_reducible refine g_add ?_ | with_reducible refine g_sub ?_ | with_reducible refine g_eqI ?_ | with_reducible refine g_neI ?_ | with_reducible refine g_drop ?_ | with_reducible refine g_next ?_ | with_reducible refine g_break ?_ | with_reducible refine g_un ?_ | with_reducible refine g_u ?_
  | with_reducible refine g_ifE ?_ | with_reducible refine g_and ?_ | with_reducible refine g_or ?_ | with_reducible refine g_not ?_ | with_reducible refine g_andV ?_ | with_reducible refine g_orV ?_ | with_reducible refine g_notV ?_ | with_reducible refine g_isN ?_ | with_reducible refine g_notN ?_
  | with_reducible refine g_gnil ?_ | with_reducible refine g_gcons ?_ | with_reducible refine g_bm ?_ | with_reducible refine g_abs ?_ | with_reducible refine g_max ?_ | with_reducible refine g_min ?_ | with_reducible refine g_int ?_ | with_reducible refine g_lc ?_ | with_reducible refine g_for ?_ | with_reducible refine g_yes ?_ | with_reducible refine g_rng1 ?_ | with_reducible refine g_rng2 ?_ | with_reducible refine g_il ?_ | with_reducible refine g_it ?_ | with_reducible refine g_en ?_ | with_reducible refine g_zp ?_ | with_reducible refine g_mkT ?_ | with_reducible refine g_mkL ?_ | with_reducible refine g_augS ?_ | (with_reducible show tAug _ _ _ _ _ _; refine g_aug rfl ?_) | with_reducible refine g_ipI ?_ | with_reducible refine g_gsub ?_ | with_reducible refine g_dget ?_ | with_reducible refine g_din ?_ | with_reducible refine g_dnotin ?_ | with_reducible refine g_dput ?_ | with_reducible refine g_dc ?_ | with_reducible refine g_sl ?_ | with_reducible refine g_nopart ?_ | with_reducible refine g_part ?_ | with_reducible refine g_exI ?_ | with_reducible refine g_revL ?_ | (with_reducible show iSq _ _ _ _; refine g_sq rfl ?_) | with_reducible refine g_while ?_ | with_reducible refine g_min3 ?_ | with_reducible refine g_trq ?_ | with_reducible refine g_lock ?_ | with_reducible refine g_mko ?_ | with_reducible refine g_keys ?_ | with_reducible refine iteT ?_ | with_reducible refine iteF ?_))
theorem hs_at {xs : List Nat} {i : Nat} {x : V} {n : Nat} (e : (zs (hs xs))[i]? = some x) (ec : xs[i]? = some n) : x = .int n := zs_at e (by rw [List.getElem?_map, ec]; rfl)
theorem hs_get {xs : List Nat} {i : Nat} {n : Nat} (ec : xs[i]? = some n) : (zs (hs xs))[i]? = some (.int n) := zs_get (by rw [List.getElem?_map, ec]; rfl)
section
variable {P : Program} {w : World} {K : PySem.W.Frag} {mg : Str → Option Value} {base : Heap} {f : Addr} {fd : FuncData} {k : Nat}
theorem sc_b_carry : FnScope ["web", "near", "house", "way", "ends", "line", "one", "other", "room"] ["web", "near", "house", "way"] (defScope s_b_carry) := ⟨rfl, rfl, rfl, by decide +kernel, rfl, by decide +kernel, by decide +kernel⟩
def sp_b_carry : Sp := fun vs H Q _ => ∃ (W : Wb) (u : V) (p : Addr) (near : List Int) (h t : Nat) (q : Addr) (way : List Nat), vs = [u, .ref p, .int h, .ref q] ∧ WebAt H u W ∧ WebOk W ∧ H p = some (.lst (zs near)) ∧ near.length = W.ls.length ∧
  H q = some (.tup (zs (hs way))) ∧ Way W.ls near 1 h way t ∧ way ≠ [] ∧ way.length ≤ 8 ∧ ∀ (c : Int) (H' : Hp), Ex H H' → 1 ≤ c → Way W.ls near c h way t → Q (.int c) H'
theorem ok_b_carry (F : Fun K "b_carry" "b_carry" s_b_carry f fd) (T : Txt mg) : FnOk P w K mg base CX0 1 f fd ["web", "near", "house", "way"] sp_b_carry := by
  have sc := sc_b_carry
  refine F.ok sc (fun vs H Q E h => ?_) (fun cdv A outer s H vs Q E hr h => ?_)
  · obtain ⟨W, u, p, near, h, t, q, way, rfl, _⟩ := h
    rfl
  · obtain ⟨W, u, p, near, h, t, q, way, rfl, hw, ok, hp, hn, hq, hway, hne, hwl, qq⟩ := h
    obtain ⟨a, c, ls, rfl, ha, hc, hl⟩ := hw
    refine ⟨_, (pss_cons (ps_set (i := 4) sc.nd rfl (by first | exact Or.inl rfl | exact Or.inr rfl) (pe_lst pa_nil))
      (pss_cons (ps_for PassesOwn.never rfl (kpi_tup (K := K) rfl (pv 3)) (pg_name (i := 5) sc.nd rfl (by first | exact Or.inl rfl | exact Or.inr rfl))
        (pss_cons (ps_asg (pe_ix (kx_tup (K := K) rfl) (pe_ix (kx_tup (K := K) rfl) (pv 0) pe_int (fun _ _ => rfl)) (pv 5) (fun _ _ => rfl)) (kpg_tup (K := K) (n := 3) rfl rfl (pgs_cons (pg_name (i := 6) sc.nd rfl (by first | exact Or.inl rfl | exact Or.inr rfl)) (pgs_cons (pg_name (i := 7) sc.nd rfl (by first | exact Or.inl rfl | exact Or.inr rfl)) (pgs_cons (pg_name (i := 8) sc.nd rfl (by first | exact Or.inl rfl | exact Or.inr rfl)) pgs_nil)))))
        (pss_one (ps_if (pt_cmpR op_eq (pv 6) (pv 2) (nomark _))
          (pss_cons (ps_expr (pe_bm PySem.F.plainAttrs_list PySem.F.slot_list_append PySem.F.type_list_append mt_append (pv 4) (pa_cons (pe_ix (kx_list (K := K) rfl) (pv 1) (pv 5) (fun _ _ => rfl)) pa_nil)))
          (pss_one (ps_set (i := 2) sc.nd rfl (by first | exact Or.inl rfl | exact Or.inr rfl) (pv 7))))
          (pss_cons (ps_expr (pe_bm PySem.F.plainAttrs_list PySem.F.slot_list_append PySem.F.type_list_append mt_append (pv 4) (pa_cons (pe_op op_sub (pv 8) (pe_ix (kx_list (K := K) rfl) (pv 1) (pv 5) (fun _ _ => rfl))) pa_nil)))
          (pss_one (ps_set (i := 2) sc.nd rfl (by first | exact Or.inl rfl | exact Or.inr rfl) (pv 6))))))))
      (pss_one (ps_ret (pe_callB (kr_min (K := K) rfl rfl) (by rfl) T.min (by decide +kernel) (pa_cons (pv 4) pa_nil)))))), ?_⟩
    walk_at "s"
    refine ⟨sz, fun L hL => ?_⟩
    walk_at "s"
    refine ⟨q, rfl, ⟨_, .of ((Kp.new (S := []) hL).tup _ _ hq)⟩, ?_⟩
    refine for_it (walk_tup (xs := zs (hs way))) (fun i σ H' => ∃ (v : Nat) (es : List Int) (y5 y6 y7 y8 : Option V), σ = [some (.ref a), some (.ref p), some (.int v), some (.ref q), some (.ref L), y5, y6, y7, y8] ∧ Ex H H' ∧ H' L = some (.lst (zs es)) ∧ es.length = i ∧
      Way W.ls near 1 v (way.drop i) t ∧ (∀ e ∈ es, 1 ≤ e) ∧ ∀ c : Int, (∀ e ∈ es, c ≤ e) → Way W.ls near c v (way.drop i) t → Way W.ls near c h way t)
      ⟨h, [], _, _, _, _, rfl, .new hL, upd_same, rfl, hway, fun e he => absurd he List.not_mem_nil, fun c _ hc => hc⟩ (fun i σ H' _ h => ?_) (fun i x σ H1 H2 hi hh hy => ?_) (fun σ H1 hh => ?_)
    · obtain ⟨_, _, _, _, _, _, _, k1, _⟩ := h
      exact .of (k1.tup _ _ hq)
    · obtain ⟨v, es, y5, y6, y7, y8, rfl, k1, hL1, hes, hwy, hge, hcap⟩ := hh
      obtain ⟨rfl, ex⟩ := hy
      rw [zs_len, hs_len] at hi
      have ei : way[i]? = some way[i] := List.getElem?_eq_getElem hi
      cases hs_at ex ei
      rw [List.drop_eq_getElem_cons hi] at hwy hcap
      generalize way[i] = ln at *
      cases hwy with
      | @cons _ _ o _ _ e hwy =>
      obtain ⟨l, x, el, ec, hor⟩ := e
      have hln := ok.2.2.2 l (List.mem_of_getElem? el)
      obtain ⟨tl, _, etl, htl⟩ := hl.get el
      walk_at "s"
      refine g_ixT (j := 1) (k1.tup _ _ ha) rfl ?_
      walk_at "s"
      refine g_ixT (j := ln) (k1.tup _ _ hc) etl ?_
      refine g_gtup (k1.tup _ _ htl) rfl ?_
      walk_at "s"
      have hp1 := k1.keep _ _ hp List.not_mem_nil
      rcases hor with ⟨e1, e2, e3⟩ | ⟨e1, e2, e3⟩
      · rw [decide_eq_true (by omega)]
        refine iteT ?_
        walk_at "s"
        refine g_ty hL1 ?_
        walk_at "s"
        refine g_ixL (j := ln) hp1 (zs_get ec) ?_
        walk_at "s"
        refine g_app hL1 (by rw [zs_len]; omega) ?_
        walk_at "s"
        refine ⟨o, es ++ [x], _, _, _, _, by rw [← e2]; rfl, k1.mutL hL hL1, by rw [upd_same]; simp [zs], by simp [hes], hwy, fun e he => ?_, fun c hce hcw => hcap c (fun e he => hce e (List.mem_append_left _ he)) (.cons ⟨l, x, el, ec, .inl ⟨e1, e2, hce x (by simp)⟩⟩ hcw)⟩
        rcases List.mem_append.mp he with z | z
        · exact hge e z
        · have : e = x := by simpa using z
          omega
      · rw [decide_eq_false (by omega)]
        refine iteF ?_
        walk_at "s"
        refine g_ty hL1 ?_
        walk_at "s"
        refine g_ixL (j := ln) hp1 (zs_get ec) ?_
        walk_at "s"
        refine g_app hL1 (by rw [zs_len]; omega) ?_
        walk_at "s"
        refine ⟨o, es ++ [l.r - x], _, _, _, _, by rw [← e2]; rfl, k1.mutL hL hL1, by rw [upd_same]; simp [zs], by simp [hes], hwy, fun e he => ?_, fun c hce hcw => hcap c (fun e he => hce e (List.mem_append_left _ he)) (.cons ⟨l, x, el, ec, .inr ⟨e1, e2, hce _ (by simp)⟩⟩ hcw)⟩
        rcases List.mem_append.mp he with z | z
        · exact hge e z
        · have : e = l.r - x := by simpa using z
          omega
    · obtain ⟨v, es, y5, y6, y7, y8, rfl, k1, hL1, hes, hwy, hge, hcap⟩ := hh
      rw [zs_len, hs_len] at hes hwy hcap
      rw [List.drop_length] at hwy hcap
      walk_at "s"
      refine ⟨L, es, rfl, .of hL1, ?_, fun m hm hmin => ?_⟩
      · cases way with
        | nil => exact absurd rfl hne
        | cons x r => rw [hes]; exact Nat.succ_pos _
      · refine qq m H1 k1 (hge m hm) (hcap m hmin ?_)
        cases hwy
        exact .nil _
theorem sc_b_move : FnScope ["web", "near", "house", "way", "coins", "line", "one", "other", "_"] ["web", "near", "house", "way", "coins"] (defScope s_b_move) := ⟨rfl, rfl, rfl, by decide +kernel, rfl, by decide +kernel, by decide +kernel⟩
def sp_b_move : Sp := fun vs H Q _ => ∃ (W : Wb) (u : V) (p : Addr) (near : List Int) (h t : Nat) (q : Addr) (way : List Nat) (c : Int), vs = [u, .ref p, .int h, .ref q, .int c] ∧ WebAt H u W ∧ WebOk W ∧ H p = some (.lst (zs near)) ∧ near.length = W.ls.length ∧
  H q = some (.tup (zs (hs way))) ∧ Way W.ls near c h way t ∧ ∀ (H' : Hp), Kp [p] H H' → H' p = some (.lst (zs (mv W.ls near h way c))) → Q .non H'
theorem mv_a {ls : List Ln} {near : List Int} {i : Nat} {w : List Nat} {c x : Int} {l : Ln} (el : ls[i]? = some l) (ex : near[i]? = some x) : mv ls near l.a (i :: w) c = mv ls (near.set i (x - c)) l.b w c := by
  have hg : near.getD i 0 = x := by rw [List.getD_eq_getElem?_getD, ex]; rfl
  conv => lhs; unfold mv
  rw [el]
  show (if l.a = l.a then mv ls (near.set i (near.getD i 0 - c)) l.b w c else _) = _
  rw [if_pos rfl, hg]
theorem mv_b {ls : List Ln} {near : List Int} {i : Nat} {w : List Nat} {c x : Int} {l : Ln} (el : ls[i]? = some l) (ex : near[i]? = some x) (ne : l.a ≠ l.b) : mv ls near l.b (i :: w) c = mv ls (near.set i (x + c)) l.a w c := by
  have hg : near.getD i 0 = x := by rw [List.getD_eq_getElem?_getD, ex]; rfl
  conv => lhs; unfold mv
  rw [el]
  show (if l.a = l.b then _ else mv ls (near.set i (near.getD i 0 + c)) l.a w c) = _
  rw [if_neg ne, hg]
theorem ok_b_move (F : Fun K "b_move" "b_move" s_b_move f fd) (T : Txt mg) : FnOk P w K mg base CX0 1 f fd ["web", "near", "house", "way", "coins"] sp_b_move := by
  have sc := sc_b_move
  refine F.ok sc (fun vs H Q E h => ?_) (fun cdv A outer s H vs Q E hr h => ?_)
  · obtain ⟨W, u, p, near, h, t, q, way, c, rfl, _⟩ := h
    rfl
  · obtain ⟨W, u, p, near, h, t, q, way, cc, rfl, hw, ok, hp, hn, hq, hway, qq⟩ := h
    obtain ⟨a, c, ls, rfl, ha, hc, hl⟩ := hw
    refine ⟨_, (pss_one (ps_for PassesOwn.never rfl (kpi_tup (K := K) rfl (pv 3)) (pg_name (i := 5) sc.nd rfl (by first | exact Or.inl rfl | exact Or.inr rfl))
        (pss_cons (ps_asg (pe_ix (kx_tup (K := K) rfl) (pe_ix (kx_tup (K := K) rfl) (pv 0) pe_int (fun _ _ => rfl)) (pv 5) (fun _ _ => rfl)) (kpg_tup (K := K) (n := 3) rfl rfl (pgs_cons (pg_name (i := 6) sc.nd rfl (by first | exact Or.inl rfl | exact Or.inr rfl)) (pgs_cons (pg_name (i := 7) sc.nd rfl (by first | exact Or.inl rfl | exact Or.inr rfl)) (pgs_cons (pg_name (i := 8) sc.nd rfl (by first | exact Or.inl rfl | exact Or.inr rfl)) pgs_nil)))))
        (pss_one (ps_if (pt_cmpR op_eq (pv 6) (pv 2) (nomark _))
          (pss_cons (ps_augS (pv 1) (pv 5) (kget_list (K := K) rfl) (pv 4) ip_sub set_list)
          (pss_one (ps_set (i := 2) sc.nd rfl (by first | exact Or.inl rfl | exact Or.inr rfl) (pv 7))))
          (pss_cons (ps_augS (pv 1) (pv 5) (kget_list (K := K) rfl) (pv 4) ip_add set_list)
          (pss_one (ps_set (i := 2) sc.nd rfl (by first | exact Or.inl rfl | exact Or.inr rfl) (pv 6))))))))), ?_⟩
    walk_at "s"
    refine ⟨q, rfl, ⟨_, .of hq⟩, ?_⟩
    refine for_it (walk_tup (xs := zs (hs way))) (fun i σ H' => ∃ (v : Nat) (ne : List Int) (y5 y6 y7 y8 : Option V), σ = [some (.ref a), some (.ref p), some (.int v), some (.ref q), some (.int cc), y5, y6, y7, y8] ∧ Kp [p] H H' ∧ H' p = some (.lst (zs ne)) ∧ ne.length = W.ls.length ∧
      Chn W.ls v (way.drop i) t ∧ mv W.ls ne v (way.drop i) cc = mv W.ls near h way cc)
      ⟨h, near, _, _, _, _, rfl, .refl _ _, hp, hn, hway.chn, rfl⟩ (fun i σ H' _ h => ?_) (fun i x σ H1 H2 hi hh hy => ?_) (fun σ H1 hh => ?_)
    · obtain ⟨_, _, _, _, _, _, _, k1, _⟩ := h
      exact .of (k1.tup _ _ hq)
    · obtain ⟨v, ne, y5, y6, y7, y8, rfl, k1, hp1, hnl, hch, hmv⟩ := hh
      obtain ⟨rfl, ex⟩ := hy
      rw [zs_len, hs_len] at hi
      have ei : way[i]? = some way[i] := List.getElem?_eq_getElem hi
      cases hs_at ex ei
      rw [List.drop_eq_getElem_cons hi] at hch hmv
      generalize way[i] = ln at *
      cases hch with
      | @cons _ _ o _ _ l el hor hch =>
      have hln := ok.2.2.2 l (List.mem_of_getElem? el)
      have hlt : ln < W.ls.length := (List.getElem?_eq_some_iff.mp el).1
      have ec : ne[ln]? = some (ne[ln]'(by omega)) := List.getElem?_eq_getElem (by omega)
      generalize ne[ln]'(by omega) = x at *
      obtain ⟨tl, _, etl, htl⟩ := hl.get el
      walk_at "s"
      refine g_ixT (j := 1) (k1.tup _ _ ha) rfl ?_
      walk_at "s"
      refine g_ixT (j := ln) (k1.tup _ _ hc) etl ?_
      refine g_gtup (k1.tup _ _ htl) rfl ?_
      walk_at "s"
      rcases hor with ⟨e1, e2⟩ | ⟨e1, e2⟩
      · rw [decide_eq_true (by omega)]
        refine iteT ?_
        walk_at "s"
        refine g_getL hp1 (zs_get ec) ?_
        walk_at "s"
        refine g_setL hp1 (by rw [zs_len]; omega) ?_
        walk_at "s"
        rw [← List.map_set]
        refine ⟨o, ne.set ln (x - cc), _, _, _, _, by rw [← e2]; rfl, k1.trans (.setL hp1 (by simp)), upd_same, by rw [List.length_set]; exact hnl, hch, ?_⟩
        rw [← hmv, ← e1, ← e2, mv_a el ec]
      · rw [decide_eq_false (by omega)]
        refine iteF ?_
        walk_at "s"
        refine g_getL hp1 (zs_get ec) ?_
        walk_at "s"
        refine g_setL hp1 (by rw [zs_len]; omega) ?_
        walk_at "s"
        rw [← List.map_set]
        refine ⟨o, ne.set ln (x + cc), _, _, _, _, by rw [← e2]; rfl, k1.trans (.setL hp1 (by simp)), upd_same, by rw [List.length_set]; exact hnl, hch, ?_⟩
        rw [← hmv, ← e1, ← e2, mv_b el ec (by omega)]
    · obtain ⟨v, ne, y5, y6, y7, y8, rfl, k1, hp1, hnl, hch, hmv⟩ := hh
      rw [zs_len, hs_len, List.drop_length] at hmv
      have hmv : ne = mv W.ls near h way cc := hmv
      rw [hmv] at hp1
      exact qq H1 k1 hp1
theorem sc_b_shortest : FnScope ["web", "links", "near", "here", "there", "back"] ["web", "links", "near", "here", "there"] (defScope s_b_shortest) := ⟨rfl, rfl, rfl, by decide +kernel, rfl, by decide +kernel, by decide +kernel⟩
def sp_b_shortest : Sp := fun vs H Q _ => ∃ (W : Wb) (u lk : V) (p : Addr) (near : List Int) (h t : Nat), vs = [u, lk, .ref p, .int h, .int t] ∧ WebAt H u W ∧ WebOk W ∧ LksAt [] H lk W [] ∧ H p = some (.lst (zs near)) ∧ near.length = W.ls.length ∧ h < W.n ∧
  (¬ Rch W.ls near [] [h] t → ∀ H', Ex H H' → Q .non H') ∧ ∀ (way : List Nat) (q : Addr) (H' : Hp), Ex H H' → H' q = some (.tup (zs (hs way))) → Way W.ls near 1 h way t → way.Nodup → way.length ≤ 8 → Q (.ref q) H'
theorem ok_b_shortest (F : Fun K "b_shortest" "b_shortest" s_b_shortest f fd) (T : Txt mg) (c_b_search : Cal P w K mg base 1 "b_search" sp_b_search) (c_b_trace : Cal P w K mg base 1 "b_trace" sp_b_trace) : FnOk P w K mg base CX0 2 f fd ["web", "links", "near", "here", "there"] sp_b_shortest := by
  have sc := sc_b_shortest
  refine F.ok sc (fun vs H Q E h => ?_) (fun cdv A outer s H vs Q E hr h => ?_)
  · obtain ⟨W, u, lk, p, near, h, t, rfl, _⟩ := h
    rfl
  · obtain ⟨W, u, lk, p, near, h, t, rfl, hw, ok, hlk, hp, hn, hh, qN, qW⟩ := h
    have hu := hu_of hr
    refine ⟨_, (pss_cons (ps_set (i := 5) sc.nd rfl (by first | exact Or.inl rfl | exact Or.inr rfl) (pe_c c_b_search hr (by decide) (by rfl) (pa_cons (pv 0) (pa_cons (pv 1) (pa_cons (pv 2) (pa_cons (pe_tup (pa_cons (pv 3) pa_nil)) (pa_cons pe_int pa_nil)))))))
      (pss_cons (ps_if (pt_cmp (pc_dnotin hu (pv 4) (pv 5)))
        (pss_one (ps_ret pe_non))
        pss_nil)
      (pss_one (ps_ret (pe_ix (kx_tup (K := K) rfl) (pe_c c_b_trace hr (by decide) (by rfl) (pa_cons (pv 5) (pa_cons (pv 4) pa_nil))) pe_int (fun _ _ => rfl)))))), ?_⟩
    walk_at "s"
    refine ⟨sz, fun z hz => ?_⟩
    walk_at "s"
    have k0 : Ex H (upd H z (.tup [.int h])) := .new hz
    refine ⟨W, u, lk, _, p, near, [], [h], rfl, hw.kp k0, ok, hlk.kp k0, k0.keep _ _ hp List.not_mem_nil, hn, ⟨z, rfl, .inr upd_same⟩, by simp, by simpa using hh, fun dd H1 bk k1 _ b1 bo sh => ?_⟩
    walk_at "s"
    obtain ⟨oo, hg, hsm⟩ := b1.has t
    refine ⟨dd, oo, rfl, hg, ?_⟩
    walk_at "s"
    rw [hsm]
    by_cases ht : t ∈ keysB bk
    · rw [decide_eq_true ht]
      refine iteF ?_
      walk_at "s"
      refine ⟨W, dd, bk, near, [], [h], t, rfl, ok, b1, bo, by simpa using hh, ht, fun s way q q2 H2 k2 e1 e2 hs hway nd hwl => ?_⟩
      walk_at "s"
      have : s = h := by simpa using hs
      subst this
      refine g_ixT (j := 1) e1 rfl ?_
      exact qW way q2 H2 ((k0.trans k1).trans k2) e2 hway nd hwl
    · rw [decide_eq_false ht]
      refine iteT ?_
      walk_at "s"
      exact qN (fun z => ht ((rch_keys bo sh t).mpr z)) H1 (k0.trans k1)
theorem sc_b_first : FnScope ["web", "purses", "left", "near", "one", "other", "room", "coins"] ["web", "purses"] (defScope s_b_first) := ⟨rfl, rfl, rfl, by decide +kernel, rfl, by decide +kernel, by decide +kernel⟩
def sp_b_first : Sp := fun vs H Q _ => ∃ (W : Wb) (u : V) (p : Addr) (ps : List Int), vs = [u, .ref p] ∧ WebAt H u W ∧ WebOk W ∧ H p = some (.tup (zs ps)) ∧ ps.length = W.n ∧ ∀ near, Split W.ls near → NewL H Q near
theorem ok_b_first (F : Fun K "b_first" "b_first" s_b_first f fd) (T : Txt mg) : FnOk P w K mg base CX0 1 f fd ["web", "purses"] sp_b_first := by
  have sc := sc_b_first
  refine F.ok sc (fun vs H Q E h => ?_) (fun cdv A outer s H vs Q E hr h => ?_)
  · obtain ⟨W, u, p, ps, rfl, _⟩ := h
    rfl
  · obtain ⟨W, u, p, ps, rfl, hw, ok, hp, hn, q⟩ := h
    obtain ⟨a, c, ls, rfl, ha, hc, hl⟩ := hw
    refine ⟨_, (pss_cons (ps_set (i := 2) sc.nd rfl (by first | exact Or.inl rfl | exact Or.inr rfl) (pe_callTy (kq_list (K := K) rfl) (by rfl) T.list (by decide +kernel) (pa_cons (pv 1) pa_nil)))
      (pss_cons (ps_set (i := 3) sc.nd rfl (by first | exact Or.inl rfl | exact Or.inr rfl) (pe_lst pa_nil))
      (pss_cons (ps_for PassesOwn.never rfl (kpi_tup (K := K) rfl (pe_ix (kx_tup (K := K) rfl) (pv 0) pe_int (fun _ _ => rfl))) (kpg_tup (K := K) (n := 3) rfl rfl (pgs_cons (pg_name (i := 4) sc.nd rfl (by first | exact Or.inl rfl | exact Or.inr rfl)) (pgs_cons (pg_name (i := 5) sc.nd rfl (by first | exact Or.inl rfl | exact Or.inr rfl)) (pgs_cons (pg_name (i := 6) sc.nd rfl (by first | exact Or.inl rfl | exact Or.inr rfl)) pgs_nil))))
        (pss_cons (ps_set (i := 7) sc.nd rfl (by first | exact Or.inl rfl | exact Or.inr rfl) (pe_callB (cq_max rfl) (by rfl) T.max (by decide +kernel) (pa_cons pe_int (pa_cons (pe_callB (cq_min rfl) (by rfl) T.min (by decide +kernel) (pa_cons (pv 6) (pa_cons (pe_ix (kx_list (K := K) rfl) (pv 2) (pv 4) (fun _ _ => rfl)) pa_nil))) pa_nil))))
        (pss_cons (ps_expr (pe_bm PySem.F.plainAttrs_list PySem.F.slot_list_append PySem.F.type_list_append mt_append (pv 3) (pa_cons (pv 7) pa_nil)))
        (pss_cons (ps_augS (pv 2) (pv 4) (kget_list (K := K) rfl) (pv 7) ip_sub set_list)
        (pss_one (ps_augS (pv 2) (pv 5) (kget_list (K := K) rfl) (pe_op op_sub (pv 6) (pv 7)) ip_sub set_list))))))
      (pss_one (ps_ret (pv 3)))))), ?_⟩
    walk_at "s"
    refine g_listT hp fun L hL => ?_
    walk_at "s"
    refine ⟨sz, fun N hN => ?_⟩
    walk_at "s"
    have k1 : Ex H (upd (upd H L (.lst (zs ps))) N (.lst [])) := (Kp.new (S := []) hL).nnew hN
    have hNH : H N = none := (Kp.new (S := []) (o := .lst (zs ps)) hL).free hN
    have hLN : L ≠ N := ne_of_none upd_same hN
    refine g_ixT (j := 1) (k1.tup _ _ ha) rfl ?_
    refine ⟨c, rfl, ⟨_, .of (k1.tup _ _ hc)⟩, ?_⟩
    refine for_it (walk_tup (xs := ls.map V.ref)) (fun i σ H' => ∃ (le ne : List Int) (y4 y5 y6 y7 : Option V), σ = [some (.ref a), some (.ref p), some (.ref L), some (.ref N), y4, y5, y6, y7] ∧ Ex H H' ∧ H' L = some (.lst (zs le)) ∧ le.length = W.n ∧ H' N = some (.lst (zs ne)) ∧ Split (W.ls.take i) ne)
      ⟨ps, [], _, _, _, _, rfl, k1, by rw [upd_ne hLN, upd_same], hn, upd_same, rfl, fun i l c e => by simp at e⟩ (fun i σ H' _ h => ?_) (fun i x σ H1 H2 hi hh hy => ?_) (fun σ H1 hh => ?_)
    · obtain ⟨_, _, _, _, _, _, _, k1, _⟩ := h
      exact .of (k1.tup _ _ hc)
    · obtain ⟨le, ne, y4, y5, y6, y7, rfl, k2, hL2, hle, hN2, hsp⟩ := hh
      obtain ⟨rfl, ex⟩ := hy
      rw [List.length_map, hl.1] at hi
      have el : W.ls[i]? = some W.ls[i] := List.getElem?_eq_getElem hi
      obtain ⟨t, rfl, ht⟩ := hl.ref ex el
      have hln := ok.2.2.2 _ (List.getElem_mem hi)
      generalize W.ls[i] = l at *
      have hnl : ne.length = i := by rw [hsp.1, List.length_take]; omega
      have h60 := ok.2.2.1
      refine g_gtup (k2.tup _ _ ht) rfl ?_
      walk_at "s"
      have ea : le[l.a]? = some (le[l.a]'(by omega)) := List.getElem?_eq_getElem (by omega)
      refine g_ixL (j := l.a) hL2 (zs_get ea) ?_
      walk_at "s"
      generalize le[l.a]'(by omega) = x at *
      refine g_ty hN2 ?_
      walk_at "s"
      refine g_app hN2 (by rw [zs_len]; omega) ?_
      walk_at "s"
      have k3 := k2.mutL (o' := .lst (zs ne ++ [.int (max 0 (min l.r x))])) hNH hN2
      refine g_getL (by rw [upd_ne hLN]; exact hL2) (zs_get ea) ?_
      walk_at "s"
      refine g_setL (by rw [upd_ne hLN]; exact hL2) (by rw [zs_len]; omega) ?_
      walk_at "s"
      rw [← List.map_set]
      have k4 := k3.mutL (o' := .lst (zs (le.set l.a (x - max 0 (min l.r x))))) hL (by rw [upd_ne hLN]; exact hL2)
      have eb : (le.set l.a (x - max 0 (min l.r x)))[l.b]? = some ((le.set l.a (x - max 0 (min l.r x)))[l.b]'(by rw [List.length_set]; omega)) := List.getElem?_eq_getElem (by rw [List.length_set]; omega)
      refine g_getL upd_same (zs_get eb) ?_
      walk_at "s"
      refine g_setL upd_same (by rw [zs_len, List.length_set]; omega) ?_
      walk_at "s"
      rw [← List.map_set]
      refine ⟨_, ne ++ [max 0 (min l.r x)], _, _, _, _, rfl, k4.mutL hL upd_same, upd_same, by rw [List.length_set, List.length_set]; exact hle, by rw [upd_ne hLN.symm, upd_ne hLN.symm, upd_same]; simp [zs], ?_, fun j l' c' e1 e2 => ?_⟩
      · rw [List.length_append, hnl, List.length_take]
        show i + 1 = _
        omega
      · rw [List.getElem?_take] at e1
        split at e1
        · rename_i hj
          rcases Nat.lt_succ_iff_lt_or_eq.mp hj with z | z
          · rw [List.getElem?_append_left (by omega)] at e2
            exact hsp.2 j l' c' (by rw [List.getElem?_take, if_pos z]; exact e1) e2
          · subst z
            rw [List.getElem?_append_right (by omega), hnl, Nat.sub_self] at e2
            rw [el] at e1
            cases e1
            simp at e2
            omega
        · cases e1
    · obtain ⟨le, ne, y4, y5, y6, y7, rfl, k2, hL2, hle, hN2, hsp⟩ := hh
      rw [List.length_map, hl.1, List.take_length] at hsp
      walk_at "s"
      exact q ne hsp N H1 k2 hNH hN2
end
end K8
set_option Elab.async false
set_option linter.all false
set_option maxRecDepth 100000
set_option maxHeartbeats 4000000
namespace K8
open PySem PySem.Spec PyProof.Rows L2
local macro_rules | `(tactic| walk_at "s") => `(tactic| repeat (first
  | with_reducible refine g_seq ?_ | with_reducible refine g_ret ?_ | with_reducible refine g_asg ?_ | with_reducible refine g_name ?_ | with_reducible refine g_c ?_ | with_reducible refine g_op ?_ | with_reducible refine g_cons ?_ | with_reducible refine g_nil ?_
  | (with_reducible show tVar _ _ _ _; refine g_var rfl ?_) | with_reducible refine g_cb ?_ | with_reducible refine g_call ?_ | with_reducible refine g_if ?_ | with_reducible refine g_test ?_ | with_reducible refine g_tB ?_ | with_reducible refine g_i0 ?_ | with_reducible refine g_bl ?_
  | with_reducible refine g_add ?_ | with_reducible refine g_sub ?_ | with_reducible refine g_eqI ?_ | with_reducible refine g_neI ?_ | with_reducible refine g_drop ?_ | with_reducible refine g_next ?_ | with_reducible refine g_break ?_ | with_reducible refine g_un ?_ | with_reducible refine g_u ?_
  | with_reducible refine g_ifE ?_ | with_reducible refine g_and ?_ | with_reducible refine g_or ?_ | with_reducible refine g_not ?_ | with_reducible refine g_andV ?_ | with_reducible refine g_orV ?_ | with_reducible refine g_notV ?_ | with_reducible refine g_isN ?_ | with_reducible refine g_notN ?_
  | with_reducible refine g_gnil ?_ | with_reducible refine g_gcons ?_ | with_reducible refine g_bm ?_ | with_reducible refine g_abs ?_ | with_reducible refine g_max ?_ | with_reducible refine g_min ?_ | with_reducible refine g_int ?_ | with_reducible refine g_lc ?_ | with_reducible refine g_for ?_ | with_reducible refine g_yes ?_ | with_reducible refine g_rng1 ?_ | with_reducible refine g_rng2 ?_ | with_reducible refine g_il ?_ | with_reducible refine g_it ?_ | with_reducible refine g_en ?_ | with_reducible refine g_zp ?_ | with_reducible refine g_mkT ?_ | with_reducible refine g_mkL ?_ | with_reducible refine g_augS ?_ | (with_reducible show tAug _ _ _ _ _ _; refine g_aug rfl ?_) | with_reducible refine g_ipI ?_ | with_reducible refine g_gsub ?_ | with_reducible refine g_dget ?_ | with_reducible refine g_din ?_ | with_reducible refine g_dnotin ?_ | with_reducible refine g_dput ?_ | with_reducible refine g_dc ?_ | with_reducible refine g_sl ?_ | with_reducible refine g_nopart ?_ | with_reducible refine g_part ?_ | with_reducible refine g_exI ?_ | with_reducible refine g_revL ?_ | (with_reducible show iSq _ _ _ _; refine g_sq rfl ?_) | with_reducible refine g_while ?_ | with_reducible refine g_min3 ?_ | with_reducible refine g_trq ?_ | with_reducible refine g_lock ?_ | with_reducible refine g_mko ?_ | with_reducible refine g_keys ?_ | with_reducible refine iteT ?_ | with_reducible refine iteF ?_))
theorem LksAt.add {S : List Addr} {H H' : Hp} {lk : V} {W : Wb} {D : List Nat} (h : LksAt S H lk W D) (k : Ex H H') {q : Addr} (hq : H q = none) : LksAt (q :: S) H' lk W D := by
  obtain ⟨L, rs, e, h1, h2, h3, h4, h5⟩ := h
  refine ⟨L, rs, e, k.keep _ _ h1 List.not_mem_nil, h2, ?_, fun r hr => ?_, h5.kp k fun _ _ => List.not_mem_nil⟩
  · intro z
    rcases List.mem_cons.mp z with z | z
    · rw [z, hq] at h1; cases h1
    · exact h3 z
  · intro z
    obtain ⟨u, hu⟩ := List.mem_iff_getElem?.mp hr
    obtain ⟨ts, e1, _⟩ := h5 u r hu
    rcases List.mem_cons.mp z with z | z
    · rw [z, hq] at e1; cases e1
    · exact h4 r hr z
theorem cut_shift {W : Wb} (ok : WebOk W) {n1 n2 : List Int} (h1 : n1.length = W.ls.length) (h2 : n2.length = W.ls.length) {h t : Nat} {c : Int} (hh : h < W.n) (ht : t < W.n)
    (e : ∀ y, purse W.ls n2 y = purse W.ls n1 y - (if y = h then c else 0) + (if y = t then c else 0)) {X : Nat → Bool} (hX : X h = true) (tX : X t = false) : cut W.ls n2 X = cut W.ls n1 X - c := by
  have e1 := slack_cut ok h1 (p := purse W.ls n1) (fun _ _ => rfl) X
  have e2 := slack_cut ok h2 (p := shift (purse W.ls n1) h t c) (fun y _ => (e y).symm) X
  rw [slack_shift X hh ht, e1, hX, tX] at e2
  simp at e2
  omega
theorem webok_ne {W : Wb} (ok : WebOk W) : ∀ l ∈ W.ls, l.a ≠ l.b := fun l hl => by have := ok.2.2.2 l hl; omega
section
variable {P : Program} {w : World} {K : PySem.W.Frag} {mg : Str → Option Value} {base : Heap} {f : Addr} {fd : FuncData} {k : Nat}
theorem sc_b_pay : FnScope ["web", "links", "near", "here", "there", "coins", "led", "way", "part"] ["web", "links", "near", "here", "there", "coins"] (defScope s_b_pay) := ⟨rfl, rfl, rfl, by decide +kernel, rfl, by decide +kernel, by decide +kernel⟩
def sp_b_pay : Sp := fun vs H Q _ => ∃ (W : Wb) (u lk : V) (p : Addr) (near : List Int) (h t : Nat) (c : Int), vs = [u, lk, .ref p, .int h, .int t, .int c] ∧ WebAt H u W ∧ WebOk W ∧ LksAt [p] H lk W [] ∧ H p = some (.lst (zs near)) ∧ Split W.ls near ∧ h < W.n ∧ t < W.n ∧ h ≠ t ∧ 0 ≤ c ∧
  ∀ (led : Int) (H' : Hp), Kp [p] H H' → 0 ≤ led → led ≤ c → (∀ X : Nat → Bool, X h = true → X t = false → led ≤ cut W.ls near X) → (led = c ∨ ∃ X : Nat → Bool, X h = true ∧ X t = false ∧ cut W.ls near X = led) → Q (.int led) H'
theorem ok_b_pay (F : Fun K "b_pay" "b_pay" s_b_pay f fd) (T : Txt mg) (c_b_shortest : Cal P w K mg base 2 "b_shortest" sp_b_shortest) (c_b_carry : Cal P w K mg base 1 "b_carry" sp_b_carry) (c_b_move : Cal P w K mg base 1 "b_move" sp_b_move) :
    FnOk P w K mg base CX0 3 f fd ["web", "links", "near", "here", "there", "coins"] sp_b_pay := by
  have sc := sc_b_pay
  refine F.ok sc (fun vs H Q E h => ?_) (fun cdv A outer s H vs Q E hr h => ?_)
  · obtain ⟨W, u, lk, p, near, h, t, c, rfl, _⟩ := h
    rfl
  · obtain ⟨W, u, lk, p, near, h, t, c, rfl, hw, ok, hlk, hp, hsp, hh, ht, hne, hc, q⟩ := h
    refine ⟨_, (pss_cons (ps_set (i := 6) sc.nd rfl (by first | exact Or.inl rfl | exact Or.inr rfl) pe_int)
      (pss_cons (ps_while PassesOwn.never (pt_cmpR op_lt (pv 6) (pv 5) (nomark _))
        (pss_cons (ps_set (i := 7) sc.nd rfl (by first | exact Or.inl rfl | exact Or.inr rfl) (pe_c c_b_shortest hr (by decide) (by rfl) (pa_cons (pv 0) (pa_cons (pv 1) (pa_cons (pv 2) (pa_cons (pv 3) (pa_cons (pv 4) pa_nil)))))))
        (pss_cons (ps_if (pt_cmp (pc_isN (pv 7)))
          (pss_one (ps_ret (pv 6)))
          pss_nil)
        (pss_cons (ps_set (i := 8) sc.nd rfl (by first | exact Or.inl rfl | exact Or.inr rfl) (pe_callB (cq_min rfl) (by rfl) T.min (by decide +kernel) (pa_cons (pe_op op_sub (pv 5) (pv 6)) (pa_cons (pe_c c_b_carry hr (by decide) (by rfl) (pa_cons (pv 0) (pa_cons (pv 2) (pa_cons (pv 3) (pa_cons (pv 7) pa_nil))))) pa_nil))))
        (pss_cons (ps_expr (pe_c c_b_move hr (by decide) (by rfl) (pa_cons (pv 0) (pa_cons (pv 2) (pa_cons (pv 3) (pa_cons (pv 7) (pa_cons (pv 8) pa_nil)))))))
        (pss_one (ps_aug (i := 6) sc.nd rfl (by first | exact Or.inl rfl | exact Or.inr rfl) (pv 8) ip_add)))))))
      (pss_one (ps_ret (pv 6))))), ?_⟩
    walk_at "s"
    refine ⟨fun m σ H' => ∃ (led : Int) (ne : List Int) (y7 y8 : Option V), σ = [some u, some lk, some (.ref p), some (.int h), some (.int t), some (.int c), some (.int led), y7, y8] ∧ m = (c - led).toNat ∧ Kp [p] H H' ∧ H' p = some (.lst (zs ne)) ∧ Split W.ls ne ∧ 0 ≤ led ∧ led ≤ c ∧
      (∀ X : Nat → Bool, X h = true → X t = false → cut W.ls ne X = cut W.ls near X - led), ⟨_, 0, near, _, _, rfl, rfl, .refl _ _, hp, hsp, Int.le_refl 0, hc, fun X _ _ => by omega⟩, fun m σ H1 hx => ?_⟩
    obtain ⟨led, ne, y7, y8, rfl, rfl, k1, hp1, hs1, hl0, hlc, hcut⟩ := hx
    have hge : ∀ X : Nat → Bool, X h = true → X t = false → led ≤ cut W.ls near X := fun X h1 h2 => by
      have := hcut X h1 h2
      have := cut_nonneg X hs1
      omega
    walk_at "s"
    refine ite2 (fun e => ?_) (fun e => ?_)
    · have e : led < c := of_decide_eq_true e
      refine ⟨fun σ' H' => ∃ m', m' < (c - led).toNat ∧ _, fun _ _ h => h, ?_⟩
      walk_at "s"
      refine ⟨W, u, lk, p, ne, h, t, rfl, hw.kp k1, ok, (hlk.kp k1).sub (fun _ h => nomatch h), hp1, hs1.1, hh, fun hno H2 k2 => ?_, fun way q2 H2 k2 eq2 hway nd hwl => ?_⟩
      · walk_at "s"
        rw [decide_eq_true rfl]
        refine iteT ?_
        walk_at "s"
        have hz := rset_cut (st := [h]) hs1
        have x1 : rset W.ls ne [] [h] h = true := rset_iff.mpr (.base List.mem_cons_self)
        have x2 : rset W.ls ne [] [h] t = false := rset_not.mpr hno
        refine q led H2 (k1.trans (.of_ex k2)) hl0 hlc hge (.inr ⟨_, x1, x2, ?_⟩)
        have := hcut _ x1 x2
        omega
      · walk_at "s"
        rw [decide_eq_false (fun z => nomatch z)]
        refine iteF ?_
        walk_at "s"
        have k12 := k1.trans (.of_ex k2)
        have hp2 := k2.keep _ _ hp1 List.not_mem_nil
        have hwne : way ≠ [] := fun z => by
          subst z
          cases hway
          exact hne rfl
        refine ⟨W, u, p, ne, h, t, q2, way, rfl, hw.kp k12, ok, hp2, hs1.1, eq2, hway, hwne, hwl, fun cc H3 k3 hcc hway3 => ?_⟩
        walk_at "s"
        have k13 := k12.trans (.of_ex k3)
        have hp3 := k3.keep _ _ hp2 List.not_mem_nil
        have hpart : 1 ≤ min (c - led) cc ∧ min (c - led) cc ≤ cc ∧ min (c - led) cc ≤ c - led := by omega
        generalize min (c - led) cc = part at *
        refine ⟨W, u, p, ne, h, t, q2, way, part, rfl, hw.kp k13, ok, hp3, hs1.1, k3.tup _ _ eq2, hway3.le (by omega), fun H4 k4 hp4 => ?_⟩
        obtain ⟨m1, m2⟩ := mv_ok (c := part) (by omega) (webok_ne ok) way ne h t hs1 (hway3.le (by omega)) nd
        walk_at "s"
        refine ⟨(c - (led + part)).toNat, by omega, led + part, _, _, _, rfl, rfl, k13.trans k4, hp4, m1, by omega, by omega, fun X h1 h2 => ?_⟩
        have := cut_shift ok hs1.1 m1.1 hh ht m2 h1 h2
        have := hcut X h1 h2
        omega
    · have e : ¬ led < c := fun z => e (decide_eq_true z)
      walk_at "s"
      exact q led H1 k1 hl0 hlc hge (.inl (by omega))
/-- at least c can go from h to t -/
def Flows (W : Wb) (near : List Int) (c : Int) (h t : Nat) : Prop := ∀ X : Nat → Bool, X h = true → X t = false → c ≤ cut W.ls near X
theorem sc_b_both_pay : FnScope ["web", "links", "near", "here", "there", "coins"] ["web", "links", "near", "here", "there", "coins"] (defScope s_b_both_pay) := ⟨rfl, rfl, rfl, by decide +kernel, rfl, by decide +kernel, by decide +kernel⟩
def sp_b_both_pay : Sp := fun vs H Q _ => ∃ (W : Wb) (u lk : V) (p : Addr) (near : List Int) (h t : Nat) (c : Int), vs = [u, lk, .ref p, .int h, .int t, .int c] ∧ WebAt H u W ∧ WebOk W ∧ LksAt [] H lk W [] ∧ H p = some (.lst (zs near)) ∧ Split W.ls near ∧ h < W.n ∧ t < W.n ∧ h ≠ t ∧ 0 ≤ c ∧
  ∀ (b : Bool) (H' : Hp), Ex H H' → (b = true ↔ Flows W near c h t ∧ Flows W near c t h) → Q (.bl b) H'
theorem ok_b_both_pay (F : Fun K "b_both_pay" "b_both_pay" s_b_both_pay f fd) (T : Txt mg) (c_b_pay : Cal P w K mg base 3 "b_pay" sp_b_pay) :
    FnOk P w K mg base CX0 4 f fd ["web", "links", "near", "here", "there", "coins"] sp_b_both_pay := by
  have sc := sc_b_both_pay
  refine F.ok sc (fun vs H Q E h => ?_) (fun cdv A outer s H vs Q E hr h => ?_)
  · obtain ⟨W, u, lk, p, near, h, t, c, rfl, _⟩ := h
    rfl
  · obtain ⟨W, u, lk, p, near, h, t, c, rfl, hw, ok, hlk, hp, hsp, hh, ht, hne, hc, q⟩ := h
    refine ⟨_, (pss_cons (ps_if (pt_cmpR op_lt (pe_c c_b_pay hr (by decide) (by rfl) (pa_cons (pv 0) (pa_cons (pv 1) (pa_cons (pe_callTy (kq_list (K := K) rfl) (by rfl) T.list (by decide +kernel) (pa_cons (pv 2) pa_nil)) (pa_cons (pv 3) (pa_cons (pv 4) (pa_cons (pv 5) pa_nil))))))) (pv 5) (nomark _))
        (pss_one (ps_ret pe_bl))
        pss_nil)
      (pss_one (ps_ret (pe_cmpR op_eq (pe_c c_b_pay hr (by decide) (by rfl) (pa_cons (pv 0) (pa_cons (pv 1) (pa_cons (pe_callTy (kq_list (K := K) rfl) (by rfl) T.list (by decide +kernel) (pa_cons (pv 2) pa_nil)) (pa_cons (pv 4) (pa_cons (pv 3) (pa_cons (pv 5) pa_nil))))))) (pv 5) (nomark _))))), ?_⟩
    walk_at "s"
    refine g_listL hp fun p1 hp1 => ?_
    walk_at "s"
    have k1 : Ex H (upd H p1 (.lst (zs near))) := .new hp1
    refine ⟨W, u, lk, p1, near, h, t, c, rfl, hw.kp k1, ok, hlk.add k1 hp1, upd_same, hsp, hh, ht, hne, hc, fun led H2 k2 h0 h1 hall hor => ?_⟩
    have kk : Ex H H2 := ((k1.mono (T := [p1]) fun _ h => nomatch h).trans k2).drop hp1
    have key : ∀ {led : Int} {h t : Nat}, 0 ≤ led → led ≤ c → (∀ X : Nat → Bool, X h = true → X t = false → led ≤ cut W.ls near X) → (led = c ∨ ∃ X : Nat → Bool, X h = true ∧ X t = false ∧ cut W.ls near X = led) → (led = c ↔ Flows W near c h t) := fun {led h t} h0 h1 ha ho => by
      constructor
      · rintro rfl
        exact ha
      · intro fl
        rcases ho with e | ⟨X, x1, x2, x3⟩
        · exact e
        · have := fl X x1 x2
          omega
    have i1 := key h0 h1 hall hor
    walk_at "s"
    refine ite2 (fun e => ?_) (fun e => ?_)
    · have e : led < c := of_decide_eq_true e
      walk_at "s"
      exact q false H2 kk ⟨(fun z => nomatch z), fun z => absurd (i1.mpr z.1) (by omega)⟩
    · have e : led = c := by
        have : ¬ led < c := fun z => e (decide_eq_true z)
        omega
      walk_at "s"
      have hp2 := kk.keep _ _ hp List.not_mem_nil
      refine g_listL hp2 fun p3 hp3 => ?_
      walk_at "s"
      have k3 : Ex H2 (upd H2 p3 (.lst (zs near))) := .new hp3
      refine ⟨W, u, lk, p3, near, t, h, c, rfl, (hw.kp kk).kp k3, ok, (hlk.kp kk).add k3 hp3, upd_same, hsp, ht, hh, hne.symm, hc, fun led2 H4 k4 g0 g1 gall gor => ?_⟩
      have i2 := key g0 g1 gall gor
      walk_at "s"
      refine q _ H4 (kk.trans (((k3.mono (T := [p3]) fun _ h => nomatch h).trans k4).drop hp3)) ?_
      rw [decide_eq_true_iff]
      exact ⟨fun z => ⟨i1.mp e, i2.mp z⟩, fun z => i2.mpr z.2⟩
end
end K8
set_option Elab.async false
set_option linter.all false
set_option maxRecDepth 100000
set_option maxHeartbeats 4000000
namespace K8
open PySem PySem.Spec PyProof.Rows L2
local macro_rules | `(tactic| walk_at "s") => `(tactic| repeat (first
  | with_reducible refine g_seq ?_ | with_reducible refine g_ret ?_ | with_reducible refine g_asg ?_ | with_reducible refine g_name ?_ | with_reducible refine g_c ?_ | with_reducible refine g_op ?_ | with_reducible refine g_cons ?_ | with_reducible refine g_nil ?_
  | (with_reducible show tVar _ _ _ _; refine g_var rfl ?_) | with_reducible refine g_cb ?_ | with_reducible refine g_call ?_ | with_reducible refine g_if ?_ | with_reducible refine g_test ?_ | with_reducible refine g_tB ?_ | with_reducible refine g_i0 ?_ | with_reducible refine g_bl ?_
  | with_reducible refine g_add ?_ | with_reducible refine g_sub ?_ | with_reducible refine g_eqI ?_ | with_reducible refine g_neI ?_ | with_reducible refine g_drop ?_ | with_reducible refine g_next ?_ | with_reducible refine g_break ?_ | with_reducible refine g_un ?_ | with_reducible refine g_u ?_
  | with_reducible refine g_ifE ?_ | with_reducible refine g_and ?_ | with_reducible refine g_or ?_ | with_reducible refine g_not ?_ | with_reducible refine g_andV ?_ | with_reducible refine g_orV ?_ | with_reducible refine g_notV ?_ | with_reducible refine g_isN ?_ | with_reducible refine g_notN ?_
  | with_reducible refine g_gnil ?_ | with_reducible refine g_gcons ?_ | with_reducible refine g_bm ?_ | with_reducible refine g_abs ?_ | with_reducible refine g_max ?_ | with_reducible refine g_min ?_ | with_reducible refine g_int ?_ | with_reducible refine g_lc ?_ | with_reducible refine g_for ?_ | with_reducible refine g_yes ?_ | with_reducible refine g_rng1 ?_ | with_reducible refine g_rng2 ?_ | with_reducible refine g_il ?_ | with_reducible refine g_it ?_ | with_reducible refine g_en ?_ | with_reducible refine g_zp ?_ | with_reducible refine g_mkT ?_ | with_reducible refine g_mkL ?_ | with_reducible refine g_augS ?_ | (with_reducible show tAug _ _ _ _ _ _; refine g_aug rfl ?_) | with_reducible refine g_ipI ?_ | with_reducible refine g_gsub ?_ | with_reducible refine g_dget ?_ | with_reducible refine g_din ?_ | with_reducible refine g_dnotin ?_ | with_reducible refine g_dput ?_ | with_reducible refine g_dc ?_ | with_reducible refine g_sl ?_ | with_reducible refine g_nopart ?_ | with_reducible refine g_part ?_ | with_reducible refine g_exI ?_ | with_reducible refine g_revL ?_ | (with_reducible show iSq _ _ _ _; refine g_sq rfl ?_) | with_reducible refine g_while ?_ | with_reducible refine g_min3 ?_ | with_reducible refine g_trq ?_ | with_reducible refine g_lock ?_ | with_reducible refine g_mko ?_ | with_reducible refine g_keys ?_ | with_reducible refine iteT ?_ | with_reducible refine iteF ?_))
theorem Kp.unlock {H1 H' : Hp} {dd : Addr} {od : Obj} {u : HO} (h1 : H1 dd = some u) (hu : ∀ ys, u ≠ .tup ys) (k : Kp [dd] (upd H1 dd (.frz od u)) H') : Ex H1 (upd H' dd u) := by
  refine ⟨fun b o e _ => ?_, fun b xs e => ?_, fun b o e => ?_⟩
  · by_cases z : b = dd
    · rw [z, upd_same]; rw [z, h1] at e; exact e
    · rw [upd_ne z]
      exact k.keep b o (by rw [upd_ne z]; exact e) (by simpa using z)
  · have z : b ≠ dd := fun z => by rw [z, h1] at e; exact hu xs (Option.some.inj e)
    rw [upd_ne z]
    exact k.tup b xs (by rw [upd_ne z]; exact e)
  · by_cases z : b = dd
    · exact ⟨u, by rw [z, upd_same]⟩
    · obtain ⟨o', e'⟩ := k.dom b o (by rw [upd_ne z]; exact e)
      exact ⟨o', by rw [upd_ne z]; exact e'⟩
theorem filter_take {n : Nat} {f : Nat → Bool} (i : Nat) (hi : i < n) : ((List.range n).take (i + 1)).filter f = ((List.range n).take i).filter f ++ (if f i = true then [i] else []) := by
  rw [List.take_add_one, List.getElem?_range hi, List.filter_append]
  congr 1
  cases e : f i <;> simp [e]
theorem filter_take' {xs : List Nat} {f : Nat → Bool} {i x : Nat} (hi : xs[i]? = some x) : (xs.take (i + 1)).filter f = (xs.take i).filter f ++ (if f x = true then [x] else []) := by
  rw [List.take_add_one, hi, List.filter_append]
  congr 1
  cases e : f x <;> simp [e]
section
variable {P : Program} {w : World} {K : PySem.W.Frag} {mg : Str → Option Value} {base : Heap} {f : Addr} {fd : FuncData} {k : Nat}
theorem sc_b_bring : FnScope ["web", "links", "near", "goal", "have", "over", "back", "under", "there", "here", "way", "coins", "house"] ["web", "links", "near", "goal"] (defScope s_b_bring) := ⟨rfl, rfl, rfl, by decide +kernel, rfl, by decide +kernel, by decide +kernel⟩
def sp_b_bring : Sp := fun vs H Q _ => ∃ (W : Wb) (u lk : V) (p g : Addr) (near goal : List Int), vs = [u, lk, .ref p, .ref g] ∧ WebAt H u W ∧ WebOk W ∧ LksAt [p] H lk W [] ∧ H p = some (.lst (zs near)) ∧ Split W.ls near ∧ H g = some (.tup (zs goal)) ∧ goal.length = W.n ∧ Stand W (fun v => goal.getD v 0) ∧
  ∀ (ne : List Int) (H' : Hp), Kp [p] H H' → H' p = some (.lst (zs ne)) → Split W.ls ne → (∀ v, v < W.n → goal.getD v 0 = purse W.ls ne v) → Q .non H'
theorem ok_b_bring (F : Fun K "b_bring" "b_bring" s_b_bring f fd) (T : Txt mg) (c_b_purses : Cal P w K mg base 1 "b_purses" sp_b_purses) (c_b_search : Cal P w K mg base 1 "b_search" sp_b_search) (c_b_trace : Cal P w K mg base 1 "b_trace" sp_b_trace) (c_b_carry : Cal P w K mg base 1 "b_carry" sp_b_carry) (c_b_move : Cal P w K mg base 1 "b_move" sp_b_move) :
    FnOk P w K mg base CX0 2 f fd ["web", "links", "near", "goal"] sp_b_bring := by
  have sc := sc_b_bring
  refine F.ok sc (fun vs H Q E h => ?_) (fun cdv A outer s H vs Q E hr h => ?_)
  · obtain ⟨W, u, lk, p, g, near, goal, rfl, _⟩ := h
    rfl
  · obtain ⟨W, u, lk, p, g, near, goal, rfl, hw, ok, hlk, hp, hsp, hg, hgl, hst, q⟩ := h
    have hu := hu_of hr
    have hw0 := hw
    obtain ⟨a, c, ls, rfl, ha, hc, hl⟩ := hw0
    refine ⟨_, (pss_cons (ps_set (i := 4) sc.nd rfl (by first | exact Or.inl rfl | exact Or.inr rfl) (pe_c c_b_purses hr (by decide) (by rfl) (pa_cons (pv 0) (pa_cons (pv 2) pa_nil))))
      (pss_one (ps_while PassesOwn.never (pt_val pe_bl)
        (pss_cons (ps_setLc (i := 5) (own := [("house", 12)]) rfl sc.nd rfl rfl (sw_true rfl rfl rfl (by decide +kernel)) (pi_range1 (by rfl) T.range (pa_cons (pe_ix (kx_tup (K := K) rfl) (pv 0) pe_int (fun _ _ => rfl)) pa_nil)) (blkOk_by (N := ["web", "links", "near", "goal", "have", "over", "back", "under", "there", "here", "way", "coins", "house"]) (sc := defScope s_b_bring) (by decide +kernel)) (fun _ _ _ _ _ => (pg_name (i := 12) sc.nd rfl (by first | exact Or.inl rfl | exact Or.inr rfl))) (fun _ _ _ _ _ => (pts_one (pt_cmpR op_gt (pe_ix (kx_list (K := K) rfl) (pv 4) (pv 12) (fun _ _ => rfl)) (pe_ix (kx_tup (K := K) rfl) (pv 3) (pv 12) (fun _ _ => rfl)) (nomark _)))) (fun _ _ _ _ _ => (pv 12)))
        (pss_cons (ps_if (pt_not (kpt_truth (K := K) rfl (pv 5) (by intro _; rfl)))
          (pss_one (ps_ret pe_non))
          pss_nil)
        (pss_cons (ps_set (i := 6) sc.nd rfl (by first | exact Or.inl rfl | exact Or.inr rfl) (pe_c c_b_search hr (by decide) (by rfl) (pa_cons (pv 0) (pa_cons (pv 1) (pa_cons (pv 2) (pa_cons (pv 5) (pa_cons pe_int pa_nil)))))))
        (pss_cons (ps_lock (ps_setLc (i := 7) (own := [("house", 12)]) rfl sc.nd rfl rfl (sw_true rfl rfl rfl (by decide +kernel)) (pi_keys (pv 6)) (blkOk_by (N := ["web", "links", "near", "goal", "have", "over", "back", "under", "there", "here", "way", "coins", "house"]) (sc := defScope s_b_bring) (by decide +kernel)) (fun _ _ _ _ _ => (pg_name (i := 12) sc.nd rfl (by first | exact Or.inl rfl | exact Or.inr rfl))) (fun _ _ _ _ _ => (pts_one (pt_cmpR op_lt (pe_ix (kx_list (K := K) rfl) (pv 4) (pv 12) (fun _ _ => rfl)) (pe_ix (kx_tup (K := K) rfl) (pv 3) (pv 12) (fun _ _ => rfl)) (nomark _)))) (fun _ _ _ _ _ => (pv 12))))
        (pss_cons (ps_if (pt_not (kpt_truth (K := K) rfl (pv 7) (by intro _; rfl)))
          (pss_one (ps_ret (pe_callTy (kq_tup (K := K) rfl) (by rfl) T.tuple (by decide +kernel) (pa_cons (pe_callB (cq_sortD rfl) (by rfl) T.sorted (by decide +kernel) (pa_cons (pv 6) pa_nil)) pa_nil))))
          pss_nil)
        (pss_cons (ps_set (i := 8) sc.nd rfl (by first | exact Or.inl rfl | exact Or.inr rfl) (pe_ix (kx_list (K := K) rfl) (pv 7) pe_int (fun _ _ => rfl)))
        (pss_cons (ps_asg (pe_c c_b_trace hr (by decide) (by rfl) (pa_cons (pv 6) (pa_cons (pv 8) pa_nil))) (kpg_tup (K := K) (n := 2) rfl rfl (pgs_cons (pg_name (i := 9) sc.nd rfl (by first | exact Or.inl rfl | exact Or.inr rfl)) (pgs_cons (pg_name (i := 10) sc.nd rfl (by first | exact Or.inl rfl | exact Or.inr rfl)) pgs_nil))))
        (pss_cons (ps_set (i := 11) sc.nd rfl (by first | exact Or.inl rfl | exact Or.inr rfl) (pe_callB (cq_min3 rfl) (by rfl) T.min (by decide +kernel) (pa_cons (pe_op op_sub (pe_ix (kx_list (K := K) rfl) (pv 4) (pv 9) (fun _ _ => rfl)) (pe_ix (kx_tup (K := K) rfl) (pv 3) (pv 9) (fun _ _ => rfl))) (pa_cons (pe_op op_sub (pe_ix (kx_tup (K := K) rfl) (pv 3) (pv 8) (fun _ _ => rfl)) (pe_ix (kx_list (K := K) rfl) (pv 4) (pv 8) (fun _ _ => rfl))) (pa_cons (pe_c c_b_carry hr (by decide) (by rfl) (pa_cons (pv 0) (pa_cons (pv 2) (pa_cons (pv 9) (pa_cons (pv 10) pa_nil))))) pa_nil)))))
        (pss_cons (ps_expr (pe_c c_b_move hr (by decide) (by rfl) (pa_cons (pv 0) (pa_cons (pv 2) (pa_cons (pv 9) (pa_cons (pv 10) (pa_cons (pv 11) pa_nil)))))))
        (pss_cons (ps_augS (pv 4) (pv 9) (kget_list (K := K) rfl) (pv 11) ip_sub set_list)
        (pss_one (ps_augS (pv 4) (pv 8) (kget_list (K := K) rfl) (pv 11) ip_add set_list))))))))))))))), ?_⟩
    walk_at "s"
    refine ⟨W, _, p, near, rfl, hw, ok, hp, hsp.1, fun hv0 hvl0 hv1 Hv H1 k1 hvn hvv => ?_⟩
    walk_at "s"
    refine ⟨fun m σ H' => ∃ (ne hv : List Int) (y5 y6 y7 y8 y9 y10 y11 y12 : Option V), σ = [some (.ref a), some lk, some (.ref p), some (.ref g), some (.ref Hv), y5, y6, y7, y8, y9, y10, y11, y12] ∧ m = (exc (purse W.ls ne) (fun v => goal.getD v 0) W.n).toNat ∧ Kp [p] H H' ∧ H' p = some (.lst (zs ne)) ∧ Split W.ls ne ∧ H' Hv = some (.lst (zs hv)) ∧ hv.length = W.n ∧ (∀ v, v < W.n → hv[v]? = some (purse W.ls ne v)),
      ⟨_, near, hv0, _, _, _, _, _, _, _, _, rfl, rfl, .of_ex k1, k1.keep _ _ hp List.not_mem_nil, hsp, hvv, hvl0, hv1⟩, fun m σ H2 hx => ?_⟩
    obtain ⟨ne, hv, y5, y6, y7, y8, y9, y10, y11, y12, rfl, rfl, k2, hp2, hs2, hv2, hvl, hvs⟩ := hx
    have gv : ∀ v, v < W.n → (zs goal)[v]? = some (.int (goal.getD v 0)) := fun v hv => zs_get (by rw [List.getD_eq_getElem?_getD, List.getElem?_eq_getElem (by omega)]; rfl)
    have hn8 := ok.2.1
    walk_at "s"
    refine ⟨fun σ' H' => ∃ m', m' < (exc (purse W.ls ne) (fun v => goal.getD v 0) W.n).toNat ∧ _, fun _ _ h => h, ?_⟩
    walk_at "s"
    refine g_ixT (j := 0) (k2.tup _ _ ha) rfl ?_
    walk_at "s"
    refine ⟨_, rfl, by omega, by omega, fun D hD => ?_⟩
    let ov : Nat → Bool := fun v => decide (goal.getD v 0 < purse W.ls ne v)
    refine lc_range (n := W.n) (fun i H' => Ex H2 H' ∧ H' D = some (.lst (zs (hs (((List.range W.n).take i).filter ov))))) ⟨.new hD, upd_same⟩ (fun i H3 hi hx => ?_) (fun H3 hx => ?_)
    · obtain ⟨k3, hD3⟩ := hx
      walk_at "s"
      refine ⟨rfl, ?_⟩
      walk_at "s"
      have e0 : ((0 : Int) + (i : Int)) = (i : Int) := Int.zero_add _
      rw [e0]
      refine g_ixL (j := i) (k3.keep _ _ hv2 List.not_mem_nil) (zs_get (hvs i hi)) ?_
      walk_at "s"
      refine g_ixT (j := i) (k3.tup _ _ (k2.tup _ _ hg)) (gv i hi) ?_
      walk_at "s"
      refine ite2 (fun e => ?_) (fun e => ?_)
      · walk_at "s"
        refine ⟨_, hD3, small1000 ?_, k3.mutL hD hD3, ?_⟩
        · rw [zs_len, hs_len]
          have := List.length_filter_le ov ((List.range W.n).take i)
          rw [List.length_take] at this
          omega
        · rw [upd_same, filter_take i hi, if_pos (show ov i = true from e)]
          simp [zs, hs]
      · refine ⟨k3, ?_⟩
        rw [filter_take i hi, if_neg (show ¬ ov i = true from e), List.append_nil]
        exact hD3
    · obtain ⟨k3, hD3⟩ := hx
      rw [List.take_of_length_le (by rw [List.length_range]; exact Nat.le_refl _)] at hD3
      have hov : ∀ v, v ∈ (List.range W.n).filter ov ↔ v < W.n ∧ goal.getD v 0 < purse W.ls ne v := fun v => by
        rw [List.mem_filter, List.mem_range]
        exact ⟨fun h => ⟨h.1, of_decide_eq_true h.2⟩, fun h => ⟨h.1, decide_eq_true h.2⟩⟩
      have ond : ((List.range W.n).filter ov).Nodup := List.Pairwise.filter _ List.nodup_range
      generalize (List.range W.n).filter ov = os at *
      have k23 := k2.trans (.of_ex k3)
      have hp3 := k3.keep _ _ hp2 List.not_mem_nil
      have hv3 := k3.keep _ _ hv2 List.not_mem_nil
      walk_at "s"
      refine ⟨_, .inl ⟨_, .of hD3, rfl⟩, ?_⟩
      by_cases eo : os = []
      · subst eo
        refine iteT ?_
        walk_at "s"
        refine q ne H3 k23 hp3 hs2 fun v hvn => ?_
        have e1 := hst.total ok
        have e2 := purse_total ok hs2
        exact (psum_eq (q := purse W.ls ne) (p := fun v => goal.getD v 0) (fun v hv => by
          have : ¬ (v ∈ ([] : List Nat)) := List.not_mem_nil
          rw [hov] at this
          have h2 : ¬ (goal.getD v 0 < purse W.ls ne v) := fun z => this ⟨hv, z⟩
          show purse W.ls ne v ≤ goal.getD v 0
          omega) (e2.trans e1.symm) v hvn).symm
      · have e0 : (!(zs (hs os)).isEmpty) = true := by
          cases os with
          | nil => exact absurd rfl eo
          | cons x r => rfl
        rw [e0]
        refine iteF ?_
        walk_at "s"
        refine ⟨W, _, lk, _, p, ne, [], os, rfl, hw.kp k23, ok, (hlk.kp k23).sub (fun _ h => nomatch h), hp3, hs2.1, ⟨D, rfl, .inl hD3⟩, ond, fun x hx => ((hov x).mp hx).1, fun dd H4 bk k4 _ b4 bo sh => ?_⟩
        walk_at "s"
        obtain ⟨kvs, hk1, hk2, hk3⟩ := b4
        have b4 : BackAt H4 dd bk := ⟨kvs, hk1, hk2, hk3⟩
        refine ⟨dd, .dK kvs, hk1, trivial, fun od => ?_⟩
        walk_at "s"
        have hv4 := k4.keep _ _ hv3 List.not_mem_nil
        have hg4 := k4.tup _ _ (k3.tup _ _ (k2.tup _ _ hg))
        have hvd : Hv ≠ dd := fun z => by rw [z, hk1] at hv4; cases hv4
        have hblt := bo.lt ok (fun x hx => ((hov x).mp hx).1)
        refine ⟨dd, od, rfl, .inl ⟨kvs, upd_same, fun D2 hD2 => ?_⟩⟩
        let un : Nat → Bool := fun v => decide (purse W.ls ne v < goal.getD v 0)
        have hklen : kvs.length = (keysB bk).length := by
          have := congrArg List.length hk2
          rw [List.length_map, List.length_map] at this
          exact this
        have hD2d : D2 ≠ dd := (ne_of_none upd_same hD2).symm
        refine lc_it (walk_keys (kvs := kvs)) (fun i H' => Kp [dd] (upd H4 dd (.frz od (.dK kvs))) H' ∧ H' dd = some (.frz od (.dK kvs)) ∧ H' D2 = some (.lst (zs (hs (((keysB bk).take i).filter un))))) ⟨.new hD2, by rw [upd_ne hD2d.symm, upd_same], upd_same⟩ (fun i H' _ h => h.2.1) (fun i x H5 H6 hi hx hy => ?_) (fun H5 hx => ?_)
        · obtain ⟨k5, hd5, hD5⟩ := hx
          obtain ⟨rfl, kk, v, ek, rfl⟩ := hy
          have e1 : (kvs.map (·.1))[i]? = some kk := by rw [List.getElem?_map, ek]; rfl
          rw [hk2, List.getElem?_map] at e1
          cases eb : (keysB bk)[i]? with
          | none => rw [eb] at e1; cases e1
          | some x =>
          rw [eb] at e1
          cases e1
          have hxn := hblt x (List.mem_of_getElem? eb)
          walk_at "s"
          refine ⟨rfl, ?_⟩
          walk_at "s"
          have hv6 : H6 Hv = some (.lst (zs hv)) := k5.keep _ _ (by rw [upd_ne hvd]; exact hv4) (by simpa using hvd)
          have hgd : g ≠ dd := fun z => by rw [z, hk1] at hg4; cases hg4
          have hg6 : H6 g = some (.tup (zs goal)) := k5.tup _ _ (by rw [upd_ne hgd]; exact hg4)
          refine g_ixL (j := x) hv6 (zs_get (hvs x hxn)) ?_
          walk_at "s"
          refine g_ixT (j := x) hg6 (gv x hxn) ?_
          walk_at "s"
          refine ite2 (fun e => ?_) (fun e => ?_)
          · walk_at "s"
            refine ⟨_, hD5, small1000 ?_, k5.mutL hD2 hD5, by rw [upd_ne hD2d.symm]; exact hd5, ?_⟩
            · rw [zs_len, hs_len]
              have := List.length_filter_le un ((keysB bk).take i)
              rw [List.length_take] at this
              have := bo.len ok (fun x hx => ((hov x).mp hx).1)
              rw [hklen, List.length_map] at hi
              omega
            · rw [upd_same, filter_take' eb, if_pos (show un x = true from e)]
              simp [zs, hs, kV]
          · refine ⟨k5, hd5, ?_⟩
            rw [filter_take' eb, if_neg (show ¬ un x = true from e), List.append_nil]
            exact hD5
        · obtain ⟨k5, hd5, hD5⟩ := hx
          rw [hklen, List.take_length] at hD5
          walk_at "s"
          refine ⟨hd5, ?_⟩
          have k45 : Ex H4 (upd H5 dd (.dK kvs)) := Kp.unlock hk1 (fun _ z => nomatch z) k5
          have hD6 : (upd H5 dd (.dK kvs)) D2 = some (.lst (zs (hs ((keysB bk).filter un)))) := by rw [upd_ne hD2d]; exact hD5
          generalize upd H5 dd (.dK kvs) = H6 at *
          walk_at "s"
          refine ⟨_, .inl ⟨_, .of hD6, rfl⟩, ?_⟩
          have hun : ∀ v, v ∈ (keysB bk).filter un ↔ v ∈ keysB bk ∧ purse W.ls ne v < goal.getD v 0 := fun v => by
            rw [List.mem_filter]
            exact ⟨fun h => ⟨h.1, of_decide_eq_true h.2⟩, fun h => ⟨h.1, decide_eq_true h.2⟩⟩
          cases eu : (keysB bk).filter un with
          | nil =>
            exfalso
            refine eo (no_under ok hs2 hst (fun v hv => (hov v).mp hv) fun v hv hr => ?_)
            have h1 : ¬ v ∈ (keysB bk).filter un := by rw [eu]; exact List.not_mem_nil
            rw [hun] at h1
            have h2 := (rch_keys bo sh v).mpr hr
            have h3 : ¬ (purse W.ls ne v < goal.getD v 0) := fun z => h1 ⟨h2, z⟩
            omega
          | cons t rest =>
            rw [eu] at hD6
            have ht : t ∈ keysB bk ∧ purse W.ls ne t < goal.getD t 0 := (hun t).mp (by rw [eu]; exact List.mem_cons_self)
            have htn := hblt t ht.1
            refine iteF ?_
            walk_at "s"
            refine g_ixL (j := 0) hD6 rfl ?_
            walk_at "s"
            refine ⟨W, dd, bk, ne, [], os, t, rfl, ok, b4.kp k45 List.not_mem_nil, bo, fun x hx => ((hov x).mp hx).1, ht.1, fun h way q1 q2 H7 k7 e1 e2 hos hway nd hwl => ?_⟩
            have hh := (hov h).mp hos
            refine g_gtup e1 rfl ?_
            walk_at "s"
            have k47 := k45.trans k7
            have k27 := k23.trans (.of_ex (k4.trans k47))
            have hv7 := k47.keep _ _ hv4 List.not_mem_nil
            have hg7 := k47.tup _ _ hg4
            have hp7 := k47.keep _ _ (k4.keep _ _ hp3 List.not_mem_nil) List.not_mem_nil
            refine g_ixL (j := h) hv7 (zs_get (hvs h hh.1)) ?_
            walk_at "s"
            refine g_ixT (j := h) hg7 (gv h hh.1) ?_
            walk_at "s"
            refine g_ixT (j := t) hg7 (gv t htn) ?_
            walk_at "s"
            refine g_ixL (j := t) hv7 (zs_get (hvs t htn)) ?_
            walk_at "s"
            have hwne : way ≠ [] := fun z => by
              subst z
              cases hway
              omega
            refine ⟨W, _, p, ne, h, t, q2, way, rfl, hw.kp k27, ok, hp7, hs2.1, e2, hway, hwne, hwl, fun cc H8 k8 hcc hway8 => ?_⟩
            walk_at "s"
            have hb : 1 ≤ min (min (purse W.ls ne h - goal.getD h 0) (goal.getD t 0 - purse W.ls ne t)) cc ∧ min (min (purse W.ls ne h - goal.getD h 0) (goal.getD t 0 - purse W.ls ne t)) cc ≤ cc ∧ min (min (purse W.ls ne h - goal.getD h 0) (goal.getD t 0 - purse W.ls ne t)) cc ≤ purse W.ls ne h - goal.getD h 0 ∧ min (min (purse W.ls ne h - goal.getD h 0) (goal.getD t 0 - purse W.ls ne t)) cc ≤ goal.getD t 0 - purse W.ls ne t := by omega
            generalize min (min (purse W.ls ne h - goal.getD h 0) (goal.getD t 0 - purse W.ls ne t)) cc = coins at *
            have k28 := k27.trans (.of_ex k8)
            have hp8 := k8.keep _ _ hp7 List.not_mem_nil
            have hpv : Hv ≠ p := fun z => by rw [z, hp] at hvn; cases hvn
            have hv8 := k8.keep _ _ hv7 List.not_mem_nil
            refine ⟨W, _, p, ne, h, t, q2, way, coins, rfl, hw.kp k28, ok, hp8, hs2.1, k8.tup _ _ e2, hway8.le (by omega), fun H9 k9 hp9 => ?_⟩
            obtain ⟨m1, m2⟩ := mv_ok (c := coins) (by omega) (webok_ne ok) way ne h t hs2 (hway8.le (by omega)) nd
            have hv9 := k9.keep _ _ hv8 (by simpa using hpv)
            have k29 := k28.trans k9
            walk_at "s"
            refine g_getL hv9 (zs_get (hvs h hh.1)) ?_
            walk_at "s"
            refine g_setL hv9 (by rw [zs_len]; omega) ?_
            walk_at "s"
            rw [← List.map_set]
            have hnt : ¬ h = t := fun z => by subst z; omega
            refine g_getL upd_same (v := .int (purse W.ls ne t)) (zs_get (by rw [List.getElem?_set, if_neg hnt]; exact hvs t htn)) ?_
            walk_at "s"
            refine g_setL upd_same (by rw [zs_len, List.length_set]; omega) ?_
            walk_at "s"
            rw [← List.map_set]
            have hlt := exc_shift (p := purse W.ls ne) (g := fun v => goal.getD v 0) hh.1 htn (c := coins) (by omega) hb.2.2.1 hb.2.2.2 (purse W.ls (mv W.ls ne h way coins)) (fun v _ => m2 v) hb.1
            have hnn := exc_nonneg (p := purse W.ls (mv W.ls ne h way coins)) (g := fun v => goal.getD v 0) (n := W.n)
            refine ⟨_, ?_, mv W.ls ne h way coins, _, _, _, _, _, _, _, _, _, rfl, rfl, ?_, ?_, m1, upd_same, by rw [List.length_set, List.length_set]; exact hvl, fun v hvn => ?_⟩
            · omega
            · exact (k29.mutL hvn hv9).mutL hvn upd_same
            · rw [upd_ne hpv.symm, upd_ne hpv.symm]
              exact hp9
            · rw [m2 v]
              by_cases z1 : v = t
              · subst z1
                rw [List.getElem?_set, if_pos rfl, if_pos (by rw [List.length_set]; omega), if_pos rfl, if_neg (fun z => hnt z.symm)]
                congr 1
                omega
              · rw [List.getElem?_set, if_neg (fun z => z1 z.symm), if_neg z1]
                by_cases z2 : v = h
                · subst z2
                  rw [List.getElem?_set, if_pos rfl, if_pos (by omega), if_pos rfl]
                  congr 1
                  omega
                · rw [List.getElem?_set, if_neg (fun z => z2 z.symm), if_neg z2, hvs v hvn]
                  congr 1
                  omega
end
end K8
set_option Elab.async false
set_option linter.all false
set_option maxRecDepth 100000
set_option maxHeartbeats 4000000
namespace K8
open PySem PySem.Spec PyProof.Rows L2
local macro_rules | `(tactic| walk_at "s") => `(tactic| repeat (first
  | with_reducible refine g_seq ?_ | with_reducible refine g_ret ?_ | with_reducible refine g_asg ?_ | with_reducible refine g_name ?_ | with_reducible refine g_c ?_ | with_reducible refine g_op ?_ | with_reducible refine g_cons ?_ | with_reducible refine g_nil ?_
  | (with_reducible show tVar _ _ _ _; refine g_var rfl ?_) | with_reducible refine g_cb ?_ | with_reducible refine g_call ?_ | with_reducible refine g_if ?_ | with_reducible refine g_test ?_ | with_reducible refine g_tB ?_ | with_reducible refine g_i0 ?_ | with_reducible refine g_bl ?_
  | with_reducible refine g_add ?_ | with_reducible refine g_sub ?_ | with_reducible refine g_eqI ?_ | with_reducible refine g_neI ?_ | with_reducible refine g_drop ?_ | with_reducible refine g_next ?_ | with_reducible refine g_break ?_ | with_reducible refine g_un ?_ | with_reducible refine g_u ?_
  | with_reducible refine g_ifE ?_ | with_reducible refine g_and ?_ | with_reducible refine g_or ?_ | with_reducible refine g_not ?_ | with_reducible refine g_andV ?_ | with_reducible refine g_orV ?_ | with_reducible refine g_notV ?_ | with_reducible refine g_isN ?_ | with_reducible refine g_notN ?_
  | with_reducible refine g_gnil ?_ | with_reducible refine g_gcons ?_ | with_reducible refine g_bm ?_ | with_reducible refine g_abs ?_ | with_reducible refine g_max ?_ | with_reducible refine g_min ?_ | with_reducible refine g_int ?_ | with_reducible refine g_lc ?_ | with_reducible refine g_for ?_ | with_reducible refine g_yes ?_ | with_reducible refine g_rng1 ?_ | with_reducible refine g_rng2 ?_ | with_reducible refine g_il ?_ | with_reducible refine g_it ?_ | with_reducible refine g_en ?_ | with_reducible refine g_zp ?_ | with_reducible refine g_mkT ?_ | with_reducible refine g_mkL ?_ | with_reducible refine g_augS ?_ | (with_reducible show tAug _ _ _ _ _ _; refine g_aug rfl ?_) | with_reducible refine g_ipI ?_ | with_reducible refine g_gsub ?_ | with_reducible refine g_dget ?_ | with_reducible refine g_din ?_ | with_reducible refine g_dnotin ?_ | with_reducible refine g_dput ?_ | with_reducible refine g_dc ?_ | with_reducible refine g_sl ?_ | with_reducible refine g_nopart ?_ | with_reducible refine g_part ?_ | with_reducible refine g_exI ?_ | with_reducible refine g_revL ?_ | (with_reducible show iSq _ _ _ _; refine g_sq rfl ?_) | with_reducible refine g_while ?_ | with_reducible refine g_min3 ?_ | with_reducible refine g_trq ?_ | with_reducible refine g_lock ?_ | with_reducible refine g_mko ?_ | with_reducible refine g_keys ?_ | with_reducible refine iteT ?_ | with_reducible refine iteF ?_))
theorem pints_inj : ∀ {xs ys : List Int}, xs.map PyData.int = ys.map PyData.int → xs = ys
  | [], [], _ => rfl
  | x :: xs, y :: ys, h => by
    simp only [List.map_cons, List.cons.injEq, PyData.int.injEq] at h
    rw [h.1, pints_inj h.2]
  | [], _ :: _, h => by simp at h
  | _ :: _, [], h => by simp at h
section
variable {P : Program} {w : World} {K : PySem.W.Frag} {mg : Str → Option Value} {base : Heap} {f : Addr} {fd : FuncData} {k : Nat}
def GoodP (W : Wb) (d : PyData) (ps : List Int) : Prop := d = .tuple (ps.map PyData.int) ∧ ps.length = W.n ∧ Stand W (fun v => ps.getD v 0)
def BadP (W : Wb) (d : PyData) : Prop := isP W.n d = false ∨ ∃ ps : List Int, d = .tuple (ps.map PyData.int) ∧ ps.sum ≠ total W
theorem sc_b_held : FnScope ["web", "links", "purses", "near", "row"] ["web", "links", "purses"] (defScope s_b_held) := ⟨rfl, rfl, rfl, by decide +kernel, rfl, by decide +kernel, by decide +kernel⟩
def sp_b_held (K : PySem.W.Frag) : Sp := fun vs H Q E => ∃ (W : Wb) (u lk v : V) (S : List Addr) (d : PyData), vs = [u, lk, v] ∧ WebAt H u W ∧ WebOk W ∧ LksAt [] H lk W [] ∧ Da S H v d ∧
  ((∃ ps, GoodP W d ps ∧ ∀ (near : List Int) (q : Addr) (H' : Hp), Ex H H' → H q = none → H' q = some (.lst (zs near)) → Split W.ls near → (∀ v, v < W.n → ps.getD v 0 = purse W.ls near v) → Q (.ref q) H') ∨ (BadP W d ∧ Out K [] H E "purses"))
theorem good_isP {W : Wb} {d : PyData} {ps : List Int} (g : GoodP W d ps) : isP W.n d = true := by
  obtain ⟨rfl, h1, near, hs, hp⟩ := g
  have : (ps.map PyData.int).all isN = true := by
    rw [List.all_eq_true]
    intro x hx
    obtain ⟨y, hy, rfl⟩ := List.mem_map.mp hx
    obtain ⟨i, hi, rfl⟩ := List.mem_iff_getElem.mp hy
    have h2 := hp i (by omega)
    have h3 := purse_nonneg i hs
    have h4 : ps.getD i 0 = ps[i] := by rw [List.getD_eq_getElem?_getD, List.getElem?_eq_getElem hi]; rfl
    show decide (0 ≤ ps[i]) = true
    rw [decide_eq_true_iff]
    show 0 ≤ ps[i]
    rw [← h4]
    have h2 : ps.getD i 0 = purse W.ls near i := h2
    omega
  simp [isP, h1, this]
theorem good_sum {W : Wb} (ok : WebOk W) {d : PyData} {ps : List Int} (g : GoodP W d ps) : ps.sum = total W := by
  obtain ⟨rfl, h1, hs⟩ := g
  have := hs.total ok
  rw [psum_list ps W.n (by omega), ← h1, List.take_length] at this
  exact this
theorem ok_b_held (F : Fun K "b_held" "b_held" s_b_held f fd) (T : Txt mg) (N : NI P w K mg base) (c_is_purses : Cal P w K mg base 3 "is_purses" sp_is_purses) (c_b_first : Cal P w K mg base 1 "b_first" sp_b_first) (c_b_bring : Cal P w K mg base 2 "b_bring" sp_b_bring) :
    FnOk P w K mg base (L2.CX P w) 4 f fd ["web", "links", "purses"] (sp_b_held K) := by
  have sc := sc_b_held
  have NUx := N.nu
  have gI := N.gI
  obtain ⟨fdI, cI, bI⟩ := N.ini
  refine F.okX sc (fun vs H Q E h => ?_) (fun cdv A outer s H vs Q E hr h => ?_)
  · obtain ⟨W, u, lk, v, S, d, rfl, _⟩ := h
    rfl
  · obtain ⟨W, u, lk, v, S, d, rfl, hw, ok, hlk, hd, hor⟩ := h
    have hw0 := hw
    obtain ⟨a, c, ls, rfl, ha, hc, hl⟩ := hw0
    refine ⟨_, (pss_cons (ps_if (PW.pt (pw_or (pt_not (pt_val (pe_c c_is_purses hr (by decide) (by rfl) (pa_cons (pe_ix (kx_tup (K := K) rfl) (pv 0) pe_int (fun _ _ => rfl)) (pa_cons (pv 2) pa_nil))))) (pw_or1 (pt_cmpR op_ne (pe_callB (cr_sumT rfl) (by rfl) T.sum (by decide +kernel) (pa_cons (pv 2) pa_nil)) (pe_callB (kr_sum (K := K) rfl rfl) (by rfl) T.sum (by decide +kernel) (pa_cons (pe_lc (own := [("row", 4)]) rfl sc.nd (kpi_tup (K := K) rfl (pe_ix (kx_tup (K := K) rfl) (pv 0) pe_int (fun _ _ => rfl))) (blkOk_by (N := ["web", "links", "purses", "near", "row"]) (sc := defScope s_b_held) (by decide +kernel)) (fun _ _ _ _ _ => (pg_name (i := 4) sc.nd rfl (by first | exact Or.inl rfl | exact Or.inr rfl))) (fun _ _ _ _ _ => pts_nil) (fun _ _ _ _ _ => (pe_ix (kx_tup (K := K) rfl) (pv 4) pe_int (fun _ _ => rfl)))) pa_nil)) (nomark _)))))
        (pss_one (ps_raise rfl (takes_of rfl rfl rfl rfl) (pmk_oex NUx.oex NUx.iC NUx.tI cI (hr.mono (by decide)) bI .nil pass0 (by rfl) gI (pa_cons pe_str (pa_cons (pe_un un_neg pe_int) pa_nil)))))
        pss_nil)
      (pss_cons (ps_set (i := 3) sc.nd rfl (by first | exact Or.inl rfl | exact Or.inr rfl) (pe_c c_b_first hr (by decide) (by rfl) (pa_cons (pv 0) (pa_cons (pv 2) pa_nil))))
      (pss_cons (ps_if (pt_cmp (pc_notN (pe_c c_b_bring hr (by decide) (by rfl) (pa_cons (pv 0) (pa_cons (pv 1) (pa_cons (pv 3) (pa_cons (pv 2) pa_nil)))))))
        (pss_one (ps_raise rfl (takes_of rfl rfl rfl rfl) (pmk_oex NUx.oex NUx.iC NUx.tI cI (hr.mono (by decide)) bI .nil pass0 (by rfl) gI (pa_cons pe_str (pa_cons (pe_un un_neg pe_int) pa_nil)))))
        pss_nil)
      (pss_one (ps_ret (pv 3)))))), ?_⟩
    walk_at "s"
    refine g_ixT (j := 0) ha rfl ?_
    walk_at "s"
    refine ⟨S, W.n, v, d, rfl, hd, ?_⟩
    walk_at "s"
    cases hP : isP W.n d with
    | false =>
      refine iteT ?_
      walk_at "s"
      rcases hor with ⟨ps, g, _⟩ | ⟨_, o⟩
      · rw [good_isP g] at hP
        cases hP
      · exact ⟨by show 2 ≤ 1000; decide, fun a ha => raise_nu o a ha⟩
    | true =>
      refine iteF ?_
      walk_at "s"
      have hdd : ∃ (ps : List Int) (pa : Addr), d = .tuple (ps.map PyData.int) ∧ v = .ref pa ∧ H pa = some (.tup (zs ps)) := by
        cases hd with
        | @tup pa xs ds hpa hx =>
          simp only [isP, Bool.and_eq_true, decide_eq_true_eq] at hP
          have : ∃ ps : List Int, ds = ps.map PyData.int := by
            clear hx hor
            have h2 := hP.2
            clear hP
            induction ds with
            | nil => exact ⟨[], rfl⟩
            | cons x r ih =>
              rw [List.all_cons, Bool.and_eq_true] at h2
              obtain ⟨ps, e⟩ := ih h2.2
              cases x with
              | int i => exact ⟨i :: ps, by rw [e]; rfl⟩
              | _ => exact absurd h2.1 (by intro z; cases z)
          obtain ⟨ps, rfl⟩ := this
          rw [hx.ints_inv] at hpa
          exact ⟨ps, pa, rfl, rfl, hpa⟩
        | _ => cases hP
      obtain ⟨ps, pa, rfl, rfl, hpa⟩ := hdd
      refine ⟨pa, ps, rfl, hpa, ?_⟩
      walk_at "s"
      refine g_ixT (j := 1) ha rfl ?_
      walk_at "s"
      refine ⟨c, rfl, ⟨_, .of hc⟩, fun D hD => ?_⟩
      refine lc_it (walk_tup (xs := ls.map V.ref)) (fun i H' => Ex H H' ∧ H' D = some (.lst (zs ((W.ls.map Ln.r).take i)))) ⟨.new hD, upd_same⟩ (fun i H' _ h => .of (h.1.tup _ _ hc)) (fun i x H1 H2 hi hx hy => ?_) (fun H1 hx => ?_)
      · obtain ⟨k1, hD1⟩ := hx
        obtain ⟨rfl, ex⟩ := hy
        rw [List.length_map, hl.1] at hi
        have el : W.ls[i]? = some W.ls[i] := List.getElem?_eq_getElem hi
        obtain ⟨t, rfl, ht⟩ := hl.ref ex el
        walk_at "s"
        refine ⟨rfl, ?_⟩
        walk_at "s"
        refine g_ixT (j := 2) (k1.tup _ _ ht) rfl ?_
        have h60 := ok.2.2.1
        refine ⟨_, hD1, small1000 (by rw [zs_len, List.length_take]; omega), k1.mutL hD hD1, ?_⟩
        rw [upd_same, List.take_add_one, List.getElem?_map, el]
        simp [zs]
      · obtain ⟨k1, hD1⟩ := hx
        rw [List.length_map, hl.1, List.take_of_length_le (by rw [List.length_map]; exact Nat.le_refl _)] at hD1
        walk_at "s"
        refine ⟨D, _, rfl, .of hD1, ?_⟩
        walk_at "s"
        have htot : (W.ls.map Ln.r).sum = total W := (inside_all W.ls).symm
        rw [htot]
        rcases hor with ⟨ps', g, q⟩ | ⟨b, o⟩
        · have e1 : ps' = ps := by
            have := g.1
            simp only [PyData.tuple.injEq] at this
            exact pints_inj this.symm
          subst e1
          have e2 := good_sum ok g
          rw [e2, decide_eq_true rfl]
          refine iteF ?_
          walk_at "s"
          refine ⟨W, _, pa, ps', rfl, hw.kp k1, ok, k1.tup _ _ hpa, g.2.1, fun near hnear p H2 k2 hp1 hp2 => ?_⟩
          walk_at "s"
          have k12 := k1.trans k2
          refine ⟨W, _, lk, p, pa, near, ps', rfl, hw.kp k12, ok, (hlk.kp k1).add k2 hp1, hp2, hnear, k12.tup _ _ hpa, g.2.1, g.2.2, fun ne H3 k3 hp3 hs3 hv3 => ?_⟩
          walk_at "s"
          rw [decide_eq_true rfl]
          refine iteF ?_
          walk_at "s"
          have hpH := k1.free hp1
          exact q ne p H3 (k1.trans (((k2.mono (T := [p]) fun _ h => nomatch h).trans k3).drop hp1)) hpH hp3 hs3 hv3
        · have e2 : ps.sum ≠ total W := by
            rcases b with b | ⟨ps', e, b⟩
            · rw [b] at hP
              cases hP
            · have := e
              simp only [PyData.tuple.injEq] at this
              rw [pints_inj this]
              exact b
          rw [decide_eq_false e2]
          refine iteT ?_
          walk_at "s"
          exact ⟨by show 2 ≤ 1000; decide, fun a ha => raise_nu (o.kp k1) a ha⟩
/-- the houses that xs are -/
def IsSet (n : Nat) (xs : List Nat) (R : Nat → Prop) : Prop := xs.Pairwise (· < ·) ∧ ∀ v, v ∈ xs ↔ v < n ∧ R v
/-- a new tuple of houses -/
def NewT (H : Hp) (Q : VK) (xs : List Nat) : Prop := ∀ (q : Addr) (H' : Hp), Ex H H' → H' q = some (.tup (zs (hs xs))) → Q (.ref q) H'
theorem NewT.kp {H H1 : Hp} {Q : VK} {xs : List Nat} (h : NewT H Q xs) (k : Ex H H1) : NewT H1 Q xs := fun q H' k' e => h q H' (k.trans k') e
theorem isH_nat {n : Nat} {d : PyData} (h : isH n d = true) : ∃ x : Nat, d = .int x ∧ x < n := by
  cases d with
  | int i =>
    simp only [isH, Bool.and_eq_true, decide_eq_true_eq] at h
    exact ⟨i.toNat, by rw [Int.toNat_of_nonneg h.1], by omega⟩
  | _ => cases h
theorem sc_reach_of : FnScope ["web", "purses", "house", "links", "near"] ["web", "purses", "house"] (defScope s_reach_of) := ⟨rfl, rfl, rfl, by decide +kernel, rfl, by decide +kernel, by decide +kernel⟩
def sp_reach_of (K : PySem.W.Frag) (pay : Bool) : Sp := fun vs H Q E => ∃ (W : Wb) (u v1 v2 : V) (S1 S2 : List Addr) (d1 d2 : PyData), vs = [u, v1, v2] ∧ WebAt H u W ∧ WebOk W ∧ Da S1 H v1 d1 ∧ Da S2 H v2 d2 ∧
  ((∃ ps, GoodP W d1 ps ∧ (∀ h : Nat, d2 = .int h → h < W.n → ∀ xs, IsSet W.n xs (fun v => if pay = true then Reaches W (fun v => ps.getD v 0) v h else Reaches W (fun v => ps.getD v 0) h v) → NewT H Q xs) ∧ (isH W.n d2 = false → Out K [] H E "house")) ∨ (BadP W d1 ∧ Out K [] H E "purses"))
theorem ok_reach_of (F : Fun K "reach_of" "reach_of" s_reach_of f fd) (T : Txt mg) (c_b_links : Cal P w K mg base 1 "b_links" sp_b_links) (c_b_held : CalX P w K mg base 4 "b_held" ["web", "links", "purses"] (sp_b_held K)) (c_b_need_house : CalX P w K mg base 4 "b_need_house" ["web", "house", "word"] (sp_b_need_house K))
    (c_b_reached : Cal P w K mg base 2 "b_reached" sp_b_reached) : FnOk P w K mg base (L2.CX P w) 5 f fd ["web", "purses", "house"] (sp_reach_of K false) := by
  have sc := sc_reach_of
  refine F.okX sc (fun vs H Q E h => ?_) (fun cdv A outer s H vs Q E hr h => ?_)
  · obtain ⟨W, u, v1, v2, S1, S2, d1, d2, rfl, _⟩ := h
    rfl
  · obtain ⟨W, u, v1, v2, S1, S2, d1, d2, rfl, hw, ok, hd1, hd2, hor⟩ := h
    refine ⟨_, (pss_cons (ps_set (i := 3) sc.nd rfl (by first | exact Or.inl rfl | exact Or.inr rfl) (pe_c c_b_links hr (by decide) (by rfl) (pa_cons (pv 0) pa_nil)))
      (pss_cons (ps_set (i := 4) sc.nd rfl (by first | exact Or.inl rfl | exact Or.inr rfl) (pe_cx c_b_held hr (by decide) (by rfl) (passes_call (takes_of rfl rfl rfl rfl) (fun _ _ _ _ h => h)) (pa_cons (pv 0) (pa_cons (pv 3) (pa_cons (pv 1) pa_nil)))))
      (pss_cons (ps_expr (pe_cx c_b_need_house hr (by decide) (by rfl) (passes_call (takes_of rfl rfl rfl rfl) (fun _ _ _ _ h => h)) (pa_cons (pv 0) (pa_cons (pv 2) (pa_cons pe_str pa_nil)))))
      (pss_one (ps_ret (pe_c c_b_reached hr (by decide) (by rfl) (pa_cons (pv 0) (pa_cons (pv 3) (pa_cons (pv 4) (pa_cons (pe_tup (pa_cons (pv 2) pa_nil)) pa_nil)))))))))), ?_⟩
    walk_at "s"
    refine ⟨W, u, rfl, hw, ok, fun H1 lk k1 hlk => ?_⟩
    walk_at "s"
    have hlk1 := hlk [] fun _ h => nomatch h
    refine ⟨W, u, lk, v1, S1, d1, rfl, hw.kp k1, ok, hlk1, hd1.kp (.of_ex k1), ?_⟩
    rcases hor with ⟨ps, g, qq, qo⟩ | ⟨b, o⟩
    · refine .inl ⟨ps, g, fun near q H2 k2 hq1 hq2 hs hpv => ?_⟩
      walk_at "s"
      have k12 := k1.trans k2
      refine ⟨S2, W, u, v2, d2, _, rfl, hw.kp k12, hd2.kp (.of_ex k12), fun hh => ?_, fun hh => (qo hh).kp k12⟩
      obtain ⟨h, rfl, hhn⟩ := isH_nat hh
      cases hd2
      walk_at "s"
      refine ⟨sz, fun t ht => ?_⟩
      walk_at "s"
      have k3 : Ex H2 (upd H2 t (.tup [.int h])) := .new ht
      refine ⟨W, u, lk, _, q, near, [], [h], rfl, (hw.kp k12).kp k3, ok, (hlk1.kp k2).kp k3, k3.keep _ _ hq2 List.not_mem_nil, hs.1, ⟨t, rfl, .inr upd_same⟩, by simp, by simpa using hhn, fun xs q2 H4 k4 e4 pw hm hlt => ?_⟩
      refine qq h rfl hhn xs ⟨pw, fun v => ?_⟩ q2 H4 ((k12.trans k3).trans k4) e4
      rw [hm v]
      exact ⟨fun z => ⟨hlt v ((hm v).mpr z), (rch_reaches ok hs hpv h v).mp z⟩, fun z => (rch_reaches ok hs hpv h v).mpr z.2⟩
    · exact .inr ⟨b, o.kp k1⟩
theorem sc_payers_of : FnScope ["web", "purses", "house", "links", "near"] ["web", "purses", "house"] (defScope s_payers_of) := ⟨rfl, rfl, rfl, by decide +kernel, rfl, by decide +kernel, by decide +kernel⟩
theorem ok_payers_of (F : Fun K "payers_of" "payers_of" s_payers_of f fd) (T : Txt mg) (c_b_links : Cal P w K mg base 1 "b_links" sp_b_links) (c_b_held : CalX P w K mg base 4 "b_held" ["web", "links", "purses"] (sp_b_held K)) (c_b_need_house : CalX P w K mg base 4 "b_need_house" ["web", "house", "word"] (sp_b_need_house K))
    (c_b_reached : Cal P w K mg base 2 "b_reached" sp_b_reached) (c_b_turned : Cal P w K mg base 1 "b_turned" sp_b_turned) : FnOk P w K mg base (L2.CX P w) 5 f fd ["web", "purses", "house"] (sp_reach_of K true) := by
  have sc := sc_payers_of
  refine F.okX sc (fun vs H Q E h => ?_) (fun cdv A outer s H vs Q E hr h => ?_)
  · obtain ⟨W, u, v1, v2, S1, S2, d1, d2, rfl, _⟩ := h
    rfl
  · obtain ⟨W, u, v1, v2, S1, S2, d1, d2, rfl, hw, ok, hd1, hd2, hor⟩ := h
    refine ⟨_, (pss_cons (ps_set (i := 3) sc.nd rfl (by first | exact Or.inl rfl | exact Or.inr rfl) (pe_c c_b_links hr (by decide) (by rfl) (pa_cons (pv 0) pa_nil)))
      (pss_cons (ps_set (i := 4) sc.nd rfl (by first | exact Or.inl rfl | exact Or.inr rfl) (pe_cx c_b_held hr (by decide) (by rfl) (passes_call (takes_of rfl rfl rfl rfl) (fun _ _ _ _ h => h)) (pa_cons (pv 0) (pa_cons (pv 3) (pa_cons (pv 1) pa_nil)))))
      (pss_cons (ps_expr (pe_cx c_b_need_house hr (by decide) (by rfl) (passes_call (takes_of rfl rfl rfl rfl) (fun _ _ _ _ h => h)) (pa_cons (pv 0) (pa_cons (pv 2) (pa_cons pe_str pa_nil)))))
      (pss_one (ps_ret (pe_c c_b_reached hr (by decide) (by rfl) (pa_cons (pv 0) (pa_cons (pv 3) (pa_cons (pe_c c_b_turned hr (by decide) (by rfl) (pa_cons (pv 0) (pa_cons (pv 4) pa_nil))) (pa_cons (pe_tup (pa_cons (pv 2) pa_nil)) pa_nil)))))))))), ?_⟩
    walk_at "s"
    refine ⟨W, u, rfl, hw, ok, fun H1 lk k1 hlk => ?_⟩
    walk_at "s"
    have hlk1 := hlk [] fun _ h => nomatch h
    refine ⟨W, u, lk, v1, S1, d1, rfl, hw.kp k1, ok, hlk1, hd1.kp (.of_ex k1), ?_⟩
    rcases hor with ⟨ps, g, qq, qo⟩ | ⟨b, o⟩
    · refine .inl ⟨ps, g, fun near q H2 k2 hq1 hq2 hs hpv => ?_⟩
      walk_at "s"
      have k12 := k1.trans k2
      refine ⟨S2, W, u, v2, d2, _, rfl, hw.kp k12, hd2.kp (.of_ex k12), fun hh => ?_, fun hh => (qo hh).kp k12⟩
      obtain ⟨h, rfl, hhn⟩ := isH_nat hh
      cases hd2
      walk_at "s"
      refine ⟨W, u, q, near, rfl, hw.kp k12, ok, hq2, hs.1, fun q3 H3 k3 hq3 hq4 => ?_⟩
      walk_at "s"
      refine ⟨sz, fun t ht => ?_⟩
      walk_at "s"
      have k13 := k12.trans k3
      have k4 : Ex H3 (upd H3 t (.tup [.int h])) := .new ht
      refine ⟨W, u, lk, _, q3, turn W.ls near, [], [h], rfl, (hw.kp k13).kp k4, ok, ((hlk1.kp k2).kp k3).kp k4, k4.keep _ _ hq4 List.not_mem_nil, (turn_split hs).1, ⟨t, rfl, .inr upd_same⟩, by simp, by simpa using hhn, fun xs q2 H4 k4 e4 pw hm hlt => ?_⟩
      refine qq h rfl hhn xs ⟨pw, fun v => ?_⟩ q2 H4 ((k13.trans (.new ht)).trans k4) e4
      rw [hm v]
      exact ⟨fun z => ⟨hlt v ((hm v).mpr z), (rch_turn ok hs hpv h v).mp z⟩, fun z => (rch_turn ok hs hpv h v).mpr z.2⟩
    · exact .inr ⟨b, o.kp k1⟩
end
end K8
set_option Elab.async false
set_option linter.all false
set_option maxRecDepth 100000
set_option maxHeartbeats 4000000
namespace K8
open PySem PySem.Spec PyProof.Rows L2
local macro_rules | `(tactic| walk_at "s") => `(tactic| repeat (first
  | with_reducible refine g_seq ?_ | with_reducible refine g_ret ?_ | with_reducible refine g_asg ?_ | with_reducible refine g_name ?_ | with_reducible refine g_c ?_ | with_reducible refine g_op ?_ | with_reducible refine g_cons ?_ | with_reducible refine g_nil ?_
  | (with_reducible show tVar _ _ _ _; refine g_var rfl ?_) | with_reducible refine g_cb ?_ | with_reducible refine g_call ?_ | with_reducible refine g_if ?_ | with_reducible refine g_test ?_ | with_reducible refine g_tB ?_ | with_reducible refine g_i0 ?_ | with_reducible refine g_bl ?_
  | with_reducible refine g_add ?_ | with_reducible refine g_sub ?_ | with_reducible refine g_eqI ?_ | with_reducible refine g_neI ?_ | with_reducible refine g_drop ?_ | with_reducible refine g_next ?_ | with_reducible refine g_break ?_ | with_reducible refine g_un ?_ | with_reducible refine g_u ?_
  | with_reducible refine g_ifE ?_ | with_reducible refine g_and ?_ | with_reducible refine g_or ?_ | with_reducible refine g_not ?_ | with_reducible refine g_andV ?_ | with_reducible refine g_orV ?_ | with_reducible refine g_notV ?_ | with_reducible refine g_isN ?_ | with_reducible refine g_notN ?_
  | with_reducible refine g_gnil ?_ | with_reducible refine g_gcons ?_ | with_reducible refine g_bm ?_ | with_reducible refine g_abs ?_ | with_reducible refine g_max ?_ | with_reducible refine g_min ?_ | with_reducible refine g_int ?_ | with_reducible refine g_lc ?_ | with_reducible refine g_for ?_ | with_reducible refine g_yes ?_ | with_reducible refine g_rng1 ?_ | with_reducible refine g_rng2 ?_ | with_reducible refine g_il ?_ | with_reducible refine g_it ?_ | with_reducible refine g_en ?_ | with_reducible refine g_zp ?_ | with_reducible refine g_mkT ?_ | with_reducible refine g_mkL ?_ | with_reducible refine g_augS ?_ | (with_reducible show tAug _ _ _ _ _ _; refine g_aug rfl ?_) | with_reducible refine g_ipI ?_ | with_reducible refine g_gsub ?_ | with_reducible refine g_dget ?_ | with_reducible refine g_din ?_ | with_reducible refine g_dnotin ?_ | with_reducible refine g_dput ?_ | with_reducible refine g_dc ?_ | with_reducible refine g_sl ?_ | with_reducible refine g_nopart ?_ | with_reducible refine g_part ?_ | with_reducible refine g_exI ?_ | with_reducible refine g_revL ?_ | (with_reducible show iSq _ _ _ _; refine g_sq rfl ?_) | with_reducible refine g_while ?_ | with_reducible refine g_min3 ?_ | with_reducible refine g_trq ?_ | with_reducible refine g_lock ?_ | with_reducible refine g_mko ?_ | with_reducible refine g_keys ?_ | with_reducible refine g_eqS ?_ | with_reducible refine g_lrg ?_ | with_reducible refine g_trg ?_ | with_reducible refine g_rg1 ?_ | with_reducible refine iteT ?_ | with_reducible refine iteF ?_))
section
variable {P : Program} {w : World} {K : PySem.W.Frag} {mg : Str → Option Value} {base : Heap} {f : Addr} {fd : FuncData} {k : Nat}
def IsOrd (n : Nat) (d : PyData) (os : List Nat) : Prop := d = .tuple (os.map fun x : Nat => PyData.int (x : Int)) ∧ os.Perm (List.range n)
theorem sc_b_is_order : FnScope ["size", "thing", "house"] ["size", "thing"] (defScope s_b_is_order) := ⟨rfl, rfl, rfl, by decide +kernel, rfl, by decide +kernel, by decide +kernel⟩
def sp_b_is_order : Sp := fun vs H Q _ => ∃ (S : List Addr) (n : Nat) (v : V) (d : PyData), vs = [.int n, v] ∧ n ≤ 8 ∧ Da S H v d ∧ ∀ (b : Bool) (H' : Hp), Ex H H' → (b = true ↔ ∃ os, IsOrd n d os) → Q (.bl b) H'
theorem ord_nats {ds : List PyData} (h : ds.all isN = true) : ∃ os : List Nat, ds = os.map fun x : Nat => PyData.int (x : Int) := by
  induction ds with
  | nil => exact ⟨[], rfl⟩
  | cons x r ih =>
    rw [List.all_cons, Bool.and_eq_true] at h
    obtain ⟨os, e⟩ := ih h.2
    cases x with
    | int i =>
      have : 0 ≤ i := of_decide_eq_true h.1
      exact ⟨i.toNat :: os, by rw [e, List.map_cons, Int.toNat_of_nonneg this]⟩
    | _ => exact absurd h.1 (by intro z; cases z)
theorem nats_all (os : List Nat) : (os.map fun x : Nat => PyData.int (x : Int)).all isN = true := by
  rw [List.all_eq_true]
  intro d hd
  obtain ⟨x, _, rfl⟩ := List.mem_map.mp hd
  show decide (0 ≤ (x : Int)) = true
  exact decide_eq_true (by omega)
theorem nats_inj : ∀ {xs ys : List Nat}, (xs.map fun x : Nat => PyData.int (x : Int)) = (ys.map fun x : Nat => PyData.int (x : Int)) → xs = ys
  | [], [], _ => rfl
  | x :: xs, y :: ys, h => by
    simp only [List.map_cons, List.cons.injEq, PyData.int.injEq] at h
    rw [nats_inj h.2]
    have : x = y := by omega
    rw [this]
  | [], _ :: _, h => by simp at h
  | _ :: _, [], h => by simp at h
theorem hs_inj {xs ys : List Nat} (h : hs xs = hs ys) : xs = ys := by
  induction xs generalizing ys with
  | nil => cases ys with
    | nil => rfl
    | cons y r => simp at h
  | cons x r ih =>
    cases ys with
    | nil => simp at h
    | cons y r2 =>
      simp only [hs, List.map_cons, List.cons.injEq] at h
      rw [ih h.2]
      have : x = y := by omega
      rw [this]
theorem range_sorted (n : Nat) : (List.range n).Pairwise (· < ·) := by
  induction n with
  | zero => exact List.Pairwise.nil
  | succ n ih =>
    rw [List.range_succ, List.pairwise_append]
    refine ⟨ih, List.pairwise_singleton _ _, fun a ha b hb => ?_⟩
    rw [List.mem_range] at ha
    have : b = n := by simpa using hb
    omega
/-- two ascending lists of the same things -/
theorem sorted_eq : ∀ {xs ys : List Nat}, xs.Pairwise (· < ·) → ys.Pairwise (· < ·) → (∀ v, v ∈ xs ↔ v ∈ ys) → xs = ys
  | [], [], _, _, _ => rfl
  | [], y :: _, _, _, h => absurd ((h y).mpr List.mem_cons_self) List.not_mem_nil
  | x :: _, [], _, _, h => absurd ((h x).mp List.mem_cons_self) List.not_mem_nil
  | x :: xs, y :: ys, hx, hy, h => by
    rw [List.pairwise_cons] at hx hy
    have e : x = y := by
      have h1 := (h x).mp List.mem_cons_self
      have h2 := (h y).mpr List.mem_cons_self
      rcases List.mem_cons.mp h1 with z | z
      · exact z
      · rcases List.mem_cons.mp h2 with z2 | z2
        · exact z2.symm
        · have := hx.1 y z2
          have := hy.1 x z
          omega
    subst e
    congr 1
    refine sorted_eq hx.2 hy.2 fun v => ⟨fun hv => ?_, fun hv => ?_⟩
    · rcases List.mem_cons.mp ((h v).mp (List.mem_cons_of_mem _ hv)) with z | z
      · have := hx.1 v hv
        omega
      · exact z
    · rcases List.mem_cons.mp ((h v).mpr (List.mem_cons_of_mem _ hv)) with z | z
      · have := hy.1 v hv
        omega
      · exact z
theorem ok_b_is_order (F : Fun K "b_is_order" "b_is_order" s_b_is_order f fd) (T : Txt mg) (c_is_number : Cal P w K mg base 2 "is_number" sp_is_number) : FnOk P w K mg base CX0 3 f fd ["size", "thing"] sp_b_is_order := by
  have sc := sc_b_is_order
  refine F.ok sc (fun vs H Q E h => ?_) (fun cdv A outer s H vs Q E hr h => ?_)
  · obtain ⟨S, n, v, d, rfl, _⟩ := h
    rfl
  · obtain ⟨S, n, v, d, rfl, hn8, hd, q⟩ := h
    have hu64 := hr.units
    refine ⟨_, (pss_cons (ps_if (PW.pt (pw_or (pt_not (pt_val (pe_callB (k_isi (K := K) rfl) (by rfl) T.isinstance (by decide +kernel) (pa_cons (pv 1) (pa_cons (pe_bltn (v := .ty "tuple") (by rfl) T.tuple (by decide +kernel) rfl) pa_nil))))) (pw_or1 (pt_cmpR op_ne (pe_callB (kq_len (K := K) rfl) (by rfl) T.len (by decide +kernel) (pa_cons (pv 1) pa_nil)) (pv 0) (nomark _)))))
        (pss_one (ps_ret pe_bl))
        pss_nil)
      (pss_cons (ps_for PassesOwn.never rfl (kpi_tup (K := K) rfl (pv 1)) (pg_name (i := 2) sc.nd rfl (by first | exact Or.inl rfl | exact Or.inr rfl))
        (pss_one (ps_if (pt_not (pt_val (pe_c c_is_number hr (by decide) (by rfl) (pa_cons (pv 2) pa_nil))))
          (pss_one (ps_ret pe_bl))
          pss_nil)))
      (pss_one (ps_ret (pe_cmpR (kop_eqD (K := K) rfl hu64) (pe_callB (kr_sortTup (K := K) rfl) (by rfl) T.sorted (by decide +kernel) (pa_cons (pv 1) pa_nil)) (pe_listRg rfl (by rfl) T.list (prg_1 (by rfl) T.range (pv 0))) (nomark _)))))), ?_⟩
    walk_at "s"
    refine g_isiT hd ?_
    walk_at "s"
    cases hd with
    | @tup a xs ds ha hx =>
      refine iteF ?_
      walk_at "s"
      refine g_lenT ha ?_
      walk_at "s"
      have hxl := hx.len
      refine ite2 (fun e => ?_) (fun e => ?_)
      · walk_at "s"
        have e' : ¬ (xs.length = n) := fun z => by
          rw [z] at e
          simp at e
        refine q false H (.refl _ _) ⟨(fun z => nomatch z), fun ⟨os, h1, h2⟩ => ?_⟩
        have h3 := h2.length_eq
        rw [List.length_range] at h3
        simp only [PyData.tuple.injEq] at h1
        rw [h1, List.length_map] at hxl
        omega
      · walk_at "s"
        have e' : xs.length = n := by
          simp at e
          omega
        refine ⟨a, rfl, ⟨xs, .of ha⟩, for_it (walk_tup (xs := xs)) (fun i σ H' => H' = H ∧ (∀ j : Nat, j < i → ∀ d, ds[j]? = some d → isN d = true) ∧ ∃ y, σ = [some (.int n), some (.ref a), y]) ⟨rfl, fun j hj => absurd hj (Nat.not_lt_zero j), none, rfl⟩ (fun i σ H' _ h => by rw [h.1]; exact .of ha) (fun i x σ H1 H2 hi h hy => ?_) (fun σ H1 h => ?_)⟩
        · obtain ⟨rfl, hall, y, rfl⟩ := h
          obtain ⟨rfl, ex⟩ := hy
          obtain ⟨d, ed, hd⟩ := hx.getv ex
          walk_at "s"
          refine ⟨S, x, d, rfl, hd, ?_⟩
          walk_at "s"
          cases hn : isN d with
          | true =>
            refine iteF ?_
            walk_at "s"
            refine ⟨rfl, fun j hj d' hd' => ?_, _, rfl⟩
            rcases Nat.lt_succ_iff_lt_or_eq.mp hj with h | h
            · exact hall j h d' hd'
            · rw [h, ed] at hd'
              rw [← Option.some.inj hd', hn]
          | false =>
            refine iteT ?_
            walk_at "s"
            refine q false _ (.refl _ _) ⟨(fun z => nomatch z), fun ⟨os, h1, h2⟩ => ?_⟩
            simp only [PyData.tuple.injEq] at h1
            have h3 := List.all_eq_true.mp (nats_all os) d (by rw [← h1]; exact List.mem_of_getElem? ed)
            rw [hn] at h3
            cases h3
        · obtain ⟨rfl, hall, y, rfl⟩ := h
          have hds : ds.all isN = true := by
            rw [List.all_eq_true]
            intro d hd
            obtain ⟨j, hj, rfl⟩ := List.mem_iff_getElem.mp hd
            exact hall j (by rw [hxl]; exact hj) _ (List.getElem?_eq_getElem hj)
          obtain ⟨os, rfl⟩ := ord_nats hds
          have hxs : xs = zs (hs os) := by
            have : DaAll S H1 xs ((hs os).map PyData.int) := by rw [hs, List.map_map]; exact hx
            exact this.ints_inv
          subst hxs
          rw [zs_len, hs_len] at e'
          walk_at "s"
          refine ⟨a, hs os, rfl, ha, by rw [hs_len]; omega, fun ys p1 hp hpw hp1 => ?_⟩
          walk_at "s"
          refine ⟨rg_ok (by omega), fun p2 hp2 => ?_⟩
          rw [rgV_nat]
          refine g_eqZ (by rw [upd_ne (ne_of_none upd_same hp2), upd_same]) upd_same ?_
          obtain ⟨ys', rfl, hy2⟩ : ∃ ys' : List Nat, ys = hs ys' ∧ ys'.Perm os := by
            obtain ⟨m, h1, h2⟩ := perm_map_inv (fun x : Nat => (x : Int)) hp
            exact ⟨m, h2, h1⟩
          refine q _ _ ((Kp.new hp1).nnew hp2) ?_
          rw [decide_eq_true_iff]
          constructor
          · intro e
            refine ⟨os, rfl, ?_⟩
            rw [← hs_inj e]
            exact hy2.symm
          · rintro ⟨os', h1, h2⟩
            simp only [PyData.tuple.injEq] at h1
            have := nats_inj h1
            subst this
            have h3 := hy2.trans h2
            have nd : ys'.Nodup := h3.nodup_iff.mpr List.nodup_range
            rw [List.pairwise_map] at hpw
            have h4 : ys'.Pairwise (· < ·) := (hpw.and nd).imp fun {a b} q => by
              have h1 : (a : Int) ≤ b := q.1
              have h2 : a ≠ b := q.2
              omega
            rw [sorted_eq h4 (range_sorted n) fun v => h3.mem_iff]
    | _ =>
      refine iteT ?_
      walk_at "s"
      refine q false H (.refl _ _) ⟨(fun z => nomatch z), fun ⟨os, h1, h2⟩ => by cases h1⟩
/-! ### joinings -/
def joinLot (j : List Int) (lot : List Nat) : List Int := lot.foldl (fun j h => j.set h ((lot.headD 0 : Nat) : Int)) j
def joinOf (n : Nat) (lots : List (List Nat)) : List Int := lots.foldl joinLot (List.replicate n 0)
/-- tuples of houses at ts -/
def LotsAt (H : Hp) (ts : List Addr) (lots : List (List Nat)) : Prop := ts.length = lots.length ∧ ∀ (i : Nat) (t : Addr) (l : List Nat), ts[i]? = some t → lots[i]? = some l → H t = some (.tup (zs (hs l)))
theorem LotsAt.kp {S : List Addr} {H H' : Hp} {ts : List Addr} {lots : List (List Nat)} (h : LotsAt H ts lots) (k : Kp S H H') : LotsAt H' ts lots := ⟨h.1, fun i t l h1 h2 => k.tup _ _ (h.2 i t l h1 h2)⟩
theorem LotsAt.snoc {H : Hp} {ts : List Addr} {lots : List (List Nat)} (h : LotsAt H ts lots) {t : Addr} {l : List Nat} (e : H t = some (.tup (zs (hs l)))) : LotsAt H (ts ++ [t]) (lots ++ [l]) := by
  refine ⟨by rw [List.length_append, List.length_append, h.1]; rfl, fun i t' l' h1 h2 => ?_⟩
  by_cases hi : i < ts.length
  · rw [List.getElem?_append_left hi] at h1
    rw [List.getElem?_append_left (by rw [← h.1]; exact hi)] at h2
    exact h.2 i t' l' h1 h2
  · rw [List.getElem?_append_right (by omega)] at h1
    rw [List.getElem?_append_right (by rw [← h.1]; omega)] at h2
    rw [← h.1] at h2
    cases hz : i - ts.length with
    | zero =>
      rw [hz] at h1 h2
      simp at h1 h2
      subst h1 h2
      exact e
    | succ m =>
      rw [hz] at h1
      simp at h1
theorem LotsAt.ref {H : Hp} {ts : List Addr} {lots : List (List Nat)} (h : LotsAt H ts lots) {i : Nat} {x : V} {l : List Nat} (e : (ts.map V.ref)[i]? = some x) (el : lots[i]? = some l) : ∃ t, x = .ref t ∧ H t = some (.tup (zs (hs l))) := by
  rw [List.getElem?_map] at e
  cases e2 : ts[i]? with
  | none => rw [e2] at e; cases e
  | some t =>
    rw [e2] at e
    exact ⟨t, (Option.some.inj e).symm, h.2 i t l e2 el⟩
theorem joinLot_len (j : List Int) (lot : List Nat) : (joinLot j lot).length = j.length := by
  have : ∀ (l : List Nat) (c : Int) (j : List Int), (l.foldl (fun j h => j.set h c) j).length = j.length := by
    intro l c
    induction l with
    | nil => intro j; rfl
    | cons x r ih => intro j; rw [List.foldl_cons, ih, List.length_set]
  exact this lot _ j
theorem joins_len : ∀ (lots : List (List Nat)) (j : List Int), (lots.foldl joinLot j).length = j.length
  | [], _ => rfl
  | l :: r, j => by rw [List.foldl_cons, joins_len r, joinLot_len]
theorem sc_b_joining : FnScope ["size", "lots", "joining", "lot", "house"] ["size", "lots"] (defScope s_b_joining) := ⟨rfl, rfl, rfl, by decide +kernel, rfl, by decide +kernel, by decide +kernel⟩
def sp_b_joining : Sp := fun vs H Q _ => ∃ (n : Nat) (L : Addr) (ts : List Addr) (lots : List (List Nat)), vs = [.int n, .ref L] ∧ n ≤ 8 ∧ H L = some (.lst (ts.map V.ref)) ∧ LotsAt H ts lots ∧ (∀ l ∈ lots, ∀ h ∈ l, h < n) ∧
  ∀ (q : Addr) (H' : Hp), Ex H H' → H' q = some (.tup (zs (joinOf n lots))) → Q (.ref q) H'
theorem ok_b_joining (F : Fun K "b_joining" "b_joining" s_b_joining f fd) (T : Txt mg) : FnOk P w K mg base CX0 1 f fd ["size", "lots"] sp_b_joining := by
  have sc := sc_b_joining
  refine F.ok sc (fun vs H Q E h => ?_) (fun cdv A outer s H vs Q E hr h => ?_)
  · obtain ⟨n, L, ts, lots, rfl, _⟩ := h
    rfl
  · obtain ⟨n, L, ts, lots, rfl, hn8, hL, hlo, hlt, q⟩ := h
    refine ⟨_, (pss_cons (ps_set (i := 2) sc.nd rfl (by first | exact Or.inl rfl | exact Or.inr rfl) (pe_op op_rep (pe_lst (pa_cons pe_int pa_nil)) (pv 0)))
      (pss_cons (ps_for PassesOwn.never rfl (kpi_list (K := K) rfl (pv 1)) (pg_name (i := 3) sc.nd rfl (by first | exact Or.inl rfl | exact Or.inr rfl))
        (pss_one (ps_for PassesOwn.never rfl (kpi_tup (K := K) rfl (pv 3)) (pg_name (i := 4) sc.nd rfl (by first | exact Or.inl rfl | exact Or.inr rfl))
          (pss_one (ps_asg (pe_ix (kx_tup (K := K) rfl) (pv 3) pe_int (fun _ _ => rfl)) (pg_sub (pv 2) (pv 4) set_list))))))
      (pss_one (ps_ret (pe_callTy (kq_tup (K := K) rfl) (by rfl) T.tuple (by decide +kernel) (pa_cons (pv 2) pa_nil)))))), ?_⟩
    walk_at "s"
    refine ⟨sz, fun z hz => ?_⟩
    walk_at "s"
    have k0 : Ex H (upd H z (.lst [.int 0])) := .new hz
    refine g_rep upd_same (by omega) fun r hr0 => ?_
    walk_at "s"
    have hrH := k0.free hr0
    have k1 := k0.nnew (o := .lst (zs (List.replicate n 0))) hr0
    refine ⟨L, rfl, ⟨_, .of (k1.keep _ _ hL List.not_mem_nil)⟩, ?_⟩
    refine for_it (walk_list (xs := ts.map V.ref)) (fun i σ H' => Ex H H' ∧ H' r = some (.lst (zs ((lots.take i).foldl joinLot (List.replicate n 0)))) ∧ ∃ y3 y4, σ = [some (.int n), some (.ref L), some (.ref r), y3, y4]) ⟨k1, upd_same, none, none, rfl⟩ (fun i σ H' _ h => .of (h.1.keep _ _ hL List.not_mem_nil)) (fun i x σ H1 H2 hi h hy => ?_) (fun σ H1 h => ?_)
    · obtain ⟨k2, hj, y3, y4, rfl⟩ := h
      obtain ⟨rfl, ex⟩ := hy
      rw [List.length_map, hlo.1] at hi
      have el : lots[i]? = some lots[i] := List.getElem?_eq_getElem hi
      obtain ⟨t, rfl, ht⟩ := hlo.ref ex el
      have hln := hlt _ (List.getElem_mem hi)
      rw [List.take_add_one, el, List.foldl_append]
      have hjl : ((lots.take i).foldl joinLot (List.replicate n 0)).length = n := by rw [joins_len, List.length_replicate]
      generalize (lots.take i).foldl joinLot (List.replicate n 0) = j0 at *
      generalize lots[i] = lot at *
      have ht2 := k2.tup _ _ ht
      walk_at "s"
      refine ⟨t, rfl, ⟨_, .of ht2⟩, ?_⟩
      refine for_it (walk_tup (xs := zs (hs lot))) (fun i σ H' => Ex H H' ∧ H' r = some (.lst (zs ((lot.take i).foldl (fun j h => j.set h ((lot.headD 0 : Nat) : Int)) j0))) ∧ ∃ y4, σ = [some (.int n), some (.ref L), some (.ref r), some (.ref t), y4]) ⟨k2, hj, _, rfl⟩ (fun i σ H' _ h => .of (h.1.tup _ _ ht)) (fun i x σ H3 H4 hi h hy => ?_) (fun σ H3 h => ?_)
      · obtain ⟨k3, hj3, y4, rfl⟩ := h
        obtain ⟨rfl, ex⟩ := hy
        rw [zs_len, hs_len] at hi
        have eh : lot[i]? = some lot[i] := List.getElem?_eq_getElem hi
        cases hs_at ex eh
        have hh := hln _ (List.getElem_mem hi)
        walk_at "s"
        have e0 : lot[0]? = some (lot.headD 0) := by
          cases lot with
          | nil => simp at hi
          | cons x r => rfl
        refine g_ixT (j := 0) (k3.tup _ _ ht) (hs_get e0) ?_
        walk_at "s"
        have hlen : ∀ (l : List Nat) (c : Int) (j : List Int), (l.foldl (fun j h => j.set h c) j).length = j.length := by
          intro l c
          induction l with
          | nil => intro j; rfl
          | cons x r ih => intro j; rw [List.foldl_cons, ih, List.length_set]
        refine g_setL hj3 (by rw [zs_len, hlen]; omega) ?_
        walk_at "s"
        rw [← List.map_set]
        refine ⟨k3.mutL hrH hj3, ?_, _, rfl⟩
        rw [upd_same, List.take_add_one, eh, List.foldl_append]
        rfl
      · obtain ⟨k3, hj3, y4, rfl⟩ := h
        rw [zs_len, hs_len, List.take_length] at hj3
        exact ⟨k3, hj3, _, _, rfl⟩
    · obtain ⟨k2, hj, y3, y4, rfl⟩ := h
      rw [List.length_map, hlo.1, List.take_length] at hj
      walk_at "s"
      refine g_tupL hj fun p hp => ?_
      exact q p _ (k2.nnew hp) upd_same
end
end K8
set_option Elab.async false
set_option linter.all false
set_option maxRecDepth 100000
set_option maxHeartbeats 4000000
namespace K8
open PySem PySem.Spec PyProof.Rows L2
local macro_rules | `(tactic| walk_at "s") => `(tactic| repeat (first
  | with_reducible refine g_seq ?_ | with_reducible refine g_ret ?_ | with_reducible refine g_asg ?_ | with_reducible refine g_name ?_ | with_reducible refine g_c ?_ | with_reducible refine g_op ?_ | with_reducible refine g_cons ?_ | with_reducible refine g_nil ?_
  | (with_reducible show tVar _ _ _ _; refine g_var rfl ?_) | with_reducible refine g_cb ?_ | with_reducible refine g_call ?_ | with_reducible refine g_if ?_ | with_reducible refine g_test ?_ | with_reducible refine g_tB ?_ | with_reducible refine g_i0 ?_ | with_reducible refine g_bl ?_
  | with_reducible refine g_add ?_ | with_reducible refine g_sub ?_ | with_reducible refine g_eqI ?_ | with_reducible refine g_neI ?_ | with_reducible refine g_drop ?_ | with_reducible refine g_next ?_ | with_reducible refine g_break ?_ | with_reducible refine g_un ?_ | with_reducible refine g_u ?_
  | with_reducible refine g_ifE ?_ | with_reducible refine g_and ?_ | with_reducible refine g_or ?_ | with_reducible refine g_not ?_ | with_reducible refine g_andV ?_ | with_reducible refine g_orV ?_ | with_reducible refine g_notV ?_ | with_reducible refine g_isN ?_ | with_reducible refine g_notN ?_
  | with_reducible refine g_gnil ?_ | with_reducible refine g_gcons ?_ | with_reducible refine g_bm ?_ | with_reducible refine g_abs ?_ | with_reducible refine g_max ?_ | with_reducible refine g_min ?_ | with_reducible refine g_int ?_ | with_reducible refine g_lc ?_ | with_reducible refine g_for ?_ | with_reducible refine g_yes ?_ | with_reducible refine g_rng1 ?_ | with_reducible refine g_rng2 ?_ | with_reducible refine g_il ?_ | with_reducible refine g_it ?_ | with_reducible refine g_en ?_ | with_reducible refine g_zp ?_ | with_reducible refine g_mkT ?_ | with_reducible refine g_mkL ?_ | with_reducible refine g_augS ?_ | (with_reducible show tAug _ _ _ _ _ _; refine g_aug rfl ?_) | with_reducible refine g_ipI ?_ | with_reducible refine g_gsub ?_ | with_reducible refine g_dget ?_ | with_reducible refine g_din ?_ | with_reducible refine g_dnotin ?_ | with_reducible refine g_dput ?_ | with_reducible refine g_dc ?_ | with_reducible refine g_sl ?_ | with_reducible refine g_nopart ?_ | with_reducible refine g_part ?_ | with_reducible refine g_exI ?_ | with_reducible refine g_revL ?_ | (with_reducible show iSq _ _ _ _; refine g_sq rfl ?_) | with_reducible refine g_while ?_ | with_reducible refine g_min3 ?_ | with_reducible refine g_trq ?_ | with_reducible refine g_lock ?_ | with_reducible refine g_mko ?_ | with_reducible refine g_keys ?_ | with_reducible refine g_eqS ?_ | with_reducible refine g_lrg ?_ | with_reducible refine g_trg ?_ | with_reducible refine g_rg1 ?_ | with_reducible refine iteT ?_ | with_reducible refine iteF ?_))
/-- the words of sides: true is out -/
def sd (b : Bool) : Str := if b = true then "out" else "in"
theorem sd_out (b : Bool) : decide (sd b = ("out" : Str)) = b := by cases b <;> decide
theorem sd_mem (s : Str) : s ∈ [("out" : Str), ("in" : Str)] ↔ ∃ b, s = sd b := by
  constructor
  · intro h
    rcases List.mem_cons.mp h with z | z
    · exact ⟨true, z⟩
    · exact ⟨false, List.mem_singleton.mp z⟩
  · rintro ⟨b, rfl⟩
    cases b <;> decide
theorem sd_inj {a b : Bool} (h : sd a = sd b) : a = b := by
  cases a <;> cases b <;> first | rfl | exact absurd h (by decide)
abbrev sdV (bs : List Bool) : List V := bs.map fun b => V.str (sd b)
def IsSides (n : Nat) (d : PyData) (bs : List Bool) : Prop := d = .tuple (bs.map fun b => PyData.str (sd b)) ∧ bs.length = n
section
variable {P : Program} {w : World} {K : PySem.W.Frag} {mg : Str → Option Value} {base : Heap} {f : Addr} {fd : FuncData} {k : Nat}
theorem sc_b_are_sides : FnScope ["size", "thing", "word"] ["size", "thing"] (defScope s_b_are_sides) := ⟨rfl, rfl, rfl, by decide +kernel, rfl, by decide +kernel, by decide +kernel⟩
def sp_b_are_sides : Sp := fun vs H Q _ => ∃ (S : List Addr) (n : Nat) (v : V) (d : PyData), vs = [.int n, v] ∧ n ≤ 8 ∧ Da S H v d ∧ ∀ (b : Bool) (H' : Hp), Ex H H' → (b = true ↔ ∃ bs, IsSides n d bs) → Q (.bl b) H'
theorem ok_b_are_sides (F : Fun K "b_are_sides" "b_are_sides" s_b_are_sides f fd) (T : Txt mg) : FnOk P w K mg base CX0 1 f fd ["size", "thing"] sp_b_are_sides := by
  have sc := sc_b_are_sides
  refine F.ok sc (fun vs H Q E h => ?_) (fun cdv A outer s H vs Q E hr h => ?_)
  · obtain ⟨S, n, v, d, rfl, _⟩ := h
    rfl
  · obtain ⟨S, n, v, d, rfl, hn8, hd, q⟩ := h
    refine ⟨_, (pss_cons (ps_if (PW.pt (pw_or (pt_not (pt_val (pe_callB (k_isi (K := K) rfl) (by rfl) T.isinstance (by decide +kernel) (pa_cons (pv 1) (pa_cons (pe_bltn (v := .ty "tuple") (by rfl) T.tuple (by decide +kernel) rfl) pa_nil))))) (pw_or1 (pt_cmpR op_ne (pe_callB (kq_len (K := K) rfl) (by rfl) T.len (by decide +kernel) (pa_cons (pv 1) pa_nil)) (pv 0) (nomark _)))))
        (pss_one (ps_ret pe_bl))
        pss_nil)
      (pss_cons (ps_for PassesOwn.never rfl (kpi_tup (K := K) rfl (pv 1)) (pg_name (i := 2) sc.nd rfl (by first | exact Or.inl rfl | exact Or.inr rfl))
        (pss_one (ps_if (PW.pt (pw_or (pt_not (pt_val (pe_callB (k_isi (K := K) rfl) (by rfl) T.isinstance (by decide +kernel) (pa_cons (pv 2) (pa_cons (pe_bltn (v := .ty "str") (by rfl) T.str (by decide +kernel) rfl) pa_nil))))) (pw_or1 (pt_cmpR ((kop_notIn (K := K) rfl)) (pv 2) (pe_tup (pa_cons pe_str (pa_cons pe_str pa_nil))) (by rfl)))))
          (pss_one (ps_ret pe_bl))
          pss_nil)))
      (pss_one (ps_ret pe_bl)))), ?_⟩
    walk_at "s"
    refine g_isiT hd ?_
    walk_at "s"
    cases hd with
    | @tup a xs ds ha hx =>
      refine iteF ?_
      walk_at "s"
      refine g_lenT ha ?_
      walk_at "s"
      have hxl := hx.len
      refine ite2 (fun e => ?_) (fun e => ?_)
      · walk_at "s"
        have e' : ¬ (xs.length = n) := fun z => by
          rw [z] at e
          simp at e
        refine q false H (.refl _ _) ⟨(fun z => nomatch z), fun ⟨os, h1, h2⟩ => ?_⟩
        simp only [PyData.tuple.injEq] at h1
        rw [h1, List.length_map] at hxl
        omega
      · walk_at "s"
        have e' : xs.length = n := by
          simp at e
          omega
        refine ⟨a, rfl, ⟨xs, .of ha⟩, for_it (walk_tup (xs := xs)) (fun i σ H' => Ex H H' ∧ (∃ bs : List Bool, ds.take i = bs.map fun b => PyData.str (sd b)) ∧ ∃ y, σ = [some (.int n), some (.ref a), y]) ⟨.refl _ _, ⟨[], rfl⟩, none, rfl⟩ (fun i σ H' _ h => .of (h.1.tup _ _ ha)) (fun i x σ H1 H2 hi h hy => ?_) (fun σ H1 h => ?_)⟩
        · obtain ⟨k1, ⟨bs, hbs⟩, y, rfl⟩ := h
          obtain ⟨rfl, ex⟩ := hy
          obtain ⟨d, ed, hd⟩ := hx.getv ex
          have hd := hd.kp (Kp.of_ex (S := S) k1)
          have bad : (¬ ∃ b, d = .str (sd b)) → ¬ ∃ bs, IsSides n (.tuple ds) bs := fun hb ⟨bs, h1, h2⟩ => hb (by
            simp only [PyData.tuple.injEq] at h1
            rw [h1, List.getElem?_map] at ed
            cases e2 : bs[i]? with
            | none => rw [e2] at ed; cases ed
            | some b => rw [e2] at ed; exact ⟨b, (Option.some.inj ed).symm⟩)
          walk_at "s"
          refine g_isiS hd ?_
          walk_at "s"
          cases hd with
          | str s =>
            refine iteF ?_
            walk_at "s"
            refine ⟨sz, fun t ht => ?_⟩
            walk_at "s"
            refine g_ninTS (ws := ["out", "in"]) upd_same ?_
            walk_at "s"
            by_cases hs : s ∈ [("out" : Str), ("in" : Str)]
            · rw [decide_eq_true hs]
              refine iteF ?_
              walk_at "s"
              obtain ⟨b, rfl⟩ := (sd_mem s).mp hs
              refine ⟨k1.nnew ht, ⟨bs ++ [b], ?_⟩, _, rfl⟩
              rw [List.take_add_one, ed, hbs, List.map_append]
              rfl
            · rw [decide_eq_false hs]
              refine iteT ?_
              walk_at "s"
              exact q false _ (k1.nnew ht) ⟨(fun z => nomatch z), fun z => absurd z (bad fun ⟨b, e⟩ => hs ((sd_mem s).mpr ⟨b, by cases e; rfl⟩))⟩
          | _ =>
            refine iteT ?_
            walk_at "s"
            exact q false _ k1 ⟨(fun z => nomatch z), fun z => absurd z (bad fun ⟨b, e⟩ => by cases e)⟩
        · obtain ⟨k1, ⟨bs, hbs⟩, y, rfl⟩ := h
          rw [hxl, List.take_length] at hbs
          walk_at "s"
          refine q true H1 k1 ⟨fun _ => ⟨bs, by rw [hbs], ?_⟩, fun _ => rfl⟩
          rw [hbs, List.length_map] at hxl
          omega
    | _ =>
      refine iteT ?_
      walk_at "s"
      exact q false H (.refl _ _) ⟨(fun z => nomatch z), fun ⟨os, h1, h2⟩ => by cases h1⟩
theorem sc_b_peel : FnScope ["web", "links", "near", "order", "sides", "turned", "lots", "done", "place", "house", "lot", "link", "row"] ["web", "links", "near", "order", "sides"] (defScope s_b_peel) := ⟨rfl, rfl, rfl, by decide +kernel, rfl, by decide +kernel, by decide +kernel⟩
def sp_b_peel : Sp := fun vs H Q _ => ∃ (W : Wb) (u lk : V) (p o s : Addr) (near : List Int) (os : List Nat) (bs : List Bool), vs = [u, lk, .ref p, .ref o, .ref s] ∧ WebAt H u W ∧ WebOk W ∧ LksAt [] H lk W [] ∧ H p = some (.lst (zs near)) ∧ Split W.ls near ∧
  H o = some (.tup (zs (hs os))) ∧ H s = some (.tup (sdV bs)) ∧ os.length = bs.length ∧ os.length ≤ 8 ∧ (∀ x ∈ os, x < W.n) ∧
  ∀ (q : Addr) (H' : Hp), Ex H H' → H' q = some (.tup (zs (joinOf W.n (peelL W near (os.zip bs) [])))) → Q (.ref q) H'
/-- the links but those to lot -/
theorem Rows.snoc {H : Hp} {rs : List Addr} {m : Nat} {P : Nat → Nat → Nat → Bool → Prop} (h : Rows H rs m P) {r : Addr} {ts : List Addr} (e : H r = some (.lst (ts.map V.ref))) (hl : ts.length ≤ m)
    (h1 : ∀ t ∈ ts, ∃ j o b, H t = some (.tup (lkV j o b)) ∧ P rs.length j o b) (h2 : ∀ j o b, P rs.length j o b → ∃ t ∈ ts, H t = some (.tup (lkV j o b))) : Rows H (rs ++ [r]) m P := by
  intro u r' e'
  by_cases hu : u < rs.length
  · rw [List.getElem?_append_left hu] at e'
    exact h u r' e'
  · rw [List.getElem?_append_right (by omega)] at e'
    have e0 : u - rs.length = 0 := by
      cases hz : u - rs.length with
      | zero => rfl
      | succ m => rw [hz] at e'; simp at e'
    rw [e0] at e'
    simp at e'
    subst e'
    have : u = rs.length := by omega
    subst this
    exact ⟨ts, e, hl, h1, h2⟩
theorem ok_b_peel (F : Fun K "b_peel" "b_peel" s_b_peel f fd) (T : Txt mg) (c_b_turned : Cal P w K mg base 1 "b_turned" sp_b_turned) (c_b_reached : Cal P w K mg base 2 "b_reached" sp_b_reached) (c_b_joining : Cal P w K mg base 1 "b_joining" sp_b_joining) :
    FnOk P w K mg base CX0 3 f fd ["web", "links", "near", "order", "sides"] sp_b_peel := by
  have sc := sc_b_peel
  refine F.ok sc (fun vs H Q E h => ?_) (fun cdv A outer s H vs Q E hr h => ?_)
  · obtain ⟨W, u, lk, p, o, s, near, os, bs, rfl, _⟩ := h
    rfl
  · obtain ⟨W, u, lk, p, o, s, near, os, bs, rfl, hw, ok, hlk, hp, hsp, ho, hsd, hob, ho8, hlt, q⟩ := h
    have hw0 := hw
    obtain ⟨a, c, ls, rfl, ha, hc, hl⟩ := hw0
    have hn8 := ok.2.1
    refine ⟨_, (pss_cons (ps_set (i := 5) sc.nd rfl (by first | exact Or.inl rfl | exact Or.inr rfl) (pe_c c_b_turned hr (by decide) (by rfl) (pa_cons (pv 0) (pa_cons (pv 2) pa_nil))))
      (pss_cons (ps_set (i := 6) sc.nd rfl (by first | exact Or.inl rfl | exact Or.inr rfl) (pe_lst pa_nil))
      (pss_cons (ps_set (i := 7) sc.nd rfl (by first | exact Or.inl rfl | exact Or.inr rfl) (pe_lst pa_nil))
      (pss_cons (ps_for PassesOwn.never rfl (pi_enumT (by rfl) T.enumerate (pa_cons (pv 3) pa_nil)) (kpg_tup (K := K) (n := 2) rfl rfl (pgs_cons (pg_name (i := 8) sc.nd rfl (by first | exact Or.inl rfl | exact Or.inr rfl)) (pgs_cons (pg_name (i := 9) sc.nd rfl (by first | exact Or.inl rfl | exact Or.inr rfl)) pgs_nil)))
        (pss_one (ps_if (pt_cmpR ((kop_notIn (K := K) rfl)) (pv 9) (pv 7) (by rfl))
          (pss_cons (ps_set (i := 10) sc.nd rfl (by first | exact Or.inl rfl | exact Or.inr rfl) (pe_c c_b_reached hr (by decide) (by rfl) (pa_cons (pv 0) (pa_cons (pv 1) (pa_cons (pe_ifExp (pt_cmpR op_eq (pe_ix (kx_tup (K := K) rfl) (pv 4) (pv 8) (fun _ _ => rfl)) pe_str (nomark _)) (pv 2) (pv 5)) (pa_cons (pe_tup (pa_cons (pv 9) pa_nil)) pa_nil))))))
          (pss_cons (ps_setLc (i := 1) (own := [("row", 12)]) rfl sc.nd rfl rfl (sw_true rfl rfl rfl (by decide +kernel)) (kpi_list (K := K) rfl (pv 1)) (blkOk_by (N := ["web", "links", "near", "order", "sides", "turned", "lots", "done", "place", "house", "lot", "link", "row"]) (sc := defScope s_b_peel) (by decide +kernel)) (fun _ _ _ _ _ => (pg_name (i := 12) sc.nd rfl (by first | exact Or.inl rfl | exact Or.inr rfl))) (fun _ _ _ _ _ => pts_nil) (fun _ _ _ _ _ => (pe_lc (own := [("link", 11)]) rfl sc.nd (kpi_list (K := K) rfl (pv 12)) (blkOk_by (N := ["web", "links", "near", "order", "sides", "turned", "lots", "done", "place", "house", "lot", "link", "row"]) (sc := { kind := ScopeKind.function, names := [(".0", NameKind.local), ("row", NameKind.local), ("lot", NameKind.cell)], isGenerator := false, isCoroutine := false }) (by decide +kernel)) (fun _ _ _ _ _ => (pg_name (i := 11) sc.nd rfl (by first | exact Or.inl rfl | exact Or.inr rfl))) (fun _ _ _ _ _ => (pts_one (pt_cmpR ((kop_notIn (K := K) rfl)) (pe_ix (kx_tup (K := K) rfl) (pv 11) pe_int (fun _ _ => rfl)) (pv 10) (by rfl)))) (fun _ _ _ _ _ => (pv 11)))))
          (pss_cons (ps_expr (pe_bm PySem.F.plainAttrs_list PySem.F.slot_list_append PySem.F.type_list_append mt_append (pv 6) (pa_cons (pv 10) pa_nil)))
          (pss_one (ps_expr (pe_bm PySem.F.plainAttrs_list PySem.F.slot_list_extend PySem.F.type_list_extend (kmt_extendT (K := K) rfl) (pv 7) (pa_cons (pv 10) pa_nil)))))))
          pss_nil)))
      (pss_one (ps_ret (pe_c c_b_joining hr (by decide) (by rfl) (pa_cons (pe_ix (kx_tup (K := K) rfl) (pv 0) pe_int (fun _ _ => rfl)) (pa_cons (pv 6) pa_nil))))))))), ?_⟩
    walk_at "s"
    refine ⟨W, _, p, near, rfl, hw, ok, hp, hsp.1, fun tq H1 k1 htq htn => ?_⟩
    walk_at "s"
    refine ⟨sz, fun Lt hLt => ?_⟩
    walk_at "s"
    refine ⟨sz, fun Dn hDn => ?_⟩
    walk_at "s"
    have k2 : Ex H (upd (upd H1 Lt (.lst [])) Dn (.lst [])) := (k1.nnew hLt).nnew hDn
    have hLD : Lt ≠ Dn := ne_of_none upd_same hDn
    have hLH : H Lt = none := k1.free hLt
    have hDH : H Dn = none := (k1.nnew (o := .lst []) hLt).free hDn
    have htL : tq ≠ Lt := ne_of_none htn hLt
    have htD : tq ≠ Dn := ne_of_none (by rw [upd_ne htL]; exact htn) hDn
    refine ⟨o, _, rfl, k2.tup _ _ ho, ?_⟩
    refine for_it (walk_enumT (xs := zs (hs os))) (fun i σ H' => ∃ (lk' : V) (D : List Nat) (lots : List (List Nat)) (ts : List Addr) (y8 y9 y10 y11 y12 : Option V), σ = [some (.ref a), some lk', some (.ref p), some (.ref o), some (.ref s), some (.ref tq), some (.ref Lt), some (.ref Dn), y8, y9, y10, y11, y12] ∧
      Ex H H' ∧ H' tq = some (.lst (zs (turn W.ls near))) ∧ H' Lt = some (.lst (ts.map V.ref)) ∧ LotsAt H' ts lots ∧ H' Dn = some (.lst (zs (hs D))) ∧ LksAt [] H' lk' W D ∧ D.Nodup ∧ (∀ x ∈ D, x < W.n) ∧ (∀ l ∈ lots, ∀ h ∈ l, h < W.n) ∧ lots.length ≤ i ∧
      lots ++ peelL W near ((os.zip bs).drop i) D = peelL W near (os.zip bs) []) ?_ (fun i σ H' _ h => ?_) (fun i x σ H3 H4 hi h hy => ?_) (fun σ H3 h => ?_)
    · exact ⟨lk, [], [], [], _, _, _, _, _, rfl, k2, by rw [upd_ne htD, upd_ne htL]; exact htn, by rw [upd_ne hLD, upd_same]; rfl, ⟨rfl, fun i t l e => by simp at e⟩, upd_same, hlk.kp k2, List.nodup_nil, fun _ h => absurd h List.not_mem_nil, fun _ h => absurd h List.not_mem_nil, Nat.zero_le _, rfl⟩
    · obtain ⟨_, _, _, _, _, _, _, _, _, _, k3, _⟩ := h
      exact k3.tup _ _ ho
    · obtain ⟨lk', D, lots, ts, y8, y9, y10, y11, y12, rfl, k3, ht3, hL3, hlo, hD3, hlk3, hnd, hDlt, hllt, hll, hpe⟩ := h
      obtain ⟨T0, x1, x2, rfl, hT, rfl, e1, e2⟩ := hy
      cases e1
      replace e2 : (zs (hs os))[i]? = some x2 := e2
      rw [zs_len, hs_len] at hi
      have eo : os[i]? = some os[i] := List.getElem?_eq_getElem hi
      cases hs_at e2 eo
      have hhn := hlt _ (List.getElem_mem hi)
      have eb : bs[i]? = some (bs[i]'(by omega)) := List.getElem?_eq_getElem (by omega)
      have hzip : (os.zip bs).drop i = (os[i], bs[i]'(by omega)) :: (os.zip bs).drop (i + 1) := by
        rw [List.drop_eq_getElem_cons (by rw [List.length_zip]; omega)]
        simp
      rw [hzip] at hpe
      generalize os[i] = h at *
      generalize bs[i]'(by omega) = b at *
      have kT : Ex H3 (upd H3 T0 (.tup [.int i, .int h])) := .new hT
      have hDl : D.length ≤ W.n := nodup_le _ _ hnd hDlt
      have k4 := k3.trans kT
      refine g_gtup upd_same rfl ?_
      walk_at "s"
      replace hD3 := kT.keep _ _ hD3 List.not_mem_nil
      replace hL3 := kT.keep _ _ hL3 List.not_mem_nil
      replace ht3 := kT.keep _ _ ht3 List.not_mem_nil
      replace hlo := hlo.kp kT
      replace hlk3 := hlk3.kp kT
      generalize upd H3 T0 (.tup [.int i, .int h]) = H4 at *
      refine g_ninL hD3 ?_
      walk_at "s"
      by_cases hhD : h ∈ D
      · rw [decide_eq_true hhD]
        refine iteF ?_
        walk_at "s"
        refine ⟨lk', D, lots, ts, _, _, _, _, _, rfl, k4, ht3, hL3, hlo, hD3, hlk3, hnd, hDlt, hllt, by omega, ?_⟩
        rw [← hpe]
        show _ = lots ++ (if h ∈ D then _ else _)
        rw [if_pos hhD]
      · rw [decide_eq_false hhD]
        refine iteT ?_
        walk_at "s"
        refine g_ixT (j := i) (k4.tup _ _ hsd) (by rw [List.getElem?_map, eb]; rfl) ?_
        walk_at "s"
        rw [sd_out]
        have hside : ∃ (pp : Addr) (ne : List Int), H4 pp = some (.lst (zs ne)) ∧ ne.length = W.ls.length ∧ (pp = if b = true then p else tq) ∧ (ne = if b = true then near else turn W.ls near) := by
          cases b
          · exact ⟨tq, _, ht3, turn_len _ _ hsp.1, rfl, rfl⟩
          · exact ⟨p, _, k4.keep _ _ hp List.not_mem_nil, hsp.1, rfl, rfl⟩
        obtain ⟨pp, ne, hpp, hnl, epp, ene⟩ := hside
        have hpe2 : lots ++ [lotOf W ne D h] ++ peelL W near ((os.zip bs).drop (i + 1)) (D ++ lotOf W ne D h) = peelL W near (os.zip bs) [] := by
          rw [← hpe, ene, List.append_assoc]
          show _ = lots ++ (if h ∈ D then _ else _)
          rw [if_neg hhD]
          rfl
        have hlkH := hlk3
        obtain ⟨Lk, rs, rfl, hLk, hrl, _, _, hR⟩ := hlkH
        cases b
        case' false =>
          refine iteF ?_
          have epp : pp = tq := epp
          subst epp
        case' true =>
          refine iteT ?_
          have epp : pp = p := epp
          subst epp
        all_goals
          walk_at "s"
          refine ⟨sz, fun t ht => ?_⟩
          walk_at "s"
          have kt : Ex H4 (upd H4 t (.tup [.int h])) := .new ht
          refine ⟨W, _, _, _, _, ne, D, [h], rfl, hw.kp (k4.trans kt), ok, hlk3.kp kt, kt.keep _ _ hpp List.not_mem_nil, hnl, ⟨t, rfl, .inr upd_same⟩, by simp, by simpa using hhn, fun xs lt H5 k5 e5 pw hm hxlt => ?_⟩
          have exs : xs = lotOf W ne D h := sorted_eq pw lot_pw fun v => by
            rw [hm v, mem_lot]
            exact ⟨fun r => ⟨hxlt v ((hm v).mpr r), r⟩, fun r => r.2⟩
          subst exs
          have k45 : Ex H4 H5 := kt.trans k5
          have hlot : ∀ v ∈ lotOf W ne D h, v < W.n := fun v hv => (mem_lot.mp hv).1
          have hlotD := lot_app (W := W) (near := ne) (h := h) hnd hhD
          have hlot8 : (lotOf W ne D h).length ≤ W.n := nodup_le _ _ lot_nd hlot
          have hDlot : (D ++ lotOf W ne D h).length ≤ W.n := nodup_le _ _ hlotD (fun v hv => (List.mem_append.mp hv).elim (hDlt v) (hlot v))
          generalize lotOf W ne D h = lot at *
          walk_at "s"
          refine ⟨Lk, rfl, ⟨_, .of (k45.keep _ _ hLk List.not_mem_nil)⟩, fun D0 hD0 => ?_⟩
          refine lc_it (walk_list (xs := rs.map V.ref)) (fun i H' => Ex H5 H' ∧ ∃ rs' : List Addr, rs'.length = i ∧ H' D0 = some (.lst (rs'.map V.ref)) ∧ (∀ r ∈ rs', r ≠ D0 ∧ H5 r = none) ∧ Rows H' rs' 200 (fun u j o b => IsLink W.ls u j o b ∧ o ∉ D ++ lot))
            ⟨.new hD0, [], rfl, upd_same, fun r hr => absurd hr List.not_mem_nil, fun u r e => by simp at e⟩ (fun i H' _ h => .of (h.1.keep _ _ (k45.keep _ _ hLk List.not_mem_nil) List.not_mem_nil)) (fun i2 x H6 H7 hi2 hx hy => ?_) (fun H6 hx => ?_)
          · obtain ⟨k6, rs', hrs', hD6, hne6, hR6⟩ := hx
            obtain ⟨rfl, ex⟩ := hy
            rw [List.length_map] at hi2
            have er : rs[i2]? = some rs[i2] := List.getElem?_eq_getElem hi2
            rw [List.getElem?_map, er] at ex
            cases ex
            obtain ⟨tl, htl, htl2, htl3, htl4⟩ := hR _ _ er
            generalize rs[i2] = r at *
            have k46 := k45.trans k6
            walk_at "s"
            refine ⟨rfl, ?_⟩
            walk_at "s"
            refine ⟨r, rfl, ⟨_, .of (k46.keep _ _ htl List.not_mem_nil)⟩, fun D1 hD1 => ?_⟩
            refine lc_it (walk_list (xs := tl.map V.ref)) (fun j H' => Ex H7 H' ∧ ∃ ts' : List Addr, H' D1 = some (.lst (ts'.map V.ref)) ∧ ts'.length ≤ j ∧ (∀ t ∈ ts', t ∈ tl ∧ ∀ jj o b, H4 t = some (.tup (lkV jj o b)) → o ∉ lot) ∧ (∀ (x : Nat) (t : Addr), x < j → tl[x]? = some t → ∀ jj o b, H4 t = some (.tup (lkV jj o b)) → o ∉ lot → t ∈ ts'))
              ⟨.new hD1, [], upd_same, Nat.le_refl _, fun t ht => absurd ht List.not_mem_nil, fun x t hx => absurd hx (Nat.not_lt_zero x)⟩ (fun i H' _ h => .of (h.1.keep _ _ (k46.keep _ _ htl List.not_mem_nil) List.not_mem_nil)) (fun i3 x H8 H9 hi3 hx hy => ?_) (fun H8 hx => ?_)
            · obtain ⟨k8, ts', hD8, hts', ha8, hb8⟩ := hx
              obtain ⟨rfl, ex⟩ := hy
              rw [List.length_map] at hi3
              have et : tl[i3]? = some tl[i3] := List.getElem?_eq_getElem hi3
              rw [List.getElem?_map, et] at ex
              cases ex
              obtain ⟨jj, oo, bb, ht4, hkl, hooD⟩ := htl3 _ (List.getElem_mem hi3)
              have hmem := List.getElem_mem hi3
              generalize tl[i3] = t4 at *
              have same4 : ∀ jj' o' b', H4 t4 = some (.tup (lkV jj' o' b')) → o' = oo := fun jj' o' b' e => by
                rw [ht4] at e
                simp at e
                omega
              walk_at "s"
              refine ⟨rfl, ?_⟩
              walk_at "s"
              refine g_ixT (j := 1) ((k46.trans k8).tup _ _ ht4) rfl ?_
              walk_at "s"
              refine g_ninT (k8.tup _ _ (k6.tup _ _ e5)) ?_
              walk_at "s"
              by_cases hol : oo ∈ lot
              · rw [decide_eq_true hol]
                refine iteF ?_
                refine ⟨k8, ts', hD8, by omega, ha8, fun x t hx e jj' o' b' ht' ho' => ?_⟩
                rcases Nat.lt_succ_iff_lt_or_eq.mp hx with z | z
                · exact hb8 x t z e jj' o' b' ht' ho'
                · subst z
                  rw [et] at e
                  cases e
                  rw [same4 _ _ _ ht'] at ho'
                  exact absurd hol ho'
              · rw [decide_eq_false hol]
                refine iteT ?_
                walk_at "s"
                refine ⟨_, hD8, small1000 (by rw [List.length_map]; omega), k8.mutL hD1 hD8, ts' ++ [t4], by rw [upd_same, List.map_append]; rfl, by rw [List.length_append]; show ts'.length + 1 ≤ _; omega, fun t5 ht5 => ?_, fun x t5 hx e jj' o' b' ht' ho' => ?_⟩
                · rcases List.mem_append.mp ht5 with z | z
                  · exact ha8 t5 z
                  · cases List.mem_singleton.mp z
                    exact ⟨hmem, fun jj' o' b' e => by rw [same4 _ _ _ e]; exact hol⟩
                · rcases Nat.lt_succ_iff_lt_or_eq.mp hx with z | z
                  · exact List.mem_append_left _ (hb8 x t5 z e jj' o' b' ht' ho')
                  · subst z
                    rw [et] at e
                    cases e
                    exact List.mem_append_right _ List.mem_cons_self
            · obtain ⟨k8, ts', hD8, hts', ha8, hb8⟩ := hx
              rw [List.length_map] at hts' hb8
              have hD08 := k8.keep _ _ hD6 List.not_mem_nil
              have hD10 : D1 ≠ D0 := (ne_of_none hD6 hD1).symm
              refine ⟨_, hD08, small1000 (by rw [List.length_map]; omega), (k6.trans k8).mutL hD0 hD08, rs' ++ [D1], by rw [List.length_append, hrs']; rfl, by rw [upd_same, List.map_append]; rfl, fun r' hr' => ?_, ?_⟩
              · rcases List.mem_append.mp hr' with z | z
                · exact hne6 r' z
                · rw [List.mem_singleton.mp z]
                  exact ⟨hD10, k6.free hD1⟩
              · have kD : Kp [D0] H8 (upd H8 D0 (.lst (rs'.map V.ref ++ [.ref D1]))) := .setL hD08 (by simp)
                have hR9 := (hR6.kp k8 fun _ _ => List.not_mem_nil).kp kD fun r' hr' => by simpa using (hne6 r' hr').1
                have tup9 : ∀ t xs, H4 t = some (.tup xs) → (upd H8 D0 (.lst (rs'.map V.ref ++ [.ref D1]))) t = some (.tup xs) := fun t xs e => kD.tup _ _ ((k46.trans k8).tup _ _ e)
                refine hR9.snoc (ts := ts') (by rw [upd_ne hD10]; exact hD8) (by omega) (fun t5 ht5 => ?_) (fun jj oo bb hp5 => ?_)
                · obtain ⟨m1, m2⟩ := ha8 t5 ht5
                  obtain ⟨jj, oo, bb, e4, hkl, hoD⟩ := htl3 t5 m1
                  rw [hrs']
                  exact ⟨jj, oo, bb, tup9 _ _ e4, hkl, fun z => (List.mem_append.mp z).elim hoD (m2 _ _ _ e4)⟩
                · rw [hrs'] at hp5
                  obtain ⟨t5, m1, e4⟩ := htl4 jj oo bb ⟨hp5.1, fun z => hp5.2 (List.mem_append_left _ z)⟩
                  obtain ⟨x5, hx5⟩ := List.mem_iff_getElem?.mp m1
                  exact ⟨t5, hb8 x5 t5 (List.getElem?_eq_some_iff.mp hx5).1 hx5 _ _ _ e4 fun z => hp5.2 (List.mem_append_right _ z), tup9 _ _ e4⟩
          · obtain ⟨k6, rs', hrs', hD6, hne6, hR6⟩ := hx
            rw [List.length_map, hrl] at hrs'
            have k46 := k45.trans k6
            have hL6 := k46.keep _ _ hL3 List.not_mem_nil
            have hDn6 := k46.keep _ _ hD3 List.not_mem_nil
            walk_at "s"
            refine g_ty hL6 ?_
            walk_at "s"
            refine g_app hL6 (by rw [List.length_map, hlo.1]; omega) ?_
            walk_at "s"
            have kA : Kp [Lt] H6 (upd H6 Lt (.lst (ts.map V.ref ++ [.ref lt]))) := .setL hL6 (by simp)
            have hDn7 := kA.keep _ _ hDn6 (by simpa using hLD.symm)
            refine g_ty hDn7 ?_
            walk_at "s"
            refine ⟨Dn, lt, _, _, rfl, rfl, hDn7, .of (kA.tup _ _ (k6.tup _ _ e5)), ?_, ?_⟩
            · rw [zs_len, zs_len, hs_len, hs_len]
              rw [List.length_append] at hDlot
              have := small1000 (n := W.n) (by omega)
              omega
            walk_at "s"
            have kB : Kp [Lt, Dn] H6 (upd (upd H6 Lt (.lst (ts.map V.ref ++ [.ref lt]))) Dn (.lst (zs (hs D) ++ zs (hs lot)))) := (kA.mono fun x hx => by simp at hx; simp [hx]).trans (.setL hDn7 (by simp))
            have kF : Ex H (upd (upd H6 Lt (.lst (ts.map V.ref ++ [.ref lt]))) Dn (.lst (zs (hs D) ++ zs (hs lot)))) := ((k4.trans k46).mutL hLH hL6).mutL hDH hDn7
            have nD0L : D0 ≠ Lt := fun z => by rw [z, k45.keep _ _ hL3 List.not_mem_nil] at hD0; cases hD0
            have nD0D : D0 ≠ Dn := fun z => by rw [z, k45.keep _ _ hD3 List.not_mem_nil] at hD0; cases hD0
            refine ⟨.ref D0, D ++ lot, lots ++ [lot], ts ++ [lt], _, _, _, _, _, rfl, kF, ?_, ?_, ?_, ?_, ?_, hlotD, fun v hv => (List.mem_append.mp hv).elim (hDlt v) (hlot v), fun l hl' => ?_, by rw [List.length_append]; show lots.length + 1 ≤ _; omega, hpe2⟩
            · exact kB.keep _ _ (k46.keep _ _ ht3 List.not_mem_nil) (by simp [htL, htD])
            · rw [upd_ne hLD, upd_same, List.map_append]
              rfl
            · exact ((hlo.kp k46).kp kB).snoc (kB.tup _ _ (k6.tup _ _ e5))
            · rw [upd_same, hs, hs, hs, List.map_append, zs, zs, zs, List.map_append]
            · have nL : ∀ r ∈ rs', r ≠ Lt := fun r hr z => by
                have := (hne6 r hr).2
                rw [z, k45.keep _ _ hL3 List.not_mem_nil] at this
                cases this
              have nD : ∀ r ∈ rs', r ≠ Dn := fun r hr z => by
                have := (hne6 r hr).2
                rw [z, k45.keep _ _ hD3 List.not_mem_nil] at this
                cases this
              refine ⟨D0, rs', rfl, ?_, hrs', List.not_mem_nil, fun _ _ => List.not_mem_nil, hR6.kp kB fun r hr => by simp [nL r hr, nD r hr]⟩
              rw [upd_ne nD0D, upd_ne nD0L]
              exact hD6
            · rcases List.mem_append.mp hl' with z | z
              · exact hllt l z
              · rw [List.mem_singleton.mp z]
                exact hlot
    · obtain ⟨lk', D, lots, ts, y8, y9, y10, y11, y12, rfl, k3, ht3, hL3, hlo, hD3, hlk3, hnd, hDlt, hllt, hll, hpe⟩ := h
      rw [zs_len, hs_len, List.drop_of_length_le (by rw [List.length_zip]; omega)] at hpe
      rw [show peelL W near [] D = [] from rfl, List.append_nil] at hpe
      walk_at "s"
      refine g_ixT (j := 0) (k3.tup _ _ ha) rfl ?_
      walk_at "s"
      refine ⟨W.n, Lt, ts, lots, rfl, hn8, hL3, hlo, hllt, fun q2 H4 k4 e4 => ?_⟩
      rw [hpe] at e4
      exact q q2 H4 (k3.trans k4) e4
end
end K8
set_option Elab.async false
set_option linter.all false
set_option maxRecDepth 100000
set_option maxHeartbeats 4000000
namespace K8
open PySem PySem.Spec PyProof.Rows L2
local macro_rules | `(tactic| walk_at "s") => `(tactic| repeat (first
  | with_reducible refine g_seq ?_ | with_reducible refine g_ret ?_ | with_reducible refine g_asg ?_ | with_reducible refine g_name ?_ | with_reducible refine g_c ?_ | with_reducible refine g_op ?_ | with_reducible refine g_cons ?_ | with_reducible refine g_nil ?_
  | (with_reducible show tVar _ _ _ _; refine g_var rfl ?_) | with_reducible refine g_cb ?_ | with_reducible refine g_call ?_ | with_reducible refine g_if ?_ | with_reducible refine g_test ?_ | with_reducible refine g_tB ?_ | with_reducible refine g_i0 ?_ | with_reducible refine g_bl ?_
  | with_reducible refine g_add ?_ | with_reducible refine g_sub ?_ | with_reducible refine g_eqI ?_ | with_reducible refine g_neI ?_ | with_reducible refine g_drop ?_ | with_reducible refine g_next ?_ | with_reducible refine g_break ?_ | with_reducible refine g_un ?_ | with_reducible refine g_u ?_
  | with_reducible refine g_ifE ?_ | with_reducible refine g_and ?_ | with_reducible refine g_or ?_ | with_reducible refine g_not ?_ | with_reducible refine g_andV ?_ | with_reducible refine g_orV ?_ | with_reducible refine g_notV ?_ | with_reducible refine g_isN ?_ | with_reducible refine g_notN ?_
  | with_reducible refine g_gnil ?_ | with_reducible refine g_gcons ?_ | with_reducible refine g_bm ?_ | with_reducible refine g_abs ?_ | with_reducible refine g_max ?_ | with_reducible refine g_min ?_ | with_reducible refine g_int ?_ | with_reducible refine g_lc ?_ | with_reducible refine g_for ?_ | with_reducible refine g_yes ?_ | with_reducible refine g_rng1 ?_ | with_reducible refine g_rng2 ?_ | with_reducible refine g_il ?_ | with_reducible refine g_it ?_ | with_reducible refine g_en ?_ | with_reducible refine g_zp ?_ | with_reducible refine g_mkT ?_ | with_reducible refine g_mkL ?_ | with_reducible refine g_augS ?_ | (with_reducible show tAug _ _ _ _ _ _; refine g_aug rfl ?_) | with_reducible refine g_ipI ?_ | with_reducible refine g_gsub ?_ | with_reducible refine g_dget ?_ | with_reducible refine g_din ?_ | with_reducible refine g_dnotin ?_ | with_reducible refine g_dput ?_ | with_reducible refine g_dc ?_ | with_reducible refine g_sl ?_ | with_reducible refine g_nopart ?_ | with_reducible refine g_part ?_ | with_reducible refine g_exI ?_ | with_reducible refine g_revL ?_ | (with_reducible show iSq _ _ _ _; refine g_sq rfl ?_) | with_reducible refine g_while ?_ | with_reducible refine g_min3 ?_ | with_reducible refine g_trq ?_ | with_reducible refine g_lock ?_ | with_reducible refine g_mko ?_ | with_reducible refine g_keys ?_ | with_reducible refine g_eqS ?_ | with_reducible refine g_lrg ?_ | with_reducible refine g_trg ?_ | with_reducible refine g_rg1 ?_ | with_reducible refine iteT ?_ | with_reducible refine iteF ?_))
theorem g_repT {H : Hp} {Q : VK} {K : PySem.W.Frag} {p : Addr} {v : V} {n : Nat} (e : H p = some (.tup [v])) (h1 : 1 ≤ n) (hn : n ≤ 1000) (h : ∀ (q : Addr) (H' : Hp), Ex H H' → H' q = some (.tup (List.replicate n v)) → Q (.ref q) H') :
    rRepT K (.ref p) (.int (n : Nat)) H Q ∨ rRepT1 K (.ref p) (.int (n : Nat)) H Q := by
  by_cases z : n = 1
  · subst z
    exact .inr ⟨p, [v], rfl, rfl, .of e, h p H (.refl _ _) e⟩
  · refine .inl ⟨p, n, [v], rfl, rfl, .of e, (by simp), by omega, by omega, by simp, fun q hq => ?_⟩
    have : (List.replicate ((n : Nat) : Int).toNat [v]).flatten = List.replicate n v := by
      show (List.replicate n [v]).flatten = _
      clear h h1 hn z
      induction n with
      | zero => rfl
      | succ n ih =>
        rw [List.replicate_succ, List.flatten_cons, List.replicate_succ, ih]
        rfl
    rw [this]
    exact h q _ (.new hq) upd_same
section
variable {P : Program} {w : World} {K : PySem.W.Frag} {mg : Str → Option Value} {base : Heap} {f : Addr} {fd : FuncData} {k : Nat}
def PeelQ (W : Wb) (ps : List Int) (os : List Nat) (bs : List Bool) (H : Hp) (Q : VK) : Prop := ∀ (near : List Int) (q : Addr) (H' : Hp), Ex H H' → Split W.ls near → (∀ v, v < W.n → ps.getD v 0 = purse W.ls near v) → H' q = some (.tup (zs (joinOf W.n (peelL W near (os.zip bs) [])))) → Q (.ref q) H'
theorem PeelQ.kp {W : Wb} {ps : List Int} {os : List Nat} {bs : List Bool} {H H1 : Hp} {Q : VK} (h : PeelQ W ps os bs H Q) (k : Ex H H1) : PeelQ W ps os bs H1 Q := fun near q H' k' => h near q H' (k.trans k')
theorem IsOrd.len {n : Nat} {d : PyData} {os : List Nat} (h : IsOrd n d os) : os.length = n := by rw [h.2.length_eq, List.length_range]
theorem IsOrd.lt {n : Nat} {d : PyData} {os : List Nat} (h : IsOrd n d os) : ∀ x ∈ os, x < n := fun x hx => List.mem_range.mp (h.2.mem_iff.mp hx)
theorem IsOrd.at {n : Nat} {d : PyData} {os : List Nat} {S : List Addr} {H : Hp} {v : V} (h : IsOrd n d os) (hd : Da S H v d) : ∃ a, v = .ref a ∧ H a = some (.tup (zs (hs os))) := by
  obtain ⟨rfl, _⟩ := h
  obtain ⟨a, xs, rfl, ha, hx⟩ := hd.tup_inv
  have : DaAll S H xs ((hs os).map PyData.int) := by rw [hs, List.map_map]; exact hx
  rw [this.ints_inv] at ha
  exact ⟨a, rfl, ha⟩
theorem sides_inv {S : List Addr} {H : Hp} : ∀ {bs : List Bool} {vs : List V}, DaAll S H vs (bs.map fun b => PyData.str (sd b)) → vs = sdV bs
  | [], _, h => by cases h; rfl
  | b :: r, _, h => by
    cases h with
    | cons h1 h2 =>
      cases h1
      rw [sides_inv h2]
      rfl
theorem IsSides.at {n : Nat} {d : PyData} {bs : List Bool} {S : List Addr} {H : Hp} {v : V} (h : IsSides n d bs) (hd : Da S H v d) : ∃ a, v = .ref a ∧ H a = some (.tup (sdV bs)) := by
  obtain ⟨rfl, _⟩ := h
  obtain ⟨a, xs, rfl, ha, hx⟩ := hd.tup_inv
  rw [sides_inv hx] at ha
  exact ⟨a, rfl, ha⟩
theorem sc_peel_of : FnScope ["web", "purses", "order", "links", "near"] ["web", "purses", "order"] (defScope s_peel_of) := ⟨rfl, rfl, rfl, by decide +kernel, rfl, by decide +kernel, by decide +kernel⟩
def sp_peel_of (K : PySem.W.Frag) : Sp := fun vs H Q E => ∃ (W : Wb) (u v1 v2 : V) (S1 S2 : List Addr) (d1 d2 : PyData), vs = [u, v1, v2] ∧ WebAt H u W ∧ WebOk W ∧ Da S1 H v1 d1 ∧ Da S2 H v2 d2 ∧
  ((∃ ps, GoodP W d1 ps ∧ (∀ os, IsOrd W.n d2 os → PeelQ W ps os (List.replicate W.n true) H Q) ∧ ((¬ ∃ os, IsOrd W.n d2 os) → Out K [] H E "order")) ∨ (BadP W d1 ∧ Out K [] H E "purses"))
theorem ok_peel_of (F : Fun K "peel_of" "peel_of" s_peel_of f fd) (T : Txt mg) (N : NI P w K mg base) (c_b_links : Cal P w K mg base 1 "b_links" sp_b_links) (c_b_held : CalX P w K mg base 4 "b_held" ["web", "links", "purses"] (sp_b_held K)) (c_b_is_order : Cal P w K mg base 3 "b_is_order" sp_b_is_order)
    (c_b_peel : Cal P w K mg base 3 "b_peel" sp_b_peel) : FnOk P w K mg base (L2.CX P w) 5 f fd ["web", "purses", "order"] (sp_peel_of K) := by
  have sc := sc_peel_of
  have NUx := N.nu
  have gI := N.gI
  obtain ⟨fdI, cI, bI⟩ := N.ini
  refine F.okX sc (fun vs H Q E h => ?_) (fun cdv A outer s H vs Q E hr h => ?_)
  · obtain ⟨W, u, v1, v2, S1, S2, d1, d2, rfl, _⟩ := h
    rfl
  · obtain ⟨W, u, v1, v2, S1, S2, d1, d2, rfl, hw, ok, hd1, hd2, hor⟩ := h
    refine ⟨_, (pss_cons (ps_set (i := 3) sc.nd rfl (by first | exact Or.inl rfl | exact Or.inr rfl) (pe_c c_b_links hr (by decide) (by rfl) (pa_cons (pv 0) pa_nil)))
      (pss_cons (ps_set (i := 4) sc.nd rfl (by first | exact Or.inl rfl | exact Or.inr rfl) (pe_cx c_b_held hr (by decide) (by rfl) (passes_call (takes_of rfl rfl rfl rfl) (fun _ _ _ _ h => h)) (pa_cons (pv 0) (pa_cons (pv 3) (pa_cons (pv 1) pa_nil)))))
      (pss_cons (ps_if (pt_not (pt_val (pe_c c_b_is_order hr (by decide) (by rfl) (pa_cons (pe_ix (kx_tup (K := K) rfl) (pv 0) pe_int (fun _ _ => rfl)) (pa_cons (pv 2) pa_nil)))))
        (pss_one (ps_raise rfl (takes_of rfl rfl rfl rfl) (pmk_oex NUx.oex NUx.iC NUx.tI cI (hr.mono (by decide)) bI .nil pass0 (by rfl) gI (pa_cons pe_str (pa_cons (pe_un un_neg pe_int) pa_nil)))))
        pss_nil)
      (pss_one (ps_ret (pe_c c_b_peel hr (by decide) (by rfl) (pa_cons (pv 0) (pa_cons (pv 3) (pa_cons (pv 4) (pa_cons (pv 2) (pa_cons (pe_op op_repTk (pe_tup (pa_cons pe_str pa_nil)) (pe_ix (kx_tup (K := K) rfl) (pv 0) pe_int (fun _ _ => rfl))) pa_nil))))))))))), ?_⟩
    walk_at "s"
    refine ⟨W, u, rfl, hw, ok, fun H1 lk k1 hlk => ?_⟩
    walk_at "s"
    have hlk1 := hlk [] fun _ h => nomatch h
    refine ⟨W, u, lk, v1, S1, d1, rfl, hw.kp k1, ok, hlk1, hd1.kp (.of_ex k1), ?_⟩
    rcases hor with ⟨ps, g, qq, qo⟩ | ⟨b, o⟩
    · refine .inl ⟨ps, g, fun near q H2 k2 hq1 hq2 hs hpv => ?_⟩
      have k12 := k1.trans k2
      obtain ⟨a, c, ls, rfl, ha, hc, hl⟩ := hw.kp k12
      have hw2 : WebAt H2 (.ref a) W := ⟨a, c, ls, rfl, ha, hc, hl⟩
      walk_at "s"
      refine g_ixT (j := 0) ha rfl ?_
      walk_at "s"
      refine ⟨S2, W.n, v2, d2, rfl, ok.2.1, hd2.kp (.of_ex k12), fun b H3 k3 hb => ?_⟩
      have k13 := k12.trans k3
      walk_at "s"
      cases b with
      | true =>
        obtain ⟨os, ho⟩ := hb.mp rfl
        refine iteF ?_
        walk_at "s"
        refine ⟨sz, fun t ht => ?_⟩
        walk_at "s"
        have k4 : Ex H3 (upd H3 t (.tup [.str "out"])) := .new ht
        refine g_ixT (j := 0) (k4.tup _ _ (k3.tup _ _ ha)) rfl ?_
        refine g_repT upd_same ok.1 (by have := ok.2.1; omega) fun q5 H5 k5 e5 => ?_
        have k35 := k4.trans k5
        have k15 := k13.trans k35
        obtain ⟨oa, rfl, hoa⟩ := ho.at (hd2.kp (.of_ex k15))
        walk_at "s"
        refine ⟨W, _, lk, q, oa, q5, near, os, List.replicate W.n true, rfl, hw2.kp (k3.trans k35), ok, hlk1.kp (k2.trans (k3.trans k35)), (k3.trans k35).keep _ _ hq2 List.not_mem_nil, hs, hoa, ?_, by rw [ho.len, List.length_replicate], by rw [ho.len]; exact ok.2.1, ho.lt, fun q6 H6 k6 e6 => qq os ho near q6 H6 (k15.trans k6) hs hpv e6⟩
        rw [e5, sdV, List.map_replicate]
        rfl
      | false =>
        refine iteT ?_
        walk_at "s"
        exact ⟨by show 2 ≤ 1000; decide, fun a ha => raise_nu ((qo fun z => nomatch hb.mpr z).kp k13) a ha⟩
    · exact .inr ⟨b, o.kp k1⟩
theorem sc_peel_either : FnScope ["web", "purses", "order", "sides", "links", "near"] ["web", "purses", "order", "sides"] (defScope s_peel_either) := ⟨rfl, rfl, rfl, by decide +kernel, rfl, by decide +kernel, by decide +kernel⟩
def sp_peel_either (K : PySem.W.Frag) : Sp := fun vs H Q E => ∃ (W : Wb) (u v1 v2 v3 : V) (S1 S2 S3 : List Addr) (d1 d2 d3 : PyData), vs = [u, v1, v2, v3] ∧ WebAt H u W ∧ WebOk W ∧ Da S1 H v1 d1 ∧ Da S2 H v2 d2 ∧ Da S3 H v3 d3 ∧
  ((∃ ps, GoodP W d1 ps ∧ (∀ os bs, IsOrd W.n d2 os → IsSides W.n d3 bs → PeelQ W ps os bs H Q) ∧ ((¬ ∃ os, IsOrd W.n d2 os) → Out K [] H E "order") ∧ ((∃ os, IsOrd W.n d2 os) → (¬ ∃ bs, IsSides W.n d3 bs) → Out K [] H E "sides")) ∨ (BadP W d1 ∧ Out K [] H E "purses"))
theorem ok_peel_either (F : Fun K "peel_either" "peel_either" s_peel_either f fd) (T : Txt mg) (N : NI P w K mg base) (c_b_links : Cal P w K mg base 1 "b_links" sp_b_links) (c_b_held : CalX P w K mg base 4 "b_held" ["web", "links", "purses"] (sp_b_held K)) (c_b_is_order : Cal P w K mg base 3 "b_is_order" sp_b_is_order)
    (c_b_are_sides : Cal P w K mg base 1 "b_are_sides" sp_b_are_sides) (c_b_peel : Cal P w K mg base 3 "b_peel" sp_b_peel) : FnOk P w K mg base (L2.CX P w) 5 f fd ["web", "purses", "order", "sides"] (sp_peel_either K) := by
  have sc := sc_peel_either
  have NUx := N.nu
  have gI := N.gI
  obtain ⟨fdI, cI, bI⟩ := N.ini
  refine F.okX sc (fun vs H Q E h => ?_) (fun cdv A outer s H vs Q E hr h => ?_)
  · obtain ⟨W, u, v1, v2, v3, S1, S2, S3, d1, d2, d3, rfl, _⟩ := h
    rfl
  · obtain ⟨W, u, v1, v2, v3, S1, S2, S3, d1, d2, d3, rfl, hw, ok, hd1, hd2, hd3, hor⟩ := h
    refine ⟨_, (pss_cons (ps_set (i := 4) sc.nd rfl (by first | exact Or.inl rfl | exact Or.inr rfl) (pe_c c_b_links hr (by decide) (by rfl) (pa_cons (pv 0) pa_nil)))
      (pss_cons (ps_set (i := 5) sc.nd rfl (by first | exact Or.inl rfl | exact Or.inr rfl) (pe_cx c_b_held hr (by decide) (by rfl) (passes_call (takes_of rfl rfl rfl rfl) (fun _ _ _ _ h => h)) (pa_cons (pv 0) (pa_cons (pv 4) (pa_cons (pv 1) pa_nil)))))
      (pss_cons (ps_if (pt_not (pt_val (pe_c c_b_is_order hr (by decide) (by rfl) (pa_cons (pe_ix (kx_tup (K := K) rfl) (pv 0) pe_int (fun _ _ => rfl)) (pa_cons (pv 2) pa_nil)))))
        (pss_one (ps_raise rfl (takes_of rfl rfl rfl rfl) (pmk_oex NUx.oex NUx.iC NUx.tI cI (hr.mono (by decide)) bI .nil pass0 (by rfl) gI (pa_cons pe_str (pa_cons (pe_un un_neg pe_int) pa_nil)))))
        pss_nil)
      (pss_cons (ps_if (pt_not (pt_val (pe_c c_b_are_sides hr (by decide) (by rfl) (pa_cons (pe_ix (kx_tup (K := K) rfl) (pv 0) pe_int (fun _ _ => rfl)) (pa_cons (pv 3) pa_nil)))))
        (pss_one (ps_raise rfl (takes_of rfl rfl rfl rfl) (pmk_oex NUx.oex NUx.iC NUx.tI cI (hr.mono (by decide)) bI .nil pass0 (by rfl) gI (pa_cons pe_str (pa_cons (pe_un un_neg pe_int) pa_nil)))))
        pss_nil)
      (pss_one (ps_ret (pe_c c_b_peel hr (by decide) (by rfl) (pa_cons (pv 0) (pa_cons (pv 4) (pa_cons (pv 5) (pa_cons (pv 2) (pa_cons (pv 3) pa_nil)))))))))))), ?_⟩
    walk_at "s"
    refine ⟨W, u, rfl, hw, ok, fun H1 lk k1 hlk => ?_⟩
    walk_at "s"
    have hlk1 := hlk [] fun _ h => nomatch h
    refine ⟨W, u, lk, v1, S1, d1, rfl, hw.kp k1, ok, hlk1, hd1.kp (.of_ex k1), ?_⟩
    rcases hor with ⟨ps, g, qq, qo, qs⟩ | ⟨b, o⟩
    · refine .inl ⟨ps, g, fun near q H2 k2 hq1 hq2 hs hpv => ?_⟩
      have k12 := k1.trans k2
      obtain ⟨a, c, ls, rfl, ha, hc, hl⟩ := hw.kp k12
      have hw2 : WebAt H2 (.ref a) W := ⟨a, c, ls, rfl, ha, hc, hl⟩
      walk_at "s"
      refine g_ixT (j := 0) ha rfl ?_
      walk_at "s"
      refine ⟨S2, W.n, v2, d2, rfl, ok.2.1, hd2.kp (.of_ex k12), fun b H3 k3 hb => ?_⟩
      have k13 := k12.trans k3
      walk_at "s"
      cases b with
      | true =>
        obtain ⟨os, ho⟩ := hb.mp rfl
        refine iteF ?_
        walk_at "s"
        refine g_ixT (j := 0) (k3.tup _ _ ha) rfl ?_
        walk_at "s"
        refine ⟨S3, W.n, v3, d3, rfl, ok.2.1, hd3.kp (.of_ex k13), fun b4 H4 k4 hb4 => ?_⟩
        have k14 := k13.trans k4
        walk_at "s"
        cases b4 with
        | true =>
          obtain ⟨bs, hbs⟩ := hb4.mp rfl
          refine iteF ?_
          walk_at "s"
          obtain ⟨oa, rfl, hoa⟩ := ho.at (hd2.kp (.of_ex k14))
          obtain ⟨sa, rfl, hsa⟩ := hbs.at (hd3.kp (.of_ex k14))
          refine ⟨W, _, lk, q, oa, sa, near, os, bs, rfl, hw2.kp (k3.trans k4), ok, hlk1.kp (k2.trans (k3.trans k4)), (k3.trans k4).keep _ _ hq2 List.not_mem_nil, hs, hoa, hsa, by rw [ho.len, hbs.2], by rw [ho.len]; exact ok.2.1, ho.lt, fun q6 H6 k6 e6 => qq os bs ho hbs near q6 H6 (k14.trans k6) hs hpv e6⟩
        | false =>
          refine iteT ?_
          walk_at "s"
          exact ⟨by show 2 ≤ 1000; decide, fun a ha => raise_nu ((qs ⟨os, ho⟩ fun z => nomatch hb4.mpr z).kp k14) a ha⟩
      | false =>
        refine iteT ?_
        walk_at "s"
        exact ⟨by show 2 ≤ 1000; decide, fun a ha => raise_nu ((qo fun z => nomatch hb.mpr z).kp k13) a ha⟩
    · exact .inr ⟨b, o.kp k1⟩
theorem sc_classes_of : FnScope ["web", "purses", "coins", "links", "near", "joining", "house", "least", "other"] ["web", "purses", "coins"] (defScope s_classes_of) := ⟨rfl, rfl, rfl, by decide +kernel, rfl, by decide +kernel, by decide +kernel⟩
def sp_classes_of (K : PySem.W.Frag) : Sp := fun vs H Q E => ∃ (W : Wb) (u v1 v2 : V) (S1 S2 : List Addr) (d1 d2 : PyData), vs = [u, v1, v2] ∧ WebAt H u W ∧ WebOk W ∧ Da S1 H v1 d1 ∧ Da S2 H v2 d2 ∧
  ((∃ ps, GoodP W d1 ps ∧ (∀ c : Int, d2 = .int c → 1 ≤ c → ∀ xs, IsClass W.n (Both W (fun v => ps.getD v 0) c) xs → NewT H Q xs) ∧ (isC d2 = false → Out K [] H E "coins")) ∨ (BadP W d1 ∧ Out K [] H E "purses"))
theorem flows_both {W : Wb} (ok : WebOk W) {near : List Int} (hs : Split W.ls near) {p : Nat → Int} (hp : ∀ v, v < W.n → p v = purse W.ls near v) {c : Int} {a b : Nat} : Flows W near c a b ∧ Flows W near c b a ↔ Both W p c a b := by
  unfold Flows Both
  constructor
  · rintro ⟨h1, h2⟩
    exact ⟨fun X x1 x2 => by rw [slack_cut ok hs.1 hp]; exact h1 X x1 x2, fun X x1 x2 => by rw [slack_cut ok hs.1 hp]; exact h2 X x1 x2⟩
  · rintro ⟨h1, h2⟩
    exact ⟨fun X x1 x2 => by rw [← slack_cut ok hs.1 hp]; exact h1 X x1 x2, fun X x1 x2 => by rw [← slack_cut ok hs.1 hp]; exact h2 X x1 x2⟩
theorem ok_classes_of (F : Fun K "classes_of" "classes_of" s_classes_of f fd) (T : Txt mg) (N : NI P w K mg base) (c_b_links : Cal P w K mg base 1 "b_links" sp_b_links) (c_b_held : CalX P w K mg base 4 "b_held" ["web", "links", "purses"] (sp_b_held K)) (c_b_is_coins : Cal P w K mg base 2 "b_is_coins" sp_b_is_coins)
    (c_b_both_pay : Cal P w K mg base 4 "b_both_pay" sp_b_both_pay) : FnOk P w K mg base (L2.CX P w) 5 f fd ["web", "purses", "coins"] (sp_classes_of K) := by
  have sc := sc_classes_of
  have NUx := N.nu
  have gI := N.gI
  obtain ⟨fdI, cI, bI⟩ := N.ini
  refine F.okX sc (fun vs H Q E h => ?_) (fun cdv A outer s H vs Q E hr h => ?_)
  · obtain ⟨W, u, v1, v2, S1, S2, d1, d2, rfl, _⟩ := h
    rfl
  · obtain ⟨W, u, v1, v2, S1, S2, d1, d2, rfl, hw, ok, hd1, hd2, hor⟩ := h
    refine ⟨_, (pss_cons (ps_set (i := 3) sc.nd rfl (by first | exact Or.inl rfl | exact Or.inr rfl) (pe_c c_b_links hr (by decide) (by rfl) (pa_cons (pv 0) pa_nil)))
      (pss_cons (ps_set (i := 4) sc.nd rfl (by first | exact Or.inl rfl | exact Or.inr rfl) (pe_cx c_b_held hr (by decide) (by rfl) (passes_call (takes_of rfl rfl rfl rfl) (fun _ _ _ _ h => h)) (pa_cons (pv 0) (pa_cons (pv 3) (pa_cons (pv 1) pa_nil)))))
      (pss_cons (ps_if (pt_not (pt_val (pe_c c_b_is_coins hr (by decide) (by rfl) (pa_cons (pv 2) pa_nil))))
        (pss_one (ps_raise rfl (takes_of rfl rfl rfl rfl) (pmk_oex NUx.oex NUx.iC NUx.tI cI (hr.mono (by decide)) bI .nil pass0 (by rfl) gI (pa_cons pe_str (pa_cons (pe_un un_neg pe_int) pa_nil)))))
        pss_nil)
      (pss_cons (ps_set (i := 5) sc.nd rfl (by first | exact Or.inl rfl | exact Or.inr rfl) (pe_lst pa_nil))
      (pss_cons (ps_for (passes_of rfl) rfl (pi_range1 (by rfl) T.range (pa_cons (pe_ix (kx_tup (K := K) rfl) (pv 0) pe_int (fun _ _ => rfl)) pa_nil)) (pg_name (i := 6) sc.nd rfl (by first | exact Or.inl rfl | exact Or.inr rfl))
        (pss_cons (ps_set (i := 7) sc.nd rfl (by first | exact Or.inl rfl | exact Or.inr rfl) (pv 6))
        (pss_cons (ps_for (passes_of rfl) rfl (pi_range1 (by rfl) T.range (pa_cons (pv 6) pa_nil)) (pg_name (i := 8) sc.nd rfl (by first | exact Or.inl rfl | exact Or.inr rfl))
          (pss_one (ps_if (PW.pt (pw_and (pt_cmpR op_eq (pe_ix (kx_list (K := K) rfl) (pv 5) (pv 8) (fun _ _ => rfl)) (pv 8) (nomark _)) (pw_and1 (pt_val (pe_c c_b_both_pay hr (by decide) (by rfl) (pa_cons (pv 0) (pa_cons (pv 3) (pa_cons (pv 4) (pa_cons (pv 8) (pa_cons (pv 6) (pa_cons (pv 2) pa_nil)))))))))))
            (pss_cons (ps_set (i := 7) sc.nd rfl (by first | exact Or.inl rfl | exact Or.inr rfl) (pv 8))
            (pss_one ps_break))
            pss_nil)))
        (pss_one (ps_expr (pe_bm PySem.F.plainAttrs_list PySem.F.slot_list_append PySem.F.type_list_append mt_append (pv 5) (pa_cons (pv 7) pa_nil)))))))
      (pss_one (ps_ret (pe_callTy (kq_tup (K := K) rfl) (by rfl) T.tuple (by decide +kernel) (pa_cons (pv 5) pa_nil))))))))), ?_⟩
    walk_at "s"
    refine ⟨W, u, rfl, hw, ok, fun H1 lk k1 hlk => ?_⟩
    walk_at "s"
    have hlk1 := hlk [] fun _ h => nomatch h
    refine ⟨W, u, lk, v1, S1, d1, rfl, hw.kp k1, ok, hlk1, hd1.kp (.of_ex k1), ?_⟩
    rcases hor with ⟨ps, g, qq, qo⟩ | ⟨b, o⟩
    · refine .inl ⟨ps, g, fun near q H2 k2 hq1 hq2 hspl hpv => ?_⟩
      have k12 := k1.trans k2
      have hlk2 := hlk1.kp k2
      obtain ⟨a, c, ls, rfl, ha, hc, hl⟩ := hw.kp k12
      have hw2 : WebAt H2 (.ref a) W := ⟨a, c, ls, rfl, ha, hc, hl⟩
      walk_at "s"
      refine ⟨S2, v2, d2, rfl, hd2.kp (.of_ex k12), ?_⟩
      walk_at "s"
      cases hC : isC d2 with
      | true =>
        refine iteF ?_
        walk_at "s"
        cases hd2 with
        | int cc =>
          have hcc : 1 ≤ cc := of_decide_eq_true hC
          have hn8 := ok.2.1
          refine ⟨sz, fun J hJ => ?_⟩
          walk_at "s"
          have kJ : Ex H2 (upd H2 J (.lst [])) := .new hJ
          refine g_ixT (j := 0) (kJ.tup _ _ ha) rfl ?_
          walk_at "s"
          refine ⟨_, rfl, by omega, by omega, ?_⟩
          refine for_range (n := W.n) (fun i σ H' => ∃ (xs : List Nat) (y6 y7 y8 : Option V), σ = [some (.ref a), some v1, some (.int cc), some lk, some (.ref q), some (.ref J), y6, y7, y8] ∧ Ex H2 H' ∧ H' J = some (.lst (zs (hs xs))) ∧ IsClass i (Both W (fun v => ps.getD v 0) cc) xs)
            ⟨[], _, _, _, rfl, kJ, upd_same, rfl, fun v hv => absurd hv (Nat.not_lt_zero v)⟩ (fun i σ H3 hi hx => ?_) (fun σ H3 hx => ?_)
          · obtain ⟨xs, y6, y7, y8, rfl, k3, hJ3, cl⟩ := hx
            rw [show ((0 : Int) + (i : Int)) = (i : Int) from Int.zero_add _]
            walk_at "s"
            refine ⟨_, rfl, by omega, by omega, ?_⟩
            refine for_range (n := i) (fun j σ H' => ∃ (y8 : Option V), σ = [some (.ref a), some v1, some (.int cc), some lk, some (.ref q), some (.ref J), some (.int (i : Int)), some (.int (i : Int)), y8] ∧ Ex H2 H' ∧ H' J = some (.lst (zs (hs xs))) ∧ ∀ o, o < j → ¬ (xs[o]? = some o ∧ Both W (fun v => ps.getD v 0) cc o i))
              ⟨_, rfl, k3, hJ3, fun o ho => absurd ho (Nat.not_lt_zero o)⟩ (fun j σ H4 hj hx => ?_) (fun σ H4 hx => ?_)
            · obtain ⟨y8, rfl, k4, hJ4, hno⟩ := hx
              rw [show ((0 : Int) + (j : Int)) = (j : Int) from Int.zero_add _]
              obtain ⟨m, em, hm1, hm2, hm3⟩ := cl.2 j hj
              walk_at "s"
              refine g_ixL (j := j) hJ4 (hs_get em) ?_
              walk_at "s"
              by_cases hmj : m = j
              · subst hmj
                rw [decide_eq_true rfl]
                refine iteT ?_
                walk_at "s"
                refine ⟨W, _, lk, q, near, m, i, cc, rfl, hw2.kp k4, ok, hlk2.kp k4, k4.keep _ _ hq2 List.not_mem_nil, hspl, by omega, hi, by omega, by omega, fun b H5 k5 hb => ?_⟩
                rw [flows_both ok hspl hpv] at hb
                have hJ5 := k5.keep _ _ hJ4 List.not_mem_nil
                have k45 := k4.trans k5
                walk_at "s"
                cases b with
                | true =>
                  refine iteT ?_
                  walk_at "s"
                  refine g_ty hJ5 ?_
                  walk_at "s"
                  refine g_app hJ5 (by rw [zs_len, hs_len, cl.1]; omega) ?_
                  walk_at "s"
                  refine ⟨xs ++ [m], _, _, _, rfl, k45.mutL hJ hJ5, by rw [upd_same]; simp [zs, hs], cl.snoc (by omega) (.inr (hb.mp rfl)) ?_⟩
                  exact class_none (fun _ _ _ => Both.trans) cl (by omega) hno
                | false =>
                  refine iteF ?_
                  walk_at "s"
                  refine ⟨_, rfl, k45, hJ5, fun o ho => ?_⟩
                  rcases Nat.lt_succ_iff_lt_or_eq.mp ho with z | z
                  · exact hno o z
                  · subst z
                    exact fun z => nomatch hb.mpr z.2
              · rw [decide_eq_false (by omega)]
                refine iteF ?_
                walk_at "s"
                refine ⟨_, rfl, k4, hJ4, fun o ho => ?_⟩
                rcases Nat.lt_succ_iff_lt_or_eq.mp ho with z | z
                · exact hno o z
                · subst z
                  rintro ⟨e, _⟩
                  rw [em] at e
                  exact hmj (Option.some.inj e)
            · obtain ⟨y8, rfl, k4, hJ4, hno⟩ := hx
              walk_at "s"
              refine g_ty hJ4 ?_
              walk_at "s"
              refine g_app hJ4 (by rw [zs_len, hs_len, cl.1]; omega) ?_
              walk_at "s"
              exact ⟨xs ++ [i], _, _, _, rfl, k4.mutL hJ hJ4, by rw [upd_same]; simp [zs, hs], cl.snoc (Nat.le_refl _) (.inl rfl) (class_none (fun _ _ _ => Both.trans) cl (Nat.le_refl _) hno)⟩
          · obtain ⟨xs, y6, y7, y8, rfl, k3, hJ3, cl⟩ := hx
            walk_at "s"
            refine g_tupL hJ3 fun t ht => ?_
            exact qq cc rfl hcc xs cl t _ ((k12.trans k3).nnew ht) upd_same
        | _ => cases hC
      | false =>
        refine iteT ?_
        walk_at "s"
        exact ⟨by show 2 ≤ 1000; decide, fun a ha => raise_nu ((qo hC).kp k12) a ha⟩
    · exact .inr ⟨b, o.kp k1⟩
end
end K8
set_option Elab.async false
set_option linter.all false
set_option maxRecDepth 100000
set_option maxHeartbeats 4000000
namespace K8
open PySem PySem.Spec PyProof.Rows L2
local macro_rules | `(tactic| walk_at "s") => `(tactic| repeat (first
  | with_reducible refine g_seq ?_ | with_reducible refine g_ret ?_ | with_reducible refine g_asg ?_ | with_reducible refine g_name ?_ | with_reducible refine g_c ?_ | with_reducible refine g_op ?_ | with_reducible refine g_cons ?_ | with_reducible refine g_nil ?_
  | (with_reducible show tVar _ _ _ _; refine g_var rfl ?_) | with_reducible refine g_cb ?_ | with_reducible refine g_call ?_ | with_reducible refine g_if ?_ | with_reducible refine g_test ?_ | with_reducible refine g_tB ?_ | with_reducible refine g_i0 ?_ | with_reducible refine g_bl ?_
  | with_reducible refine g_add ?_ | with_reducible refine g_sub ?_ | with_reducible refine g_eqI ?_ | with_reducible refine g_neI ?_ | with_reducible refine g_drop ?_ | with_reducible refine g_next ?_ | with_reducible refine g_break ?_ | with_reducible refine g_un ?_ | with_reducible refine g_u ?_
  | with_reducible refine g_ifE ?_ | with_reducible refine g_and ?_ | with_reducible refine g_or ?_ | with_reducible refine g_not ?_ | with_reducible refine g_andV ?_ | with_reducible refine g_orV ?_ | with_reducible refine g_notV ?_ | with_reducible refine g_isN ?_ | with_reducible refine g_notN ?_
  | with_reducible refine g_gnil ?_ | with_reducible refine g_gcons ?_ | with_reducible refine g_bm ?_ | with_reducible refine g_abs ?_ | with_reducible refine g_max ?_ | with_reducible refine g_min ?_ | with_reducible refine g_int ?_ | with_reducible refine g_lc ?_ | with_reducible refine g_for ?_ | with_reducible refine g_yes ?_ | with_reducible refine g_rng1 ?_ | with_reducible refine g_rng2 ?_ | with_reducible refine g_il ?_ | with_reducible refine g_it ?_ | with_reducible refine g_en ?_ | with_reducible refine g_zp ?_ | with_reducible refine g_mkT ?_ | with_reducible refine g_mkL ?_ | with_reducible refine g_augS ?_ | (with_reducible show tAug _ _ _ _ _ _; refine g_aug rfl ?_) | with_reducible refine g_ipI ?_ | with_reducible refine g_gsub ?_ | with_reducible refine g_dget ?_ | with_reducible refine g_din ?_ | with_reducible refine g_dnotin ?_ | with_reducible refine g_dput ?_ | with_reducible refine g_dc ?_ | with_reducible refine g_sl ?_ | with_reducible refine g_nopart ?_ | with_reducible refine g_part ?_ | with_reducible refine g_exI ?_ | with_reducible refine g_revL ?_ | (with_reducible show iSq _ _ _ _; refine g_sq rfl ?_) | with_reducible refine g_while ?_ | with_reducible refine g_min3 ?_ | with_reducible refine g_trq ?_ | with_reducible refine g_lock ?_ | with_reducible refine g_mko ?_ | with_reducible refine g_keys ?_ | with_reducible refine g_eqS ?_ | with_reducible refine g_lrg ?_ | with_reducible refine g_trg ?_ | with_reducible refine g_rg1 ?_ | with_reducible refine g_cut ?_ | with_reducible refine g_disp ?_ | with_reducible refine g_dnew ?_ | with_reducible refine iteT ?_ | with_reducible refine iteF ?_))
/-! ### the law's pot -/
def PotAt (p r : Addr) (H : Hp) : Prop := ∃ (a b c : Int) (cells : List Int), p ≠ r ∧ H p = some (.lst [.int a, .int b, .int c, .ref r]) ∧ H r = some (.lst (zs cells)) ∧ 0 ≤ a ∧ 0 ≤ b ∧ b < 2147483648 ∧ 0 ≤ c
theorem PotAt.kp {p r : Addr} {S : List Addr} {H H' : Hp} (h : PotAt p r H) (k : Kp S H H') (hp : p ∉ S) (hr : r ∉ S) : PotAt p r H' := by
  obtain ⟨a, b, c, cells, h1, h2, h3, q⟩ := h
  exact ⟨a, b, c, cells, h1, k.keep _ _ h2 hp, k.keep _ _ h3 hr, q⟩
theorem PotAt.ex {p r : Addr} {H H' : Hp} (h : PotAt p r H) (k : Ex H H') : PotAt p r H' := h.kp k List.not_mem_nil List.not_mem_nil
/-- what is new is not the pot -/
theorem PotAt.ne {p r q : Addr} {H : Hp} (h : PotAt p r H) (hq : H q = none) : q ≠ p ∧ q ≠ r := by
  obtain ⟨a, b, c, cells, h1, h2, h3, _⟩ := h
  exact ⟨fun z => (by rw [z, h2] at hq; cases hq), fun z => (by rw [z, h3] at hq; cases hq)⟩
theorem PotAt.upd {p r q : Addr} {H : Hp} {o : HO} (h : PotAt p r H) (hq : q ≠ p ∧ q ≠ r) : PotAt p r (upd H q o) := by
  obtain ⟨a, b, c, cells, h1, h2, h3, g⟩ := h
  exact ⟨a, b, c, cells, h1, by rw [upd_ne hq.1.symm]; exact h2, by rw [upd_ne hq.2.symm]; exact h3, g⟩
/-- a new thing, changed, the pot perhaps too -/
theorem Kp.mutP {p q : Addr} {H H1 : Hp} {o o' : HO} (a : Kp [p] H H1) (h : H q = none) (h1 : H1 q = some o) (ho : ∀ ys, o ≠ .tup ys) : Kp [p] H (upd H1 q o') :=
  ((a.mono (T := q :: [p]) fun _ m => List.mem_cons_of_mem _ m).trans (Kp.set h1 ho List.mem_cons_self)).drop h
theorem Kp.mutPL {p q : Addr} {H H1 : Hp} {o' : HO} {ys : List V} (a : Kp [p] H H1) (h : H q = none) (h1 : H1 q = some (.lst ys)) : Kp [p] H (upd H1 q o') := a.mutP h h1 fun _ z => nomatch z
theorem map_erase {α β : Type} (g : α → β) : ∀ (xs : List α) (j : Nat), (xs.map g).eraseIdx j = (xs.eraseIdx j).map g
  | [], _ => rfl
  | _ :: _, 0 => rfl
  | x :: r, j + 1 => by
    show g x :: (r.map g).eraseIdx j = g x :: (r.eraseIdx j).map g
    rw [map_erase g r j]
theorem erase_perm {α : Type} : ∀ (xs : List α) (j : Nat) (h : j < xs.length), (xs[j] :: xs.eraseIdx j).Perm xs
  | [], _, h => absurd h (Nat.not_lt_zero _)
  | _ :: _, 0, _ => .refl _
  | x :: r, j + 1, h => by
    have h' : j < r.length := by simpa using h
    show (r[j] :: x :: r.eraseIdx j).Perm (x :: r)
    exact (List.Perm.swap _ _ _).trans ((erase_perm r j h').cons x)
section
variable {P : Program} {w : World} {K : PySem.W.Frag} {mg : Str → Option Value} {base : Heap} {f : Addr} {fd : FuncData} {k : Nat}
theorem sc_law_pot : FnScope ["_law_script", "_law_cell"] ["_law_script"] (defScope s_law_pot) := ⟨rfl, rfl, rfl, by decide +kernel, rfl, by decide +kernel, by decide +kernel⟩
def sp_law_pot (K : PySem.W.Frag) : Sp := fun vs H Q _ => ∃ (a : Addr) (ns : List Int), vs = [.ref a] ∧ SqL K H a (zs ns) ∧ ns.length ≤ 1000 ∧ ∀ (p r : Addr) (H' : Hp), PotAt p r H' → Q (.ref p) H'
theorem ok_law_pot (F : Fun K "_law_pot" "_law_pot" s_law_pot f fd) (T : Txt mg) : FnOk P w K mg base CX0 1 f fd ["_law_script"] (sp_law_pot K) := by
  have sc := sc_law_pot
  refine F.ok sc (fun vs H Q E h => ?_) (fun cdv A outer s H vs Q E hr h => ?_)
  · obtain ⟨a, ns, rfl, _⟩ := h
    rfl
  · obtain ⟨a, ns, rfl, hs1, hn, q⟩ := h
    refine ⟨_, (pss_one (ps_ret (pe_lst (pa_cons pe_int (pa_cons pe_int (pa_cons pe_int (pa_cons (pe_lc (own := [("_law_cell", 1)]) rfl sc.nd (kpi_list (K := K) rfl (pv 0)) (blkOk_by (N := ["_law_script", "_law_cell"]) (sc := defScope s_law_pot) (by decide +kernel)) (fun _ _ _ _ _ => (pg_name (i := 1) sc.nd rfl (by first | exact Or.inl rfl | exact Or.inr rfl))) (fun _ _ _ _ _ => pts_nil) (fun _ _ _ _ _ => (pe_callTy cq_int (by rfl) T.int (by decide +kernel) (pa_cons (pv 1) pa_nil)))) pa_nil))))))), ?_⟩
    walk_at "s"
    refine ⟨a, rfl, ⟨_, hs1⟩, fun D hD => ?_⟩
    have same : ∀ H', Ex H H' → SqL K H' a (zs ns) := fun H' k => by
      rcases hs1 with (h | ⟨o, h⟩) | h
      · exact .inl (.inl (k.keep _ _ h List.not_mem_nil))
      · exact .inl (.inr ⟨o, k.keep _ _ h List.not_mem_nil⟩)
      · exact .inr h
    refine lc_it (walk_list (xs := zs ns)) (fun i H' => Ex H H' ∧ H' D = some (.lst (zs (ns.take i)))) ⟨.new hD, upd_same⟩ (fun i H' _ h => same H' h.1) (fun i x H1 H2 hi h hy => ?_) (fun H1 h => ?_)
    · obtain ⟨k1, hD1⟩ := h
      obtain ⟨rfl, ex⟩ := hy
      rw [zs_len] at hi
      have el : ns[i]? = some ns[i] := List.getElem?_eq_getElem hi
      cases zs_at ex el
      walk_at "s"
      refine ⟨rfl, ?_⟩
      walk_at "s"
      refine ⟨_, hD1, small1000 (by rw [zs_len, List.length_take]; omega), k1.mutL hD hD1, ?_⟩
      rw [upd_same, List.take_add_one, el, zs, zs, List.map_append]
      rfl
    · obtain ⟨k1, hD1⟩ := h
      walk_at "s"
      refine ⟨sz, fun p hp => q p D _ ⟨_, _, _, _, (ne_of_none hD1 hp).symm, upd_same, by rw [upd_ne (ne_of_none hD1 hp)]; exact hD1, by omega, by omega, by omega, by omega⟩⟩
theorem sc_law_draw : FnScope ["_law_pot_here", "_law_many_here", "_law_cell", "_law_digit"] ["_law_pot_here", "_law_many_here"] (defScope s_law_draw) := ⟨rfl, rfl, rfl, by decide +kernel, rfl, by decide +kernel, by decide +kernel⟩
def sp_law_draw : Sp := fun vs H Q _ => ∃ (p r : Addr) (m : Nat), vs = [.ref p, .int m] ∧ PotAt p r H ∧ 1 ≤ m ∧ m ≤ 1000 ∧ ∀ (x : Nat) (H' : Hp), x < m → Kp [p] H H' → PotAt p r H' → Q (.int x) H'
theorem ok_law_draw (F : Fun K "_law_draw" "_law_draw" s_law_draw f fd) (T : Txt mg) : FnOk P w K mg base CX0 1 f fd ["_law_pot_here", "_law_many_here"] sp_law_draw := by
  have sc := sc_law_draw
  refine F.ok sc (fun vs H Q E h => ?_) (fun cdv A outer s H vs Q E hr h => ?_)
  · obtain ⟨p, r, m, rfl, _⟩ := h
    rfl
  · obtain ⟨p, r, m, rfl, ⟨a, b, c, cells, hpr, hp, hr1, ha, hb, hb2, hc⟩, hm1, hm2, q⟩ := h
    have nat : ∀ x : Int, 0 ≤ x → x < m → ∃ y : Nat, x = y ∧ y < m := fun x h1 h2 => ⟨x.toNat, by rw [Int.toNat_of_nonneg h1], by omega⟩
    have emod : ∀ x : Int, 0 ≤ x % (m : Int) ∧ x % (m : Int) < m := fun x => ⟨Int.emod_nonneg _ (by omega), Int.emod_lt_of_pos _ (by omega)⟩
    have emodB : ∀ x : Int, 0 ≤ x % (2147483647 : Int) ∧ x % (2147483647 : Int) < 2147483648 := fun x => ⟨Int.emod_nonneg _ (by omega), by have := Int.emod_lt_of_pos x (b := 2147483647) (by omega); omega⟩
    have fin : ∀ {H1 : Hp} {x1 x2 x3 : Int}, Kp [p] H H1 → H1 p = some (.lst [.int x1, .int x2, .int x3, .ref r]) → 0 ≤ x1 → 0 ≤ x2 → x2 < 2147483648 → 0 ≤ x3 → PotAt p r H1 := fun {H1 x1 x2 x3} k e h1 h2 h3 h4 =>
      ⟨_, _, _, cells, hpr, e, k.keep _ _ hr1 (by simpa using hpr.symm), h1, h2, h3, h4⟩
    refine ⟨_, (Evl.pss_cut (ps_if (PW.pt (pw_and (pt_cmpR op_eq (pe_ix (kx_list (K := K) rfl) (pv 0) pe_int (fun _ _ => rfl)) pe_int (nomark _)) (pw_and1 (pt_cmpR op_lt (pe_ix (kx_list (K := K) rfl) (pv 0) pe_int (fun _ _ => rfl)) (pe_callB (kq_len (K := K) rfl) (by rfl) T.len (by decide +kernel) (pa_cons (pe_ix (kx_list (K := K) rfl) (pv 0) pe_int (fun _ _ => rfl)) pa_nil)) (nomark _)))))
        (pss_cons (ps_set (i := 2) sc.nd rfl (by first | exact Or.inl rfl | exact Or.inr rfl) (pe_ix (kx_list (K := K) rfl) (pe_ix (kx_list (K := K) rfl) (pv 0) pe_int (fun _ _ => rfl)) (pe_ix (kx_list (K := K) rfl) (pv 0) pe_int (fun _ _ => rfl)) (fun _ _ => rfl)))
        (pss_cons (ps_asg (pe_op op_add (pe_ix (kx_list (K := K) rfl) (pv 0) pe_int (fun _ _ => rfl)) pe_int) (pg_sub (pv 0) pe_int set_list))
        (pss_one (ps_if (pt_cmpR op_ge (pe_callB cq_abs (by rfl) T.abs (by decide +kernel) (pa_cons (pv 2) pa_nil)) pe_int (nomark _))
          (pss_one (ps_asg (pe_callB cq_abs (by rfl) T.abs (by decide +kernel) (pa_cons (pv 2) pa_nil)) (pg_sub (pv 0) pe_int set_list)))
          (pss_one (ps_asg (pe_op op_mod (pe_callTy cq_int (by rfl) T.int (by decide +kernel) (pa_cons (pe_op op_add (pe_op op_add (pe_op op_mul (pe_ix (kx_list (K := K) rfl) (pv 0) pe_int (fun _ _ => rfl)) pe_int) (pe_op op_mul (pv 2) pe_int)) pe_int) pa_nil)) pe_int) (pg_sub (pv 0) pe_int set_list)))))))
        pss_nil)
      (pss_cons (ps_if (pt_cmpR op_gt (pe_ix (kx_list (K := K) rfl) (pv 0) pe_int (fun _ _ => rfl)) pe_int (nomark _))
        (pss_cons (ps_set (i := 3) sc.nd rfl (by first | exact Or.inl rfl | exact Or.inr rfl) (pe_op op_mod (pe_callTy cq_int (by rfl) T.int (by decide +kernel) (pa_cons (pe_ix (kx_list (K := K) rfl) (pv 0) pe_int (fun _ _ => rfl)) pa_nil)) (pv 1)))
        (pss_cons (ps_asg (pe_op op_fdiv (pe_ix (kx_list (K := K) rfl) (pv 0) pe_int (fun _ _ => rfl)) (pv 1)) (pg_sub (pv 0) pe_int set_list))
        (pss_one (ps_ret (pv 3)))))
        pss_nil)
      (pss_cons (ps_asg (pe_op op_mod (pe_callTy cq_int (by rfl) T.int (by decide +kernel) (pa_cons (pe_op op_add (pe_op op_mul (pe_ix (kx_list (K := K) rfl) (pv 0) pe_int (fun _ _ => rfl)) pe_int) pe_int) pa_nil)) pe_int) (pg_sub (pv 0) pe_int set_list))
      (pss_one (ps_ret (pe_op op_mod (pe_op op_fdiv (pe_op op_mod (pe_callTy cq_int (by rfl) T.int (by decide +kernel) (pa_cons (pe_op op_add (pe_op op_mul (pe_ix (kx_list (K := K) rfl) (pv 0) pe_int (fun _ _ => rfl)) (pe_ix (kx_list (K := K) rfl) (pv 0) pe_int (fun _ _ => rfl))) (pe_op op_mul pe_int (pe_ix (kx_list (K := K) rfl) (pv 0) pe_int (fun _ _ => rfl)))) pa_nil)) pe_int) pe_int) (pv 1))))))), ?_⟩
    walk_at "s"
    refine ⟨fun σ H' => ∃ (a b c : Int) (y2 y3 : Option V), σ = [some (.ref p), some (.int m), y2, y3] ∧ Kp [p] H H' ∧ H' p = some (.lst [.int a, .int b, .int c, .ref r]) ∧ 0 ≤ a ∧ 0 ≤ b ∧ b < 2147483648 ∧ 0 ≤ c, ?_, ?_⟩
    · walk_at "s"
      refine g_ixL (j := 0) hp rfl ?_
      walk_at "s"
      have skip : ∃ (a' b' c' : Int) (y2 y3 : Option V), (L2.start ["_law_pot_here", "_law_many_here", "_law_cell", "_law_digit"] [V.ref p, V.int (m : Int)]) = [some (.ref p), some (.int m), y2, y3] ∧ Kp [p] H H ∧ H p = some (.lst [.int a', .int b', .int c', .ref r]) ∧ 0 ≤ a' ∧ 0 ≤ b' ∧ b' < 2147483648 ∧ 0 ≤ c' := ⟨a, b, c, _, _, rfl, .refl _ _, hp, ha, hb, hb2, hc⟩
      refine ite2 (fun e => ?_) (fun e => ?_)
      · walk_at "s"
        refine g_ixL (j := 2) hp rfl ?_
        walk_at "s"
        refine g_ixL (j := 3) hp rfl ?_
        walk_at "s"
        refine g_lenL hr1 ?_
        walk_at "s"
        refine ite2 (fun e2 => ?_) (fun e2 => ?_)
        · walk_at "s"
          have e2 : c < cells.length := by
            have := of_decide_eq_true e2
            rw [zs_len] at this
            exact this
          refine g_ixL (j := 3) hp rfl ?_
          walk_at "s"
          refine g_ixL (j := 2) hp rfl ?_
          walk_at "s"
          obtain ⟨cn, rfl⟩ : ∃ cn : Nat, c = cn := ⟨c.toNat, by omega⟩
          refine g_ixL (j := cn) hr1 (zs_get (List.getElem?_eq_getElem (show cn < cells.length by omega))) ?_
          walk_at "s"
          refine g_ixL (j := 2) hp rfl ?_
          walk_at "s"
          refine g_setL (k := 2) hp (by simp) ?_
          walk_at "s"
          generalize cells[cn] = cell at *
          have k1 : Kp [p] H (upd H p (.lst [.int a, .int b, .int ((cn : Int) + 1), .ref r])) := .setL hp (by simp)
          refine ite2 (fun e3 => ?_) (fun e3 => ?_)
          · walk_at "s"
            refine g_setL (k := 0) upd_same (by simp) ?_
            walk_at "s"
            refine ⟨_, _, _, _, _, rfl, k1.trans (.setL upd_same (by simp)), upd_same, ?_, hb, hb2, by omega⟩
            split <;> omega
          · walk_at "s"
            refine g_ixL (j := 1) upd_same rfl ?_
            walk_at "s"
            refine g_mulR (by omega) ?_
            walk_at "s"
            refine g_mulR (by omega) ?_
            walk_at "s"
            refine g_mod (by omega) ?_
            walk_at "s"
            refine g_setL (k := 1) upd_same (by simp) ?_
            walk_at "s"
            exact ⟨_, _, _, _, _, rfl, k1.trans (.setL upd_same (by simp)), upd_same, ha, (emodB _).1, (emodB _).2, by omega⟩
        · walk_at "s"
          exact skip
      · refine iteF ?_
        walk_at "s"
        exact skip
    · rintro σ H1 ⟨a, b, c, y2, y3, rfl, k1, hp1, ha, hb, hb2, hc⟩
      walk_at "s"
      refine g_ixL (j := 0) hp1 rfl ?_
      walk_at "s"
      refine ite2 (fun e => ?_) (fun e => ?_)
      · walk_at "s"
        refine g_ixL (j := 0) hp1 rfl ?_
        walk_at "s"
        refine g_mod (by omega) ?_
        walk_at "s"
        refine g_ixL (j := 0) hp1 rfl ?_
        walk_at "s"
        refine g_div (by omega) ?_
        walk_at "s"
        refine g_setL (k := 0) hp1 (by simp) ?_
        walk_at "s"
        have k2 := k1.trans (.setL (o' := .lst ([V.int a, V.int b, V.int c, V.ref r].set 0 (.int (a / (m : Int))))) hp1 (by simp))
        obtain ⟨y, ey, hy⟩ := nat _ (emod a).1 (emod a).2
        rw [ey]
        exact q y _ hy k2 (fin k2 upd_same (Int.ediv_nonneg ha (by omega)) hb hb2 hc)
      · walk_at "s"
        refine g_ixL (j := 1) hp1 rfl ?_
        walk_at "s"
        refine g_mulR (by omega) ?_
        walk_at "s"
        refine g_mod (by omega) ?_
        walk_at "s"
        refine g_setL (k := 1) hp1 (by simp) ?_
        walk_at "s"
        have hb3 := emodB (b * 69621 + 1299709)
        generalize (b * 69621 + 1299709) % (2147483647 : Int) = b3 at *
        have k2 := k1.trans (.setL (o' := .lst ([V.int a, V.int b, V.int c, V.ref r].set 1 (.int b3))) hp1 (by simp))
        refine g_ixL (j := 1) upd_same rfl ?_
        walk_at "s"
        refine g_ixL (j := 1) upd_same rfl ?_
        walk_at "s"
        refine g_mulR (by omega) ?_
        walk_at "s"
        refine g_ixL (j := 1) upd_same rfl ?_
        walk_at "s"
        refine g_mulL (by omega) ?_
        walk_at "s"
        refine g_mod (by omega) ?_
        walk_at "s"
        refine g_div (by omega) ?_
        walk_at "s"
        refine g_mod (by omega) ?_
        obtain ⟨y, ey, hy⟩ := nat _ (emod _).1 (emod _).2
        rw [ey]
        exact q y _ hy k2 (fin k2 upd_same ha hb3.1 hb3.2 hc)
theorem sc_law_order : FnScope ["_law_pot_here", "_law_size", "_law_rest", "_law_order_here", "_law_k"] ["_law_pot_here", "_law_size"] (defScope s_law_order) := ⟨rfl, rfl, rfl, by decide +kernel, rfl, by decide +kernel, by decide +kernel⟩
def sp_law_order : Sp := fun vs H Q _ => ∃ (p r : Addr) (n : Nat), vs = [.ref p, .int n] ∧ PotAt p r H ∧ n ≤ 8 ∧ ∀ (os : List Nat) (q : Addr) (H' : Hp), os.Perm (List.range n) → Kp [p] H H' → PotAt p r H' → H' q = some (.tup (zs (hs os))) → Q (.ref q) H'
theorem ok_law_order (F : Fun K "_law_order" "_law_order" s_law_order f fd) (T : Txt mg) (c_law_draw : Cal P w K mg base 1 "_law_draw" sp_law_draw) : FnOk P w K mg base CX0 2 f fd ["_law_pot_here", "_law_size"] sp_law_order := by
  have sc := sc_law_order
  refine F.ok sc (fun vs H Q E h => ?_) (fun cdv A outer s H vs Q E hr h => ?_)
  · obtain ⟨p, r, n, rfl, _⟩ := h
    rfl
  · obtain ⟨p, r, n, rfl, hpot, hn8, q⟩ := h
    refine ⟨_, (pss_cons (ps_set (i := 2) sc.nd rfl (by first | exact Or.inl rfl | exact Or.inr rfl) (pe_listRg rfl (by rfl) T.list (prg_1 (by rfl) T.range (pv 1))))
      (pss_cons (ps_set (i := 3) sc.nd rfl (by first | exact Or.inl rfl | exact Or.inr rfl) (pe_lst pa_nil))
      (pss_cons (ps_for PassesOwn.never rfl (pi_range1 (by rfl) T.range (pa_cons (pv 1) pa_nil)) (pg_name (i := 4) sc.nd rfl (by first | exact Or.inl rfl | exact Or.inr rfl))
        (pss_one (ps_expr (pe_bm PySem.F.plainAttrs_list PySem.F.slot_list_append PySem.F.type_list_append mt_append (pv 3) (pa_cons (pe_bm PySem.F.plainAttrs_list PySem.F.slot_list_pop PySem.F.type_list_pop mt_popAt (pv 2) (pa_cons (pe_c c_law_draw hr (by decide) (by rfl) (pa_cons (pv 0) (pa_cons (pe_callB (kq_len (K := K) rfl) (by rfl) T.len (by decide +kernel) (pa_cons (pv 2) pa_nil)) pa_nil))) pa_nil)) pa_nil)))))
      (pss_one (ps_ret (pe_callTy (kq_tup (K := K) rfl) (by rfl) T.tuple (by decide +kernel) (pa_cons (pv 3) pa_nil))))))), ?_⟩
    walk_at "s"
    refine ⟨rg_ok (by omega), fun R hR => ?_⟩
    walk_at "s"
    rw [rgV_nat]
    refine ⟨sz, fun O hO => ?_⟩
    walk_at "s"
    have k1 : Ex H (upd (upd H R (.lst (zs (hs (List.range n))))) O (.lst [])) := (Kp.new hR).nnew hO
    have hOH := (Kp.new (S := []) (o := .lst (zs (hs (List.range n)))) hR).free hO
    have hRO : R ≠ O := ne_of_none upd_same hO
    have hRp := hpot.ne hR
    have hOp := hpot.ne hOH
    refine ⟨_, rfl, by omega, by omega, ?_⟩
    refine for_range (n := n) (fun i σ H' => ∃ (rs os : List Nat) (y4 : Option V), σ = [some (.ref p), some (.int n), some (.ref R), some (.ref O), y4] ∧ Kp [p] H H' ∧ PotAt p r H' ∧ H' R = some (.lst (zs (hs rs))) ∧ H' O = some (.lst (zs (hs os))) ∧ (os ++ rs).Perm (List.range n) ∧ os.length = i)
      ⟨List.range n, [], _, rfl, .of_ex k1, hpot.ex k1, by rw [upd_ne hRO, upd_same], upd_same, .refl _, rfl⟩ (fun i σ H1 hi hx => ?_) (fun σ H1 hx => ?_)
    · obtain ⟨rs, os, y4, rfl, k2, hpot2, hR2, hO2, hperm, hol⟩ := hx
      have hlen := hperm.length_eq
      rw [List.length_append, List.length_range] at hlen
      walk_at "s"
      refine g_ty hO2 ?_
      walk_at "s"
      refine g_ty hR2 ?_
      walk_at "s"
      refine g_lenL hR2 ?_
      walk_at "s"
      refine ⟨p, r, rs.length, by rw [zs_len, hs_len]; rfl, hpot2, by omega, by omega, fun j H3 hj k3 hpot3 => ?_⟩
      have hR3 := k3.keep _ _ hR2 (by simpa using hRp.1)
      have hO3 := k3.keep _ _ hO2 (by simpa using hOp.1)
      have ej : rs[j]? = some rs[j] := List.getElem?_eq_getElem hj
      refine ⟨R, _, j, j, .int (rs[j] : Nat), rfl, rfl, hR3, by omega, by omega, ?_, hs_get ej, ?_⟩
      · rw [zs_len, hs_len]
        exact (ixN_seq (ixN_n hj)).1
      walk_at "s"
      have kA := k2.trans k3
      have kB := kA.mutPL (o' := .lst ((zs (hs rs)).eraseIdx j)) hR hR3
      have hO4 : (upd H3 R (.lst ((zs (hs rs)).eraseIdx j))) O = some (.lst (zs (hs os))) := by rw [upd_ne hRO.symm]; exact hO3
      refine g_app hO4 (by rw [zs_len, hs_len]; omega) ?_
      walk_at "s"
      refine ⟨rs.eraseIdx j, os ++ [rs[j]], _, rfl, kB.mutPL hOH hO4, (hpot3.upd hRp).upd hOp, ?_, ?_, ?_, by rw [List.length_append, hol]; rfl⟩
      · rw [upd_ne hRO, upd_same, zs, hs, zs, hs, map_erase, map_erase]
      · rw [upd_same]
        simp [zs, hs]
      · refine List.Perm.trans ?_ hperm
        rw [List.append_assoc]
        exact (List.Perm.append_left os (by show (rs[j] :: rs.eraseIdx j).Perm rs; exact erase_perm rs j hj))
    · obtain ⟨rs, os, y4, rfl, k2, hpot2, hR2, hO2, hperm, hol⟩ := hx
      have hlen := hperm.length_eq
      rw [List.length_append, List.length_range] at hlen
      have : rs = [] := by
        cases rs with
        | nil => rfl
        | cons x r => simp at hlen; omega
      subst this
      rw [List.append_nil] at hperm
      walk_at "s"
      refine g_tupL hO2 fun t ht => ?_
      exact q os t _ hperm (k2.nnew ht) (hpot2.ex (.new ht)) upd_same
end
end K8
set_option Elab.async false
set_option linter.all false
set_option maxRecDepth 100000
set_option maxHeartbeats 4000000
namespace K8
open PySem PySem.Spec PyProof.Rows L2
local macro_rules | `(tactic| walk_at "s") => `(tactic| repeat (first
  | with_reducible refine g_seq ?_ | with_reducible refine g_ret ?_ | with_reducible refine g_asg ?_ | with_reducible refine g_name ?_ | with_reducible refine g_c ?_ | with_reducible refine g_op ?_ | with_reducible refine g_cons ?_ | with_reducible refine g_nil ?_
  | (with_reducible show tVar _ _ _ _; refine g_var rfl ?_) | with_reducible refine g_cb ?_ | with_reducible refine g_call ?_ | with_reducible refine g_if ?_ | with_reducible refine g_test ?_ | with_reducible refine g_tB ?_ | with_reducible refine g_i0 ?_ | with_reducible refine g_bl ?_
  | with_reducible refine g_add ?_ | with_reducible refine g_sub ?_ | with_reducible refine g_eqI ?_ | with_reducible refine g_neI ?_ | with_reducible refine g_drop ?_ | with_reducible refine g_next ?_ | with_reducible refine g_break ?_ | with_reducible refine g_un ?_ | with_reducible refine g_u ?_
  | with_reducible refine g_ifE ?_ | with_reducible refine g_and ?_ | with_reducible refine g_or ?_ | with_reducible refine g_not ?_ | with_reducible refine g_andV ?_ | with_reducible refine g_orV ?_ | with_reducible refine g_notV ?_ | with_reducible refine g_isN ?_ | with_reducible refine g_notN ?_
  | with_reducible refine g_gnil ?_ | with_reducible refine g_gcons ?_ | with_reducible refine g_bm ?_ | with_reducible refine g_abs ?_ | with_reducible refine g_max ?_ | with_reducible refine g_min ?_ | with_reducible refine g_int ?_ | with_reducible refine g_lc ?_ | with_reducible refine g_for ?_ | with_reducible refine g_yes ?_ | with_reducible refine g_rng1 ?_ | with_reducible refine g_rng2 ?_ | with_reducible refine g_il ?_ | with_reducible refine g_it ?_ | with_reducible refine g_en ?_ | with_reducible refine g_zp ?_ | with_reducible refine g_mkT ?_ | with_reducible refine g_mkL ?_ | with_reducible refine g_augS ?_ | (with_reducible show tAug _ _ _ _ _ _; refine g_aug rfl ?_) | with_reducible refine g_ipI ?_ | with_reducible refine g_gsub ?_ | with_reducible refine g_dget ?_ | with_reducible refine g_din ?_ | with_reducible refine g_dnotin ?_ | with_reducible refine g_dput ?_ | with_reducible refine g_dc ?_ | with_reducible refine g_sl ?_ | with_reducible refine g_nopart ?_ | with_reducible refine g_part ?_ | with_reducible refine g_exI ?_ | with_reducible refine g_revL ?_ | (with_reducible show iSq _ _ _ _; refine g_sq rfl ?_) | with_reducible refine g_while ?_ | with_reducible refine g_min3 ?_ | with_reducible refine g_trq ?_ | with_reducible refine g_lock ?_ | with_reducible refine g_mko ?_ | with_reducible refine g_keys ?_ | with_reducible refine g_eqS ?_ | with_reducible refine g_lrg ?_ | with_reducible refine g_trg ?_ | with_reducible refine g_rg1 ?_ | with_reducible refine g_cut ?_ | with_reducible refine g_disp ?_ | with_reducible refine g_dnew ?_ | with_reducible refine iteT ?_ | with_reducible refine iteF ?_))
theorem mem_cutV {xs : List V} {lo hi : Option Int} {v : V} (h : v ∈ cutV xs lo hi) : v ∈ xs := by
  unfold cutV at h
  exact List.mem_of_mem_drop (List.mem_of_mem_take h)
theorem len_cutV (xs : List V) (lo hi : Option Int) : (cutV xs lo hi).length ≤ xs.length := by
  unfold cutV
  rw [List.length_take, List.length_drop]
  omega
def PairV (n : Nat) (H : Hp) (v : V) : Prop := ∃ (t : Addr) (a b : Nat), v = .ref t ∧ H t = some (.tup [.int a, .int b]) ∧ a < n ∧ b < n ∧ a ≠ b
theorem PairV.kp {n : Nat} {S : List Addr} {H H' : Hp} {v : V} (h : PairV n H v) (k : Kp S H H') : PairV n H' v := by
  obtain ⟨t, a, b, e, h1, h2⟩ := h
  exact ⟨t, a, b, e, k.tup _ _ h1, h2⟩
/-- a new list of pairs -/
def PL (H H' : Hp) (n m : Nat) (L : Addr) : Prop := H L = none ∧ ∃ xs : List V, H' L = some (.lst xs) ∧ xs.length ≤ m ∧ ∀ v ∈ xs, PairV n H' v
theorem PL.kp {n m : Nat} {S : List Addr} {H H1 H2 : Hp} {L : Addr} (h : PL H H1 n m L) (k : Kp S H1 H2) (hL : L ∉ S) : PL H H2 n m L := by
  obtain ⟨h0, xs, h1, h2, h3⟩ := h
  exact ⟨h0, xs, k.keep _ _ h1 hL, h2, fun v hv => (h3 v hv).kp k⟩
theorem PL.mono {n m m' : Nat} {H H1 : Hp} {L : Addr} (h : PL H H1 n m L) (hm : m ≤ m') : PL H H1 n m' L := by
  obtain ⟨h0, xs, h1, h2, h3⟩ := h
  exact ⟨h0, xs, h1, by omega, h3⟩
theorem PL.snoc {n m : Nat} {H H1 : Hp} {L t : Addr} (h : PL H H1 n m L) (ht : H1 t = none) {a b : Nat} (ha : a < n) (hb : b < n) (hab : a ≠ b) :
    ∃ xs, (upd H1 t (.tup [.int a, .int b])) L = some (.lst xs) ∧ xs.length ≤ m ∧ PL H (upd (upd H1 t (.tup [.int a, .int b])) L (.lst (xs ++ [.ref t]))) n (m + 1) L := by
  obtain ⟨h0, xs, h1, h2, h3⟩ := h
  have hLt : L ≠ t := ne_of_none h1 ht
  have k : Kp [L] H1 (upd (upd H1 t (.tup [.int a, .int b])) L (.lst (xs ++ [.ref t]))) := (Kp.new ht).trans (.setL (by rw [upd_ne hLt]; exact h1) (by simp))
  refine ⟨xs, by rw [upd_ne hLt]; exact h1, h2, h0, _, upd_same, by rw [List.length_append]; exact Nat.add_le_add_right h2 1, fun v hv => ?_⟩
  rcases List.mem_append.mp hv with z | z
  · exact (h3 v z).kp k
  · rw [List.mem_singleton.mp z]
    exact ⟨t, a, b, rfl, by rw [upd_ne hLt.symm, upd_same], ha, hb, hab⟩
section
variable {P : Program} {w : World} {K : PySem.W.Frag} {mg : Str → Option Value} {base : Heap} {f : Addr} {fd : FuncData} {k : Nat}
theorem sc_law_pairs : FnScope ["_law_pot_here", "_law_size", "_law_kind", "_law_pairs_here", "_law_gap", "_law_k", "_law_one"] ["_law_pot_here", "_law_size"] (defScope s_law_pairs) := ⟨rfl, rfl, rfl, by decide +kernel, rfl, by decide +kernel, by decide +kernel⟩
def sp_law_pairs : Sp := fun vs H Q _ => ∃ (p r : Addr) (n : Nat), vs = [.ref p, .int n] ∧ PotAt p r H ∧ 2 ≤ n ∧ n ≤ 5 ∧ ∀ (L : Addr) (H' : Hp), Kp [p] H H' → PotAt p r H' → PL H H' n 12 L → Q (.ref L) H'
theorem ok_law_pairs (F : Fun K "_law_pairs" "_law_pairs" s_law_pairs f fd) (T : Txt mg) (c_law_draw : Cal P w K mg base 1 "_law_draw" sp_law_draw) : FnOk P w K mg base CX0 2 f fd ["_law_pot_here", "_law_size"] sp_law_pairs := by
  have sc := sc_law_pairs
  refine F.ok sc (fun vs H Q E h => ?_) (fun cdv A outer s H vs Q E hr h => ?_)
  · obtain ⟨p, r, n, rfl, _⟩ := h
    rfl
  · obtain ⟨p, r, n, rfl, hpot, hn2, hn5, q⟩ := h
    obtain ⟨pa, pb, pc, pcells, hpr, hpp, hprr, _⟩ := id hpot
    have hnp : ∀ {q : Addr} {H1 : Hp}, H q = none → Kp [p] H H1 → q ∉ [p] := fun {q H1} h _ => by simpa using (hpot.ne h).1
    refine ⟨_, (pss_cons (ps_set (i := 2) sc.nd rfl (by first | exact Or.inl rfl | exact Or.inr rfl) (pe_op op_mod (pe_callTy cq_int (by rfl) T.int (by decide +kernel) (pa_cons (pe_op op_add (pe_c c_law_draw hr (by decide) (by rfl) (pa_cons (pv 0) (pa_cons pe_int pa_nil))) pe_int) pa_nil)) pe_int))
      (pss_cons (ps_setLc (i := 3) (own := [("_law_k", 5)]) rfl sc.nd rfl rfl (sw_true rfl rfl rfl (by decide +kernel)) (pi_range1 (by rfl) T.range (pa_cons (pe_op op_sub (pv 1) pe_int) pa_nil)) (blkOk_by (N := ["_law_pot_here", "_law_size", "_law_kind", "_law_pairs_here", "_law_gap", "_law_k", "_law_one"]) (sc := defScope s_law_pairs) (by decide +kernel)) (fun _ _ _ _ _ => (pg_name (i := 5) sc.nd rfl (by first | exact Or.inl rfl | exact Or.inr rfl))) (fun _ _ _ _ _ => pts_nil) (fun _ _ _ _ _ => (pe_tup (pa_cons (pv 5) (pa_cons (pe_op op_add (pv 5) pe_int) pa_nil)))))
      (Evl.pss_cut (ps_if (pt_cmpR op_eq (pv 2) pe_int (nomark _))
        (pss_one (ps_expr (pe_bm PySem.F.plainAttrs_list PySem.F.slot_list_append PySem.F.type_list_append mt_append (pv 3) (pa_cons (pe_tup (pa_cons pe_int (pa_cons (pe_op op_sub (pv 1) pe_int) pa_nil))) pa_nil))))
        (pss_one (ps_if (pt_cmpR op_eq (pv 2) pe_int (nomark _))
          (pss_one (ps_setLc (i := 3) (own := [("_law_k", 5)]) rfl sc.nd rfl rfl (sw_true rfl rfl rfl (by decide +kernel)) (pi_range2 (by rfl) T.range (pa_cons pe_int (pa_cons (pv 1) pa_nil))) (blkOk_by (N := ["_law_pot_here", "_law_size", "_law_kind", "_law_pairs_here", "_law_gap", "_law_k", "_law_one"]) (sc := defScope s_law_pairs) (by decide +kernel)) (fun _ _ _ _ _ => (pg_name (i := 5) sc.nd rfl (by first | exact Or.inl rfl | exact Or.inr rfl))) (fun _ _ _ _ _ => pts_nil) (fun _ _ _ _ _ => (pe_tup (pa_cons pe_int (pa_cons (pv 5) pa_nil))))))
          (pss_one (ps_if (pt_cmpR op_eq (pv 2) pe_int (nomark _))
            (pss_one (ps_setLc (i := 3) (own := [("_law_k", 5)]) rfl sc.nd rfl rfl (sw_true rfl rfl rfl (by decide +kernel)) (pi_range2 (by rfl) T.range (pa_cons pe_int (pa_cons (pv 1) pa_nil))) (blkOk_by (N := ["_law_pot_here", "_law_size", "_law_kind", "_law_pairs_here", "_law_gap", "_law_k", "_law_one"]) (sc := defScope s_law_pairs) (by decide +kernel)) (fun _ _ _ _ _ => (pg_name (i := 5) sc.nd rfl (by first | exact Or.inl rfl | exact Or.inr rfl))) (fun _ _ _ _ _ => pts_nil) (fun _ _ _ _ _ => (pe_tup (pa_cons (pe_c c_law_draw hr (by decide) (by rfl) (pa_cons (pv 0) (pa_cons (pv 5) pa_nil))) (pa_cons (pv 5) pa_nil))))))
            (pss_one (ps_if (PW.pt (pw_and (pt_cmpR op_eq (pv 2) pe_int (nomark _)) (pw_and1 (pt_cmpR op_gt (pv 1) pe_int (nomark _)))))
              (pss_cons (ps_set (i := 4) sc.nd rfl (by first | exact Or.inl rfl | exact Or.inr rfl) (pe_c c_law_draw hr (by decide) (by rfl) (pa_cons (pv 0) (pa_cons (pe_op op_sub (pv 1) pe_int) pa_nil))))
              (pss_one (ps_set (i := 3) sc.nd rfl (by first | exact Or.inl rfl | exact Or.inr rfl) (pe_op op_cat (pe_slice (ksl_list (K := K) rfl) (pv 3) po_none (po_some (pv 4))) (pe_slice (ksl_list (K := K) rfl) (pv 3) (po_some (pe_op op_add (pv 4) pe_int)) po_none)))))
              (pss_one (ps_if (pt_cmpR op_eq (pv 2) pe_int (nomark _))
                (pss_one (ps_set (i := 3) sc.nd rfl (by first | exact Or.inl rfl | exact Or.inr rfl) (pe_lst pa_nil)))
                (pss_one (ps_if (pt_cmpR op_eq (pv 2) pe_int (nomark _))
                  (pss_one (ps_set (i := 3) sc.nd rfl (by first | exact Or.inl rfl | exact Or.inr rfl) (pe_op op_cat (pv 3) (pe_lc (own := [("_law_k", 5)]) rfl sc.nd (pi_range1 (by rfl) T.range (pa_cons (pe_op op_sub (pv 1) pe_int) pa_nil)) (blkOk_by (N := ["_law_pot_here", "_law_size", "_law_kind", "_law_pairs_here", "_law_gap", "_law_k", "_law_one"]) (sc := defScope s_law_pairs) (by decide +kernel)) (fun _ _ _ _ _ => (pg_name (i := 5) sc.nd rfl (by first | exact Or.inl rfl | exact Or.inr rfl))) (fun _ _ _ _ _ => pts_nil) (fun _ _ _ _ _ => (pe_tup (pa_cons (pv 5) (pa_cons (pe_op op_add (pv 5) pe_int) pa_nil))))))))
                  pss_nil)))))))))))
      (pss_cons (ps_for PassesOwn.never rfl (pi_range1 (by rfl) T.range (pa_cons (pe_c c_law_draw hr (by decide) (by rfl) (pa_cons (pv 0) (pa_cons pe_int pa_nil))) pa_nil)) (pg_name (i := 5) sc.nd rfl (by first | exact Or.inl rfl | exact Or.inr rfl))
        (pss_cons (ps_set (i := 6) sc.nd rfl (by first | exact Or.inl rfl | exact Or.inr rfl) (pe_c c_law_draw hr (by decide) (by rfl) (pa_cons (pv 0) (pa_cons (pv 1) pa_nil))))
        (pss_one (ps_expr (pe_bm PySem.F.plainAttrs_list PySem.F.slot_list_append PySem.F.type_list_append mt_append (pv 3) (pa_cons (pe_tup (pa_cons (pv 6) (pa_cons (pe_op op_mod (pe_callTy cq_int (by rfl) T.int (by decide +kernel) (pa_cons (pe_op op_add (pe_op op_add (pv 6) pe_int) (pe_c c_law_draw hr (by decide) (by rfl) (pa_cons (pv 0) (pa_cons (pe_op op_sub (pv 1) pe_int) pa_nil)))) pa_nil)) (pv 1)) pa_nil))) pa_nil))))))
      (pss_one (ps_ret (pv 3))))))), ?_⟩
    walk_at "s"
    refine ⟨p, r, 8, rfl, hpot, by omega, by omega, fun x H1 hx k1 hpot1 => ?_⟩
    walk_at "s"
    refine g_mod (by omega) ?_
    generalize ((x : Int) + 1) % 8 = kind at *
    walk_at "s"
    refine ⟨_, rfl, by omega, by omega, fun D hD => ?_⟩
    rw [show ((n : Int) - 1).toNat = n - 1 from by omega]
    refine lc_range (n := n - 1) (fun i H' => Ex H1 H' ∧ PL H H' n i D) ⟨.new hD, k1.free hD, [], upd_same, Nat.le_refl _, fun v hv => absurd hv List.not_mem_nil⟩ (fun i H2 hi hx => ?_) (fun H2 hx => ?_)
    · obtain ⟨k2, hpl⟩ := hx
      walk_at "s"
      refine ⟨rfl, ?_⟩
      walk_at "s"
      refine ⟨sz, fun t ht => ?_⟩
      rw [show ((0 : Int) + (i : Int)) = (i : Int) from Int.zero_add _, show ((i : Int) + 1) = ((i + 1 : Nat) : Int) from rfl]
      obtain ⟨xs, e1, e2, e3⟩ := hpl.snoc ht (a := i) (b := i + 1) (by omega) (by omega) (by omega)
      exact ⟨xs, e1, small1000 (by omega), (k2.nnew ht).mutL hD e1, e3⟩
    · obtain ⟨k2, hpl⟩ := hx
      have kk2 := k1.trans (.of_ex k2)
      have hpot2 := hpot1.ex k2
      walk_at "s"
      refine ⟨fun σ H' => ∃ (L : Addr) (y4 y5 y6 : Option V), σ = [some (.ref p), some (.int n), some (.int kind), some (.ref L), y4, y5, y6] ∧ Kp [p] H H' ∧ PotAt p r H' ∧ PL H H' n 9 L, ?_, ?_⟩
      · walk_at "s"
        have skip : ∃ (L : Addr) (y4 y5 y6 : Option V), ((L2.start ["_law_pot_here", "_law_size", "_law_kind", "_law_pairs_here", "_law_gap", "_law_k", "_law_one"] [V.ref p, V.int (n : Int)]).set 2 (some (.int kind))).set 3 (some (.ref D)) = [some (.ref p), some (.int n), some (.int kind), some (.ref L), y4, y5, y6] ∧ Kp [p] H H2 ∧ PotAt p r H2 ∧ PL H H2 n 9 L := ⟨D, _, _, _, rfl, kk2, hpot2, hpl.mono (by omega)⟩
        refine ite2 (fun e => ?_) (fun e => ?_)
        · obtain ⟨hD0, xs, hD2, hxl, hxs⟩ := id hpl
          walk_at "s"
          refine g_ty hD2 ?_
          walk_at "s"
          refine ⟨sz, fun t ht => ?_⟩
          walk_at "s"
          rw [show ((n : Int) - 1) = ((n - 1 : Nat) : Int) from by omega]
          obtain ⟨xs, e1, e2, e3⟩ := hpl.snoc ht (a := 0) (b := n - 1) (by omega) (by omega) (by omega)
          refine g_app e1 (by omega) ?_
          walk_at "s"
          exact ⟨D, _, _, _, rfl, (kk2.nnew ht).mutPL hD0 e1, (hpot2.ex (.new ht)).upd (hpot.ne hD0), e3.mono (by omega)⟩
        · walk_at "s"
          refine ite2 (fun e => ?_) (fun e => ?_)
          · walk_at "s"
            refine ⟨_, _, rfl, by omega, fun D2 hD2 => ?_⟩
            rw [show ((n : Int) - 1).toNat = n - 1 from by omega]
            refine lc_range (n := n - 1) (lo := 1) (fun i H' => Ex H2 H' ∧ PL H H' n i D2) ⟨.new hD2, kk2.free hD2, [], upd_same, Nat.le_refl _, fun v hv => absurd hv List.not_mem_nil⟩ (fun i H3 hi hx => ?_) (fun H3 hx => ?_)
            · obtain ⟨k3, hpl3⟩ := hx
              walk_at "s"
              refine ⟨rfl, ?_⟩
              walk_at "s"
              refine ⟨sz, fun t ht => ?_⟩
              rw [show ((1 : Int) + (i : Int)) = ((1 + i : Nat) : Int) from by omega]
              obtain ⟨xs, e1, e2, e3⟩ := hpl3.snoc ht (a := 0) (b := 1 + i) (by omega) (by omega) (by omega)
              exact ⟨xs, e1, small1000 (by omega), (k3.nnew ht).mutL hD2 e1, e3⟩
            · obtain ⟨k3, hpl3⟩ := hx
              exact ⟨D2, _, _, _, rfl, kk2.trans (.of_ex k3), hpot2.ex k3, hpl3.mono (by omega)⟩
          · walk_at "s"
            refine ite2 (fun e => ?_) (fun e => ?_)
            · walk_at "s"
              refine ⟨_, _, rfl, by omega, fun D2 hD2 => ?_⟩
              have hD2H := kk2.free hD2
              have hD2p := hpot.ne hD2H
              rw [show ((n : Int) - 1).toNat = n - 1 from by omega]
              refine lc_range (n := n - 1) (lo := 1) (fun i H' => Kp [p] H H' ∧ PotAt p r H' ∧ PL H H' n i D2) ⟨kk2.nnew hD2, hpot2.ex (.new hD2), hD2H, [], upd_same, Nat.le_refl _, fun v hv => absurd hv List.not_mem_nil⟩ (fun i H3 hi hx => ?_) (fun H3 hx => ?_)
              · obtain ⟨k3, hpot3, hpl3⟩ := hx
                walk_at "s"
                refine ⟨rfl, ?_⟩
                walk_at "s"
                rw [show ((1 : Int) + (i : Int)) = ((1 + i : Nat) : Int) from by omega]
                refine ⟨p, r, 1 + i, rfl, hpot3, by omega, by omega, fun y H4 hy k4 hpot4 => ?_⟩
                walk_at "s"
                refine ⟨sz, fun t ht => ?_⟩
                have hpl4 := hpl3.kp k4 (by simpa using hD2p.1)
                obtain ⟨xs, e1, e2, e3⟩ := hpl4.snoc ht (a := y) (b := 1 + i) (by omega) (by omega) (by omega)
                exact ⟨xs, e1, small1000 (by omega), ((k3.trans k4).nnew ht).mutPL hD2H e1, (hpot4.ex (.new ht)).upd hD2p, e3⟩
              · obtain ⟨k3, hpot3, hpl3⟩ := hx
                exact ⟨D2, _, _, _, rfl, k3, hpot3, hpl3.mono (by omega)⟩
            · walk_at "s"
              refine ite2 (fun e => ?_) (fun e => ?_)
              · have ek : kind = 4 := of_decide_eq_true e
                subst ek
                walk_at "s"
                refine ite2 (fun e => ?_) (fun e => ?_)
                · walk_at "s"
                  refine ⟨p, r, n - 1, by rw [show ((n : Int) - 1) = ((n - 1 : Nat) : Int) from by omega]; rfl, hpot2, by omega, by omega, fun g H4 hg k4 hpot4 => ?_⟩
                  have hDp := hpot.ne hpl.1
                  obtain ⟨hD0, xs, hD4, hxl, hxs⟩ := hpl.kp k4 (by simpa using hDp.1)
                  walk_at "s"
                  refine ⟨D, xs, rfl, .of hD4, fun q1 hq1 => ?_⟩
                  walk_at "s"
                  have k5 : Ex H4 (upd H4 q1 (.lst (cutV xs none (some (g : Int))))) := .new hq1
                  refine ⟨D, xs, rfl, .of (k5.keep _ _ hD4 List.not_mem_nil), fun q2 hq2 => ?_⟩
                  have k6 := k5.nnew (o := .lst (cutV xs (some ((g : Int) + 1)) none)) hq2
                  have l1 := len_cutV xs none (some (g : Int))
                  have l2 := len_cutV xs (some ((g : Int) + 1)) none
                  refine ⟨q1, q2, _, _, rfl, rfl, by rw [upd_ne (ne_of_none upd_same hq2), upd_same], upd_same, ?_, fun q3 hq3 => ?_⟩
                  · have := small1000 (n := 18) (by omega)
                    omega
                  have k7 := k6.nnew (o := .lst (cutV xs none (some (g : Int)) ++ cutV xs (some ((g : Int) + 1)) none)) hq3
                  have k27 := (kk2.trans k4).trans (.of_ex k7)
                  have hq3H : H q3 = none := ((kk2.trans k4).trans (.of_ex k6)).free hq3
                  refine ⟨q3, _, _, _, rfl, k27, hpot4.ex k7, hq3H, _, upd_same, ?_, fun v hv => ?_⟩
                  · rw [List.length_append]
                    omega
                  · have hv' : v ∈ xs := (List.mem_append.mp hv).elim mem_cutV mem_cutV
                    exact (hxs v hv').kp k7
                · walk_at "s"
                  rw [decide_eq_false (by omega)]
                  refine iteF ?_
                  walk_at "s"
                  rw [decide_eq_false (by omega)]
                  refine iteF ?_
                  walk_at "s"
                  exact skip
              · refine iteF ?_
                walk_at "s"
                refine ite2 (fun e => ?_) (fun e => ?_)
                · walk_at "s"
                  refine ⟨sz, fun q1 hq1 => ?_⟩
                  exact ⟨q1, _, _, _, rfl, kk2.nnew hq1, hpot2.ex (.new hq1), kk2.free hq1, [], upd_same, Nat.zero_le _, fun v hv => absurd hv List.not_mem_nil⟩
                · walk_at "s"
                  refine ite2 (fun e => ?_) (fun e => ?_)
                  · walk_at "s"
                    refine ⟨_, rfl, by omega, by omega, fun D2 hD2 => ?_⟩
                    rw [show ((n : Int) - 2).toNat = n - 2 from by omega]
                    refine lc_range (n := n - 2) (fun i H' => Ex H2 H' ∧ PL H H' n i D2) ⟨.new hD2, kk2.free hD2, [], upd_same, Nat.le_refl _, fun v hv => absurd hv List.not_mem_nil⟩ (fun i H3 hi hx => ?_) (fun H3 hx => ?_)
                    · obtain ⟨k3, hpl3⟩ := hx
                      walk_at "s"
                      refine ⟨rfl, ?_⟩
                      walk_at "s"
                      refine ⟨sz, fun t ht => ?_⟩
                      rw [show ((0 : Int) + (i : Int)) = (i : Int) from Int.zero_add _, show ((i : Int) + 2) = ((i + 2 : Nat) : Int) from rfl]
                      obtain ⟨xs, e1, e2, e3⟩ := hpl3.snoc ht (a := i) (b := i + 2) (by omega) (by omega) (by omega)
                      exact ⟨xs, e1, small1000 (by omega), (k3.nnew ht).mutL hD2 e1, e3⟩
                    · obtain ⟨k3, hpl3⟩ := hx
                      obtain ⟨_, ys, hY, hyl, hys⟩ := hpl3
                      obtain ⟨_, xs, hX, hxl, hxs⟩ := hpl.kp k3 List.not_mem_nil
                      refine ⟨D, D2, xs, ys, rfl, rfl, hX, hY, ?_, fun q3 hq3 => ?_⟩
                      · have := small1000 (n := 18) (by omega)
                        omega
                      have k23 := kk2.trans (.of_ex k3)
                      refine ⟨q3, _, _, _, rfl, k23.nnew hq3, (hpot2.ex k3).ex (.new hq3), k23.free hq3, _, upd_same, ?_, fun v hv => ?_⟩
                      · rw [List.length_append]
                        omega
                      · exact ((List.mem_append.mp hv).elim (hxs v) (hys v)).kp (Kp.new (S := []) hq3)
                  · walk_at "s"
                    exact skip
      · rintro σ H3 ⟨L, y4, y5, y6, rfl, k3, hpot3, hpl3⟩
        walk_at "s"
        refine ⟨p, r, 4, rfl, hpot3, by omega, by omega, fun tn H4 htn k4 hpot4 => ?_⟩
        walk_at "s"
        have hLH := hpl3.1
        have hLp := hpot.ne hLH
        refine ⟨_, rfl, by omega, by omega, ?_⟩
        refine for_range (n := tn) (fun i σ H' => ∃ (y4 y5 y6 : Option V), σ = [some (.ref p), some (.int n), some (.int kind), some (.ref L), y4, y5, y6] ∧ Kp [p] H H' ∧ PotAt p r H' ∧ PL H H' n (9 + i) L) ⟨_, _, _, rfl, k3.trans k4, hpot4, hpl3.kp k4 (by simpa using hLp.1)⟩ (fun i σ H5 hi hx => ?_) (fun σ H5 hx => ?_)
        · obtain ⟨y4, y5, y6, rfl, k5, hpot5, hpl5⟩ := hx
          walk_at "s"
          refine ⟨p, r, n, rfl, hpot5, by omega, by omega, fun one H6 hone k6 hpot6 => ?_⟩
          walk_at "s"
          have hpl6 := hpl5.kp k6 (by simpa using hLp.1)
          obtain ⟨_, xs, hL6, _, _⟩ := id hpl6
          refine g_ty hL6 ?_
          walk_at "s"
          refine ⟨p, r, n - 1, by rw [show ((n : Int) - 1) = ((n - 1 : Nat) : Int) from by omega]; rfl, hpot6, by omega, by omega, fun d H7 hd k7 hpot7 => ?_⟩
          walk_at "s"
          refine g_mod (by omega) ?_
          walk_at "s"
          refine ⟨sz, fun t ht => ?_⟩
          walk_at "s"
          have hpl7 := hpl6.kp k7 (by simpa using hLp.1)
          have emod : ((one : Int) + 1 + (d : Int)) % (n : Int) = (((one + 1 + d) % n : Nat) : Int) := rfl
          have hmod : (one + 1 + d) % n < n ∧ one ≠ (one + 1 + d) % n := by
            by_cases z : one + 1 + d < n
            · rw [Nat.mod_eq_of_lt z]
              omega
            · rw [Nat.mod_eq_sub_mod (by omega), Nat.mod_eq_of_lt (by omega)]
              omega
          rw [emod]
          obtain ⟨xs, e1, e2, e3⟩ := hpl7.snoc ht hone hmod.1 hmod.2
          refine g_app e1 (by omega) ?_
          walk_at "s"
          exact ⟨_, _, _, rfl, (((k5.trans k6).trans k7).nnew ht).mutPL hLH e1, (hpot7.ex (.new ht)).upd hLp, e3⟩
        · obtain ⟨y4, y5, y6, rfl, k5, hpot5, hpl5⟩ := hx
          walk_at "s"
          exact q L H5 k5 hpot5 (hpl5.mono (by omega))
end
end K8
set_option Elab.async false
set_option linter.all false
set_option maxRecDepth 100000
set_option maxHeartbeats 4000000
namespace K8
open PySem PySem.Spec PyProof.Rows L2
local macro_rules | `(tactic| walk_at "s") => `(tactic| repeat (first
  | with_reducible refine g_seq ?_ | with_reducible refine g_ret ?_ | with_reducible refine g_asg ?_ | with_reducible refine g_name ?_ | with_reducible refine g_c ?_ | with_reducible refine g_op ?_ | with_reducible refine g_cons ?_ | with_reducible refine g_nil ?_
  | (with_reducible show tVar _ _ _ _; refine g_var rfl ?_) | with_reducible refine g_cb ?_ | with_reducible refine g_call ?_ | with_reducible refine g_if ?_ | with_reducible refine g_test ?_ | with_reducible refine g_tB ?_ | with_reducible refine g_i0 ?_ | with_reducible refine g_bl ?_
  | with_reducible refine g_add ?_ | with_reducible refine g_sub ?_ | with_reducible refine g_eqI ?_ | with_reducible refine g_neI ?_ | with_reducible refine g_drop ?_ | with_reducible refine g_next ?_ | with_reducible refine g_break ?_ | with_reducible refine g_un ?_ | with_reducible refine g_u ?_
  | with_reducible refine g_ifE ?_ | with_reducible refine g_and ?_ | with_reducible refine g_or ?_ | with_reducible refine g_not ?_ | with_reducible refine g_andV ?_ | with_reducible refine g_orV ?_ | with_reducible refine g_notV ?_ | with_reducible refine g_isN ?_ | with_reducible refine g_notN ?_
  | with_reducible refine g_gnil ?_ | with_reducible refine g_gcons ?_ | with_reducible refine g_bm ?_ | with_reducible refine g_abs ?_ | with_reducible refine g_max ?_ | with_reducible refine g_min ?_ | with_reducible refine g_int ?_ | with_reducible refine g_lc ?_ | with_reducible refine g_for ?_ | with_reducible refine g_yes ?_ | with_reducible refine g_rng1 ?_ | with_reducible refine g_rng2 ?_ | with_reducible refine g_il ?_ | with_reducible refine g_it ?_ | with_reducible refine g_en ?_ | with_reducible refine g_zp ?_ | with_reducible refine g_mkT ?_ | with_reducible refine g_mkL ?_ | with_reducible refine g_augS ?_ | (with_reducible show tAug _ _ _ _ _ _; refine g_aug rfl ?_) | with_reducible refine g_ipI ?_ | with_reducible refine g_gsub ?_ | with_reducible refine g_dget ?_ | with_reducible refine g_din ?_ | with_reducible refine g_dnotin ?_ | with_reducible refine g_dput ?_ | with_reducible refine g_dc ?_ | with_reducible refine g_sl ?_ | with_reducible refine g_nopart ?_ | with_reducible refine g_part ?_ | with_reducible refine g_exI ?_ | with_reducible refine g_revL ?_ | (with_reducible show iSq _ _ _ _; refine g_sq rfl ?_) | with_reducible refine g_while ?_ | with_reducible refine g_min3 ?_ | with_reducible refine g_trq ?_ | with_reducible refine g_lock ?_ | with_reducible refine g_mko ?_ | with_reducible refine g_keys ?_ | with_reducible refine g_eqS ?_ | with_reducible refine g_lrg ?_ | with_reducible refine g_trg ?_ | with_reducible refine g_rg1 ?_ | with_reducible refine g_cut ?_ | with_reducible refine g_disp ?_ | with_reducible refine g_dnew ?_ | with_reducible refine iteT ?_ | with_reducible refine iteF ?_))
theorem LnsAt.app {H : Hp} {t1 t2 : List Addr} {l1 l2 : List Ln} (h1 : LnsAt H t1 l1) (h2 : LnsAt H t2 l2) : LnsAt H (t1 ++ t2) (l1 ++ l2) := by
  refine ⟨by rw [List.length_append, List.length_append, h1.1, h2.1], fun i t l e1 e2 => ?_⟩
  by_cases hi : i < t1.length
  · rw [List.getElem?_append_left hi] at e1
    rw [List.getElem?_append_left (by rw [← h1.1]; exact hi)] at e2
    exact h1.2 i t l e1 e2
  · rw [List.getElem?_append_right (by omega)] at e1
    rw [List.getElem?_append_right (by rw [← h1.1]; omega), ← h1.1] at e2
    exact h2.2 _ t l e1 e2
theorem LnsAt.take {H : Hp} {ts : List Addr} {ls : List Ln} (h : LnsAt H ts ls) (n : Nat) : LnsAt H (ts.take n) (ls.take n) := by
  refine ⟨by rw [List.length_take, List.length_take, h.1], fun i t l e1 e2 => ?_⟩
  rw [List.getElem?_take] at e1 e2
  split at e1
  · rename_i hi
    rw [if_pos hi] at e2
    exact h.2 i t l e1 e2
  · cases e1
theorem LnsAt.drop {H : Hp} {ts : List Addr} {ls : List Ln} (h : LnsAt H ts ls) (n : Nat) : LnsAt H (ts.drop n) (ls.drop n) := by
  refine ⟨by rw [List.length_drop, List.length_drop, h.1], fun i t l e1 e2 => ?_⟩
  rw [List.getElem?_drop] at e1 e2
  exact h.2 _ t l e1 e2
theorem LnsAt.one {H : Hp} {t : Addr} {l : Ln} (h : H t = some (.tup (lnV l))) : LnsAt H [t] [l] := by
  refine ⟨rfl, fun i t' l' e1 e2 => ?_⟩
  cases i with
  | zero =>
    simp at e1 e2
    subst e1 e2
    exact h
  | succ i => simp at e1
theorem LnsAt.nil {H : Hp} : LnsAt H [] [] := ⟨rfl, fun i t l e => by simp at e⟩
def prodR : List Ln → Int
  | [] => 1
  | l :: r => (l.r + 1) * prodR r
theorem prodR_app : ∀ (a b : List Ln), prodR (a ++ b) = prodR a * prodR b
  | [], b => (Int.one_mul _).symm
  | l :: a, b => by
    show (l.r + 1) * prodR (a ++ b) = (l.r + 1) * prodR a * prodR b
    rw [prodR_app a b, Int.mul_assoc]
theorem prodR_ins (ls : List Ln) (l : Ln) (i : Nat) : prodR (ls.take i ++ [l] ++ ls.drop i) = prodR ls * (l.r + 1) := by
  have h := prodR_app (ls.take i) (ls.drop i)
  rw [List.take_append_drop] at h
  rw [prodR_app, prodR_app, h]
  show prodR (ls.take i) * ((l.r + 1) * 1) * prodR (ls.drop i) = _
  rw [Int.mul_one, Int.mul_assoc, Int.mul_comm (l.r + 1), Int.mul_assoc]
theorem g_catA {H : Hp} {Q : VK} {K : PySem.W.Frag} {a b : Addr} {xs ys : List V} (ea : H a = some (.tup xs)) (eb : H b = some (.tup ys)) (hl : xs.length + ys.length ≤ 1000) (h : ∀ (q : Addr) (H' : Hp), Ex H H' → H' q = some (.tup (xs ++ ys)) → Q (.ref q) H') : rCatA K (.ref a) (.ref b) H Q := by
  refine ⟨a, b, xs, ys, rfl, rfl, .of ea, .of eb, by have := small1000 hl; omega, fun z => ?_, fun _ z => ?_, fun _ _ p hp => h p _ (.new hp) upd_same⟩
  · subst z
    exact h b H (.refl _ _) eb
  · subst z
    refine h a H (.refl _ _) ?_
    rw [List.append_nil]
    exact ea
def LinesOk (n : Nat) (ls : List Ln) : Prop := ∀ l ∈ ls, l.a < l.b ∧ l.b < n ∧ 1 ≤ l.r
section
variable {P : Program} {w : World} {K : PySem.W.Frag} {mg : Str → Option Value} {base : Heap} {f : Addr} {fd : FuncData} {k : Nat}
theorem sc_law_web : FnScope ["_law_pot_here", "_law_bound", "_law_size", "_law_order_here", "_law_top", "_law_many_here", "_law_lines", "_law_pair", "_law_room", "_law_one", "_law_other"] ["_law_pot_here", "_law_bound"] (defScope s_law_web) := ⟨rfl, rfl, rfl, by decide +kernel, rfl, by decide +kernel, by decide +kernel⟩
def sp_law_web : Sp := fun vs H Q _ => ∃ (p r : Addr), vs = [.ref p, .int 150] ∧ PotAt p r H ∧ ∀ (W : Wb) (q : Addr) (H' : Hp), Kp [p] H H' → PotAt p r H' → WebAt H' (.ref q) W → WebOk W → W.n ≤ 5 → prodR W.ls ≤ 150 → W.ls.length ≤ 12 → Q (.ref q) H'
theorem ok_law_web (F : Fun K "_law_web" "_law_web" s_law_web f fd) (T : Txt mg) (c_law_draw : Cal P w K mg base 1 "_law_draw" sp_law_draw) (c_law_order : Cal P w K mg base 2 "_law_order" sp_law_order) (c_law_pairs : Cal P w K mg base 2 "_law_pairs" sp_law_pairs) :
    FnOk P w K mg base CX0 3 f fd ["_law_pot_here", "_law_bound"] sp_law_web := by
  have sc := sc_law_web
  refine F.ok sc (fun vs H Q E h => ?_) (fun cdv A outer s H vs Q E hr h => ?_)
  · obtain ⟨p, r, rfl, _⟩ := h
    rfl
  · obtain ⟨p, r, rfl, hpot, q⟩ := h
    refine ⟨_, (pss_cons (ps_set (i := 2) sc.nd rfl (by first | exact Or.inl rfl | exact Or.inr rfl) (pe_op op_add pe_int (pe_c c_law_draw hr (by decide) (by rfl) (pa_cons (pv 0) (pa_cons pe_int pa_nil)))))
      (pss_cons (ps_if (pt_cmpR op_eq (pe_c c_law_draw hr (by decide) (by rfl) (pa_cons (pv 0) (pa_cons pe_int pa_nil))) pe_int (nomark _))
        (pss_one (ps_ret (pe_tup (pa_cons pe_int (pa_cons (pe_tup pa_nil) pa_nil)))))
        pss_nil)
      (pss_cons (ps_set (i := 3) sc.nd rfl (by first | exact Or.inl rfl | exact Or.inr rfl) (pe_c c_law_order hr (by decide) (by rfl) (pa_cons (pv 0) (pa_cons (pv 2) pa_nil))))
      (pss_cons (ps_set (i := 4) sc.nd rfl (by first | exact Or.inl rfl | exact Or.inr rfl) pe_int)
      (Evl.pss_cut (ps_if (PW.pt (pw_and (pt_cmpR op_lt (pv 2) pe_int (nomark _)) (pw_and1 (pt_cmpR op_eq (pe_c c_law_draw hr (by decide) (by rfl) (pa_cons (pv 0) (pa_cons pe_int pa_nil))) pe_int (nomark _)))))
        (pss_one (ps_set (i := 4) sc.nd rfl (by first | exact Or.inl rfl | exact Or.inr rfl) pe_int))
        pss_nil)
      (pss_cons (ps_set (i := 5) sc.nd rfl (by first | exact Or.inl rfl | exact Or.inr rfl) pe_int)
      (pss_cons (ps_set (i := 6) sc.nd rfl (by first | exact Or.inl rfl | exact Or.inr rfl) (pe_lst pa_nil))
      (pss_cons (ps_for PassesOwn.never rfl (kpi_list (K := K) rfl (pe_c c_law_pairs hr (by decide) (by rfl) (pa_cons (pv 0) (pa_cons (pv 2) pa_nil)))) (pg_name (i := 7) sc.nd rfl (by first | exact Or.inl rfl | exact Or.inr rfl))
        (pss_cons (ps_set (i := 8) sc.nd rfl (by first | exact Or.inl rfl | exact Or.inr rfl) (pe_callB (cq_min rfl) (by rfl) T.min (by decide +kernel) (pa_cons (pe_op op_add pe_int (pe_c c_law_draw hr (by decide) (by rfl) (pa_cons (pv 0) (pa_cons (pv 4) pa_nil)))) (pa_cons (pe_op op_sub (pe_op op_fdiv (pv 1) (pv 5)) pe_int) pa_nil))))
        (pss_one (ps_if (pt_cmpR op_gt (pv 8) pe_int (nomark _))
          (pss_cons (ps_set (i := 5) sc.nd rfl (by first | exact Or.inl rfl | exact Or.inr rfl) (pe_op op_mul (pv 5) (pe_op op_add (pv 8) pe_int)))
          (pss_cons (ps_set (i := 9) sc.nd rfl (by first | exact Or.inl rfl | exact Or.inr rfl) (pe_ix (kx_tup (K := K) rfl) (pv 3) (pe_ix (kx_tup (K := K) rfl) (pv 7) pe_int (fun _ _ => rfl)) (fun _ _ => rfl)))
          (pss_cons (ps_set (i := 10) sc.nd rfl (by first | exact Or.inl rfl | exact Or.inr rfl) (pe_ix (kx_tup (K := K) rfl) (pv 3) (pe_ix (kx_tup (K := K) rfl) (pv 7) pe_int (fun _ _ => rfl)) (fun _ _ => rfl)))
          (pss_one (ps_expr (pe_bm PySem.F.plainAttrs_list PySem.F.slot_list_insert PySem.F.type_list_insert mt_insert (pv 6) (pa_cons (pe_c c_law_draw hr (by decide) (by rfl) (pa_cons (pv 0) (pa_cons (pe_op op_add (pe_callB (kq_len (K := K) rfl) (by rfl) T.len (by decide +kernel) (pa_cons (pv 6) pa_nil)) pe_int) pa_nil))) (pa_cons (pe_tup (pa_cons (pe_callB (cq_min rfl) (by rfl) T.min (by decide +kernel) (pa_cons (pv 9) (pa_cons (pv 10) pa_nil))) (pa_cons (pe_callB (cq_max rfl) (by rfl) T.max (by decide +kernel) (pa_cons (pv 9) (pa_cons (pv 10) pa_nil))) (pa_cons (pv 8) pa_nil)))) pa_nil))))))))
          pss_nil))))
      (pss_one (ps_ret (pe_tup (pa_cons (pv 2) (pa_cons (pe_callTy (kq_tup (K := K) rfl) (by rfl) T.tuple (by decide +kernel) (pa_cons (pv 6) pa_nil)) pa_nil))))))))))))), ?_⟩
    walk_at "s"
    refine ⟨p, r, 4, rfl, hpot, by omega, by omega, fun x H1 hx k1 hpot1 => ?_⟩
    walk_at "s"
    obtain ⟨n, hn, hn2, hn5⟩ : ∃ n : Nat, (2 : Int) + (x : Int) = n ∧ 2 ≤ n ∧ n ≤ 5 := ⟨2 + x, by omega, by omega, by omega⟩
    rw [hn]
    refine ⟨p, r, 17, rfl, hpot1, by omega, by omega, fun y H2 hy k2 hpot2 => ?_⟩
    have k12 := k1.trans k2
    walk_at "s"
    refine ite2 (fun e => ?_) (fun e => ?_)
    · walk_at "s"
      refine ⟨sz, fun t1 ht1 => ?_⟩
      walk_at "s"
      refine ⟨sz, fun t2 ht2 => ?_⟩
      have ne12 := ne_of_none upd_same ht2
      refine q ⟨1, []⟩ t2 _ ((k12.nnew ht1).nnew ht2) ((hpot2.ex (.new ht1)).ex (.new ht2)) ⟨t2, t1, [], rfl, upd_same, by rw [upd_ne ne12, upd_same]; rfl, .nil⟩ ⟨by decide, by decide, by decide, fun l hl => absurd hl List.not_mem_nil⟩ (by decide) (by decide) (by decide)
    · walk_at "s"
      refine ⟨p, r, n, rfl, hpot2, by omega, fun os ot H3 hos k3 hpot3 hot => ?_⟩
      have k13 := k12.trans k3
      have hosl : os.length = n := by rw [hos.length_eq, List.length_range]
      have hosd : os.Nodup := hos.nodup_iff.mpr List.nodup_range
      have hoslt : ∀ v ∈ os, v < n := fun v hv => List.mem_range.mp (hos.mem_iff.mp hv)
      walk_at "s"
      refine ⟨fun σ H' => ∃ (top : Nat) (y5 y6 y7 y8 y9 y10 : Option V), σ = [some (.ref p), some (.int 150), some (.int n), some (.ref ot), some (.int top), y5, y6, y7, y8, y9, y10] ∧ 1 ≤ top ∧ top ≤ 12 ∧ Kp [p] H H' ∧ PotAt p r H' ∧ H' ot = some (.tup (zs (hs os))), ?_, ?_⟩
      · walk_at "s"
        refine ite2 (fun e => ?_) (fun e => ?_)
        · walk_at "s"
          refine ⟨p, r, 3, rfl, hpot3, by omega, by omega, fun z H4 hz k4 hpot4 => ?_⟩
          walk_at "s"
          refine ite2 (fun e => ?_) (fun e => ?_)
          · walk_at "s"
            exact ⟨12, _, _, _, _, _, _, rfl, by omega, by omega, k13.trans k4, hpot4, k4.tup _ _ hot⟩
          · walk_at "s"
            exact ⟨3, _, _, _, _, _, _, rfl, by omega, by omega, k13.trans k4, hpot4, k4.tup _ _ hot⟩
        · refine iteF ?_
          walk_at "s"
          exact ⟨3, _, _, _, _, _, _, rfl, by omega, by omega, k13, hpot3, hot⟩
      · rintro σ H4 ⟨top, y5, y6, y7, y8, y9, y10, rfl, ht1, ht2, k4, hpot4, hot4⟩
        walk_at "s"
        refine ⟨sz, fun L hL => ?_⟩
        walk_at "s"
        have hLH := k4.free hL
        have hLp := hpot.ne hLH
        have kL := k4.nnew (o := .lst []) hL
        refine ⟨p, r, n, rfl, hpot4.ex (.new hL), hn2, hn5, fun Lp H5 k5 hpot5 hpl => ?_⟩
        obtain ⟨hLp0, xs, hX, hxl, hxs⟩ := hpl
        have hL5 := k5.keep _ _ upd_same (by simpa using hLp.1)
        have hot5 := k5.tup _ _ ((Kp.new (S := []) hL).tup _ _ hot4)
        have hLpp := (hpot4.ex (.new (o := .lst []) hL)).ne hLp0
        have hLLp : Lp ≠ L := fun z => by rw [z, upd_same] at hLp0; cases hLp0
        have hLpH := kL.free hLp0
        walk_at "s"
        refine ⟨Lp, rfl, ⟨_, .of hX⟩, ?_⟩
        refine for_it (walk_list (xs := xs)) (fun i σ H' => ∃ (ls : List Ln) (ts : List Addr) (y7 y8 y9 y10 : Option V), σ = [some (.ref p), some (.int 150), some (.int n), some (.ref ot), some (.int top), some (.int (prodR ls)), some (.ref L), y7, y8, y9, y10] ∧ Kp [p] H H' ∧ PotAt p r H' ∧ H' ot = some (.tup (zs (hs os))) ∧ H' Lp = some (.lst xs) ∧ (∀ v ∈ xs, PairV n H' v) ∧ H' L = some (.lst (ts.map V.ref)) ∧ LnsAt H' ts ls ∧ LinesOk n ls ∧ 1 ≤ prodR ls ∧ prodR ls ≤ 150 ∧ ls.length ≤ i)
          ⟨[], [], _, _, _, _, rfl, kL.trans k5, hpot5, hot5, hX, hxs, hL5, .nil, fun l hl => absurd hl List.not_mem_nil, by decide, by decide, Nat.le_refl _⟩ (fun i σ H' _ h => ?_) (fun i x σ H6 H7 hi hx hy => ?_) (fun σ H6 hx => ?_)
        · obtain ⟨_, _, _, _, _, _, _, _, _, _, hX, _⟩ := h
          exact .of hX
        · obtain ⟨ls, ts, y7, y8, y9, y10, rfl, k6, hpot6, hot6, hX6, hxs6, hL6, hln, hlo, hp1, hp2, hll⟩ := hx
          obtain ⟨rfl, ex⟩ := hy
          obtain ⟨pt, a, b, rfl, hpt, ha, hb, hab⟩ := hxs6 x (List.mem_of_getElem? ex)
          walk_at "s"
          refine ⟨p, r, top, rfl, hpot6, by omega, by omega, fun z H8 hz k8 hpot8 => ?_⟩
          walk_at "s"
          refine g_div (by omega) ?_
          walk_at "s"
          have hdiv : prodR ls * (150 / prodR ls) ≤ 150 := Int.mul_ediv_self_le (by omega)
          have hroom : min (1 + (z : Int)) (150 / prodR ls - 1) ≤ 150 / prodR ls - 1 := Int.min_le_right _ _
          generalize min (1 + (z : Int)) (150 / prodR ls - 1) = room at *
          have k68 := k6.trans k8
          have hot8 := k8.tup _ _ hot6
          have hL8 := k8.keep _ _ hL6 (by simpa using hLp.1)
          have hX8 := k8.keep _ _ hX6 (by simpa using hLpp.1)
          refine ite2 (fun e => ?_) (fun e => ?_)
          · have hr0 : 0 < room := of_decide_eq_true e
            walk_at "s"
            refine g_mulL (by omega) ?_
            walk_at "s"
            have ea : os[a]? = some (os[a]'(by omega)) := List.getElem?_eq_getElem (by omega)
            have eb : os[b]? = some (os[b]'(by omega)) := List.getElem?_eq_getElem (by omega)
            have hne : os[a]'(by omega) ≠ os[b]'(by omega) := fun z => hab ((List.getElem_inj hosd).mp z)
            have hoa := hoslt _ (List.getElem_mem (show a < os.length by omega))
            have hob := hoslt _ (List.getElem_mem (show b < os.length by omega))
            generalize os[a]'(by omega) = oa at *
            generalize os[b]'(by omega) = ob at *
            refine g_ixT (j := 0) (k8.tup _ _ hpt) rfl ?_
            refine g_ixT (j := a) hot8 (hs_get ea) ?_
            walk_at "s"
            refine g_ixT (j := 1) (k8.tup _ _ hpt) rfl ?_
            refine g_ixT (j := b) hot8 (hs_get eb) ?_
            walk_at "s"
            refine g_ty hL8 ?_
            walk_at "s"
            refine g_lenL hL8 ?_
            walk_at "s"
            refine ⟨p, r, ts.length + 1, by rw [List.length_map]; rfl, hpot8, by omega, by have := hln.1; have : xs.length ≤ 12 := hxl; omega, fun ii H9 hii k9 hpot9 => ?_⟩
            walk_at "s"
            refine ⟨sz, fun t ht => ?_⟩
            walk_at "s"
            have hL9 := k9.keep _ _ hL8 (by simpa using hLp.1)
            have hLt : L ≠ t := ne_of_none hL9 ht
            rw [show min (oa : Int) (ob : Int) = ((min oa ob : Nat) : Int) from by omega, show max (oa : Int) (ob : Int) = ((max oa ob : Nat) : Int) from by omega]
            have hxl' : xs.length ≤ 12 := hxl
            refine ⟨L, ts.map V.ref, ii, .ref t, rfl, rfl, by rw [upd_ne hLt]; exact hL9, small1000 (by rw [List.length_map, hln.1]; omega), by omega, by have := hln.1; omega, ?_⟩
            walk_at "s"
            have hmul : prodR ls * (room + 1) ≤ 150 := by
              have : prodR ls * (room + 1) ≤ prodR ls * (150 / prodR ls) := Int.mul_le_mul_of_nonneg_left (by omega) (by omega)
              omega
            have hmul1 : 1 ≤ prodR ls * (room + 1) := by
              have : 1 * 1 ≤ prodR ls * (room + 1) := Int.mul_le_mul (by omega) (by omega) (by omega) (by omega)
              omega
            have hprod := prodR_ins ls ⟨min oa ob, max oa ob, room⟩ ii
            have hprod : prodR (ls.take ii ++ [⟨min oa ob, max oa ob, room⟩] ++ ls.drop ii) = prodR ls * (room + 1) := hprod
            have kN : Kp [p] H (upd H9 t (.tup [.int ((min oa ob : Nat) : Int), .int ((max oa ob : Nat) : Int), .int room])) := (k68.trans k9).nnew ht
            have kt : Ex H9 (upd H9 t (.tup [.int ((min oa ob : Nat) : Int), .int ((max oa ob : Nat) : Int), .int room])) := .new ht
            have hLn : (upd H9 t (.tup [.int ((min oa ob : Nat) : Int), .int ((max oa ob : Nat) : Int), .int room])) L = some (.lst (ts.map V.ref)) := by rw [upd_ne hLt]; exact hL9
            have hLnF : LnsAt (upd H9 t (.tup [.int ((min oa ob : Nat) : Int), .int ((max oa ob : Nat) : Int), .int room])) (ts.take ii ++ [t] ++ ts.drop ii) (ls.take ii ++ [⟨min oa ob, max oa ob, room⟩] ++ ls.drop ii) :=
              ((((hln.kp (k8.trans k9)).kp kt).take ii).app (.one upd_same)).app (((hln.kp (k8.trans k9)).kp kt).drop ii)
            have kU : ∀ o, Kp [L] (upd H9 t (.tup [.int ((min oa ob : Nat) : Int), .int ((max oa ob : Nat) : Int), .int room])) (upd (upd H9 t (.tup [.int ((min oa ob : Nat) : Int), .int ((max oa ob : Nat) : Int), .int room])) L o) := fun o => .setL hLn (by simp)
            refine ⟨ls.take ii ++ [⟨min oa ob, max oa ob, room⟩] ++ ls.drop ii, ts.take ii ++ [t] ++ ts.drop ii, _, _, _, _, by rw [hprod]; rfl, kN.mutPL hLH hLn, (hpot9.ex kt).upd hLp, (kU _).tup _ _ (kt.tup _ _ (k9.tup _ _ hot8)), ?_, fun v hv => ?_, ?_, hLnF.kp (kU _), ?_, ?_, ?_, ?_⟩
            · rw [upd_ne hLLp]
              exact kt.keep _ _ (k9.keep _ _ hX8 (by simpa using hLpp.1)) List.not_mem_nil
            · exact ((((hxs6 v hv).kp k8).kp k9).kp kt).kp (kU _)
            · rw [upd_same, List.map_append, List.map_append, List.map_take, List.map_drop]
              rfl
            · intro l hl
              rcases List.mem_append.mp hl with z | z
              · rcases List.mem_append.mp z with z | z
                · exact hlo l (List.mem_of_mem_take z)
                · rw [List.mem_singleton.mp z]
                  refine ⟨?_, ?_, hr0⟩
                  · show min oa ob < max oa ob
                    omega
                  · show max oa ob < n
                    omega
              · exact hlo l (List.mem_of_mem_drop z)
            · rw [hprod]
              exact hmul1
            · rw [hprod]
              exact hmul
            · rw [List.length_append, List.length_append, List.length_take, List.length_drop]
              show min ii ls.length + 1 + _ ≤ _
              omega
          · walk_at "s"
            exact ⟨ls, ts, _, _, _, _, rfl, k68, hpot8, hot8, hX8, fun v hv => (hxs6 v hv).kp k8, hL8, hln.kp k8, hlo, hp1, hp2, by omega⟩
        · obtain ⟨ls, ts, y7, y8, y9, y10, rfl, k6, hpot6, hot6, hX6, hxs6, hL6, hln, hlo, hp1, hp2, hll⟩ := hx
          have hxl' : xs.length ≤ 12 := hxl
          walk_at "s"
          refine g_tupL hL6 fun t1 ht1 => ?_
          walk_at "s"
          refine ⟨sz, fun t2 ht2 => ?_⟩
          have ne12 := ne_of_none upd_same ht2
          refine q ⟨n, ls⟩ t2 _ ((k6.nnew ht1).nnew ht2) ((hpot6.ex (.new ht1)).ex (.new ht2)) ⟨t2, t1, ts, rfl, upd_same, by rw [upd_ne ne12, upd_same], (hln.kp (.new (S := []) ht1)).kp (.new (S := []) ht2)⟩ ⟨by show 1 ≤ n; omega, by show n ≤ 8; omega, by show ls.length ≤ 60; omega, hlo⟩ hn5 hp2 (by show ls.length ≤ 12; omega)
theorem sc_law_far : FnScope ["_law_pot_here", "_law_value", "_law_k"] ["_law_pot_here"] (defScope s_law_far) := ⟨rfl, rfl, rfl, by decide +kernel, rfl, by decide +kernel, by decide +kernel⟩
def sp_law_far : Sp := fun vs H Q _ => ∃ (p r : Addr), vs = [.ref p] ∧ PotAt p r H ∧ ∀ (x : Int) (H' : Hp), 0 ≤ x → Kp [p] H H' → PotAt p r H' → Q (.int x) H'
theorem ok_law_far (F : Fun K "_law_far" "_law_far" s_law_far f fd) (T : Txt mg) (c_law_draw : Cal P w K mg base 1 "_law_draw" sp_law_draw) : FnOk P w K mg base CX0 2 f fd ["_law_pot_here"] sp_law_far := by
  have sc := sc_law_far
  refine F.ok sc (fun vs H Q E h => ?_) (fun cdv A outer s H vs Q E hr h => ?_)
  · obtain ⟨p, r, rfl, _⟩ := h
    rfl
  · obtain ⟨p, r, rfl, hpot, q⟩ := h
    refine ⟨_, (pss_cons (ps_set (i := 1) sc.nd rfl (by first | exact Or.inl rfl | exact Or.inr rfl) pe_int)
      (pss_cons (ps_for PassesOwn.never rfl (pi_range1 (by rfl) T.range (pa_cons pe_int pa_nil)) (pg_name (i := 2) sc.nd rfl (by first | exact Or.inl rfl | exact Or.inr rfl))
        (pss_one (ps_set (i := 1) sc.nd rfl (by first | exact Or.inl rfl | exact Or.inr rfl) (pe_op op_add (pe_op op_mul (pv 1) pe_int) (pe_c c_law_draw hr (by decide) (by rfl) (pa_cons (pv 0) (pa_cons pe_int pa_nil)))))))
      (pss_one (ps_ret (pv 1))))), ?_⟩
    walk_at "s"
    refine ⟨_, rfl, by omega, by omega, ?_⟩
    refine for_range (n := 10) (fun i σ H' => ∃ (x : Int) (y2 : Option V), σ = [some (.ref p), some (.int x), y2] ∧ 0 ≤ x ∧ Kp [p] H H' ∧ PotAt p r H') ⟨0, _, rfl, by omega, .refl _ _, hpot⟩ (fun i σ H1 hi hx => ?_) (fun σ H1 hx => ?_)
    · obtain ⟨x, y2, rfl, hx0, k1, hpot1⟩ := hx
      walk_at "s"
      refine g_mulR (by omega) ?_
      walk_at "s"
      refine ⟨p, r, 1000, rfl, hpot1, by omega, by omega, fun z H2 hz k2 hpot2 => ?_⟩
      walk_at "s"
      exact ⟨_, _, rfl, by omega, k1.trans k2, hpot2⟩
    · obtain ⟨x, y2, rfl, hx0, k1, hpot1⟩ := hx
      walk_at "s"
      exact q x H1 hx0 k1 hpot1
end
end K8
set_option Elab.async false
set_option linter.all false
set_option maxRecDepth 100000
set_option maxHeartbeats 4000000
namespace K8
open PySem PySem.Spec PyProof.Rows L2
local macro_rules | `(tactic| walk_at "s") => `(tactic| repeat (first
  | with_reducible refine g_seq ?_ | with_reducible refine g_ret ?_ | with_reducible refine g_asg ?_ | with_reducible refine g_name ?_ | with_reducible refine g_c ?_ | with_reducible refine g_op ?_ | with_reducible refine g_cons ?_ | with_reducible refine g_nil ?_
  | (with_reducible show tVar _ _ _ _; refine g_var rfl ?_) | with_reducible refine g_cb ?_ | with_reducible refine g_call ?_ | with_reducible refine g_if ?_ | with_reducible refine g_test ?_ | with_reducible refine g_tB ?_ | with_reducible refine g_i0 ?_ | with_reducible refine g_bl ?_
  | with_reducible refine g_add ?_ | with_reducible refine g_sub ?_ | with_reducible refine g_eqI ?_ | with_reducible refine g_neI ?_ | with_reducible refine g_drop ?_ | with_reducible refine g_next ?_ | with_reducible refine g_break ?_ | with_reducible refine g_un ?_ | with_reducible refine g_u ?_
  | with_reducible refine g_ifE ?_ | with_reducible refine g_and ?_ | with_reducible refine g_or ?_ | with_reducible refine g_not ?_ | with_reducible refine g_andV ?_ | with_reducible refine g_orV ?_ | with_reducible refine g_notV ?_ | with_reducible refine g_isN ?_ | with_reducible refine g_notN ?_
  | with_reducible refine g_gnil ?_ | with_reducible refine g_gcons ?_ | with_reducible refine g_bm ?_ | with_reducible refine g_abs ?_ | with_reducible refine g_max ?_ | with_reducible refine g_min ?_ | with_reducible refine g_int ?_ | with_reducible refine g_lc ?_ | with_reducible refine g_for ?_ | with_reducible refine g_yes ?_ | with_reducible refine g_rng1 ?_ | with_reducible refine g_rng2 ?_ | with_reducible refine g_il ?_ | with_reducible refine g_it ?_ | with_reducible refine g_en ?_ | with_reducible refine g_zp ?_ | with_reducible refine g_mkT ?_ | with_reducible refine g_mkL ?_ | with_reducible refine g_augS ?_ | (with_reducible show tAug _ _ _ _ _ _; refine g_aug rfl ?_) | with_reducible refine g_ipI ?_ | with_reducible refine g_gsub ?_ | with_reducible refine g_dget ?_ | with_reducible refine g_din ?_ | with_reducible refine g_dnotin ?_ | with_reducible refine g_dput ?_ | with_reducible refine g_dc ?_ | with_reducible refine g_sl ?_ | with_reducible refine g_nopart ?_ | with_reducible refine g_part ?_ | with_reducible refine g_exI ?_ | with_reducible refine g_revL ?_ | (with_reducible show iSq _ _ _ _; refine g_sq rfl ?_) | with_reducible refine g_while ?_ | with_reducible refine g_min3 ?_ | with_reducible refine g_trq ?_ | with_reducible refine g_lock ?_ | with_reducible refine g_mko ?_ | with_reducible refine g_keys ?_ | with_reducible refine g_eqS ?_ | with_reducible refine g_lrg ?_ | with_reducible refine g_trg ?_ | with_reducible refine g_rg1 ?_ | with_reducible refine g_cut ?_ | with_reducible refine g_disp ?_ | with_reducible refine g_dnew ?_ | with_reducible refine iteT ?_ | with_reducible refine iteF ?_))
section
variable {P : Program} {w : World} {K : PySem.W.Frag} {mg : Str → Option Value} {base : Heap} {f : Addr} {fd : FuncData} {k : Nat}
theorem sc_law_far_web : FnScope ["_law_pot_here", "_law_size", "_law_lines", "_law_k", "_law_line"] ["_law_pot_here"] (defScope s_law_far_web) := ⟨rfl, rfl, rfl, by decide +kernel, rfl, by decide +kernel, by decide +kernel⟩
def sp_law_far_web : Sp := fun vs H Q _ => ∃ (p r : Addr), vs = [.ref p] ∧ PotAt p r H ∧ ∀ (W : Wb) (q : Addr) (H' : Hp), Kp [p] H H' → PotAt p r H' → WebAt H' (.ref q) W → WebOk W → Q (.ref q) H'
theorem ok_law_far_web (F : Fun K "_law_far_web" "_law_far_web" s_law_far_web f fd) (T : Txt mg) (c_law_draw : Cal P w K mg base 1 "_law_draw" sp_law_draw) (c_law_web : Cal P w K mg base 3 "_law_web" sp_law_web) (c_law_far : Cal P w K mg base 2 "_law_far" sp_law_far) :
    FnOk P w K mg base CX0 4 f fd ["_law_pot_here"] sp_law_far_web := by
  have sc := sc_law_far_web
  refine F.ok sc (fun vs H Q E h => ?_) (fun cdv A outer s H vs Q E hr h => ?_)
  · obtain ⟨p, r, rfl, _⟩ := h
    rfl
  · obtain ⟨p, r, rfl, hpot, q⟩ := h
    refine ⟨_, (pss_cons (ps_asg (pe_c c_law_web hr (by decide) (by rfl) (pa_cons (pv 0) (pa_cons pe_int pa_nil))) (kpg_tup (K := K) (n := 2) rfl rfl (pgs_cons (pg_name (i := 1) sc.nd rfl (by first | exact Or.inl rfl | exact Or.inr rfl)) (pgs_cons (pg_name (i := 2) sc.nd rfl (by first | exact Or.inl rfl | exact Or.inr rfl)) pgs_nil))))
      (Evl.pss_cut (ps_if (pt_cmpR op_eq (pe_c c_law_draw hr (by decide) (by rfl) (pa_cons (pv 0) (pa_cons pe_int pa_nil))) pe_int (nomark _))
        (pss_cons (ps_set (i := 2) sc.nd rfl (by first | exact Or.inl rfl | exact Or.inr rfl) (pe_op (kop_catA (K := K) rfl) (pe_op (kop_catA (K := K) rfl) (pv 2) (pe_callTy (kq_tup (K := K) rfl) (by rfl) T.tuple (by decide +kernel) (pa_cons (pe_lc (own := [("_law_k", 3)]) rfl sc.nd (pi_range2 (by rfl) T.range (pa_cons (pv 1) (pa_cons pe_int pa_nil))) (blkOk_by (N := ["_law_pot_here", "_law_size", "_law_lines", "_law_k", "_law_line"]) (sc := defScope s_law_far_web) (by decide +kernel)) (fun _ _ _ _ _ => (pg_name (i := 3) sc.nd rfl (by first | exact Or.inl rfl | exact Or.inr rfl))) (fun _ _ _ _ _ => pts_nil) (fun _ _ _ _ _ => (pe_tup (pa_cons (pe_c c_law_draw hr (by decide) (by rfl) (pa_cons (pv 0) (pa_cons (pv 3) pa_nil))) (pa_cons (pv 3) (pa_cons pe_int pa_nil)))))) pa_nil))) (pe_tup (pa_cons (pe_tup (pa_cons pe_int (pa_cons pe_int (pa_cons pe_int pa_nil)))) (pa_cons (pe_tup (pa_cons (pe_op op_sub (pv 1) pe_int) (pa_cons pe_int (pa_cons pe_int pa_nil)))) pa_nil)))))
        (pss_one (ps_set (i := 1) sc.nd rfl (by first | exact Or.inl rfl | exact Or.inr rfl) pe_int)))
        pss_nil)
      (pss_one (ps_ret (pe_tup (pa_cons (pv 1) (pa_cons (pe_callTy (kq_tup (K := K) rfl) (by rfl) T.tuple (by decide +kernel) (pa_cons (pe_lc (own := [("_law_line", 4)]) rfl sc.nd (kpi_tup (K := K) rfl (pv 2)) (blkOk_by (N := ["_law_pot_here", "_law_size", "_law_lines", "_law_k", "_law_line"]) (sc := defScope s_law_far_web) (by decide +kernel)) (fun _ _ _ _ _ => (pg_name (i := 4) sc.nd rfl (by first | exact Or.inl rfl | exact Or.inr rfl))) (fun _ _ _ _ _ => pts_nil) (fun _ _ _ _ _ => (pe_tup (pa_cons (pe_ix (kx_tup (K := K) rfl) (pv 4) pe_int (fun _ _ => rfl)) (pa_cons (pe_ix (kx_tup (K := K) rfl) (pv 4) pe_int (fun _ _ => rfl)) (pa_cons (pe_op op_add pe_int (pe_c c_law_far hr (by decide) (by rfl) (pa_cons (pv 0) pa_nil))) pa_nil)))))) pa_nil)) pa_nil))))))), ?_⟩
    walk_at "s"
    refine ⟨p, r, rfl, hpot, fun W wq H1 k1 hpot1 hw ok hn5 _ hll => ?_⟩
    obtain ⟨a, c, ts, e, ha, hc, hl⟩ := hw
    cases e
    refine g_gtup ha rfl ?_
    walk_at "s"
    refine ⟨fun σ H' => ∃ (n : Nat) (lt : Addr) (ts : List Addr) (ls : List Ln) (y3 y4 : Option V), σ = [some (.ref p), some (.int n), some (.ref lt), y3, y4] ∧ Kp [p] H H' ∧ PotAt p r H' ∧ H' lt = some (.tup (ts.map V.ref)) ∧ LnsAt H' ts ls ∧ LinesOk n ls ∧ 1 ≤ n ∧ n ≤ 8 ∧ ls.length ≤ 25, ?_, ?_⟩
    · walk_at "s"
      refine ⟨p, r, 16, rfl, hpot1, by omega, by omega, fun x H2 hx k2 hpot2 => ?_⟩
      have k12 := k1.trans k2
      have hc2 := k2.tup _ _ hc
      have hl2 := hl.kp k2
      walk_at "s"
      refine ite2 (fun e => ?_) (fun e => ?_)
      · walk_at "s"
        refine ⟨_, _, rfl, by have := ok.1; omega, fun D hD => ?_⟩
        have hDH := k12.free hD
        have hDp := hpot.ne hDH
        have hn1 := ok.1
        rw [show ((7 : Int) - (W.n : Int)).toNat = 7 - W.n from by omega]
        refine lc_range (n := 7 - W.n) (lo := (W.n : Int)) (fun i H' => Kp [p] H H' ∧ PotAt p r H' ∧ H' c = some (.tup (ts.map V.ref)) ∧ LnsAt H' ts W.ls ∧ ∃ (t2 : List Addr) (l2 : List Ln), H' D = some (.lst (t2.map V.ref)) ∧ LnsAt H' t2 l2 ∧ LinesOk 8 l2 ∧ l2.length = i)
          ⟨k12.nnew hD, hpot2.ex (.new hD), (Kp.new (S := []) hD).tup _ _ hc2, hl2.kp (.new (S := []) hD), [], [], upd_same, .nil, fun l hl => absurd hl List.not_mem_nil, rfl⟩ (fun i H3 hi hx => ?_) (fun H3 hx => ?_)
        · obtain ⟨k3, hpot3, hc3, hl3, t2, l2, hD3, hn3, hlo3, hll3⟩ := hx
          walk_at "s"
          refine ⟨rfl, ?_⟩
          walk_at "s"
          rw [show ((W.n : Int) + (i : Int)) = ((W.n + i : Nat) : Int) from rfl]
          refine ⟨p, r, W.n + i, rfl, hpot3, by omega, by omega, fun y H4 hy k4 hpot4 => ?_⟩
          walk_at "s"
          refine ⟨sz, fun t ht => ?_⟩
          have hD4 := k4.keep _ _ hD3 (by simpa using hDp.1)
          have kt : Ex H4 (upd H4 t (.tup [.int y, .int ((W.n + i : Nat) : Int), .int 1])) := .new ht
          have hDt : D ≠ t := ne_of_none hD4 ht
          have hD5 : (upd H4 t (.tup [.int y, .int ((W.n + i : Nat) : Int), .int 1])) D = some (.lst (t2.map V.ref)) := by rw [upd_ne hDt]; exact hD4
          have kU : ∀ o, Kp [D] (upd H4 t (.tup [.int y, .int ((W.n + i : Nat) : Int), .int 1])) (upd (upd H4 t (.tup [.int y, .int ((W.n + i : Nat) : Int), .int 1])) D o) := fun o => .setL hD5 (by simp)
          refine ⟨_, hD5, small1000 (by rw [List.length_map, hn3.1]; omega), ((k3.trans k4).nnew ht).mutPL hDH hD5, (hpot4.ex kt).upd hDp, (kU _).tup _ _ (kt.tup _ _ (k4.tup _ _ hc3)), ((hl3.kp k4).kp kt).kp (kU _), t2 ++ [t], l2 ++ [⟨y, W.n + i, 1⟩], by rw [upd_same, List.map_append]; rfl, (((hn3.kp k4).kp kt).app (.one upd_same)).kp (kU _), fun l hl => ?_, by rw [List.length_append, hll3]; rfl⟩
          rcases List.mem_append.mp hl with z | z
          · exact hlo3 l z
          · rw [List.mem_singleton.mp z]
            exact ⟨hy, by show W.n + i < 8; omega, by show (1 : Int) ≤ 1; omega⟩
        · obtain ⟨k3, hpot3, hc3, hl3, t2, l2, hD3, hn3, hlo3, hll3⟩ := hx
          walk_at "s"
          refine g_tupL hD3 fun tt htt => ?_
          have k4 : Ex H3 (upd H3 tt (.tup (t2.map V.ref))) := .new htt
          refine g_catA (k4.tup _ _ hc3) upd_same (by rw [List.length_map, List.length_map, hl3.1, hn3.1]; omega) fun q1 H5 k5 e5 => ?_
          walk_at "s"
          refine ⟨sz, fun u1 hu1 => ?_⟩
          walk_at "s"
          refine ⟨sz, fun u2 hu2 => ?_⟩
          walk_at "s"
          refine ⟨sz, fun u3 hu3 => ?_⟩
          have k6 : Ex H5 (upd H5 u1 (.tup [.int 0, .int 7, .int 1])) := .new hu1
          rw [show ((W.n : Int) - 1) = ((W.n - 1 : Nat) : Int) from by omega] at *
          have k7 : Ex (upd H5 u1 (.tup [.int 0, .int 7, .int 1])) (upd (upd H5 u1 (.tup [.int 0, .int 7, .int 1])) u2 (.tup [.int ((W.n - 1 : Nat) : Int), .int 7, .int 1])) := .new hu2
          have k8 : Ex (upd (upd H5 u1 (.tup [.int 0, .int 7, .int 1])) u2 (.tup [.int ((W.n - 1 : Nat) : Int), .int 7, .int 1])) (upd (upd (upd H5 u1 (.tup [.int 0, .int 7, .int 1])) u2 (.tup [.int ((W.n - 1 : Nat) : Int), .int 7, .int 1])) u3 (.tup [.ref u1, .ref u2])) := .new hu3
          have k58 := k6.trans (k7.trans k8)
          refine g_catA (k58.tup _ _ e5) upd_same (by rw [List.length_append, List.length_map, List.length_map, hl3.1, hn3.1]; show _ + 2 ≤ 1000; omega) fun q2 H9 k9 e9 => ?_
          walk_at "s"
          have k39 := (k4.trans k5).trans (k58.trans k9)
          refine ⟨8, q2, (ts ++ t2) ++ [u1, u2], (W.ls ++ l2) ++ [⟨0, 7, 1⟩, ⟨W.n - 1, 7, 1⟩], _, _, rfl, k3.trans (.of_ex k39), hpot3.ex k39, ?_, ?_, fun l hl' => ?_, by omega, by omega, ?_⟩
          · rw [e9, List.map_append, List.map_append]
            rfl
          · refine (((hl3.kp k39).app (hn3.kp k39))).app ?_
            have o1 : LnsAt H9 [u1] [⟨0, 7, 1⟩] := .one ((k7.trans (k8.trans k9)).tup _ _ upd_same)
            have o2 : LnsAt H9 [u2] [⟨W.n - 1, 7, 1⟩] := .one ((k8.trans k9).tup _ _ upd_same)
            exact o1.app o2
          · rcases List.mem_append.mp hl' with z | z
            · rcases List.mem_append.mp z with z | z
              · have := ok.2.2.2 l z
                exact ⟨this.1, by omega, this.2.2⟩
              · exact hlo3 l z
            · rcases List.mem_cons.mp z with z | z
              · rw [z]
                exact ⟨by show 0 < 7; omega, by show 7 < 8; omega, by show (1 : Int) ≤ 1; omega⟩
              · rw [List.mem_singleton.mp z]
                exact ⟨by show W.n - 1 < 7; omega, by show 7 < 8; omega, by show (1 : Int) ≤ 1; omega⟩
          · rw [List.length_append, List.length_append, hll3]
            show W.ls.length + (7 - W.n) + 2 ≤ 25
            omega
      · walk_at "s"
        exact ⟨W.n, c, ts, W.ls, _, _, rfl, k12, hpot2, hc2, hl2, ok.2.2.2, ok.1, ok.2.1, by omega⟩
    · rintro σ H2 ⟨n, lt, t1, l1, y3, y4, rfl, k2, hpot2, hlt, hln, hlo, hn1, hn8, hl25⟩
      walk_at "s"
      refine ⟨lt, rfl, ⟨_, .of hlt⟩, fun D hD => ?_⟩
      have hDH := k2.free hD
      have hDp := hpot.ne hDH
      refine lc_it (walk_tup (xs := t1.map V.ref)) (fun i H' => Kp [p] H H' ∧ PotAt p r H' ∧ H' lt = some (.tup (t1.map V.ref)) ∧ LnsAt H' t1 l1 ∧ ∃ (t2 : List Addr) (l2 : List Ln), H' D = some (.lst (t2.map V.ref)) ∧ LnsAt H' t2 l2 ∧ LinesOk n l2 ∧ l2.length = i)
        ⟨k2.nnew hD, hpot2.ex (.new hD), (Kp.new (S := []) hD).tup _ _ hlt, hln.kp (.new (S := []) hD), [], [], upd_same, .nil, fun l hl => absurd hl List.not_mem_nil, rfl⟩ (fun i H' _ h => .of h.2.2.1) (fun i x H3 H4 hi hx hy => ?_) (fun H3 hx => ?_)
      · obtain ⟨k3, hpot3, hlt3, hln3, t2, l2, hD3, hn3, hlo3, hll3⟩ := hx
        obtain ⟨rfl, ex⟩ := hy
        rw [List.length_map, hln.1] at hi
        have el : l1[i]? = some l1[i] := List.getElem?_eq_getElem hi
        obtain ⟨t, rfl, ht⟩ := hln3.ref ex el
        have hlol := hlo _ (List.getElem_mem hi)
        generalize l1[i] = l at *
        walk_at "s"
        refine ⟨rfl, ?_⟩
        walk_at "s"
        refine g_ixT (j := 0) ht rfl ?_
        walk_at "s"
        refine g_ixT (j := 1) ht rfl ?_
        walk_at "s"
        refine ⟨p, r, rfl, hpot3, fun y H5 hy k5 hpot5 => ?_⟩
        walk_at "s"
        refine ⟨sz, fun t5 ht5 => ?_⟩
        have hD5 := k5.keep _ _ hD3 (by simpa using hDp.1)
        have kt : Ex H5 (upd H5 t5 (.tup [.int l.a, .int l.b, .int (1 + y)])) := .new ht5
        have hDt : D ≠ t5 := ne_of_none hD5 ht5
        have hD6 : (upd H5 t5 (.tup [.int l.a, .int l.b, .int (1 + y)])) D = some (.lst (t2.map V.ref)) := by rw [upd_ne hDt]; exact hD5
        have kU : ∀ o, Kp [D] (upd H5 t5 (.tup [.int l.a, .int l.b, .int (1 + y)])) (upd (upd H5 t5 (.tup [.int l.a, .int l.b, .int (1 + y)])) D o) := fun o => .setL hD6 (by simp)
        refine ⟨_, hD6, small1000 (by rw [List.length_map, hn3.1]; omega), ((k3.trans k5).nnew ht5).mutPL hDH hD6, (hpot5.ex kt).upd hDp, (kU _).tup _ _ (kt.tup _ _ (k5.tup _ _ hlt3)), ((hln3.kp k5).kp kt).kp (kU _), t2 ++ [t5], l2 ++ [⟨l.a, l.b, 1 + y⟩], by rw [upd_same, List.map_append]; rfl, (((hn3.kp k5).kp kt).app (.one upd_same)).kp (kU _), fun l' hl => ?_, by rw [List.length_append, hll3]; rfl⟩
        rcases List.mem_append.mp hl with z | z
        · exact hlo3 l' z
        · rw [List.mem_singleton.mp z]
          exact ⟨hlol.1, hlol.2.1, by show (1 : Int) ≤ 1 + y; omega⟩
      · obtain ⟨k3, hpot3, hlt3, hln3, t2, l2, hD3, hn3, hlo3, hll3⟩ := hx
        rw [List.length_map, hln.1] at hll3
        walk_at "s"
        refine g_tupL hD3 fun t5 ht5 => ?_
        walk_at "s"
        refine ⟨sz, fun t6 ht6 => ?_⟩
        have ne12 := ne_of_none upd_same ht6
        exact q ⟨n, l2⟩ t6 _ ((k3.nnew ht5).nnew ht6) ((hpot3.ex (.new ht5)).ex (.new ht6)) ⟨t6, t5, t2, rfl, upd_same, by rw [upd_ne ne12, upd_same], (hn3.kp (.new (S := []) ht5)).kp (.new (S := []) ht6)⟩ ⟨hn1, hn8, by show l2.length ≤ 60; omega, hlo3⟩
theorem sc_law_far_split : FnScope ["_law_pot_here", "_law_web_here", "_law_split", "_law_line", "_law_kind", "_law_near"] ["_law_pot_here", "_law_web_here"] (defScope s_law_far_split) := ⟨rfl, rfl, rfl, by decide +kernel, rfl, by decide +kernel, by decide +kernel⟩
def sp_law_far_split : Sp := fun vs H Q _ => ∃ (p r : Addr) (W : Wb) (u : V), vs = [.ref p, u] ∧ PotAt p r H ∧ WebAt H u W ∧ WebOk W ∧ ∀ (near : List Int) (q : Addr) (H' : Hp), Kp [p] H H' → PotAt p r H' → H' q = some (.tup (zs near)) → Split W.ls near → Q (.ref q) H'
theorem ok_law_far_split (F : Fun K "_law_far_split" "_law_far_split" s_law_far_split f fd) (T : Txt mg) (c_law_draw : Cal P w K mg base 1 "_law_draw" sp_law_draw) (c_law_far : Cal P w K mg base 2 "_law_far" sp_law_far) :
    FnOk P w K mg base CX0 3 f fd ["_law_pot_here", "_law_web_here"] sp_law_far_split := by
  have sc := sc_law_far_split
  refine F.ok sc (fun vs H Q E h => ?_) (fun cdv A outer s H vs Q E hr h => ?_)
  · obtain ⟨p, r, W, u, rfl, _⟩ := h
    rfl
  · obtain ⟨p, r, W, u, rfl, hpot, hw, ok, q⟩ := h
    obtain ⟨a, c, ls, rfl, ha, hc, hl⟩ := hw
    refine ⟨_, (pss_cons (ps_set (i := 2) sc.nd rfl (by first | exact Or.inl rfl | exact Or.inr rfl) (pe_lst pa_nil))
      (pss_cons (ps_for PassesOwn.never rfl (kpi_tup (K := K) rfl (pe_ix (kx_tup (K := K) rfl) (pv 1) pe_int (fun _ _ => rfl))) (pg_name (i := 3) sc.nd rfl (by first | exact Or.inl rfl | exact Or.inr rfl))
        (pss_cons (ps_set (i := 4) sc.nd rfl (by first | exact Or.inl rfl | exact Or.inr rfl) (pe_c c_law_draw hr (by decide) (by rfl) (pa_cons (pv 0) (pa_cons pe_int pa_nil))))
        (pss_cons (ps_set (i := 5) sc.nd rfl (by first | exact Or.inl rfl | exact Or.inr rfl) (pe_op op_mod (pe_callTy cq_int (by rfl) T.int (by decide +kernel) (pa_cons (pe_c c_law_far hr (by decide) (by rfl) (pa_cons (pv 0) pa_nil)) pa_nil)) (pe_op op_add (pe_ix (kx_tup (K := K) rfl) (pv 3) pe_int (fun _ _ => rfl)) pe_int)))
        (Evl.pss_cut (ps_if (pt_cmpR op_eq (pv 4) pe_int (nomark _))
          (pss_one (ps_set (i := 5) sc.nd rfl (by first | exact Or.inl rfl | exact Or.inr rfl) pe_int))
          pss_nil)
        (Evl.pss_cut (ps_if (pt_cmpR op_eq (pv 4) pe_int (nomark _))
          (pss_one (ps_set (i := 5) sc.nd rfl (by first | exact Or.inl rfl | exact Or.inr rfl) (pe_ix (kx_tup (K := K) rfl) (pv 3) pe_int (fun _ _ => rfl))))
          pss_nil)
        (pss_one (ps_expr (pe_bm PySem.F.plainAttrs_list PySem.F.slot_list_append PySem.F.type_list_append mt_append (pv 2) (pa_cons (pv 5) pa_nil)))))))))
      (pss_one (ps_ret (pe_callTy (kq_tup (K := K) rfl) (by rfl) T.tuple (by decide +kernel) (pa_cons (pv 2) pa_nil)))))), ?_⟩
    walk_at "s"
    refine ⟨sz, fun L hL => ?_⟩
    walk_at "s"
    have kL : Ex H (upd H L (.lst [])) := .new hL
    have hLp := hpot.ne hL
    refine g_ixT (j := 1) (kL.tup _ _ ha) rfl ?_
    refine ⟨c, rfl, ⟨_, .of (kL.tup _ _ hc)⟩, ?_⟩
    refine for_it (walk_tup (xs := ls.map V.ref)) (fun i σ H' => ∃ (ne : List Int) (y3 y4 y5 : Option V), σ = [some (.ref p), some (.ref a), some (.ref L), y3, y4, y5] ∧ Kp [p] H H' ∧ PotAt p r H' ∧ H' L = some (.lst (zs ne)) ∧ Split (W.ls.take i) ne)
      ⟨[], _, _, _, rfl, .of_ex kL, hpot.ex kL, upd_same, rfl, fun i l c e => by simp at e⟩ (fun i σ H' _ h => ?_) (fun i x σ H1 H2 hi hx hy => ?_) (fun σ H1 hx => ?_)
    · obtain ⟨_, _, _, _, _, k1, _⟩ := h
      exact .of (k1.tup _ _ hc)
    · obtain ⟨ne, y3, y4, y5, rfl, k1, hpot1, hL1, hsp⟩ := hx
      obtain ⟨rfl, ex⟩ := hy
      rw [List.length_map, hl.1] at hi
      have el : W.ls[i]? = some W.ls[i] := List.getElem?_eq_getElem hi
      obtain ⟨t, rfl, ht⟩ := hl.ref ex el
      have hlol := ok.2.2.2 _ (List.getElem_mem hi)
      have h60 := ok.2.2.1
      generalize W.ls[i] = l at *
      have hnl : ne.length = i := by rw [hsp.1, List.length_take]; omega
      walk_at "s"
      refine ⟨p, r, 4, rfl, hpot1, by omega, by omega, fun kd H3 hkd k3 hpot3 => ?_⟩
      walk_at "s"
      refine ⟨p, r, rfl, hpot3, fun x H4 hx0 k4 hpot4 => ?_⟩
      walk_at "s"
      have k14 := k1.trans (k3.trans k4)
      have ht4 := k14.tup _ _ ht
      refine g_ixT (j := 2) ht4 rfl ?_
      walk_at "s"
      refine g_mod (by omega) ?_
      walk_at "s"
      have hm1 : 0 ≤ x % (l.r + 1) := Int.emod_nonneg _ (by omega)
      have hm2 : x % (l.r + 1) < l.r + 1 := Int.emod_lt_of_pos _ (by omega)
      generalize x % (l.r + 1) = x0 at *
      have hL4 := (k3.trans k4).keep _ _ hL1 (by simpa using hLp.1)
      refine ⟨fun σ H' => ∃ (x : Int), σ = [some (.ref p), some (.ref a), some (.ref L), some (.ref t), some (.int kd), some (.int x)] ∧ H' = H4 ∧ 0 ≤ x ∧ x ≤ l.r, ?_, ?_⟩
      · walk_at "s"
        refine ite2 (fun e => ?_) (fun e => ?_)
        · walk_at "s"
          exact ⟨0, rfl, rfl, by omega, by omega⟩
        · walk_at "s"
          exact ⟨x0, rfl, rfl, by omega, by omega⟩
      · rintro σ H5 ⟨x1, rfl, rfl, hx1, hx2⟩
        walk_at "s"
        refine ⟨fun σ H' => ∃ (x : Int), σ = [some (.ref p), some (.ref a), some (.ref L), some (.ref t), some (.int kd), some (.int x)] ∧ H' = H5 ∧ 0 ≤ x ∧ x ≤ l.r, ?_, ?_⟩
        · walk_at "s"
          refine ite2 (fun e => ?_) (fun e => ?_)
          · walk_at "s"
            refine g_ixT (j := 2) ht4 rfl ?_
            exact ⟨l.r, rfl, rfl, by omega, by omega⟩
          · walk_at "s"
            exact ⟨x1, rfl, rfl, by omega, by omega⟩
        · rintro σ H6 ⟨x2, rfl, rfl, hx3, hx4⟩
          walk_at "s"
          refine g_ty hL4 ?_
          walk_at "s"
          refine g_app hL4 (by rw [zs_len]; omega) ?_
          walk_at "s"
          refine ⟨ne ++ [x2], _, _, _, rfl, k14.mutPL hL hL4, hpot4.upd hLp, by rw [upd_same, zs, zs, List.map_append]; rfl, ?_, fun j l' c' e1 e2 => ?_⟩
          · rw [List.length_append, hnl, List.length_take]
            show i + 1 = _
            omega
          · rw [List.getElem?_take] at e1
            split at e1
            · rename_i hj
              rcases Nat.lt_succ_iff_lt_or_eq.mp hj with z | z
              · rw [List.getElem?_append_left (by omega)] at e2
                exact hsp.2 j l' c' (by rw [List.getElem?_take, if_pos z]; exact e1) e2
              · subst z
                rw [List.getElem?_append_right (by omega), hnl, Nat.sub_self] at e2
                rw [el] at e1
                cases e1
                simp at e2
                omega
            · cases e1
    · obtain ⟨ne, y3, y4, y5, rfl, k1, hpot1, hL1, hsp⟩ := hx
      rw [List.length_map, hl.1, List.take_length] at hsp
      walk_at "s"
      refine g_tupL hL1 fun t ht => ?_
      exact q ne t _ (k1.nnew ht) (hpot1.ex (.new ht)) upd_same hsp
theorem sc_law_purses : FnScope ["_law_web_here", "_law_split", "_law_purses_here", "_law_k", "_law_line"] ["_law_web_here", "_law_split"] (defScope s_law_purses) := ⟨rfl, rfl, rfl, by decide +kernel, rfl, by decide +kernel, by decide +kernel⟩
def sp_law_purses : Sp := fun vs H Q _ => ∃ (W : Wb) (u : V) (s : Addr) (near : List Int), vs = [u, .ref s] ∧ WebAt H u W ∧ WebOk W ∧ H s = some (.tup (zs near)) ∧ near.length = W.ls.length ∧
  ∀ (xs : List Int) (q : Addr) (H' : Hp), Ex H H' → H' q = some (.tup (zs xs)) → xs.length = W.n → (∀ v, v < W.n → xs[v]? = some (purse W.ls near v)) → Q (.ref q) H'
theorem ok_law_purses (F : Fun K "_law_purses" "_law_purses" s_law_purses f fd) (T : Txt mg) : FnOk P w K mg base CX0 1 f fd ["_law_web_here", "_law_split"] sp_law_purses := by
  have sc := sc_law_purses
  refine F.ok sc (fun vs H Q E h => ?_) (fun cdv A outer s H vs Q E hr h => ?_)
  · obtain ⟨W, u, s, near, rfl, _⟩ := h
    rfl
  · obtain ⟨W, u, s0, near, rfl, hw, ok, hs0, hn, q⟩ := h
    obtain ⟨a, c, ls, rfl, ha, hc, hl⟩ := hw
    obtain ⟨o1, o2, o3, o4⟩ := ok
    refine ⟨_, (pss_cons (ps_set (i := 2) sc.nd rfl (by first | exact Or.inl rfl | exact Or.inr rfl) (pe_op op_rep (pe_lst (pa_cons pe_int pa_nil)) (pe_ix (kx_tup (K := K) rfl) (pv 0) pe_int (fun _ _ => rfl))))
      (pss_cons (ps_for PassesOwn.never rfl (pi_range1 (by rfl) T.range (pa_cons (pe_callB (kq_len (K := K) rfl) (by rfl) T.len (by decide +kernel) (pa_cons (pe_ix (kx_tup (K := K) rfl) (pv 0) pe_int (fun _ _ => rfl)) pa_nil)) pa_nil)) (pg_name (i := 3) sc.nd rfl (by first | exact Or.inl rfl | exact Or.inr rfl))
        (pss_cons (ps_set (i := 4) sc.nd rfl (by first | exact Or.inl rfl | exact Or.inr rfl) (pe_ix (kx_tup (K := K) rfl) (pe_ix (kx_tup (K := K) rfl) (pv 0) pe_int (fun _ _ => rfl)) (pv 3) (fun _ _ => rfl)))
        (pss_cons (ps_asg (pe_op op_add (pe_ix (kx_list (K := K) rfl) (pv 2) (pe_ix (kx_tup (K := K) rfl) (pv 4) pe_int (fun _ _ => rfl)) (fun _ _ => rfl)) (pe_ix (kx_tup (K := K) rfl) (pv 1) (pv 3) (fun _ _ => rfl))) (pg_sub (pv 2) (pe_ix (kx_tup (K := K) rfl) (pv 4) pe_int (fun _ _ => rfl)) set_list))
        (pss_one (ps_asg (pe_op op_sub (pe_op op_add (pe_ix (kx_list (K := K) rfl) (pv 2) (pe_ix (kx_tup (K := K) rfl) (pv 4) pe_int (fun _ _ => rfl)) (fun _ _ => rfl)) (pe_ix (kx_tup (K := K) rfl) (pv 4) pe_int (fun _ _ => rfl))) (pe_ix (kx_tup (K := K) rfl) (pv 1) (pv 3) (fun _ _ => rfl))) (pg_sub (pv 2) (pe_ix (kx_tup (K := K) rfl) (pv 4) pe_int (fun _ _ => rfl)) set_list))))))
      (pss_one (ps_ret (pe_callTy (kq_tup (K := K) rfl) (by rfl) T.tuple (by decide +kernel) (pa_cons (pv 2) pa_nil)))))), ?_⟩
    walk_at "s"
    refine ⟨sz, fun z hz => ?_⟩
    walk_at "s"
    have k0 : Ex H (upd H z (.lst [.int 0])) := .new hz
    refine g_ixT (j := 0) (k0.tup _ _ ha) rfl ?_
    walk_at "s"
    refine g_rep upd_same (by omega) fun r hr0 => ?_
    walk_at "s"
    have hrH := k0.free hr0
    have k1 := k0.nnew (o := .lst (zs (List.replicate W.n 0))) hr0
    refine g_ixT (j := 1) (k1.tup _ _ ha) rfl ?_
    walk_at "s"
    refine g_lenT (k1.tup _ _ hc) ?_
    walk_at "s"
    refine ⟨_, rfl, by omega, by rw [List.length_map, hl.1]; omega, ?_⟩
    rw [show (((ls.map V.ref).length : Nat) : Int).toNat = W.ls.length from by rw [List.length_map, hl.1]; rfl]
    refine for_range (n := W.ls.length) (fun i σ H' => Ex H H' ∧ (∃ xs : List Int, H' r = some (.lst (zs xs)) ∧ xs.length = W.n ∧ ∀ v, v < W.n → xs[v]? = some (purse (W.ls.take i) (near.take i) v)) ∧ ∃ y3 y4, σ = [some (.ref a), some (.ref s0), some (.ref r), y3, y4]) ⟨k1, ⟨_, upd_same, List.length_replicate, fun v hv => ?_⟩, _, _, rfl⟩ (fun i σ H2 hi h => ?_) (fun σ H1 h => ?_)
    · rw [List.getElem?_replicate, if_pos hv]
      rfl
    · obtain ⟨k2, ⟨xs, hx, hxl, hxs⟩, y3, y4, rfl⟩ := h
      rw [show ((0 : Int) + (i : Int)) = (i : Int) from Int.zero_add _]
      have el : W.ls[i]? = some W.ls[i] := List.getElem?_eq_getElem hi
      have ec : near[i]? = some (near[i]'(by omega)) := List.getElem?_eq_getElem (by omega)
      obtain ⟨t, _, et, ht⟩ := hl.get el
      have okl := o4 _ (List.getElem_mem hi)
      have pt := fun v => purse_take _ _ _ _ _ v el ec
      generalize near[i]'(by omega) = cc at *
      generalize W.ls[i] = l at *
      walk_at "s"
      refine g_ixT (j := 1) (k2.tup _ _ ha) rfl ?_
      walk_at "s"
      refine g_ixT (j := i) (k2.tup _ _ hc) et ?_
      walk_at "s"
      have ht2 := k2.tup _ _ ht
      have ga := hxs l.a (by omega)
      refine g_ixT (j := 0) ht2 rfl ?_
      refine g_ixL (j := l.a) hx (zs_get ga) ?_
      walk_at "s"
      refine g_ixT (j := i) (k2.tup _ _ hs0) (zs_get ec) ?_
      walk_at "s"
      refine g_ixT (j := 0) ht2 rfl ?_
      refine g_setL (k := l.a) hx (by rw [zs_len]; omega) ?_
      walk_at "s"
      rw [← List.map_set]
      have k4 := k2.mutL (o' := .lst (zs (xs.set l.a (purse (W.ls.take i) (near.take i) l.a + cc)))) hrH hx
      refine g_ixT (j := 1) (k4.tup _ _ ht) rfl ?_
      refine g_ixL (j := l.b) upd_same (v := .int (purse (W.ls.take i) (near.take i) l.b)) (zs_get ?_) ?_
      · rw [List.getElem?_set, if_neg (by omega)]
        exact hxs l.b (by omega)
      walk_at "s"
      refine g_ixT (j := 2) (k4.tup _ _ ht) rfl ?_
      walk_at "s"
      refine g_ixT (j := i) (k4.tup _ _ hs0) (zs_get ec) ?_
      walk_at "s"
      refine g_ixT (j := 1) (k4.tup _ _ ht) rfl ?_
      refine g_setL (k := l.b) upd_same (by rw [zs_len, List.length_set]; omega) ?_
      walk_at "s"
      rw [← List.map_set]
      refine ⟨k4.mutL hrH upd_same, ⟨_, upd_same, by rw [List.length_set, List.length_set]; exact hxl, fun v hv => ?_⟩, _, _, rfl⟩
      rw [pt v]
      by_cases hb : l.b = v
      · rw [if_pos hb, if_neg (by omega), List.getElem?_set, if_pos hb, if_pos (by rw [List.length_set]; omega), ← hb]
        congr 1
        omega
      · rw [if_neg hb, List.getElem?_set, if_neg hb, List.getElem?_set]
        by_cases hb2 : l.a = v
        · rw [if_pos hb2, if_pos (by omega), if_pos hb2, ← hb2]
          congr 1
          omega
        · rw [if_neg hb2, if_neg hb2, hxs v hv]
          congr 1
          omega
    · obtain ⟨k2, ⟨xs, hx, hxl, hxs⟩, y3, y4, rfl⟩ := h
      walk_at "s"
      rw [List.take_of_length_le (Nat.le_refl _), List.take_of_length_le (by omega)] at hxs
      refine g_tupL hx fun t ht => ?_
      exact q xs t _ (k2.nnew ht) upd_same hxl hxs
end
end K8
set_option Elab.async false
set_option linter.all false
set_option maxRecDepth 100000
set_option maxHeartbeats 4000000
namespace K8
open PySem PySem.Spec PyProof.Rows L2
local macro_rules | `(tactic| walk_at "s") => `(tactic| repeat (first
  | with_reducible refine g_seq ?_ | with_reducible refine g_ret ?_ | with_reducible refine g_asg ?_ | with_reducible refine g_name ?_ | with_reducible refine g_c ?_ | with_reducible refine g_op ?_ | with_reducible refine g_cons ?_ | with_reducible refine g_nil ?_
  | (with_reducible show tVar _ _ _ _; refine g_var rfl ?_) | with_reducible refine g_cb ?_ | with_reducible refine g_call ?_ | with_reducible refine g_if ?_ | with_reducible refine g_test ?_ | with_reducible refine g_tB ?_ | with_reducible refine g_i0 ?_ | with_reducible refine g_bl ?_
  | with_reducible refine g_add ?_ | with_reducible refine g_sub ?_ | with_reducible refine g_eqI ?_ | with_reducible refine g_neI ?_ | with_reducible refine g_drop ?_ | with_reducible refine g_next ?_ | with_reducible refine g_break ?_ | with_reducible refine g_un ?_ | with_reducible refine g_u ?_
  | with_reducible refine g_ifE ?_ | with_reducible refine g_and ?_ | with_reducible refine g_or ?_ | with_reducible refine g_not ?_ | with_reducible refine g_andV ?_ | with_reducible refine g_orV ?_ | with_reducible refine g_notV ?_ | with_reducible refine g_isN ?_ | with_reducible refine g_notN ?_
  | with_reducible refine g_gnil ?_ | with_reducible refine g_gcons ?_ | with_reducible refine g_bm ?_ | with_reducible refine g_abs ?_ | with_reducible refine g_max ?_ | with_reducible refine g_min ?_ | with_reducible refine g_int ?_ | with_reducible refine g_lc ?_ | with_reducible refine g_for ?_ | with_reducible refine g_yes ?_ | with_reducible refine g_rng1 ?_ | with_reducible refine g_rng2 ?_ | with_reducible refine g_il ?_ | with_reducible refine g_it ?_ | with_reducible refine g_en ?_ | with_reducible refine g_zp ?_ | with_reducible refine g_mkT ?_ | with_reducible refine g_mkL ?_ | with_reducible refine g_augS ?_ | (with_reducible show tAug _ _ _ _ _ _; refine g_aug rfl ?_) | with_reducible refine g_ipI ?_ | with_reducible refine g_gsub ?_ | with_reducible refine g_dget ?_ | with_reducible refine g_din ?_ | with_reducible refine g_dnotin ?_ | with_reducible refine g_dput ?_ | with_reducible refine g_dc ?_ | with_reducible refine g_sl ?_ | with_reducible refine g_nopart ?_ | with_reducible refine g_part ?_ | with_reducible refine g_exI ?_ | with_reducible refine g_revL ?_ | (with_reducible show iSq _ _ _ _; refine g_sq rfl ?_) | with_reducible refine g_while ?_ | with_reducible refine g_min3 ?_ | with_reducible refine g_trq ?_ | with_reducible refine g_lock ?_ | with_reducible refine g_mko ?_ | with_reducible refine g_keys ?_ | with_reducible refine g_eqS ?_ | with_reducible refine g_lrg ?_ | with_reducible refine g_trg ?_ | with_reducible refine g_rg1 ?_ | with_reducible refine g_cut ?_ | with_reducible refine g_disp ?_ | with_reducible refine g_dnew ?_ | with_reducible refine iteT ?_ | with_reducible refine iteF ?_))
/-! ### rows of purses -/
abbrev rowK (row : List Int) : List Key := row.map Sum.inl
theorem rowK_V (row : List Int) : (rowK row).map kV = zs row := by rw [rowK, List.map_map]; rfl
theorem rowK_inj {a b : List Int} (h : rowK a = rowK b) : a = b := by
  induction a generalizing b with
  | nil => cases b with
    | nil => rfl
    | cons y r => simp at h
  | cons x r ih =>
    cases b with
    | nil => simp at h
    | cons y r2 =>
      simp only [rowK, List.map_cons, List.cons.injEq] at h
      rw [ih h.2, Sum.inl.inj h.1]
/-- a dict whose keys are the rows -/
def DT (H : Hp) (d : Addr) (rows : List (List Int)) : Prop := ∃ kvs : List (List Key × V), H d = some (.dT kvs) ∧ kvs.map (·.1) = rows.map rowK
theorem DT.kp {S : List Addr} {H H' : Hp} {d : Addr} {rows : List (List Int)} (h : DT H d rows) (k : Kp S H H') (hd : d ∉ S) : DT H' d rows := let ⟨kvs, h1, h2⟩ := h; ⟨kvs, k.keep _ _ h1 hd, h2⟩
theorem DT.put {H : Hp} {d b : Addr} {rows : List (List Int)} {row : List Int} {v : V} (h : DT H d rows) (hb : H b = some (.tup (zs row))) (hl : rows.length ≤ 1000) :
    ∃ ob rows', DPut H d (.ref b) v (upd H d ob) ∧ DT (upd H d ob) d rows' ∧ (∀ x, x ∈ rows' ↔ x ∈ rows ∨ x = row) ∧ rows'.length ≤ rows.length + 1 := by
  obtain ⟨kvs, h1, h2⟩ := h
  have hlen : kvs.length = rows.length := by
    have := congrArg List.length h2
    simpa using this
  refine ⟨.dT (putK kvs (rowK row) v), ?_⟩
  have hp : DPut H d (.ref b) v (upd H d (.dT (putK kvs (rowK row) v))) := DPut.t h1 (by rw [rowK_V]; exact hb) (small1000 (by omega))
  cases e : valV kvs (rowK row) with
  | some w =>
    have hm := valV_in e
    rw [h2] at hm
    obtain ⟨r0, hr0, er⟩ := List.mem_map.mp hm
    have er := rowK_inj er
    subst er
    refine ⟨rows, hp, ⟨_, upd_same, ?_⟩, fun x => ⟨.inl, fun z => z.elim id fun z => by rw [z]; exact hr0⟩, by omega⟩
    have : (putK kvs (rowK r0) v).map (·.1) = kvs.map (·.1) := by
      unfold putK
      rw [if_pos (by rw [valV_any, e]; rfl), List.map_map]
      exact List.map_congr_left fun kv _ => by
        show (if kv.1 = rowK r0 then (kv.1, v) else kv).1 = kv.1
        split <;> rfl
    rw [this, h2]
  | none =>
    refine ⟨rows ++ [row], hp, ⟨_, upd_same, ?_⟩, fun x => by simp, by simp⟩
    rw [putK_new v e, List.map_append, List.map_append, h2]
    rfl
/-- x in d -/
theorem DT.has {H : Hp} {d b : Addr} {rows : List (List Int)} {row : List Int} (h : DT H d rows) (hb : H b = some (.tup (zs row))) : ∃ o, DGet H d (.ref b) o ∧ o.isSome = decide (row ∈ rows) := by
  obtain ⟨kvs, h1, h2⟩ := h
  refine ⟨_, DGet.t (k := rowK row) h1 (by rw [rowK_V]; exact hb), ?_⟩
  cases e : valV kvs (rowK row) with
  | some w =>
    have hm := valV_in e
    rw [h2] at hm
    obtain ⟨r0, hr0, er⟩ := List.mem_map.mp hm
    rw [← rowK_inj er]
    simp [hr0]
  | none =>
    have hm := valV_not e
    rw [h2] at hm
    have : row ∉ rows := fun z => hm (List.mem_map.mpr ⟨row, z, rfl⟩)
    simp [this]
/-- list(d) -/
theorem DT.keys {H : Hp} {d : Addr} {rows : List (List Int)} (h : DT H d rows) : ∃ kvs, Rd H d (.dT kvs) ∧ ∀ bs, IsKeys H kvs bs → bs.length = rows.length ∧ (∀ b ∈ bs, ∃ row ∈ rows, H b = some (.tup (zs row))) ∧ ∀ row ∈ rows, ∃ b ∈ bs, H b = some (.tup (zs row)) := by
  obtain ⟨kvs, h1, h2⟩ := h
  refine ⟨kvs, .of h1, fun bs hk => ?_⟩
  clear h1
  unfold IsKeys at hk
  induction hk generalizing rows with
  | nil =>
    cases rows with
    | nil => exact ⟨rfl, fun b hb => absurd hb List.not_mem_nil, fun r hr => absurd hr List.not_mem_nil⟩
    | cons x r => simp at h2
  | @cons p b ks bs hpb _ ih =>
    cases rows with
    | nil => simp at h2
    | cons row rows =>
      simp only [List.map_cons, List.cons.injEq] at h2
      obtain ⟨e1, e2, e3⟩ := ih h2.2
      have hb : H b = some (.tup (zs row)) := by rw [← rowK_V, ← h2.1]; exact hpb
      refine ⟨by rw [List.length_cons, List.length_cons, e1], fun b' hb' => ?_, fun r hr => ?_⟩
      · rcases List.mem_cons.mp hb' with z | z
        · exact ⟨row, List.mem_cons_self, by rw [z]; exact hb⟩
        · obtain ⟨r, m, e⟩ := e2 b' z
          exact ⟨r, List.mem_cons_of_mem _ m, e⟩
      · rcases List.mem_cons.mp hr with z | z
        · exact ⟨b, List.mem_cons_self, by rw [z]; exact hb⟩
        · obtain ⟨b', m, e⟩ := e3 r z
          exact ⟨b', List.mem_cons_of_mem _ m, e⟩
def RowOf (n : Nat) (ls : List Ln) (near : List Int) (row : List Int) : Prop := row.length = n ∧ ∀ v, v < n → row[v]? = some (purse ls near v)
theorem RowOf.uniq {n : Nat} {ls : List Ln} {near : List Int} {a b : List Int} (h : RowOf n ls near a) (g : RowOf n ls near b) : a = b := by
  refine List.ext_getElem? fun v => ?_
  by_cases hv : v < n
  · rw [h.2 v hv, g.2 v hv]
  · rw [List.getElem?_eq_none (by rw [h.1]; omega), List.getElem?_eq_none (by rw [g.1]; omega)]
/-- one line more -/
def newRow (l : Ln) (row : List Int) (x : Int) : List Int := (row.set l.a (row.getD l.a 0 + x)).set l.b (row.getD l.b 0 + l.r - x)
theorem newRow_of {n : Nat} {ls : List Ln} {i : Nat} {l : Ln} (el : ls[i]? = some l) (hab : l.a < l.b) (hb : l.b < n) {near : List Int} (hn : near.length = (ls.take i).length) {row : List Int} (h : RowOf n (ls.take i) near row) (x : Int) : RowOf n (ls.take (i + 1)) (near ++ [x]) (newRow l row x) := by
  have hi : i < ls.length := (List.getElem?_eq_some_iff.mp el).1
  have hnl : near.length = i := by rw [hn, List.length_take]; omega
  refine ⟨by rw [newRow, List.length_set, List.length_set, h.1], fun v hv => ?_⟩
  have e2 : (near ++ [x])[i]? = some x := by rw [List.getElem?_append_right (by omega), hnl, Nat.sub_self]; rfl
  have pt := purse_take ls (near ++ [x]) i l x v el e2
  rw [List.take_of_length_le (show (near ++ [x]).length ≤ i + 1 from by rw [List.length_append, hnl]; exact Nat.le_refl _)] at pt
  have e3 : (near ++ [x]).take i = near := by rw [List.take_append_of_le_length (by omega), List.take_of_length_le (by omega)]
  rw [e3] at pt
  rw [pt]
  have ga := h.2 l.a (by omega)
  have gb := h.2 l.b hb
  have da : row.getD l.a 0 = purse (ls.take i) near l.a := by rw [List.getD_eq_getElem?_getD, ga]; rfl
  have db : row.getD l.b 0 = purse (ls.take i) near l.b := by rw [List.getD_eq_getElem?_getD, gb]; rfl
  unfold newRow
  rw [da, db]
  by_cases z : l.b = v
  · rw [if_pos z, if_neg (by omega), List.getElem?_set, if_pos z, if_pos (by rw [List.length_set, h.1]; omega), ← z]
    congr 1
    omega
  · rw [if_neg z, List.getElem?_set, if_neg z, List.getElem?_set]
    by_cases z2 : l.a = v
    · rw [if_pos z2, if_pos (by rw [h.1]; omega), if_pos z2, ← z2]
      congr 1
      omega
    · rw [if_neg z2, if_neg z2, h.2 v hv]
      congr 1
      omega
theorem split_snoc {ls : List Ln} {i : Nat} {l : Ln} (el : ls[i]? = some l) {near : List Int} (h : Split (ls.take i) near) {x : Int} (hx : 0 ≤ x ∧ x ≤ l.r) : Split (ls.take (i + 1)) (near ++ [x]) := by
  have hi : i < ls.length := (List.getElem?_eq_some_iff.mp el).1
  have hnl : near.length = i := by rw [h.1, List.length_take]; omega
  refine ⟨by rw [List.length_append, hnl, List.length_take]; show i + 1 = _; omega, fun j l' c' e1 e2 => ?_⟩
  rw [List.getElem?_take] at e1
  split at e1
  · rename_i hj
    rcases Nat.lt_succ_iff_lt_or_eq.mp hj with z | z
    · rw [List.getElem?_append_left (by omega)] at e2
      exact h.2 j l' c' (by rw [List.getElem?_take, if_pos z]; exact e1) e2
    · subst z
      rw [List.getElem?_append_right (by omega), hnl, Nat.sub_self] at e2
      rw [el] at e1
      cases e1
      simp at e2
      omega
  · cases e1
theorem split_last {ls : List Ln} {i : Nat} {l : Ln} (el : ls[i]? = some l) {near : List Int} (h : Split (ls.take (i + 1)) near) : ∃ n0 x, near = n0 ++ [x] ∧ Split (ls.take i) n0 ∧ 0 ≤ x ∧ x ≤ l.r := by
  have hi : i < ls.length := (List.getElem?_eq_some_iff.mp el).1
  have hnl : near.length = i + 1 := by rw [h.1, List.length_take]; omega
  have e : near = near.take i ++ [near[i]'(by omega)] := by
    have := List.take_append_drop i near
    rw [List.drop_eq_getElem_cons (by omega), List.drop_of_length_le (by omega)] at this
    exact this.symm
  refine ⟨near.take i, near[i]'(by omega), e, ⟨by rw [List.length_take, List.length_take]; omega, fun j l' c' e1 e2 => ?_⟩, h.2 i l _ (by rw [List.getElem?_take, if_pos (by omega)]; exact el) (List.getElem?_eq_getElem (by omega))⟩
  rw [List.getElem?_take] at e1 e2
  split at e1
  · rename_i hj
    rw [if_pos hj] at e2
    exact h.2 j l' c' (by rw [List.getElem?_take, if_pos (by omega)]; exact e1) e2
  · cases e1
theorem prodR_pos {ls : List Ln} (h : ∀ l ∈ ls, 1 ≤ l.r) : 1 ≤ prodR ls := by
  induction ls with
  | nil => decide
  | cons l r ih =>
    have h1 := ih fun x hx => h x (List.mem_cons_of_mem _ hx)
    have h2 := h l List.mem_cons_self
    have : 1 * 1 ≤ (l.r + 1) * prodR r := Int.mul_le_mul (by omega) h1 (by omega) (by omega)
    exact this
theorem prodR_take {ls : List Ln} (h : ∀ l ∈ ls, 1 ≤ l.r) (i : Nat) : prodR (ls.take i) ≤ prodR ls := by
  have e := prodR_app (ls.take i) (ls.drop i)
  rw [List.take_append_drop] at e
  have h1 := prodR_pos (ls := ls.take i) fun l hl => h l (List.mem_of_mem_take hl)
  have h2 := prodR_pos (ls := ls.drop i) fun l hl => h l (List.mem_of_mem_drop hl)
  rw [e]
  have : prodR (ls.take i) * 1 ≤ prodR (ls.take i) * prodR (ls.drop i) := Int.mul_le_mul_of_nonneg_left h2 (by omega)
  omega
/-- rows are the purses of the splits of the first i lines -/
def RowsOk (n : Nat) (ls : List Ln) (rows : List (List Int)) : Prop := (∀ row ∈ rows, ∃ near, Split ls near ∧ RowOf n ls near row) ∧ ∀ near, Split ls near → ∃ row ∈ rows, RowOf n ls near row
def StandR (W : Wb) (row : List Int) : Prop := row.length = W.n ∧ Stand W (fun v => row.getD v 0)
theorem rowOf_stand {W : Wb} {row : List Int} : StandR W row ↔ ∃ near, Split W.ls near ∧ RowOf W.n W.ls near row := by
  constructor
  · rintro ⟨h1, near, hs, hp⟩
    refine ⟨near, hs, h1, fun v hv => ?_⟩
    have : row.getD v 0 = purse W.ls near v := hp v hv
    rw [← this, List.getD_eq_getElem?_getD, List.getElem?_eq_getElem (by omega)]
    rfl
  · rintro ⟨near, hs, h1, hp⟩
    exact ⟨h1, near, hs, fun v hv => by
      show row.getD v 0 = _
      rw [List.getD_eq_getElem?_getD, hp v hv]
      rfl⟩
/-- a list of the standings -/
def NamesAt (H : Hp) (W : Wb) (ts : List Addr) : Prop := (∀ t ∈ ts, ∃ row, H t = some (.tup (zs row)) ∧ StandR W row) ∧ ∀ row, StandR W row → ∃ t ∈ ts, H t = some (.tup (zs row))
theorem NamesAt.kp {S : List Addr} {H H' : Hp} {W : Wb} {ts : List Addr} (h : NamesAt H W ts) (k : Kp S H H') : NamesAt H' W ts :=
  ⟨fun t ht => let ⟨row, e, s⟩ := h.1 t ht; ⟨row, k.tup _ _ e, s⟩, fun row s => let ⟨t, ht, e⟩ := h.2 row s; ⟨t, ht, k.tup _ _ e⟩⟩
section
variable {P : Program} {w : World} {K : PySem.W.Frag} {mg : Str → Option Value} {base : Heap} {f : Addr} {fd : FuncData} {k : Nat}
theorem sc_law_standings : FnScope ["_law_web_here", "_law_rows", "_law_line", "_law_more", "_law_row", "_law_near", "_law_purses_here"] ["_law_web_here"] (defScope s_law_standings) := ⟨rfl, rfl, rfl, by decide +kernel, rfl, by decide +kernel, by decide +kernel⟩
def sp_law_standings : Sp := fun vs H Q _ => ∃ (W : Wb) (u : V), vs = [u] ∧ WebAt H u W ∧ WebOk W ∧ prodR W.ls ≤ 150 ∧ ∀ (L : Addr) (ts : List Addr) (H' : Hp), Ex H H' → H L = none → H' L = some (.lst (ts.map V.ref)) → NamesAt H' W ts → 1 ≤ ts.length → ts.length ≤ 150 → Q (.ref L) H'
theorem ok_law_standings (F : Fun K "_law_standings" "_law_standings" s_law_standings f fd) (T : Txt mg) : FnOk P w K mg base CX0 1 f fd ["_law_web_here"] sp_law_standings := by
  have sc := sc_law_standings
  refine F.ok sc (fun vs H Q E h => ?_) (fun cdv A outer s H vs Q E hr h => ?_)
  · obtain ⟨W, u, rfl, _⟩ := h
    rfl
  · obtain ⟨W, u, rfl, hw, ok, hprod, q⟩ := h
    obtain ⟨a, c, ls, rfl, ha, hc, hl⟩ := hw
    have hu := hu_of hr
    have hu64 := hr.units
    have hr1 : ∀ l ∈ W.ls, 1 ≤ l.r := fun l hl => (ok.2.2.2 l hl).2.2
    have hn8 := ok.2.1
    refine ⟨_, (pss_cons (ps_set (i := 1) sc.nd rfl (by first | exact Or.inl rfl | exact Or.inr rfl) (pe_dispT hu (pe_callTy (kq_tup (K := K) rfl) (by rfl) T.tuple (by decide +kernel) (pa_cons (pe_op op_rep (pe_lst (pa_cons pe_int pa_nil)) (pe_ix (kx_tup (K := K) rfl) (pv 0) pe_int (fun _ _ => rfl))) pa_nil)) pe_bl))
      (pss_cons (ps_for PassesOwn.never rfl (kpi_tup (K := K) rfl (pe_ix (kx_tup (K := K) rfl) (pv 0) pe_int (fun _ _ => rfl))) (pg_name (i := 2) sc.nd rfl (by first | exact Or.inl rfl | exact Or.inr rfl))
        (pss_cons (ps_set (i := 3) sc.nd rfl (by first | exact Or.inl rfl | exact Or.inr rfl) pe_dnewT)
        (pss_cons (ps_for PassesOwn.never rfl (kpi_list (K := K) rfl (pe_callTy (cq_listDT rfl) (by rfl) T.list (by decide +kernel) (pa_cons (pv 1) pa_nil))) (pg_name (i := 4) sc.nd rfl (by first | exact Or.inl rfl | exact Or.inr rfl))
          (pss_one (ps_for PassesOwn.never rfl (pi_range1 (by rfl) T.range (pa_cons (pe_op op_add (pe_ix (kx_tup (K := K) rfl) (pv 2) pe_int (fun _ _ => rfl)) pe_int) pa_nil)) (pg_name (i := 5) sc.nd rfl (by first | exact Or.inl rfl | exact Or.inr rfl))
            (pss_cons (ps_set (i := 6) sc.nd rfl (by first | exact Or.inl rfl | exact Or.inr rfl) (pe_callTy (kq_list (K := K) rfl) (by rfl) T.list (by decide +kernel) (pa_cons (pv 4) pa_nil)))
            (pss_cons (ps_asg (pe_op op_add (pe_ix (kx_list (K := K) rfl) (pv 6) (pe_ix (kx_tup (K := K) rfl) (pv 2) pe_int (fun _ _ => rfl)) (fun _ _ => rfl)) (pv 5)) (pg_sub (pv 6) (pe_ix (kx_tup (K := K) rfl) (pv 2) pe_int (fun _ _ => rfl)) set_list))
            (pss_cons (ps_asg (pe_op op_sub (pe_op op_add (pe_ix (kx_list (K := K) rfl) (pv 6) (pe_ix (kx_tup (K := K) rfl) (pv 2) pe_int (fun _ _ => rfl)) (fun _ _ => rfl)) (pe_ix (kx_tup (K := K) rfl) (pv 2) pe_int (fun _ _ => rfl))) (pv 5)) (pg_sub (pv 6) (pe_ix (kx_tup (K := K) rfl) (pv 2) pe_int (fun _ _ => rfl)) set_list))
            (pss_one (ps_dput hu (pv 3) (pe_callTy (kq_tup (K := K) rfl) (by rfl) T.tuple (by decide +kernel) (pa_cons (pv 6) pa_nil)) pe_bl rfl))))))))
        (pss_one (ps_set (i := 1) sc.nd rfl (by first | exact Or.inl rfl | exact Or.inr rfl) (pv 3))))))
      (pss_one (ps_ret (pe_callB (kr_sortT (K := K) rfl hu64) (by rfl) T.sorted (by decide +kernel) (pa_cons (pe_callTy (cq_listDT rfl) (by rfl) T.list (by decide +kernel) (pa_cons (pv 1) pa_nil)) pa_nil)))))), ?_⟩
    walk_at "s"
    intro d0 hd0
    walk_at "s"
    refine ⟨sz, fun z hz => ?_⟩
    walk_at "s"
    have k0 : Ex H (upd H d0 (.dT [])) := .new hd0
    have k1 := k0.nnew (o := .lst [.int 0]) hz
    refine g_ixT (j := 0) (k1.tup _ _ ha) rfl ?_
    walk_at "s"
    refine g_rep upd_same (by omega) fun q1 hq1 => ?_
    walk_at "s"
    refine g_tupL upd_same fun q2 hq2 => ?_
    walk_at "s"
    have k2 := (k1.nnew (o := .lst (zs (List.replicate W.n 0))) hq1).nnew (o := .tup (zs (List.replicate W.n 0))) hq2
    have n1 : d0 ≠ z := ne_of_none upd_same hz
    have n2 : d0 ≠ q1 := ne_of_none (by rw [upd_ne n1, upd_same]) hq1
    have n3 : d0 ≠ q2 := ne_of_none (by rw [upd_ne n2, upd_ne n1, upd_same]) hq2
    have hd4 : (upd (upd (upd (upd H d0 (.dT [])) z (.lst [.int 0])) q1 (.lst (zs (List.replicate W.n 0)))) q2 (.tup (zs (List.replicate W.n 0)))) d0 = some (.dT []) := by rw [upd_ne n3, upd_ne n2, upd_ne n1, upd_same]
    refine ⟨q2, rowK (List.replicate W.n 0), rfl, by rw [rowK_V]; exact upd_same, hd4, ?_⟩
    walk_at "s"
    have k3 := k2.mut (o' := .dT [(rowK (List.replicate W.n 0), .bl true)]) hd0 hd4 (fun _ z => nomatch z)
    refine g_ixT (j := 1) (k3.tup _ _ ha) rfl ?_
    refine ⟨c, rfl, ⟨_, .of (k3.tup _ _ hc)⟩, ?_⟩
    refine for_it (walk_tup (xs := ls.map V.ref)) (fun i σ H' => ∃ (d : Addr) (rows : List (List Int)) (y2 y3 y4 y5 y6 : Option V), σ = [some (.ref a), some (.ref d), y2, y3, y4, y5, y6] ∧ Ex H H' ∧ H d = none ∧ DT H' d rows ∧ RowsOk W.n (W.ls.take i) rows ∧ (rows.length : Int) ≤ prodR (W.ls.take i) ∧ 1 ≤ rows.length)
      ⟨d0, [List.replicate W.n 0], _, _, _, _, _, rfl, k3, hd0, ⟨_, upd_same, rfl⟩, ⟨fun row hrow => ?_, fun near hnear => ?_⟩, (by rw [List.take_zero]; exact Int.le_refl 1), Nat.le_refl 1⟩ (fun i σ H' _ h => ?_) (fun i x σ H1 H2 hi hx hy => ?_) (fun σ H1 hx => ?_)
    · rw [List.mem_singleton.mp hrow]
      refine ⟨[], ⟨rfl, fun i l c e => by simp at e⟩, List.length_replicate, fun v hv => ?_⟩
      rw [List.getElem?_replicate, if_pos hv]
      rfl
    · have : near = [] := List.length_eq_zero_iff.mp hnear.1
      subst this
      refine ⟨_, List.mem_cons_self, List.length_replicate, fun v hv => ?_⟩
      rw [List.getElem?_replicate, if_pos hv]
      rfl
    · obtain ⟨_, _, _, _, _, _, _, _, k4, _⟩ := h
      exact .of (k4.tup _ _ hc)
    · obtain ⟨d, rows, y2, y3, y4, y5, y6, rfl, k4, hdH, hdt, hro, hrl, hr0⟩ := hx
      obtain ⟨rfl, ex⟩ := hy
      rw [List.length_map, hl.1] at hi
      have el : W.ls[i]? = some W.ls[i] := List.getElem?_eq_getElem hi
      obtain ⟨t, rfl, ht⟩ := hl.ref ex el
      have hlol := ok.2.2.2 _ (List.getElem_mem hi)
      have hpt : prodR (W.ls.take (i + 1)) = prodR (W.ls.take i) * (W.ls[i].r + 1) := by
        rw [List.take_add_one, el, prodR_app]
        show _ * ((W.ls[i].r + 1) * 1) = _
        rw [Int.mul_one]
      have hpl := prodR_take hr1 (i + 1)
      generalize W.ls[i] = l at *
      obtain ⟨R, hR⟩ : ∃ R : Nat, l.r = R := ⟨l.r.toNat, by omega⟩
      have hcount : rows.length * (R + 1) ≤ 150 := by
        have h1 : ((rows.length * (R + 1) : Nat) : Int) ≤ prodR (W.ls.take i) * (l.r + 1) := by
          rw [hR, Int.natCast_mul]
          exact Int.mul_le_mul_of_nonneg_right hrl (by omega)
        omega
      have hR150 : R + 1 ≤ 150 := by
        have : 1 * (R + 1) ≤ rows.length * (R + 1) := Nat.mul_le_mul_right _ hr0
        omega
      walk_at "s"
      intro dm hdm
      walk_at "s"
      have km : Ex H (upd H2 dm (.dT [])) := k4.nnew hdm
      have hdmH := k4.free hdm
      have hddm : d ≠ dm := by obtain ⟨kvs, e, _⟩ := hdt; exact ne_of_none e hdm
      obtain ⟨kvs, hrd, hkeys⟩ := (hdt.kp (Kp.new (S := []) (o := .dT []) hdm) List.not_mem_nil).keys
      refine ⟨d, kvs, rfl, hrd, fun Lr bs hLr hbs => ?_⟩
      obtain ⟨hb1, hb2, hb3⟩ := hkeys bs hbs
      walk_at "s"
      refine ⟨Lr, rfl, ⟨_, .of upd_same⟩, ?_⟩
      have kL : Ex H (upd (upd H2 dm (.dT [])) Lr (.lst (bs.map V.ref))) := km.nnew hLr
      have hLrH := km.free hLr
      have hdmL : dm ≠ Lr := ne_of_none upd_same hLr
      have tupB : ∀ b ∈ bs, ∃ row ∈ rows, (upd (upd H2 dm (.dT [])) Lr (.lst (bs.map V.ref))) b = some (.tup (zs row)) := fun b hb => by
        obtain ⟨row, hm, e⟩ := hb2 b hb
        exact ⟨row, hm, (Kp.new (S := []) hLr).tup _ _ e⟩
      have tupB3 : ∀ row ∈ rows, ∃ b ∈ bs, (upd (upd H2 dm (.dT [])) Lr (.lst (bs.map V.ref))) b = some (.tup (zs row)) := fun row hrow => by
        obtain ⟨b, hm, e⟩ := hb3 row hrow
        exact ⟨b, hm, (Kp.new (S := []) hLr).tup _ _ e⟩
      generalize hH3 : upd (upd H2 dm (.dT [])) Lr (.lst (bs.map V.ref)) = H3 at *
      refine for_it (walk_list (xs := bs.map V.ref)) (fun j σ H' => ∃ (M : List (List Int)) (y4 y5 y6 : Option V), σ = [some (.ref a), some (.ref d), some (.ref t), some (.ref dm), y4, y5, y6] ∧ Ex H H' ∧ Kp [dm] H3 H' ∧ DT H' dm M ∧ M.length ≤ j * (R + 1) ∧ (∀ row ∈ M, ∃ near, Split (W.ls.take (i + 1)) near ∧ RowOf W.n (W.ls.take (i + 1)) near row) ∧
        (∀ (x : Nat) (b : Addr) (row : List Int), x < j → bs[x]? = some b → H3 b = some (.tup (zs row)) → row ∈ rows → ∀ y : Int, 0 ≤ y → y ≤ l.r → newRow l row y ∈ M))
        ⟨[], _, _, _, rfl, kL, .refl _ _, ⟨_, by rw [← hH3, upd_ne hdmL, upd_same], rfl⟩, by simp, fun row hrow => absurd hrow List.not_mem_nil, fun x _ _ hx => absurd hx (Nat.not_lt_zero x)⟩ (fun j σ H' _ h => ?_) (fun j x σ H4 H5 hj hx hy => ?_) (fun σ H4 hx => ?_)
      · obtain ⟨_, _, _, _, _, _, k5, _⟩ := h
        exact .of (k5.keep _ _ (by rw [← hH3]; exact upd_same) (by simpa using hdmL.symm))
      · obtain ⟨M, y4, y5, y6, rfl, k5, k35, hdt5, hMl, hM1, hM2⟩ := hx
        obtain ⟨rfl, ex⟩ := hy
        rw [List.length_map] at hj
        have eb : bs[j]? = some bs[j] := List.getElem?_eq_getElem hj
        rw [List.getElem?_map, eb] at ex
        cases ex
        obtain ⟨row, hrow, hbt⟩ := tupB _ (List.getElem_mem hj)
        obtain ⟨near, hsp, hrof⟩ := hro.1 row hrow
        generalize bs[j] = b at *
        walk_at "s"
        refine g_ixT (j := 2) (k5.tup _ _ ht) rfl ?_
        walk_at "s"
        refine ⟨_, rfl, by omega, by omega, ?_⟩
        rw [show (l.r + 1).toNat = R + 1 from by omega]
        refine for_range (n := R + 1) (fun y σ H' => ∃ (M : List (List Int)) (y5 y6 : Option V), σ = [some (.ref a), some (.ref d), some (.ref t), some (.ref dm), some (.ref b), y5, y6] ∧ Ex H H' ∧ Kp [dm] H3 H' ∧ DT H' dm M ∧ M.length ≤ j * (R + 1) + y ∧ (∀ row ∈ M, ∃ near, Split (W.ls.take (i + 1)) near ∧ RowOf W.n (W.ls.take (i + 1)) near row) ∧
          (∀ (x : Nat) (b : Addr) (row : List Int), x < j → bs[x]? = some b → H3 b = some (.tup (zs row)) → row ∈ rows → ∀ y : Int, 0 ≤ y → y ≤ l.r → newRow l row y ∈ M) ∧ (∀ y' : Int, 0 ≤ y' → y' < y → newRow l row y' ∈ M))
          ⟨M, _, _, rfl, k5, k35, hdt5, by omega, hM1, hM2, fun y' h1 h2 => by omega⟩ (fun y σ H6 hy hx => ?_) (fun σ H6 hx => ?_)
        · obtain ⟨M, y5, y6, rfl, k6, k36, hdt6, hMl, hM1, hM2, hM3⟩ := hx
          rw [show ((0 : Int) + (y : Int)) = (y : Int) from Int.zero_add _]
          have hb6 := k36.tup _ _ hbt
          walk_at "s"
          refine g_listT hb6 fun p1 hp1 => ?_
          walk_at "s"
          have hp1H := k6.free hp1
          have k7 : Ex H (upd H6 p1 (.lst (zs row))) := k6.nnew hp1
          have ht7 := k7.tup _ _ ht
          have ga := hrof.2 l.a (by omega)
          have gb := hrof.2 l.b (by omega)
          have da : row.getD l.a 0 = purse (W.ls.take i) near l.a := by rw [List.getD_eq_getElem?_getD, ga]; rfl
          have db : row.getD l.b 0 = purse (W.ls.take i) near l.b := by rw [List.getD_eq_getElem?_getD, gb]; rfl
          refine g_ixT (j := 0) ht7 rfl ?_
          refine g_ixL (j := l.a) upd_same (zs_get ga) ?_
          walk_at "s"
          refine g_ixT (j := 0) ht7 rfl ?_
          refine g_setL (k := l.a) upd_same (by rw [zs_len, hrof.1]; omega) ?_
          walk_at "s"
          rw [← List.map_set]
          have k8 := k7.mutL (o' := .lst (zs (row.set l.a (purse (W.ls.take i) near l.a + (y : Int))))) hp1H upd_same
          have ht8 := k8.tup _ _ ht
          refine g_ixT (j := 1) ht8 rfl ?_
          refine g_ixL (j := l.b) upd_same (v := .int (purse (W.ls.take i) near l.b)) (zs_get (by rw [List.getElem?_set, if_neg (by omega)]; exact gb)) ?_
          walk_at "s"
          refine g_ixT (j := 2) ht8 rfl ?_
          walk_at "s"
          refine g_ixT (j := 1) ht8 rfl ?_
          refine g_setL (k := l.b) upd_same (by rw [zs_len, List.length_set, hrof.1]; omega) ?_
          walk_at "s"
          rw [← List.map_set]
          have erow : (row.set l.a (purse (W.ls.take i) near l.a + (y : Int))).set l.b (purse (W.ls.take i) near l.b + l.r - (y : Int)) = newRow l row y := by rw [newRow, da, db]
          rw [erow]
          have k9 := k8.mutL (o' := .lst (zs (newRow l row y))) hp1H upd_same
          have kk : Kp [dm] H3 (upd (upd (upd H6 p1 (.lst (zs row))) p1 (.lst (zs (row.set l.a (purse (W.ls.take i) near l.a + (y : Int)))))) p1 (.lst (zs (newRow l row y)))) := by
            have f1 : H3 p1 = none := k36.free hp1
            exact (((k36.nnew (o := .lst (zs row)) hp1).mutPL (o' := .lst (zs (row.set l.a (purse (W.ls.take i) near l.a + (y : Int))))) f1 upd_same).mutPL f1 upd_same)
          have hdmp : dm ≠ p1 := by obtain ⟨kv, e, _⟩ := hdt6; exact ne_of_none e hp1
          have hdt9 : DT (upd (upd (upd H6 p1 (.lst (zs row))) p1 (.lst (zs (row.set l.a (purse (W.ls.take i) near l.a + (y : Int)))))) p1 (.lst (zs (newRow l row y)))) dm M := by
            obtain ⟨kv, e1, e2⟩ := hdt6
            exact ⟨kv, by rw [upd_ne hdmp, upd_ne hdmp, upd_ne hdmp]; exact e1, e2⟩
          refine g_tupL upd_same fun p2 hp2 => ?_
          walk_at "s"
          have hMl2 : M.length ≤ 150 := by
            have h1 : (j + 1) * (R + 1) ≤ rows.length * (R + 1) := Nat.mul_le_mul_right _ (by omega)
            have h2 : (j + 1) * (R + 1) = j * (R + 1) + (R + 1) := Nat.succ_mul _ _
            omega
          have hdtA := hdt9.kp (Kp.new (S := []) (o := .tup (zs (newRow l row y))) hp2) List.not_mem_nil
          obtain ⟨ob, M', hput, hdtB, hmem, hlen⟩ := hdtA.put (b := p2) (row := newRow l row y) (v := .bl true) upd_same (by omega)
          refine ⟨dm, _, rfl, hput, ?_⟩
          walk_at "s"
          have kB1 : Kp [dm] H (upd (upd (upd (upd (upd H6 p1 (.lst (zs row))) p1 (.lst (zs (row.set l.a (purse (W.ls.take i) near l.a + (y : Int)))))) p1 (.lst (zs (newRow l row y)))) p2 (.tup (zs (newRow l row y)))) dm ob) := by
            obtain ⟨kv, e1, _⟩ := hdtA
            exact ((Kp.of_ex (k9.nnew hp2)).trans (.set e1 (fun _ z => nomatch z) (by simp)))
          have kB2 : Kp [dm] H3 (upd (upd (upd (upd (upd H6 p1 (.lst (zs row))) p1 (.lst (zs (row.set l.a (purse (W.ls.take i) near l.a + (y : Int)))))) p1 (.lst (zs (newRow l row y)))) p2 (.tup (zs (newRow l row y)))) dm ob) := by
            obtain ⟨kv, e1, _⟩ := hdtA
            exact (kk.nnew hp2).trans (.set e1 (fun _ z => nomatch z) (by simp))
          refine ⟨M', _, _, rfl, kB1.drop hdmH, kB2, hdtB, by omega, fun r0 hr0' => ?_, fun x0 b0 r0 hx0 e0 h0 hm0 y0 g1 g2 => (hmem _).mpr (.inl (hM2 x0 b0 r0 hx0 e0 h0 hm0 y0 g1 g2)), fun y' g1 g2 => ?_⟩
          · rcases (hmem r0).mp hr0' with z | z
            · exact hM1 r0 z
            · rw [z]
              exact ⟨near ++ [(y : Int)], split_snoc el hsp ⟨by omega, by omega⟩, newRow_of el hlol.1 hlol.2.1 hsp.1 hrof y⟩
          · rw [hmem]
            by_cases z : y' < y
            · exact .inl (hM3 y' g1 z)
            · have : y' = y := by omega
              rw [this]
              exact .inr rfl
        · obtain ⟨M, y5, y6, rfl, k6, k36, hdt6, hMl, hM1, hM2, hM3⟩ := hx
          refine ⟨M, _, _, _, rfl, k6, k36, hdt6, by rw [Nat.succ_mul]; exact hMl, hM1, fun x0 b0 r0 hx0 e0 h0 hm0 y0 g1 g2 => ?_⟩
          rcases Nat.lt_succ_iff_lt_or_eq.mp hx0 with z | z
          · exact hM2 x0 b0 r0 z e0 h0 hm0 y0 g1 g2
          · subst z
            rw [eb] at e0
            cases e0
            rw [hbt] at h0
            have : row = r0 := by
              have := h0
              simp only [Option.some.injEq, HO.tup.injEq] at this
              exact ints_inj' this
            subst this
            exact hM3 y0 g1 (by omega)
      · obtain ⟨M, y4, y5, y6, rfl, k5, k35, hdt5, hMl, hM1, hM2⟩ := hx
        rw [List.length_map, hb1] at hMl
        rw [List.length_map] at hM2
        walk_at "s"
        have hex : ∀ near, Split (W.ls.take (i + 1)) near → ∃ row ∈ M, RowOf W.n (W.ls.take (i + 1)) near row := fun near hnear => by
          obtain ⟨n0, x, rfl, hs0, hx1, hx2⟩ := split_last el hnear
          obtain ⟨row, hrow, hrof⟩ := hro.2 n0 hs0
          obtain ⟨b, hb, hbt⟩ := tupB3 row hrow
          obtain ⟨j, ej⟩ := List.mem_iff_getElem?.mp hb
          exact ⟨newRow l row x, hM2 j b row (List.getElem?_eq_some_iff.mp ej).1 ej hbt hrow x hx1 hx2, newRow_of el hlol.1 hlol.2.1 hs0.1 hrof x⟩
        refine ⟨dm, M, _, _, _, _, _, rfl, k5, hdmH, hdt5, ⟨hM1, hex⟩, ?_, ?_⟩
        · have h1 : ((M.length : Nat) : Int) ≤ ((rows.length * (R + 1) : Nat) : Int) := by omega
          have h2 : ((rows.length * (R + 1) : Nat) : Int) ≤ prodR (W.ls.take i) * (l.r + 1) := by
            rw [hR, Int.natCast_mul]
            exact Int.mul_le_mul_of_nonneg_right hrl (by omega)
          rw [hpt]
          omega
        · obtain ⟨row0, hrow0⟩ : ∃ r, r ∈ rows := by
            cases rows with
            | nil => simp at hr0
            | cons x r => exact ⟨x, List.mem_cons_self⟩
          obtain ⟨near0, hs0, _⟩ := hro.1 row0 hrow0
          obtain ⟨r1, hr1', _⟩ := hex (near0 ++ [0]) (split_snoc el hs0 ⟨by omega, by omega⟩)
          cases M with
          | nil => exact absurd hr1' List.not_mem_nil
          | cons x r => exact Nat.succ_pos _
    · obtain ⟨d, rows, y2, y3, y4, y5, y6, rfl, k4, hdH, hdt, hro, hrl, hr0⟩ := hx
      rw [List.length_map, hl.1, List.take_length] at hro hrl
      walk_at "s"
      obtain ⟨kvs, hrd, hkeys⟩ := hdt.keys
      refine ⟨d, kvs, rfl, hrd, fun Lr bs hLr hbs => ?_⟩
      obtain ⟨hb1, hb2, hb3⟩ := hkeys bs hbs
      walk_at "s"
      have kL : Ex H1 (upd H1 Lr (.lst (bs.map V.ref))) := .new hLr
      have hne : ∀ row ∈ rows, row ≠ [] := fun row hrow => by
        obtain ⟨near, _, h1, _⟩ := hro.1 row hrow
        intro z
        rw [z] at h1
        have := ok.1
        simp at h1
        omega
      refine ⟨Lr, bs, rfl, .of upd_same, fun b hb => ?_, .inl fun b hb => ?_, fun ts' L hperm hL => ?_⟩
      · obtain ⟨row, hm, e⟩ := hb2 b hb
        exact ⟨row, kL.tup _ _ e⟩
      · obtain ⟨row, hm, e⟩ := hb2 b hb
        exact ⟨row, kL.tup _ _ e, hne row hm⟩
      · have kF := kL.nnew (o := .lst (ts'.map V.ref)) hL
        refine q L ts' _ (k4.trans kF) ((k4.trans kL).free hL) upd_same ⟨fun t ht => ?_, fun row hrow => ?_⟩ ?_ ?_
        · obtain ⟨row, hm, e⟩ := hb2 t (hperm.mem_iff.mp ht)
          exact ⟨row, kF.tup _ _ e, rowOf_stand.mpr (hro.1 row hm)⟩
        · obtain ⟨near, hs, hrf⟩ := rowOf_stand.mp hrow
          obtain ⟨r1, hm, hrf1⟩ := hro.2 near hs
          have := hrf.uniq hrf1
          subst this
          obtain ⟨b, hb, e⟩ := hb3 _ hm
          exact ⟨b, hperm.mem_iff.mpr hb, kF.tup _ _ e⟩
        · rw [hperm.length_eq, hb1]
          exact hr0
        · rw [hperm.length_eq, hb1]
          omega
end
end K8
set_option Elab.async false
set_option linter.all false
set_option maxRecDepth 100000
set_option maxHeartbeats 4000000
namespace K8
open PySem PySem.Spec PyProof.Rows L2
local macro_rules | `(tactic| walk_at "s") => `(tactic| repeat (first
  | with_reducible refine g_seq ?_ | with_reducible refine g_ret ?_ | with_reducible refine g_asg ?_ | with_reducible refine g_name ?_ | with_reducible refine g_c ?_ | with_reducible refine g_op ?_ | with_reducible refine g_cons ?_ | with_reducible refine g_nil ?_
  | (with_reducible show tVar _ _ _ _; refine g_var rfl ?_) | with_reducible refine g_cb ?_ | with_reducible refine g_call ?_ | with_reducible refine g_if ?_ | with_reducible refine g_test ?_ | with_reducible refine g_tB ?_ | with_reducible refine g_i0 ?_ | with_reducible refine g_bl ?_
  | with_reducible refine g_add ?_ | with_reducible refine g_sub ?_ | with_reducible refine g_eqI ?_ | with_reducible refine g_neI ?_ | with_reducible refine g_drop ?_ | with_reducible refine g_next ?_ | with_reducible refine g_break ?_ | with_reducible refine g_un ?_ | with_reducible refine g_u ?_
  | with_reducible refine g_ifE ?_ | with_reducible refine g_and ?_ | with_reducible refine g_or ?_ | with_reducible refine g_not ?_ | with_reducible refine g_andV ?_ | with_reducible refine g_orV ?_ | with_reducible refine g_notV ?_ | with_reducible refine g_isN ?_ | with_reducible refine g_notN ?_
  | with_reducible refine g_gnil ?_ | with_reducible refine g_gcons ?_ | with_reducible refine g_bm ?_ | with_reducible refine g_abs ?_ | with_reducible refine g_max ?_ | with_reducible refine g_min ?_ | with_reducible refine g_int ?_ | with_reducible refine g_lc ?_ | with_reducible refine g_for ?_ | with_reducible refine g_yes ?_ | with_reducible refine g_rng1 ?_ | with_reducible refine g_rng2 ?_ | with_reducible refine g_il ?_ | with_reducible refine g_it ?_ | with_reducible refine g_en ?_ | with_reducible refine g_zp ?_ | with_reducible refine g_mkT ?_ | with_reducible refine g_mkL ?_ | with_reducible refine g_augS ?_ | (with_reducible show tAug _ _ _ _ _ _; refine g_aug rfl ?_) | with_reducible refine g_ipI ?_ | with_reducible refine g_gsub ?_ | with_reducible refine g_dget ?_ | with_reducible refine g_din ?_ | with_reducible refine g_dnotin ?_ | with_reducible refine g_dput ?_ | with_reducible refine g_dc ?_ | with_reducible refine g_sl ?_ | with_reducible refine g_nopart ?_ | with_reducible refine g_part ?_ | with_reducible refine g_exI ?_ | with_reducible refine g_revL ?_ | (with_reducible show iSq _ _ _ _; refine g_sq rfl ?_) | with_reducible refine g_while ?_ | with_reducible refine g_min3 ?_ | with_reducible refine g_trq ?_ | with_reducible refine g_lock ?_ | with_reducible refine g_mko ?_ | with_reducible refine g_keys ?_ | with_reducible refine g_eqS ?_ | with_reducible refine g_lrg ?_ | with_reducible refine g_trg ?_ | with_reducible refine g_rg1 ?_ | with_reducible refine g_cut ?_ | with_reducible refine g_disp ?_ | with_reducible refine g_dnew ?_ | with_reducible refine iteT ?_ | with_reducible refine iteF ?_))
/-- all ascending lots -/
def LotOk (n : Nat) (l : List Nat) : Prop := l.Pairwise (· < ·) ∧ ∀ x ∈ l, x < n
def LtsAt (H : Hp) (n : Nat) (ts : List Addr) : Prop := (∀ t ∈ ts, ∃ l, H t = some (.tup (zs (hs l))) ∧ LotOk n l) ∧ ∀ l, LotOk n l → ∃ t ∈ ts, H t = some (.tup (zs (hs l)))
theorem LtsAt.kp {S : List Addr} {H H' : Hp} {n : Nat} {ts : List Addr} (h : LtsAt H n ts) (k : Kp S H H') : LtsAt H' n ts :=
  ⟨fun t ht => let ⟨row, e, s⟩ := h.1 t ht; ⟨row, k.tup _ _ e, s⟩, fun row s => let ⟨t, ht, e⟩ := h.2 row s; ⟨t, ht, k.tup _ _ e⟩⟩
theorem zs_inj {a b : List Int} {H : Hp} {t : Addr} (h : H t = some (.tup (zs a))) (g : H t = some (.tup (zs b))) : a = b := by
  rw [h] at g
  simp only [Option.some.injEq, HO.tup.injEq] at g
  exact ints_inj' g
section
variable {P : Program} {w : World} {K : PySem.W.Frag} {mg : Str → Option Value} {base : Heap} {f : Addr} {fd : FuncData} {k : Nat}
theorem sc_law_lots : FnScope ["_law_size", "_law_lots_here", "_law_house", "_law_lot"] ["_law_size"] (defScope s_law_lots) := ⟨rfl, rfl, rfl, by decide +kernel, rfl, by decide +kernel, by decide +kernel⟩
def sp_law_lots : Sp := fun vs H Q _ => ∃ (n : Nat), vs = [.int n] ∧ n ≤ 8 ∧ ∀ (L : Addr) (ts : List Addr) (H' : Hp), Ex H H' → H L = none → H' L = some (.lst (ts.map V.ref)) → LtsAt H' n ts → ts.length ≤ 256 → Q (.ref L) H'
theorem ok_law_lots (F : Fun K "_law_lots" "_law_lots" s_law_lots f fd) (T : Txt mg) : FnOk P w K mg base CX0 1 f fd ["_law_size"] sp_law_lots := by
  have sc := sc_law_lots
  refine F.ok sc (fun vs H Q E h => ?_) (fun cdv A outer s H vs Q E hr h => ?_)
  · obtain ⟨n, rfl, _⟩ := h
    rfl
  · obtain ⟨n, rfl, hn8, q⟩ := h
    have hu64 := hr.units
    refine ⟨_, (pss_cons (ps_set (i := 1) sc.nd rfl (by first | exact Or.inl rfl | exact Or.inr rfl) (pe_lst (pa_cons (pe_tup pa_nil) pa_nil)))
      (pss_cons (ps_for PassesOwn.never rfl (pi_range1 (by rfl) T.range (pa_cons (pv 0) pa_nil)) (pg_name (i := 2) sc.nd rfl (by first | exact Or.inl rfl | exact Or.inr rfl))
        (pss_one (ps_set (i := 1) sc.nd rfl (by first | exact Or.inl rfl | exact Or.inr rfl) (pe_op op_cat (pv 1) (pe_lc (own := [("_law_lot", 3)]) rfl sc.nd (kpi_list (K := K) rfl (pv 1)) (blkOk_by (N := ["_law_size", "_law_lots_here", "_law_house", "_law_lot"]) (sc := defScope s_law_lots) (by decide +kernel)) (fun _ _ _ _ _ => (pg_name (i := 3) sc.nd rfl (by first | exact Or.inl rfl | exact Or.inr rfl))) (fun _ _ _ _ _ => pts_nil) (fun _ _ _ _ _ => (pe_op (kop_catA (K := K) rfl) (pv 3) (pe_tup (pa_cons (pv 2) pa_nil)))))))))
      (pss_one (ps_ret (pe_callB (kr_sortT (K := K) rfl hu64) (by rfl) T.sorted (by decide +kernel) (pa_cons (pv 1) pa_nil)))))), ?_⟩
    walk_at "s"
    refine ⟨sz, fun t0 ht0 => ?_⟩
    walk_at "s"
    refine ⟨sz, fun L0 hL0 => ?_⟩
    walk_at "s"
    have k1 : Ex H (upd (upd H t0 (.tup [])) L0 (.lst [.ref t0])) := (Kp.new ht0).nnew hL0
    have nt0 : t0 ≠ L0 := ne_of_none upd_same hL0
    refine ⟨_, rfl, by omega, by omega, ?_⟩
    refine for_range (n := n) (fun i σ H' => ∃ (L : Addr) (ts : List Addr) (y2 y3 : Option V), σ = [some (.int n), some (.ref L), y2, y3] ∧ Ex H H' ∧ H' L = some (.lst ((t0 :: ts).map V.ref)) ∧ LtsAt H' i (t0 :: ts) ∧ H' t0 = some (.tup []) ∧ (t0 :: ts).length = 2 ^ i)
      ⟨L0, [], _, _, rfl, k1, upd_same, ⟨fun t ht => ?_, fun l hl => ?_⟩, by rw [upd_ne nt0, upd_same], rfl⟩ (fun i σ H1 hi hx => ?_) (fun σ H1 hx => ?_)
    · rw [List.mem_singleton.mp ht]
      exact ⟨[], by rw [upd_ne nt0, upd_same]; rfl, List.Pairwise.nil, fun x hx => absurd hx List.not_mem_nil⟩
    · have : l = [] := by
        cases l with
        | nil => rfl
        | cons x r => exact absurd (hl.2 x List.mem_cons_self) (Nat.not_lt_zero x)
      subst this
      exact ⟨t0, List.mem_cons_self, by rw [upd_ne nt0, upd_same]; rfl⟩
    · obtain ⟨L, ts, y2, y3, rfl, k2, hL1, hlt, ht0', hlen⟩ := hx
      rw [show ((0 : Int) + (i : Int)) = (i : Int) from Int.zero_add _]
      have hpow : 2 ^ i ≤ 128 := by
        have : 2 ^ i ≤ 2 ^ 7 := Nat.pow_le_pow_right (by omega) (by omega)
        exact this
      walk_at "s"
      refine ⟨L, rfl, ⟨_, .of hL1⟩, fun D hD => ?_⟩
      generalize hts : t0 :: ts = tt at *
      refine lc_it (walk_list (xs := tt.map V.ref)) (fun j H' => Ex H1 H' ∧ ∃ t2 : List Addr, H' D = some (.lst (t2.map V.ref)) ∧ t2.length = j ∧ (∀ t ∈ t2, ∃ l, H' t = some (.tup (zs (hs (l ++ [i])))) ∧ LotOk i l) ∧ (∀ (x : Nat) (t : Addr) (l : List Nat), x < j → tt[x]? = some t → H1 t = some (.tup (zs (hs l))) → ∃ t' ∈ t2, H' t' = some (.tup (zs (hs (l ++ [i]))))))
        ⟨.new hD, [], upd_same, rfl, fun t ht => absurd ht List.not_mem_nil, fun x t l hx => absurd hx (Nat.not_lt_zero x)⟩ (fun j H' _ h => .of (h.1.keep _ _ hL1 List.not_mem_nil)) (fun j x H2 H3 hj hx hy => ?_) (fun H2 hx => ?_)
      · obtain ⟨k3, t2, hD2, ht2l, hA, hB⟩ := hx
        obtain ⟨rfl, ex⟩ := hy
        rw [List.length_map] at hj
        have et : tt[j]? = some tt[j] := List.getElem?_eq_getElem hj
        rw [List.getElem?_map, et] at ex
        cases ex
        obtain ⟨l, hlt1, hlo⟩ := hlt.1 _ (List.getElem_mem hj)
        generalize tt[j] = t at *
        have hl8 : l.length ≤ 8 := by
          have := nodup_le i l (hlo.1.imp fun h => Nat.ne_of_lt h) hlo.2
          omega
        walk_at "s"
        refine ⟨rfl, ?_⟩
        walk_at "s"
        refine ⟨sz, fun u hu => ?_⟩
        have ku : Ex H3 (upd H3 u (.tup [.int i])) := .new hu
        refine g_catA ((k3.trans ku).tup _ _ hlt1) upd_same (by rw [zs_len, hs_len]; show l.length + 1 ≤ 1000; omega) fun q1 H4 k4 e4 => ?_
        have k34 := ku.trans k4
        have hD4 := k34.keep _ _ hD2 List.not_mem_nil
        have e4' : H4 q1 = some (.tup (zs (hs (l ++ [i])))) := by rw [e4]; simp [zs, hs]
        have kU : ∀ o, Kp [D] H4 (upd H4 D o) := fun o => .setL hD4 (by simp)
        refine ⟨_, hD4, small1000 (by rw [List.length_map]; omega), (k3.trans k34).mutL hD hD4, t2 ++ [q1], by rw [upd_same, List.map_append]; rfl, by rw [List.length_append, ht2l]; rfl, fun t' ht' => ?_, fun x t' l' hx e hl' => ?_⟩
        · rcases List.mem_append.mp ht' with z | z
          · obtain ⟨l', e, h⟩ := hA t' z
            exact ⟨l', (kU _).tup _ _ (k34.tup _ _ e), h⟩
          · rw [List.mem_singleton.mp z]
            exact ⟨l, (kU _).tup _ _ e4', hlo⟩
        · rcases Nat.lt_succ_iff_lt_or_eq.mp hx with z | z
          · obtain ⟨t3, h3, e3⟩ := hB x t' l' z e hl'
            exact ⟨t3, List.mem_append_left _ h3, (kU _).tup _ _ (k34.tup _ _ e3)⟩
          · subst z
            rw [et] at e
            cases e
            have := hs_inj (zs_inj hl' hlt1)
            subst this
            exact ⟨q1, List.mem_append_right _ List.mem_cons_self, (kU _).tup _ _ e4'⟩
      · obtain ⟨k3, t2, hD2, ht2l, hA, hB⟩ := hx
        rw [List.length_map] at ht2l hB
        have hL2 := k3.keep _ _ hL1 List.not_mem_nil
        refine ⟨L, D, _, _, rfl, rfl, hL2, hD2, ?_, fun L2 hL2n => ?_⟩
        · rw [List.length_map, List.length_map]
          have := small1000 (n := 256) (by omega)
          omega
        have kF : Ex H1 (upd H2 L2 (.lst (tt.map V.ref ++ t2.map V.ref))) := k3.nnew hL2n
        have kN : Ex H2 (upd H2 L2 (.lst (tt.map V.ref ++ t2.map V.ref))) := .new hL2n
        subst hts
        refine ⟨L2, ts ++ t2, _, _, rfl, k2.trans kF, ?_, ⟨fun t ht => ?_, fun l hl => ?_⟩, kF.tup _ _ ht0', ?_⟩
        · rw [upd_same, ← List.map_append]
          rfl
        · have ht' : t ∈ (t0 :: ts) ++ t2 := ht
          rcases List.mem_append.mp ht' with z | z
          · obtain ⟨l, e, h1, h2⟩ := hlt.1 t z
            exact ⟨l, kF.tup _ _ e, h1, fun x hx => by have := h2 x hx; omega⟩
          · obtain ⟨l, e, h1, h2⟩ := hA t z
            refine ⟨l ++ [i], kN.tup _ _ e, ?_, fun x hx => ?_⟩
            · rw [List.pairwise_append]
              exact ⟨h1, List.pairwise_singleton _ _, fun a ha b hb => by rw [List.mem_singleton.mp hb]; exact h2 a ha⟩
            · rcases List.mem_append.mp hx with z | z
              · have := h2 x z
                omega
              · rw [List.mem_singleton.mp z]
                omega
        · by_cases hi' : i ∈ l
          · obtain ⟨l0, rfl, hl0⟩ : ∃ l0, l = l0 ++ [i] ∧ LotOk i l0 := by
              have hne : l ≠ [] := fun z => by rw [z] at hi'; exact absurd hi' List.not_mem_nil
              have e := List.dropLast_concat_getLast hne
              have hpw := hl.1
              rw [← e, List.pairwise_append] at hpw
              have hlast : l.getLast hne = i := by
                have h1 := hl.2 _ (List.getLast_mem hne)
                rw [← e] at hi'
                rcases List.mem_append.mp hi' with z | z
                · have := hpw.2.2 i z _ List.mem_cons_self
                  omega
                · exact (List.mem_singleton.mp z).symm
              refine ⟨l.dropLast, by rw [← hlast]; exact e.symm, hpw.1, fun x hx => ?_⟩
              have := hpw.2.2 x hx _ List.mem_cons_self
              omega
            obtain ⟨t, ht, e⟩ := hlt.2 l0 hl0
            obtain ⟨x, hx⟩ := List.mem_iff_getElem?.mp ht
            obtain ⟨t', ht', e'⟩ := hB x t l0 (List.getElem?_eq_some_iff.mp hx).1 hx e
            exact ⟨t', List.mem_append_right (t0 :: ts) ht', kN.tup _ _ e'⟩
          · obtain ⟨t, ht, e⟩ := hlt.2 l ⟨hl.1, fun x hx => by
              have := hl.2 x hx
              have : x ≠ i := fun z => hi' (by rw [← z]; exact hx)
              omega⟩
            exact ⟨t, List.mem_append_left _ ht, kF.tup _ _ e⟩
        · have : ((t0 :: ts) ++ t2).length = 2 ^ (i + 1) := by
            rw [List.length_append, ht2l, hlen, Nat.pow_succ]
            omega
          exact this
    · obtain ⟨L, ts, y2, y3, rfl, k2, hL1, hlt, ht0', hlen⟩ := hx
      have hpow : 2 ^ n ≤ 256 := by
        have : 2 ^ n ≤ 2 ^ 8 := Nat.pow_le_pow_right (by omega) (by omega)
        exact this
      walk_at "s"
      refine ⟨L, t0 :: ts, rfl, .of hL1, fun t ht => ?_, .inr fun t r e => ?_, fun ts' L2 hperm hL2 => ?_⟩
      · obtain ⟨l, e, _⟩ := hlt.1 t ht
        exact ⟨_, e⟩
      · cases e
        exact ht0'
      · have kF : Ex H1 (upd H1 L2 (.lst (ts'.map V.ref))) := .new hL2
        refine q L2 ts' _ (k2.trans kF) (k2.free hL2) upd_same ⟨fun t ht => ?_, fun l hl => ?_⟩ ?_
        · obtain ⟨l, e, h⟩ := hlt.1 t (hperm.mem_iff.mp ht)
          exact ⟨l, kF.tup _ _ e, h⟩
        · obtain ⟨t, ht, e⟩ := hlt.2 l hl
          exact ⟨t, hperm.mem_iff.mpr ht, kF.tup _ _ e⟩
        · rw [hperm.length_eq, hlen]
          exact hpow
theorem sc_law_slack : FnScope ["_law_web_here", "_law_row", "_law_lot", "_law_inside", "_law_house", "_law_line"] ["_law_web_here", "_law_row", "_law_lot"] (defScope s_law_slack) := ⟨rfl, rfl, rfl, by decide +kernel, rfl, by decide +kernel, by decide +kernel⟩
def sp_law_slack : Sp := fun vs H Q _ => ∃ (W : Wb) (u : V) (pa lt : Addr) (ps : List Int) (l : List Nat), vs = [u, .ref pa, .ref lt] ∧ WebAt H u W ∧ WebOk W ∧ (H pa = some (.lst (zs ps)) ∨ H pa = some (.tup (zs ps))) ∧ ps.length = W.n ∧ H lt = some (.tup (zs (hs l))) ∧ LotOk W.n l ∧
  ∀ H', Ex H H' → Q (.int (slack W (fun v => ps.getD v 0) (memB l))) H'
theorem ok_law_slack (F : Fun K "_law_slack" "_law_slack" s_law_slack f fd) (T : Txt mg) : FnOk P w K mg base CX0 1 f fd ["_law_web_here", "_law_row", "_law_lot"] sp_law_slack := by
  have sc := sc_law_slack
  refine F.ok sc (fun vs H Q E h => ?_) (fun cdv A outer s H vs Q E hr h => ?_)
  · obtain ⟨W, u, pa, lt, ps, l, rfl, _⟩ := h
    rfl
  · obtain ⟨W, u, pa, lt, ps, l, rfl, hw, ok, hpa, hpl, hlt, hlo, q⟩ := h
    obtain ⟨a, c, ls, rfl, ha, hc, hl⟩ := hw
    have h60 := ok.2.2.1
    have hl8 : l.length ≤ 8 := by
      have := nodup_le W.n l (hlo.1.imp fun h => Nat.ne_of_lt h) hlo.2
      have := ok.2.1
      omega
    refine ⟨_, (pss_cons (ps_set (i := 3) sc.nd rfl (by first | exact Or.inl rfl | exact Or.inr rfl) (pe_callB (kr_sum (K := K) rfl rfl) (by rfl) T.sum (by decide +kernel) (pa_cons (pe_lc (own := [("_law_line", 5)]) rfl sc.nd (kpi_tup (K := K) rfl (pe_ix (kx_tup (K := K) rfl) (pv 0) pe_int (fun _ _ => rfl))) (blkOk_by (N := ["_law_web_here", "_law_row", "_law_lot", "_law_inside", "_law_house", "_law_line"]) (sc := defScope s_law_slack) (by decide +kernel)) (fun _ _ _ _ _ => (pg_name (i := 5) sc.nd rfl (by first | exact Or.inl rfl | exact Or.inr rfl))) (fun _ _ _ _ _ => (pts_one (PW.pt (pw_and (pt_cmpR ((kop_in (K := K) rfl)) (pe_ix (kx_tup (K := K) rfl) (pv 5) pe_int (fun _ _ => rfl)) (pv 2) (by rfl)) (pw_and1 (pt_cmpR ((kop_in (K := K) rfl)) (pe_ix (kx_tup (K := K) rfl) (pv 5) pe_int (fun _ _ => rfl)) (pv 2) (by rfl))))))) (fun _ _ _ _ _ => (pe_ix (kx_tup (K := K) rfl) (pv 5) pe_int (fun _ _ => rfl)))) pa_nil)))
      (pss_one (ps_ret (pe_op op_sub (pe_callB (kr_sum (K := K) rfl rfl) (by rfl) T.sum (by decide +kernel) (pa_cons (pe_lc (own := [("_law_house", 4)]) rfl sc.nd (kpi_tup (K := K) rfl (pv 2)) (blkOk_by (N := ["_law_web_here", "_law_row", "_law_lot", "_law_inside", "_law_house", "_law_line"]) (sc := defScope s_law_slack) (by decide +kernel)) (fun _ _ _ _ _ => (pg_name (i := 4) sc.nd rfl (by first | exact Or.inl rfl | exact Or.inr rfl))) (fun _ _ _ _ _ => pts_nil) (fun _ _ _ _ _ => (pe_ix (kx_seq (K := K) rfl) (pv 1) (pv 4) (fun _ _ => rfl)))) pa_nil)) (pv 3))))), ?_⟩
    walk_at "s"
    refine g_ixT (j := 1) ha rfl ?_
    walk_at "s"
    refine ⟨c, rfl, ⟨_, .of hc⟩, fun D hD => ?_⟩
    refine lc_it (walk_tup (xs := ls.map V.ref)) (fun i H' => Ex H H' ∧ ∃ xs : List Int, H' D = some (.lst (zs xs)) ∧ xs.sum = inside (W.ls.take i) (memB l) ∧ xs.length ≤ i) ⟨.new hD, [], upd_same, rfl, Nat.le_refl _⟩ (fun i H' _ h => .of (h.1.tup _ _ hc)) (fun i x H1 H2 hi hx hy => ?_) (fun H1 hx => ?_)
    · obtain ⟨k1, xs, hD1, hsum, hxl⟩ := hx
      obtain ⟨rfl, ex⟩ := hy
      rw [List.length_map, hl.1] at hi
      have el : W.ls[i]? = some W.ls[i] := List.getElem?_eq_getElem hi
      obtain ⟨t, rfl, ht⟩ := hl.ref ex el
      rw [inside_take _ _ _ _ el]
      generalize W.ls[i] = ln at *
      have ht1 := k1.tup _ _ ht
      have hlt1 := k1.tup _ _ hlt
      walk_at "s"
      refine ⟨rfl, ?_⟩
      walk_at "s"
      refine g_ixT (j := 0) ht1 rfl ?_
      walk_at "s"
      refine g_inT hlt1 ?_
      walk_at "s"
      refine ite2 (fun e => ?_) (fun e => ?_)
      · walk_at "s"
        refine g_ixT (j := 1) ht1 rfl ?_
        walk_at "s"
        refine g_inT hlt1 ?_
        walk_at "s"
        refine ite2 (fun e2 => ?_) (fun e2 => ?_)
        · walk_at "s"
          refine g_ixT (j := 2) ht1 rfl ?_
          refine ⟨_, hD1, small1000 (by rw [zs_len]; omega), k1.mutL hD hD1, xs ++ [ln.r], by rw [upd_same, zs, zs, List.map_append]; rfl, ?_, by rw [List.length_append]; show xs.length + 1 ≤ _; omega⟩
          rw [if_pos ⟨e, e2⟩, List.sum_append, hsum]
          simp
        · refine ⟨k1, xs, hD1, ?_, by omega⟩
          rw [if_neg (fun z => e2 z.2), hsum]
          omega
      · refine iteF ?_
        refine ⟨k1, xs, hD1, ?_, by omega⟩
        rw [if_neg (fun z => e z.1), hsum]
        omega
    · obtain ⟨k1, xs, hD1, hsum, hxl⟩ := hx
      rw [List.length_map, hl.1, List.take_length] at hsum
      walk_at "s"
      refine ⟨D, xs, rfl, .of hD1, ?_⟩
      walk_at "s"
      rw [hsum]
      refine ⟨lt, rfl, ⟨_, .of (k1.tup _ _ hlt)⟩, fun D2 hD2 => ?_⟩
      refine lc_it (walk_tup (xs := zs (hs l))) (fun i H' => Ex H1 H' ∧ H' D2 = some (.lst (zs ((l.take i).map fun v => ps.getD v 0)))) ⟨.new hD2, upd_same⟩ (fun i H' _ h => .of ((k1.trans h.1).tup _ _ hlt)) (fun i x H2 H3 hi hx hy => ?_) (fun H2 hx => ?_)
      · obtain ⟨k2, hD3⟩ := hx
        obtain ⟨rfl, ex⟩ := hy
        rw [zs_len, hs_len] at hi
        have ei : l[i]? = some l[i] := List.getElem?_eq_getElem hi
        cases hs_at ex ei
        have hv := hlo.2 _ (List.getElem_mem hi)
        walk_at "s"
        refine ⟨rfl, ?_⟩
        walk_at "s"
        have k12 := k1.trans k2
        refine g_ixQ (j := l[i]) (xs := zs ps) (v := .int (ps.getD l[i] 0)) (hpa.elim (fun e => .inl (k12.keep _ _ e List.not_mem_nil)) fun e => .inr (k12.tup _ _ e)) (zs_get (by rw [List.getD_eq_getElem?_getD, List.getElem?_eq_getElem (by omega)]; rfl)) ?_
        refine ⟨_, hD3, small1000 (by rw [zs_len, List.length_map, List.length_take]; omega), k2.mutL hD2 hD3, ?_⟩
        rw [upd_same, List.take_add_one, ei, List.map_append, zs, zs, List.map_append]
        rfl
      · obtain ⟨k2, hD3⟩ := hx
        rw [zs_len, hs_len, List.take_length] at hD3
        walk_at "s"
        refine ⟨D2, _, rfl, .of hD3, ?_⟩
        walk_at "s"
        have := q H2 (k1.trans k2)
        unfold slack at this
        rw [psum_mem (hlo.1.imp fun h => Nat.ne_of_lt h) hlo.2] at this
        exact this
end
end K8
set_option Elab.async false
set_option linter.all false
set_option maxRecDepth 100000
set_option maxHeartbeats 4000000
namespace K8
open PySem PySem.Spec PyProof.Rows L2
local macro_rules | `(tactic| walk_at "s") => `(tactic| repeat (first
  | with_reducible refine g_seq ?_ | with_reducible refine g_ret ?_ | with_reducible refine g_asg ?_ | with_reducible refine g_name ?_ | with_reducible refine g_c ?_ | with_reducible refine g_op ?_ | with_reducible refine g_cons ?_ | with_reducible refine g_nil ?_
  | (with_reducible show tVar _ _ _ _; refine g_var rfl ?_) | with_reducible refine g_cb ?_ | with_reducible refine g_call ?_ | with_reducible refine g_if ?_ | with_reducible refine g_test ?_ | with_reducible refine g_tB ?_ | with_reducible refine g_i0 ?_ | with_reducible refine g_bl ?_
  | with_reducible refine g_add ?_ | with_reducible refine g_sub ?_ | with_reducible refine g_eqI ?_ | with_reducible refine g_neI ?_ | with_reducible refine g_drop ?_ | with_reducible refine g_next ?_ | with_reducible refine g_break ?_ | with_reducible refine g_un ?_ | with_reducible refine g_u ?_
  | with_reducible refine g_ifE ?_ | with_reducible refine g_and ?_ | with_reducible refine g_or ?_ | with_reducible refine g_not ?_ | with_reducible refine g_andV ?_ | with_reducible refine g_orV ?_ | with_reducible refine g_notV ?_ | with_reducible refine g_isN ?_ | with_reducible refine g_notN ?_
  | with_reducible refine g_gnil ?_ | with_reducible refine g_gcons ?_ | with_reducible refine g_bm ?_ | with_reducible refine g_abs ?_ | with_reducible refine g_max ?_ | with_reducible refine g_min ?_ | with_reducible refine g_int ?_ | with_reducible refine g_lc ?_ | with_reducible refine g_for ?_ | with_reducible refine g_yes ?_ | with_reducible refine g_rng1 ?_ | with_reducible refine g_rng2 ?_ | with_reducible refine g_il ?_ | with_reducible refine g_it ?_ | with_reducible refine g_en ?_ | with_reducible refine g_zp ?_ | with_reducible refine g_mkT ?_ | with_reducible refine g_mkL ?_ | with_reducible refine g_augS ?_ | (with_reducible show tAug _ _ _ _ _ _; refine g_aug rfl ?_) | with_reducible refine g_ipI ?_ | with_reducible refine g_gsub ?_ | with_reducible refine g_dget ?_ | with_reducible refine g_din ?_ | with_reducible refine g_dnotin ?_ | with_reducible refine g_dput ?_ | with_reducible refine g_dc ?_ | with_reducible refine g_sl ?_ | with_reducible refine g_nopart ?_ | with_reducible refine g_part ?_ | with_reducible refine g_exI ?_ | with_reducible refine g_revL ?_ | (with_reducible show iSq _ _ _ _; refine g_sq rfl ?_) | with_reducible refine g_while ?_ | with_reducible refine g_min3 ?_ | with_reducible refine g_trq ?_ | with_reducible refine g_lock ?_ | with_reducible refine g_mko ?_ | with_reducible refine g_keys ?_ | with_reducible refine g_eqS ?_ | with_reducible refine g_lrg ?_ | with_reducible refine g_trg ?_ | with_reducible refine g_rg1 ?_ | with_reducible refine g_cut ?_ | with_reducible refine g_disp ?_ | with_reducible refine g_dnew ?_ | with_reducible refine iteT ?_ | with_reducible refine iteF ?_))
def isSc : PyData → Bool
  | .int _ => true
  | .str _ => true
  | _ => false
/-- ints, texts and tuples of such, k deep -/
def Pln : Nat → PyData → Prop
  | 0, d => isSc d = true
  | k + 1, d => isSc d = true ∨ ∃ ds, d = .tuple ds ∧ ds.length ≤ 100 ∧ ∀ x ∈ ds, Pln k x
theorem Pln.out {k : Nat} {d : PyData} (h : Pln k d) (hs : isSc d = false) : ∃ j ds, k = j + 1 ∧ d = .tuple ds ∧ ds.length ≤ 100 ∧ ∀ x ∈ ds, Pln j x := by
  cases k with
  | zero =>
    have : isSc d = true := h
    rw [hs] at this
    cases this
  | succ j =>
    rcases h with z | ⟨ds, e, h1, h2⟩
    · rw [hs] at z
      cases z
    · exact ⟨j, ds, rfl, e, h1, h2⟩
section
variable {P : Program} {w : World} {K : PySem.W.Frag} {mg : Str → Option Value} {base : Heap} {f : Addr} {fd : FuncData} {k : Nat}
theorem sc_law_same : FnScope ["_law_told_here", "_law_due", "_law_k"] ["_law_told_here", "_law_due"] (defScope s_law_same) := ⟨rfl, rfl, rfl, by decide +kernel, rfl, by decide +kernel, by decide +kernel⟩
def sp_law_same : Nat → Sp
  | 0 => fun _ _ _ _ => False
  | k + 1 => fun vs H Q _ => ∃ (S1 S2 : List Addr) (v1 v2 : V) (d : PyData), vs = [v1, v2] ∧ Da S1 H v1 d ∧ Da S2 H v2 d ∧ Pln k d ∧ (∀ H', Ex H H' → Q (.bl true) H')
theorem ok_law_same (F : Fun K "_law_same" "_law_same" s_law_same f fd) (T : Txt mg) (gm : mg "_law_same" = some (.ref f)) (b : Binds K fd ["_law_told_here", "_law_due"] []) : ∀ k, FnOk P w K mg base CX0 k f fd ["_law_told_here", "_law_due"] (sp_law_same k)
  | 0 => ⟨fun vs H Q E h => h.elim, fun A outer s H args us vs Q E _ _ _ _ h => h.elim⟩
  | k + 1 => by
    have sc := sc_law_same
    have c_law_same : Cal P w K mg base k "_law_same" (sp_law_same k) := ⟨_, _, _, ok_law_same F T gm b k, gm, F.kp, b⟩
    refine F.ok sc (fun vs H Q E h => ?_) (fun cdv A outer s H vs Q E hr h => ?_)
    · obtain ⟨S1, S2, v1, v2, d, rfl, _⟩ := h
      rfl
    · obtain ⟨S1, S2, v1, v2, d, rfl, hd1, hd2, hpl, q⟩ := h
      refine ⟨_, (pss_cons (ps_if (pt_val (pe_callB (k_isi (K := K) rfl) (by rfl) T.isinstance (by decide +kernel) (pa_cons (pv 1) (pa_cons (pe_bltn (v := .ty "tuple") (by rfl) T.tuple (by decide +kernel) rfl) pa_nil))))
        (pss_cons (ps_if (PW.pt (pw_or (pt_not (pt_val (pe_callB (k_isi (K := K) rfl) (by rfl) T.isinstance (by decide +kernel) (pa_cons (pv 0) (pa_cons (pe_bltn (v := .ty "tuple") (by rfl) T.tuple (by decide +kernel) rfl) pa_nil))))) (pw_or1 (pt_cmpR op_ne (pe_callB (kq_len (K := K) rfl) (by rfl) T.len (by decide +kernel) (pa_cons (pv 0) pa_nil)) (pe_callB (kq_len (K := K) rfl) (by rfl) T.len (by decide +kernel) (pa_cons (pv 1) pa_nil)) (nomark _)))))
          (pss_one (ps_ret pe_bl))
          pss_nil)
        (pss_cons (ps_for PassesOwn.never rfl (pi_range1 (by rfl) T.range (pa_cons (pe_callB (kq_len (K := K) rfl) (by rfl) T.len (by decide +kernel) (pa_cons (pv 1) pa_nil)) pa_nil)) (pg_name (i := 2) sc.nd rfl (by first | exact Or.inl rfl | exact Or.inr rfl))
          (pss_one (ps_if (pt_not (pt_val (pe_c c_law_same hr (Nat.le_refl _) (by rfl) (pa_cons (pe_ix (kx_tup (K := K) rfl) (pv 0) (pv 2) (fun _ _ => rfl)) (pa_cons (pe_ix (kx_tup (K := K) rfl) (pv 1) (pv 2) (fun _ _ => rfl)) pa_nil)))))
            (pss_one (ps_ret pe_bl))
            pss_nil)))
        (pss_one (ps_ret pe_bl))))
        pss_nil)
      (pss_cons (ps_if (pt_cmp (pc_isN (pv 1)))
        (pss_one (ps_ret (pe_cmp (pc_isN (pv 0)) rfl)))
        pss_nil)
      (pss_cons (ps_if (pt_cmpR op_isTF (pv 1) pe_bl (nomark _))
        (pss_one (ps_ret (pe_cmpR op_isTF (pv 0) pe_bl (nomark _))))
        pss_nil)
      (pss_cons (ps_if (pt_cmpR op_isTF (pv 1) pe_bl (nomark _))
        (pss_one (ps_ret (pe_cmpR op_isTF (pv 0) pe_bl (nomark _))))
        pss_nil)
      (pss_cons (ps_if (pt_val (pe_callB (k_isi (K := K) rfl) (by rfl) T.isinstance (by decide +kernel) (pa_cons (pv 1) (pa_cons (pe_bltn (v := .ty "str") (by rfl) T.str (by decide +kernel) rfl) pa_nil))))
        (pss_one (ps_ret (pe_and (pe_callB (k_isi (K := K) rfl) (by rfl) T.isinstance (by decide +kernel) (pa_cons (pv 0) (pa_cons (pe_bltn (v := .ty "str") (by rfl) T.str (by decide +kernel) rfl) pa_nil))) (pe_one (pe_cmpR op_eq (pv 0) (pv 1) (nomark _))))))
        pss_nil)
      (pss_one (ps_ret (pe_and (pe_callB (k_isi (K := K) rfl) (by rfl) T.isinstance (by decide +kernel) (pa_cons (pv 0) (pa_cons (pe_bltn (v := .ty "int") (by rfl) T.int (by decide +kernel) rfl) pa_nil))) (pe_and (pe_not (pe_callB (k_isi (K := K) rfl) (by rfl) T.isinstance (by decide +kernel) (pa_cons (pv 0) (pa_cons (pe_bltn (v := .ty "bool") (by rfl) T.bool (by decide +kernel) rfl) pa_nil)))) (pe_one (pe_cmpR op_eq (pv 0) (pv 1) (nomark _)))))))))))), ?_⟩
      walk_at "s"
      refine g_isiT hd2 ?_
      walk_at "s"
      cases d with
      | int i =>
        cases hd1
        cases hd2
        refine iteF ?_
        walk_at "s"
        rw [decide_eq_false (fun z => nomatch z)]
        refine iteF ?_
        walk_at "s"
        refine ⟨true, rfl, ?_⟩
        walk_at "s"
        rw [decide_eq_false (fun z => nomatch z)]
        refine iteF ?_
        walk_at "s"
        refine ⟨false, rfl, ?_⟩
        walk_at "s"
        rw [decide_eq_false (fun z => nomatch z)]
        refine iteF ?_
        walk_at "s"
        refine g_isiS (S := S2) (.int i) ?_
        walk_at "s"
        refine iteF ?_
        walk_at "s"
        refine g_isiI (S := S1) (.int i) ?_
        walk_at "s"
        refine iteT ?_
        walk_at "s"
        refine g_isiB (S := S1) (.int i) ?_
        walk_at "s"
        refine iteT ?_
        walk_at "s"
        rw [decide_eq_true rfl]
        exact q H (.refl _ _)
      | str x =>
        cases hd1
        cases hd2
        refine iteF ?_
        walk_at "s"
        rw [decide_eq_false (fun z => nomatch z)]
        refine iteF ?_
        walk_at "s"
        refine ⟨true, rfl, ?_⟩
        walk_at "s"
        rw [decide_eq_false (fun z => nomatch z)]
        refine iteF ?_
        walk_at "s"
        refine ⟨false, rfl, ?_⟩
        walk_at "s"
        rw [decide_eq_false (fun z => nomatch z)]
        refine iteF ?_
        walk_at "s"
        refine g_isiS (S := S2) (.str x) ?_
        walk_at "s"
        refine iteT ?_
        walk_at "s"
        refine g_isiS (S := S1) (.str x) ?_
        walk_at "s"
        refine iteT ?_
        walk_at "s"
        rw [decide_eq_true rfl]
        exact q H (.refl _ _)
      | tuple ds =>
        obtain ⟨k, ds', rfl, e, hd100, hpl⟩ := hpl.out rfl
        cases e
        obtain ⟨a1, xs1, rfl, h1, hx1⟩ := hd1.tup_inv
        obtain ⟨a2, xs2, rfl, h2, hx2⟩ := hd2.tup_inv
        refine iteT ?_
        walk_at "s"
        refine g_isiT hd1 ?_
        walk_at "s"
        refine iteF ?_
        walk_at "s"
        refine g_lenT h1 ?_
        walk_at "s"
        refine g_lenT h2 ?_
        walk_at "s"
        rw [hx1.len, hx2.len, decide_eq_true rfl]
        refine iteF ?_
        walk_at "s"
        refine g_lenT h2 ?_
        rw [hx2.len]
        walk_at "s"
        refine ⟨_, rfl, by omega, by omega, ?_⟩
        refine for_range (n := ds.length) (fun i σ H' => Ex H H' ∧ ∃ y, σ = [some (.ref a1), some (.ref a2), y]) ⟨.refl _ _, _, rfl⟩ (fun i σ H1 hi hx => ?_) (fun σ H1 hx => ?_)
        · obtain ⟨k1, y, rfl⟩ := hx
          rw [show ((0 : Int) + (i : Int)) = (i : Int) from Int.zero_add _]
          have ed : ds[i]? = some ds[i] := List.getElem?_eq_getElem hi
          obtain ⟨w1, ew1, hw1⟩ := hx1.get ed
          obtain ⟨w2, ew2, hw2⟩ := hx2.get ed
          walk_at "s"
          refine g_ixT (j := i) (k1.tup _ _ h1) ew1 ?_
          walk_at "s"
          refine g_ixT (j := i) (k1.tup _ _ h2) ew2 ?_
          walk_at "s"
          refine ⟨S1, S2, w1, w2, ds[i], rfl, hw1.kp (.of_ex k1), hw2.kp (.of_ex k1), hpl _ (List.getElem_mem hi), fun H2 k2 => ?_⟩
          walk_at "s"
          refine iteF ?_
          walk_at "s"
          exact ⟨k1.trans k2, _, rfl⟩
        · obtain ⟨k1, y, rfl⟩ := hx
          walk_at "s"
          exact q H1 k1
      | _ =>
        obtain ⟨_, _, _, e, _⟩ := hpl.out rfl
        cases e
theorem sc_law_many : FnScope ["_law_table", "_law_row", "_law_here", "_law_there", "_law_many_here", "_law_k", "_law_moved"] ["_law_table", "_law_row", "_law_here", "_law_there"] (defScope s_law_many) := ⟨rfl, rfl, rfl, by decide +kernel, rfl, by decide +kernel, by decide +kernel⟩
def TblAt (H : Hp) (d : Addr) (W : Wb) : Prop := ∃ rows, DT H d rows ∧ ∀ row, row ∈ rows ↔ StandR W row
theorem TblAt.kp {S : List Addr} {H H' : Hp} {d : Addr} {W : Wb} (h : TblAt H d W) (k : Kp S H H') (hd : d ∉ S) : TblAt H' d W := let ⟨rows, h1, h2⟩ := h; ⟨rows, h1.kp k hd, h2⟩
def sp_law_many : Sp := fun vs H Q _ => ∃ (W : Wb) (d pa : Addr) (ps : List Int) (h t : Nat), vs = [.ref d, .ref pa, .int h, .int t] ∧ WebOk W ∧ prodR W.ls ≤ 150 ∧ TblAt H d W ∧ H pa = some (.tup (zs ps)) ∧ StandR W ps ∧ h < W.n ∧ t < W.n ∧ h ≠ t ∧
  ∀ (x : Int) (H' : Hp), Ex H H' → IsLeast W (fun v => ps.getD v 0) h t x → Q (.int x) H'
theorem ok_law_many (F : Fun K "_law_many" "_law_many" s_law_many f fd) (T : Txt mg) : FnOk P w K mg base CX0 1 f fd ["_law_table", "_law_row", "_law_here", "_law_there"] sp_law_many := by
  have sc := sc_law_many
  refine F.ok sc (fun vs H Q E h => ?_) (fun cdv A outer s H vs Q E hr h => ?_)
  · obtain ⟨W, d, pa, ps, h, t, rfl, _⟩ := h
    rfl
  · obtain ⟨W, d, pa, ps, h, t, rfl, ok, hprod, htbl, hpa, hst, hh, ht, hne, q⟩ := h
    have hu := hu_of hr
    have gv : ∀ v, v < W.n → ps[v]? = some (ps.getD v 0) := fun v hv => by rw [List.getD_eq_getElem?_getD, List.getElem?_eq_getElem (by rw [hst.1]; exact hv)]; rfl
    have hbound : 0 ≤ ps.getD h 0 ∧ ps.getD h 0 ≤ 150 := by
      obtain ⟨_, near, hs, hp⟩ := hst
      have e : ps.getD h 0 = purse W.ls near h := hp h hh
      have h1 := purse_nonneg h hs
      have h2 := purse_le h (fun l hl => by have := ok.2.2.2 l hl; omega) hs
      have h3 := (sumR_le (ls := W.ls) (fun l hl => (ok.2.2.2 l hl).2.2) prodR rfl fun _ _ => rfl).1
      omega
    obtain ⟨N, hN⟩ : ∃ N : Nat, ps.getD h 0 = N := ⟨(ps.getD h 0).toNat, by omega⟩
    refine ⟨_, (pss_cons (ps_set (i := 4) sc.nd rfl (by first | exact Or.inl rfl | exact Or.inr rfl) pe_int)
      (pss_cons (ps_for PassesOwn.never rfl (pi_range1 (by rfl) T.range (pa_cons (pe_ix (kx_tup (K := K) rfl) (pv 1) (pv 2) (fun _ _ => rfl)) pa_nil)) (pg_name (i := 5) sc.nd rfl (by first | exact Or.inl rfl | exact Or.inr rfl))
        (pss_cons (ps_set (i := 6) sc.nd rfl (by first | exact Or.inl rfl | exact Or.inr rfl) (pe_callTy (kq_list (K := K) rfl) (by rfl) T.list (by decide +kernel) (pa_cons (pv 1) pa_nil)))
        (pss_cons (ps_asg (pe_op op_sub (pe_op op_sub (pe_ix (kx_list (K := K) rfl) (pv 6) (pv 2) (fun _ _ => rfl)) (pv 4)) pe_int) (pg_sub (pv 6) (pv 2) set_list))
        (pss_cons (ps_asg (pe_op op_add (pe_op op_add (pe_ix (kx_list (K := K) rfl) (pv 6) (pv 3) (fun _ _ => rfl)) (pv 4)) pe_int) (pg_sub (pv 6) (pv 3) set_list))
        (pss_cons (ps_if (pt_cmp (pc_dnotin hu (pe_callTy (kq_tup (K := K) rfl) (by rfl) T.tuple (by decide +kernel) (pa_cons (pv 6) pa_nil)) (pv 0)))
          (pss_one (ps_ret (pv 4)))
          pss_nil)
        (pss_one (ps_set (i := 4) sc.nd rfl (by first | exact Or.inl rfl | exact Or.inr rfl) (pe_op op_add (pv 4) pe_int))))))))
      (pss_one (ps_ret (pv 4))))), ?_⟩
    walk_at "s"
    refine g_ixT (j := h) hpa (zs_get (gv h hh)) ?_
    refine ⟨_, rfl, by omega, by omega, ?_⟩
    rw [show (ps.getD h 0).toNat = N from by omega]
    refine for_range (n := N) (fun i σ H' => ∃ (y5 y6 : Option V), σ = [some (.ref d), some (.ref pa), some (.int h), some (.int t), some (.int i), y5, y6] ∧ Ex H H' ∧ Stand W (shift (fun v => ps.getD v 0) h t i)) ⟨_, _, rfl, .refl _ _, ?_⟩ (fun i σ H1 hi hx => ?_) (fun σ H1 hx => ?_)
    · obtain ⟨_, near, hs, hp⟩ := hst
      refine ⟨near, hs, fun v hv => ?_⟩
      rw [← hp v hv]
      unfold shift
      split <;> split <;> simp
    · obtain ⟨y5, y6, rfl, k1, hsi⟩ := hx
      walk_at "s"
      refine g_listT (k1.tup _ _ hpa) fun M hM => ?_
      walk_at "s"
      have hMH := k1.free hM
      have k2 : Ex H (upd H1 M (.lst (zs ps))) := k1.nnew hM
      refine g_ixL (j := h) upd_same (zs_get (gv h hh)) ?_
      walk_at "s"
      refine g_setL (k := h) upd_same (by rw [zs_len, hst.1]; exact hh) ?_
      walk_at "s"
      rw [← List.map_set]
      have k3 := k2.mutL (o' := .lst (zs (ps.set h (ps.getD h 0 - (i : Int) - 1)))) hMH upd_same
      refine g_ixL (j := t) upd_same (v := .int (ps.getD t 0)) (zs_get (by rw [List.getElem?_set, if_neg hne]; exact gv t ht)) ?_
      walk_at "s"
      refine g_setL (k := t) upd_same (by rw [zs_len, List.length_set, hst.1]; exact ht) ?_
      walk_at "s"
      rw [← List.map_set]
      have k4 := k3.mutL (o' := .lst (zs ((ps.set h (ps.getD h 0 - (i : Int) - 1)).set t (ps.getD t 0 + (i : Int) + 1)))) hMH upd_same
      refine g_tupL upd_same fun p2 hp2 => ?_
      have k5 := k4.nnew (o := .tup (zs ((ps.set h (ps.getD h 0 - (i : Int) - 1)).set t (ps.getD t 0 + (i : Int) + 1)))) hp2
      obtain ⟨rows, hdt, hrows⟩ := htbl.kp k5 List.not_mem_nil
      obtain ⟨o, hg, hsm⟩ := hdt.has (b := p2) (row := (ps.set h (ps.getD h 0 - (i : Int) - 1)).set t (ps.getD t 0 + (i : Int) + 1)) upd_same
      walk_at "s"
      refine ⟨d, o, rfl, hg, ?_⟩
      walk_at "s"
      rw [hsm]
      have hsh : ∀ v, v < W.n → ((ps.set h (ps.getD h 0 - (i : Int) - 1)).set t (ps.getD t 0 + (i : Int) + 1)).getD v 0 = shift (fun v => ps.getD v 0) h t ((i : Int) + 1) v := fun v hv => by
        show _ = ps.getD v 0 - (if v = h then (i : Int) + 1 else 0) + (if v = t then (i : Int) + 1 else 0)
        rw [List.getD_eq_getElem?_getD, List.getElem?_set]
        by_cases z1 : v = t
        · subst z1
          rw [if_pos rfl, if_pos (by rw [List.length_set, hst.1]; exact hv), if_neg (fun z => hne z.symm), if_pos rfl]
          show ps.getD v 0 + (i : Int) + 1 = _
          omega
        · rw [if_neg (fun z => z1 z.symm), if_neg z1, List.getElem?_set]
          by_cases z2 : v = h
          · subst z2
            rw [if_pos rfl, if_pos (by rw [hst.1]; exact hv), if_pos rfl]
            show ps.getD v 0 - (i : Int) - 1 = _
            omega
          · rw [if_neg (fun z => z2 z.symm), if_neg z2, ← List.getD_eq_getElem?_getD]
            omega
      have hiff : (ps.set h (ps.getD h 0 - (i : Int) - 1)).set t (ps.getD t 0 + (i : Int) + 1) ∈ rows ↔ Stand W (shift (fun v => ps.getD v 0) h t ((i : Int) + 1)) := by
        rw [hrows]
        constructor
        · rintro ⟨_, near, hs, hp⟩
          exact ⟨near, hs, fun v hv => by rw [← hsh v hv]; exact hp v hv⟩
        · rintro ⟨near, hs, hp⟩
          exact ⟨by rw [List.length_set, List.length_set]; exact hst.1, near, hs, fun v hv => by show List.getD _ v 0 = _; rw [hsh v hv]; exact hp v hv⟩
      by_cases hin : (ps.set h (ps.getD h 0 - (i : Int) - 1)).set t (ps.getD t 0 + (i : Int) + 1) ∈ rows
      · rw [decide_eq_true hin]
        refine iteF ?_
        walk_at "s"
        exact ⟨_, _, rfl, k5, hiff.mp hin⟩
      · rw [decide_eq_false hin]
        refine iteT ?_
        walk_at "s"
        exact q i _ k5 (many_least ok hh ht hne hsi (.inl fun z => hin (hiff.mpr z)))
    · obtain ⟨y5, y6, rfl, k1, hsi⟩ := hx
      walk_at "s"
      exact q N H1 k1 (many_least ok hh ht hne hsi (.inr hN.symm))
theorem sc_law_least : FnScope ["_law_web_here", "_law_row", "_law_lots_here", "_law_here", "_law_there", "_law_lot"] ["_law_web_here", "_law_row", "_law_lots_here", "_law_here", "_law_there"] (defScope s_law_least) := ⟨rfl, rfl, rfl, by decide +kernel, rfl, by decide +kernel, by decide +kernel⟩
def sp_law_least : Sp := fun vs H Q _ => ∃ (W : Wb) (u : V) (pa L : Addr) (ps : List Int) (ts : List Addr) (h t : Nat), vs = [u, .ref pa, .ref L, .int h, .int t] ∧ WebAt H u W ∧ WebOk W ∧ H pa = some (.tup (zs ps)) ∧ ps.length = W.n ∧ H L = some (.lst (ts.map V.ref)) ∧ LtsAt H W.n ts ∧ ts.length ≤ 256 ∧ h < W.n ∧ t < W.n ∧ h ≠ t ∧
  ∀ (x : Int) (H' : Hp), Ex H H' → IsLeast W (fun v => ps.getD v 0) h t x → Q (.int x) H'
theorem ok_law_least (F : Fun K "_law_least" "_law_least" s_law_least f fd) (T : Txt mg) (c_law_slack : Cal P w K mg base 1 "_law_slack" sp_law_slack) : FnOk P w K mg base CX0 2 f fd ["_law_web_here", "_law_row", "_law_lots_here", "_law_here", "_law_there"] sp_law_least := by
  have sc := sc_law_least
  refine F.ok sc (fun vs H Q E h => ?_) (fun cdv A outer s H vs Q E hr h => ?_)
  · obtain ⟨W, u, pa, L, ps, ts, h, t, rfl, _⟩ := h
    rfl
  · obtain ⟨W, u, pa, L, ps, ts, h, t, rfl, hw, ok, hpa, hpl, hL, hlts, htl, hh, ht, hne, q⟩ := h
    refine ⟨_, (pss_one (ps_ret (pe_callB (kr_min (K := K) rfl rfl) (by rfl) T.min (by decide +kernel) (pa_cons (pe_lc (own := [("_law_lot", 5)]) rfl sc.nd (kpi_list (K := K) rfl (pv 2)) (blkOk_by (N := ["_law_web_here", "_law_row", "_law_lots_here", "_law_here", "_law_there", "_law_lot"]) (sc := defScope s_law_least) (by decide +kernel)) (fun _ _ _ _ _ => (pg_name (i := 5) sc.nd rfl (by first | exact Or.inl rfl | exact Or.inr rfl))) (fun _ _ _ _ _ => (pts_one (PW.pt (pw_and (pt_cmpR ((kop_in (K := K) rfl)) (pv 3) (pv 5) (by rfl)) (pw_and1 (pt_cmpR ((kop_notIn (K := K) rfl)) (pv 4) (pv 5) (by rfl))))))) (fun _ _ _ _ _ => (pe_c c_law_slack hr (by decide) (by rfl) (pa_cons (pv 0) (pa_cons (pv 1) (pa_cons (pv 5) pa_nil)))))) pa_nil)))), ?_⟩
    walk_at "s"
    refine ⟨L, rfl, ⟨_, .of hL⟩, fun D hD => ?_⟩
    refine lc_it (walk_list (xs := ts.map V.ref)) (fun i H' => Ex H H' ∧ ∃ xs : List Int, H' D = some (.lst (zs xs)) ∧ xs.length ≤ i ∧ (∀ x ∈ xs, ∃ l, LotOk W.n l ∧ h ∈ l ∧ t ∉ l ∧ x = slack W (fun v => ps.getD v 0) (memB l)) ∧ (∀ (j : Nat) (a : Addr) (l : List Nat), j < i → ts[j]? = some a → H a = some (.tup (zs (hs l))) → h ∈ l → t ∉ l → slack W (fun v => ps.getD v 0) (memB l) ∈ xs))
      ⟨.new hD, [], upd_same, Nat.le_refl _, fun x hx => absurd hx List.not_mem_nil, fun j _ _ hj => absurd hj (Nat.not_lt_zero j)⟩ (fun i H' _ h => .of (h.1.keep _ _ hL List.not_mem_nil)) (fun i x H1 H2 hi hx hy => ?_) (fun H1 hx => ?_)
    · obtain ⟨k1, xs, hD1, hxl, hA, hB⟩ := hx
      obtain ⟨rfl, ex⟩ := hy
      rw [List.length_map] at hi
      have ea : ts[i]? = some ts[i] := List.getElem?_eq_getElem hi
      rw [List.getElem?_map, ea] at ex
      cases ex
      obtain ⟨l, hl, hlo⟩ := hlts.1 _ (List.getElem_mem hi)
      generalize ts[i] = a at *
      have hl1 := k1.tup _ _ hl
      have skip : ¬ (h ∈ l ∧ t ∉ l) → (Ex H H2 ∧ ∃ xs : List Int, H2 D = some (.lst (zs xs)) ∧ xs.length ≤ i + 1 ∧ (∀ x ∈ xs, ∃ l, LotOk W.n l ∧ h ∈ l ∧ t ∉ l ∧ x = slack W (fun v => ps.getD v 0) (memB l)) ∧ (∀ (j : Nat) (a : Addr) (l : List Nat), j < i + 1 → ts[j]? = some a → H a = some (.tup (zs (hs l))) → h ∈ l → t ∉ l → slack W (fun v => ps.getD v 0) (memB l) ∈ xs)) := fun hno => by
        refine ⟨k1, xs, hD1, by omega, hA, fun j a' l' hj e hl' m1 m2 => ?_⟩
        rcases Nat.lt_succ_iff_lt_or_eq.mp hj with z | z
        · exact hB j a' l' z e hl' m1 m2
        · subst z
          rw [ea] at e
          cases e
          have := hs_inj (zs_inj hl' hl)
          subst this
          exact absurd ⟨m1, m2⟩ hno
      walk_at "s"
      refine ⟨rfl, ?_⟩
      walk_at "s"
      refine g_inT hl1 ?_
      walk_at "s"
      refine ite2 (fun e => ?_) (fun e => ?_)
      · walk_at "s"
        refine g_ninT hl1 ?_
        walk_at "s"
        by_cases e2 : t ∈ l
        · rw [decide_eq_true e2]
          refine iteF ?_
          exact skip fun z => z.2 e2
        · rw [decide_eq_false e2]
          refine iteT ?_
          walk_at "s"
          refine ⟨W, u, pa, a, ps, l, rfl, hw.kp k1, ok, .inr (k1.tup _ _ hpa), hpl, hl1, hlo, fun H3 k3 => ?_⟩
          have hD3 := k3.keep _ _ hD1 List.not_mem_nil
          refine ⟨_, hD3, small1000 (by rw [zs_len]; omega), (k1.trans k3).mutL hD hD3, xs ++ [slack W (fun v => ps.getD v 0) (memB l)], by rw [upd_same, zs, zs, List.map_append]; rfl, by rw [List.length_append]; show xs.length + 1 ≤ _; omega, fun x hx => ?_, fun j a' l' hj e' hl' m1 m2 => ?_⟩
          · rcases List.mem_append.mp hx with z | z
            · exact hA x z
            · exact ⟨l, hlo, of_decide_eq_true e, e2, List.mem_singleton.mp z⟩
          · rcases Nat.lt_succ_iff_lt_or_eq.mp hj with z | z
            · exact List.mem_append_left _ (hB j a' l' z e' hl' m1 m2)
            · subst z
              rw [ea] at e'
              cases e'
              have := hs_inj (zs_inj hl' hl)
              subst this
              exact List.mem_append_right _ List.mem_cons_self
      · refine iteF ?_
        exact skip fun z => e (decide_eq_true z.1)
    · obtain ⟨k1, xs, hD1, hxl, hA, hB⟩ := hx
      rw [List.length_map] at hB
      have full : ∀ l, LotOk W.n l → h ∈ l → t ∉ l → slack W (fun v => ps.getD v 0) (memB l) ∈ xs := fun l hl m1 m2 => by
        obtain ⟨a, ha, e⟩ := hlts.2 l hl
        obtain ⟨j, ej⟩ := List.mem_iff_getElem?.mp ha
        exact hB j a l (List.getElem?_eq_some_iff.mp ej).1 ej e m1 m2
      walk_at "s"
      refine ⟨D, xs, rfl, .of hD1, ?_, fun m hm hmin => ?_⟩
      · have := full [h] ⟨List.pairwise_singleton _ _, by simpa using hh⟩ List.mem_cons_self (fun z => hne (List.mem_singleton.mp z).symm)
        cases xs with
        | nil => exact absurd this List.not_mem_nil
        | cons x r => exact Nat.succ_pos _
      · obtain ⟨l, hlo, m1, m2, e⟩ := hA m hm
        refine q m H1 k1 ⟨⟨memB l, memB_iff.mpr m1, memB_not.mpr m2, e.symm⟩, fun X x1 x2 => ?_⟩
        have := hmin _ (full (lotS W.n X) ⟨lotS_pw, fun x hx => (mem_lotS.mp hx).1⟩ (mem_lotS.mpr ⟨hh, x1⟩) (fun z => by rw [(mem_lotS.mp z).2] at x2; cases x2))
        rw [slack_congr ok (X := memB (lotS W.n X)) (Y := X) fun v hv => lotS_eq hv] at this
        exact this
end
end K8
set_option Elab.async false
set_option linter.all false
set_option maxRecDepth 100000
set_option maxHeartbeats 4000000
namespace K8
open PySem PySem.Spec PyProof.Rows L2
local macro_rules | `(tactic| walk_at "s") => `(tactic| repeat (first
  | with_reducible refine g_seq ?_ | with_reducible refine g_ret ?_ | with_reducible refine g_asg ?_ | with_reducible refine g_name ?_ | with_reducible refine g_c ?_ | with_reducible refine g_op ?_ | with_reducible refine g_cons ?_ | with_reducible refine g_nil ?_
  | (with_reducible show tVar _ _ _ _; refine g_var rfl ?_) | with_reducible refine g_cb ?_ | with_reducible refine g_call ?_ | with_reducible refine g_if ?_ | with_reducible refine g_test ?_ | with_reducible refine g_tB ?_ | with_reducible refine g_i0 ?_ | with_reducible refine g_bl ?_
  | with_reducible refine g_add ?_ | with_reducible refine g_sub ?_ | with_reducible refine g_eqI ?_ | with_reducible refine g_neI ?_ | with_reducible refine g_drop ?_ | with_reducible refine g_next ?_ | with_reducible refine g_break ?_ | with_reducible refine g_un ?_ | with_reducible refine g_u ?_
  | with_reducible refine g_ifE ?_ | with_reducible refine g_and ?_ | with_reducible refine g_or ?_ | with_reducible refine g_not ?_ | with_reducible refine g_andV ?_ | with_reducible refine g_orV ?_ | with_reducible refine g_notV ?_ | with_reducible refine g_isN ?_ | with_reducible refine g_notN ?_
  | with_reducible refine g_gnil ?_ | with_reducible refine g_gcons ?_ | with_reducible refine g_bm ?_ | with_reducible refine g_abs ?_ | with_reducible refine g_max ?_ | with_reducible refine g_min ?_ | with_reducible refine g_int ?_ | with_reducible refine g_lc ?_ | with_reducible refine g_for ?_ | with_reducible refine g_yes ?_ | with_reducible refine g_rng1 ?_ | with_reducible refine g_rng2 ?_ | with_reducible refine g_il ?_ | with_reducible refine g_it ?_ | with_reducible refine g_en ?_ | with_reducible refine g_zp ?_ | with_reducible refine g_mkT ?_ | with_reducible refine g_mkL ?_ | with_reducible refine g_augS ?_ | (with_reducible show tAug _ _ _ _ _ _; refine g_aug rfl ?_) | with_reducible refine g_ipI ?_ | with_reducible refine g_gsub ?_ | with_reducible refine g_dget ?_ | with_reducible refine g_din ?_ | with_reducible refine g_dnotin ?_ | with_reducible refine g_dput ?_ | with_reducible refine g_dc ?_ | with_reducible refine g_sl ?_ | with_reducible refine g_nopart ?_ | with_reducible refine g_part ?_ | with_reducible refine g_exI ?_ | with_reducible refine g_revL ?_ | (with_reducible show iSq _ _ _ _; refine g_sq rfl ?_) | with_reducible refine g_while ?_ | with_reducible refine g_min3 ?_ | with_reducible refine g_trq ?_ | with_reducible refine g_lock ?_ | with_reducible refine g_mko ?_ | with_reducible refine g_keys ?_ | with_reducible refine g_eqS ?_ | with_reducible refine g_lrg ?_ | with_reducible refine g_trg ?_ | with_reducible refine g_rg1 ?_ | with_reducible refine g_cut ?_ | with_reducible refine g_disp ?_ | with_reducible refine g_dnew ?_ | with_reducible refine iteT ?_ | with_reducible refine iteF ?_))
def MOk (W : Wb) (p : Nat → Int) (m : Nat → Nat → Int) : Prop := ∀ i j, i < W.n → j < W.n → (i = j → m i j = 0) ∧ (i ≠ j → IsLeast W p i j (m i j))
def MostsAt (S : List Addr) (H : Hp) (L : Addr) (n : Nat) (m : Nat → Nat → Int) : Prop := ∃ ts : List Addr, L ∉ S ∧ (∀ t ∈ ts, t ∉ S) ∧ H L = some (.lst (ts.map V.ref)) ∧ ts.length = n ∧ ∀ (i : Nat) (t : Addr), ts[i]? = some t → H t = some (.lst (zs ((List.range n).map (m i))))
theorem MostsAt.kp {S : List Addr} {H H' : Hp} {L : Addr} {n : Nat} {m : Nat → Nat → Int} (h : MostsAt S H L n m) (k : Kp S H H') : MostsAt S H' L n m := by
  obtain ⟨ts, h1, h2, h3, h4, h5⟩ := h
  exact ⟨ts, h1, h2, k.keep _ _ h3 h1, h4, fun i t e => k.keep _ _ (h5 i t e) (h2 t (List.mem_of_getElem? e))⟩
/-- mosts[i][j] -/
theorem MostsAt.get {S : List Addr} {H : Hp} {L : Addr} {n : Nat} {m : Nat → Nat → Int} (h : MostsAt S H L n m) {i : Nat} (hi : i < n) : ∃ (xs : List V) (t : Addr), H L = some (.lst xs) ∧ xs[i]? = some (.ref t) ∧ H t = some (.lst (zs ((List.range n).map (m i)))) := by
  obtain ⟨ts, h1, h2, h3, h4, h5⟩ := h
  have e : ts[i]? = some (ts[i]'(by omega)) := List.getElem?_eq_getElem (by omega)
  exact ⟨_, _, h3, by rw [List.getElem?_map, e]; rfl, h5 i _ e⟩
theorem mget {n : Nat} {m : Nat → Nat → Int} {i j : Nat} (hj : j < n) : (zs ((List.range n).map (m i)))[j]? = some (.int (m i j)) := zs_get (by rw [List.getElem?_map, List.getElem?_range hj]; rfl)
def RowM (W : Wb) (p : Nat → Int) (i k : Nat) (row : List Int) : Prop := row.length = W.n ∧ ∀ x, x < W.n → (x < k → x ≠ i → IsLeast W p i x (row.getD x 0)) ∧ (x = i → row.getD x 0 = 0)
theorem RowM.set {W : Wb} {p : Nat → Int} {i k : Nat} {row : List Int} (h : RowM W p i k row) (hk : k < W.n) (hne : k ≠ i) {y : Int} (hy : IsLeast W p i k y) : RowM W p i (k + 1) (row.set k y) := by
  refine ⟨by rw [List.length_set]; exact h.1, fun x hx => ⟨fun hxk hxi => ?_, fun hxi => ?_⟩⟩
  · rw [List.getD_eq_getElem?_getD, List.getElem?_set]
    by_cases z : k = x
    · subst z
      rw [if_pos rfl, if_pos (by rw [h.1]; exact hk)]
      exact hy
    · rw [if_neg z, ← List.getD_eq_getElem?_getD]
      exact (h.2 x hx).1 (by omega) hxi
  · subst hxi
    rw [List.getD_eq_getElem?_getD, List.getElem?_set, if_neg hne, ← List.getD_eq_getElem?_getD]
    exact (h.2 x hx).2 rfl
section
variable {P : Program} {w : World} {K : PySem.W.Frag} {mg : Str → Option Value} {base : Heap} {f : Addr} {fd : FuncData} {k : Nat}
theorem sc_law_mosts : FnScope ["_law_web_here", "_law_row", "_law_table", "_law_lots_here", "_law_far_here", "_law_mosts_here", "_law_here", "_law_due", "_law_there"] ["_law_web_here", "_law_row", "_law_table", "_law_lots_here", "_law_far_here"] (defScope s_law_mosts) := ⟨rfl, rfl, rfl, by decide +kernel, rfl, by decide +kernel, by decide +kernel⟩
def sp_law_mosts : Sp := fun vs H Q _ => ∃ (W : Wb) (u : V) (pa d L : Addr) (ps : List Int) (far : Bool), vs = [u, .ref pa, .ref d, .ref L, .bl far] ∧ WebAt H u W ∧ WebOk W ∧ H pa = some (.tup (zs ps)) ∧ StandR W ps ∧
  (far = true → ∃ ts : List Addr, H L = some (.lst (ts.map V.ref)) ∧ LtsAt H W.n ts ∧ ts.length ≤ 256) ∧ (far = false → TblAt H d W ∧ prodR W.ls ≤ 150) ∧
  ∀ (M : Addr) (m : Nat → Nat → Int) (H' : Hp), Ex H H' → (∀ S : List Addr, (∀ s ∈ S, ∃ o, H s = some o) → MostsAt S H' M W.n m) → MOk W (fun v => ps.getD v 0) m → Q (.ref M) H'
theorem ok_law_mosts (F : Fun K "_law_mosts" "_law_mosts" s_law_mosts f fd) (T : Txt mg) (c_law_least : Cal P w K mg base 2 "_law_least" sp_law_least) (c_law_many : Cal P w K mg base 1 "_law_many" sp_law_many) : FnOk P w K mg base CX0 3 f fd ["_law_web_here", "_law_row", "_law_table", "_law_lots_here", "_law_far_here"] sp_law_mosts := by
  have sc := sc_law_mosts
  refine F.ok sc (fun vs H Q E h => ?_) (fun cdv A outer s H vs Q E hr h => ?_)
  · obtain ⟨W, u, pa, d, L, ps, far, rfl, _⟩ := h
    rfl
  · obtain ⟨W, u, pa, d, L, ps, far, rfl, hw, ok, hpa, hst, hfar, hnear, q⟩ := h
    have hw0 := hw
    obtain ⟨a, c, ls, rfl, ha, hc, hl⟩ := hw0
    have hn8 := ok.2.1
    refine ⟨_, (pss_cons (ps_set (i := 5) sc.nd rfl (by first | exact Or.inl rfl | exact Or.inr rfl) (pe_lst pa_nil))
      (pss_cons (ps_for PassesOwn.never rfl (pi_range1 (by rfl) T.range (pa_cons (pe_ix (kx_tup (K := K) rfl) (pv 0) pe_int (fun _ _ => rfl)) pa_nil)) (pg_name (i := 6) sc.nd rfl (by first | exact Or.inl rfl | exact Or.inr rfl))
        (pss_cons (ps_set (i := 7) sc.nd rfl (by first | exact Or.inl rfl | exact Or.inr rfl) (pe_op op_rep (pe_lst (pa_cons pe_int pa_nil)) (pe_ix (kx_tup (K := K) rfl) (pv 0) pe_int (fun _ _ => rfl))))
        (pss_cons (ps_for PassesOwn.never rfl (pi_range1 (by rfl) T.range (pa_cons (pe_ix (kx_tup (K := K) rfl) (pv 0) pe_int (fun _ _ => rfl)) pa_nil)) (pg_name (i := 8) sc.nd rfl (by first | exact Or.inl rfl | exact Or.inr rfl))
          (pss_one (ps_if (PW.pt (pw_and (pt_cmpR op_ne (pv 8) (pv 6) (nomark _)) (pw_and1 (pt_val (pv 4)))))
            (pss_one (ps_asg (pe_c c_law_least hr (by decide) (by rfl) (pa_cons (pv 0) (pa_cons (pv 1) (pa_cons (pv 3) (pa_cons (pv 6) (pa_cons (pv 8) pa_nil)))))) (pg_sub (pv 7) (pv 8) set_list)))
            (pss_one (ps_if (pt_cmpR op_ne (pv 8) (pv 6) (nomark _))
              (pss_one (ps_asg (pe_c c_law_many hr (by decide) (by rfl) (pa_cons (pv 2) (pa_cons (pv 1) (pa_cons (pv 6) (pa_cons (pv 8) pa_nil))))) (pg_sub (pv 7) (pv 8) set_list)))
              pss_nil)))))
        (pss_one (ps_expr (pe_bm PySem.F.plainAttrs_list PySem.F.slot_list_append PySem.F.type_list_append mt_append (pv 5) (pa_cons (pv 7) pa_nil)))))))
      (pss_one (ps_ret (pv 5))))), ?_⟩
    walk_at "s"
    refine ⟨sz, fun M hM => ?_⟩
    walk_at "s"
    have kM : Ex H (upd H M (.lst [])) := .new hM
    refine g_ixT (j := 0) (kM.tup _ _ ha) rfl ?_
    walk_at "s"
    refine ⟨_, rfl, by omega, by omega, ?_⟩
    refine for_range (n := W.n) (fun i σ H' => ∃ (ts : List Addr) (rows : List (List Int)) (y6 y7 y8 : Option V), σ = [some (.ref a), some (.ref pa), some (.ref d), some (.ref L), some (.bl far), some (.ref M), y6, y7, y8] ∧ Ex H H' ∧ H' M = some (.lst (ts.map V.ref)) ∧ ts.length = i ∧ rows.length = i ∧ (∀ t ∈ ts, H t = none ∧ t ≠ M) ∧
      (∀ (j : Nat) (t : Addr) (row : List Int), ts[j]? = some t → rows[j]? = some row → H' t = some (.lst (zs row)) ∧ RowM W (fun v => ps.getD v 0) j W.n row))
      ⟨[], [], _, _, _, rfl, kM, upd_same, rfl, rfl, fun t ht => absurd ht List.not_mem_nil, fun j t row e => by simp at e⟩ (fun i σ H1 hi hx => ?_) (fun σ H1 hx => ?_)
    · obtain ⟨ts, rows, y6, y7, y8, rfl, k1, hM1, htl, hrl, hfr, hrows⟩ := hx
      rw [show ((0 : Int) + (i : Int)) = (i : Int) from Int.zero_add _]
      walk_at "s"
      refine ⟨sz, fun z hz => ?_⟩
      walk_at "s"
      have kz : Ex H1 (upd H1 z (.lst [.int 0])) := .new hz
      refine g_ixT (j := 0) ((k1.trans kz).tup _ _ ha) rfl ?_
      walk_at "s"
      refine g_rep upd_same (by omega) fun Dd hDd => ?_
      walk_at "s"
      have kd : Ex H1 (upd (upd H1 z (.lst [.int 0])) Dd (.lst (zs (List.replicate W.n 0)))) := kz.nnew hDd
      have hDd1 := kz.free hDd
      have hDdH := k1.free hDd1
      have hDM : Dd ≠ M := fun z => by rw [z, hM1] at hDd1; cases hDd1
      refine g_ixT (j := 0) ((k1.trans kd).tup _ _ ha) rfl ?_
      walk_at "s"
      refine ⟨_, rfl, by omega, by omega, ?_⟩
      refine for_range (n := W.n) (fun j σ H' => ∃ (row : List Int) (y8 : Option V), σ = [some (.ref a), some (.ref pa), some (.ref d), some (.ref L), some (.bl far), some (.ref M), some (.int (i : Int)), some (.ref Dd), y8] ∧ Ex H1 H' ∧ H' Dd = some (.lst (zs row)) ∧ RowM W (fun v => ps.getD v 0) i j row)
        ⟨List.replicate W.n 0, _, rfl, kd, upd_same, List.length_replicate, fun x hx => ⟨fun h => absurd h (Nat.not_lt_zero x), fun _ => by rw [List.getD_eq_getElem?_getD, List.getElem?_replicate, if_pos hx]; rfl⟩⟩ (fun j σ H2 hj hx => ?_) (fun σ H2 hx => ?_)
      · obtain ⟨row, y8, rfl, k2, hD2, hrow⟩ := hx
        rw [show ((0 : Int) + (j : Int)) = (j : Int) from Int.zero_add _]
        have k12 := k1.trans k2
        walk_at "s"
        by_cases hji : j = i
        · subst hji
          rw [decide_eq_true rfl]
          refine iteF ?_
          walk_at "s"
          rw [decide_eq_true rfl]
          refine iteF ?_
          walk_at "s"
          exact ⟨row, _, rfl, k2, hD2, hrow.1, fun x hx => ⟨fun h1 h2 => (hrow.2 x hx).1 (by omega) h2, (hrow.2 x hx).2⟩⟩
        · rw [decide_eq_false (by omega)]
          refine iteT ?_
          walk_at "s"
          cases far with
          | true =>
            refine iteT ?_
            walk_at "s"
            obtain ⟨lts, hL, hlts, hll⟩ := hfar rfl
            refine ⟨W, _, pa, L, ps, lts, i, j, rfl, hw.kp k12, ok, k12.tup _ _ hpa, hst.1, k12.keep _ _ hL List.not_mem_nil, hlts.kp k12, hll, hi, hj, fun z => hji z.symm, fun x H3 k3 hx => ?_⟩
            have hD3 := k3.keep _ _ hD2 List.not_mem_nil
            walk_at "s"
            refine g_setL hD3 (by rw [zs_len, hrow.1]; exact hj) ?_
            walk_at "s"
            rw [← List.map_set]
            exact ⟨_, _, rfl, (k2.trans k3).mutL hDd1 hD3, upd_same, hrow.set hj hji hx⟩
          | false =>
            refine iteF ?_
            walk_at "s"
            rw [decide_eq_false (by omega)]
            refine iteT ?_
            walk_at "s"
            obtain ⟨htbl, hpr⟩ := hnear rfl
            refine ⟨W, d, pa, ps, i, j, rfl, ok, hpr, htbl.kp k12 List.not_mem_nil, k12.tup _ _ hpa, hst, hi, hj, fun z => hji z.symm, fun x H3 k3 hx => ?_⟩
            have hD3 := k3.keep _ _ hD2 List.not_mem_nil
            walk_at "s"
            refine g_setL hD3 (by rw [zs_len, hrow.1]; exact hj) ?_
            walk_at "s"
            rw [← List.map_set]
            exact ⟨_, _, rfl, (k2.trans k3).mutL hDd1 hD3, upd_same, hrow.set hj hji hx⟩
      · obtain ⟨row, y8, rfl, k2, hD2, hrow⟩ := hx
        have hM2 := k2.keep _ _ hM1 List.not_mem_nil
        walk_at "s"
        refine g_ty hM2 ?_
        walk_at "s"
        refine g_app hM2 (by rw [List.length_map]; omega) ?_
        walk_at "s"
        refine ⟨ts ++ [Dd], rows ++ [row], _, _, _, rfl, (k1.trans k2).mutL hM hM2, by rw [upd_same, List.map_append]; rfl, by rw [List.length_append, htl]; rfl, by rw [List.length_append, hrl]; rfl, fun t ht => ?_, fun j t r e1 e2 => ?_⟩
        · rcases List.mem_append.mp ht with z | z
          · exact hfr t z
          · rw [List.mem_singleton.mp z]
            exact ⟨hDdH, hDM⟩
        · by_cases hj : j < i
          · rw [List.getElem?_append_left (by omega)] at e1 e2
            obtain ⟨g1, g2⟩ := hrows j t r e1 e2
            exact ⟨by rw [upd_ne (hfr t (List.mem_of_getElem? e1)).2]; exact k2.keep _ _ g1 List.not_mem_nil, g2⟩
          · rw [List.getElem?_append_right (by omega)] at e1 e2
            have e0 : j = i := by
              have h1 := (List.getElem?_eq_some_iff.mp e1).1
              simp at h1
              omega
            subst e0
            rw [htl, Nat.sub_self] at e1
            rw [hrl, Nat.sub_self] at e2
            simp at e1 e2
            subst e1 e2
            exact ⟨by rw [upd_ne hDM]; exact hD2, hrow⟩
    · obtain ⟨ts, rows, y6, y7, y8, rfl, k1, hM1, htl, hrl, hfr, hrows⟩ := hx
      walk_at "s"
      have hrow : ∀ i t, ts[i]? = some t → ∃ row, rows[i]? = some row ∧ H1 t = some (.lst (zs row)) ∧ RowM W (fun v => ps.getD v 0) i W.n row := fun i t e => by
        have hi := (List.getElem?_eq_some_iff.mp e).1
        have e2 : rows[i]? = some (rows[i]'(by omega)) := List.getElem?_eq_getElem (by omega)
        obtain ⟨g1, g2⟩ := hrows i t _ e e2
        exact ⟨_, e2, g1, g2⟩
      refine q M (fun i j => (rows.getD i []).getD j 0) H1 k1 (fun S hS => ⟨ts, fun z => ?_, fun t ht z => ?_, hM1, htl, fun i t e => ?_⟩) fun i j hi hj => ?_
      · obtain ⟨o, e⟩ := hS M z
        rw [hM] at e
        cases e
      · obtain ⟨o, e⟩ := hS t z
        rw [(hfr t ht).1] at e
        cases e
      · obtain ⟨row, e2, g1, g2⟩ := hrow i t e
        have : (List.range W.n).map (fun j => (rows.getD i []).getD j 0) = row := by
          refine List.ext_getElem? fun v => ?_
          rw [List.getElem?_map]
          by_cases hv : v < W.n
          · rw [List.getElem?_range hv, List.getElem?_eq_getElem (show v < row.length by rw [g2.1]; exact hv)]
            show some ((rows.getD i []).getD v 0) = _
            have er : rows.getD i [] = row := by rw [List.getD_eq_getElem?_getD, e2]; rfl
            rw [er]
            rw [List.getD_eq_getElem?_getD, List.getElem?_eq_getElem (show v < row.length by rw [g2.1]; exact hv)]
            rfl
          · rw [List.getElem?_eq_none (by rw [List.length_range]; omega), List.getElem?_eq_none (by rw [g2.1]; omega)]
            rfl
        rw [this]
        exact g1
      · obtain ⟨row, e2, g1, g2⟩ := hrow i _ (List.getElem?_eq_getElem (show i < ts.length by omega))
        have e3 : (rows.getD i []).getD j 0 = row.getD j 0 := by
          have er : rows.getD i [] = row := by rw [List.getD_eq_getElem?_getD, e2]; rfl
          rw [er]
        show (_ → (rows.getD i []).getD j 0 = 0) ∧ (_ → IsLeast W _ i j ((rows.getD i []).getD j 0))
        rw [e3]
        exact ⟨fun z => (g2.2 j hj).2 z.symm, fun z => (g2.2 j hj).1 hj (Ne.symm z)⟩
theorem sc_law_shut : FnScope ["_law_web_here", "_law_left", "_law_lots_here", "_law_rest", "_law_shut_here", "_law_lot", "_law_one"] ["_law_web_here", "_law_left", "_law_lots_here", "_law_rest"] (defScope s_law_shut) := ⟨rfl, rfl, rfl, by decide +kernel, rfl, by decide +kernel, by decide +kernel⟩
def ShutAt (H : Hp) (W : Wb) (left : List Int) (rest : List Nat) (ts : List Addr) : Prop := (∀ t ∈ ts, ∃ l, H t = some (.tup (zs (hs l))) ∧ LotOk W.n l ∧ (∀ x ∈ l, x ∈ rest) ∧ slack W (fun v => left.getD v 0) (memB l) = 0) ∧
  ∀ l, LotOk W.n l → (∀ x ∈ l, x ∈ rest) → slack W (fun v => left.getD v 0) (memB l) = 0 → ∃ t ∈ ts, H t = some (.tup (zs (hs l)))
theorem ShutAt.kp {S : List Addr} {H H' : Hp} {W : Wb} {left : List Int} {rest : List Nat} {ts : List Addr} (h : ShutAt H W left rest ts) (k : Kp S H H') : ShutAt H' W left rest ts :=
  ⟨fun t ht => let ⟨l, e, g⟩ := h.1 t ht; ⟨l, k.tup _ _ e, g⟩, fun l h1 h2 h3 => let ⟨t, ht, e⟩ := h.2 l h1 h2 h3; ⟨t, ht, k.tup _ _ e⟩⟩
def sp_law_shut : Sp := fun vs H Q _ => ∃ (W : Wb) (u : V) (la L ra : Addr) (left : List Int) (rest : List Nat) (ts : List Addr), vs = [u, .ref la, .ref L, .ref ra] ∧ WebAt H u W ∧ WebOk W ∧ H la = some (.lst (zs left)) ∧ left.length = W.n ∧ H L = some (.lst (ts.map V.ref)) ∧ LtsAt H W.n ts ∧ ts.length ≤ 256 ∧ H ra = some (.lst (zs (hs rest))) ∧
  ∀ (D : Addr) (t2 : List Addr) (H' : Hp), Ex H H' → H' D = some (.lst (t2.map V.ref)) → ShutAt H' W left rest t2 → t2.length ≤ 256 → Q (.ref D) H'
theorem ok_law_shut (F : Fun K "_law_shut" "_law_shut" s_law_shut f fd) (T : Txt mg) (c_law_slack : Cal P w K mg base 1 "_law_slack" sp_law_slack) : FnOk P w K mg base CX0 2 f fd ["_law_web_here", "_law_left", "_law_lots_here", "_law_rest"] sp_law_shut := by
  have sc := sc_law_shut
  refine F.ok sc (fun vs H Q E h => ?_) (fun cdv A outer s H vs Q E hr h => ?_)
  · obtain ⟨W, u, la, L, ra, left, rest, ts, rfl, _⟩ := h
    rfl
  · obtain ⟨W, u, la, L, ra, left, rest, ts, rfl, hw, ok, hla, hll, hL, hlts, htl, hra, q⟩ := h
    refine ⟨_, (pss_cons (ps_set (i := 4) sc.nd rfl (by first | exact Or.inl rfl | exact Or.inr rfl) (pe_lst pa_nil))
      (pss_cons (ps_for PassesOwn.never rfl (kpi_list (K := K) rfl (pv 2)) (pg_name (i := 5) sc.nd rfl (by first | exact Or.inl rfl | exact Or.inr rfl))
        (pss_one (ps_if (PW.pt (pw_and (pt_cmpR op_eq (pe_callB (kq_len (K := K) rfl) (by rfl) T.len (by decide +kernel) (pa_cons (pe_lc (own := [("_law_one", 6)]) rfl sc.nd (kpi_tup (K := K) rfl (pv 5)) (blkOk_by (N := ["_law_web_here", "_law_left", "_law_lots_here", "_law_rest", "_law_shut_here", "_law_lot", "_law_one"]) (sc := defScope s_law_shut) (by decide +kernel)) (fun _ _ _ _ _ => (pg_name (i := 6) sc.nd rfl (by first | exact Or.inl rfl | exact Or.inr rfl))) (fun _ _ _ _ _ => (pts_one (pt_cmpR ((kop_in (K := K) rfl)) (pv 6) (pv 3) (by rfl)))) (fun _ _ _ _ _ => (pv 6))) pa_nil)) (pe_callB (kq_len (K := K) rfl) (by rfl) T.len (by decide +kernel) (pa_cons (pv 5) pa_nil)) (nomark _)) (pw_and1 (pt_cmpR op_eq (pe_c c_law_slack hr (by decide) (by rfl) (pa_cons (pv 0) (pa_cons (pv 1) (pa_cons (pv 5) pa_nil)))) pe_int (nomark _)))))
          (pss_one (ps_expr (pe_bm PySem.F.plainAttrs_list PySem.F.slot_list_append PySem.F.type_list_append mt_append (pv 4) (pa_cons (pv 5) pa_nil))))
          pss_nil)))
      (pss_one (ps_ret (pv 4))))), ?_⟩
    walk_at "s"
    refine ⟨sz, fun D hD => ?_⟩
    walk_at "s"
    have kD : Ex H (upd H D (.lst [])) := .new hD
    refine ⟨L, rfl, ⟨_, .of (kD.keep _ _ hL List.not_mem_nil)⟩, ?_⟩
    refine for_it (walk_list (xs := ts.map V.ref)) (fun i σ H' => ∃ (t2 : List Addr) (y5 y6 : Option V), σ = [some u, some (.ref la), some (.ref L), some (.ref ra), some (.ref D), y5, y6] ∧ Ex H H' ∧ H' D = some (.lst (t2.map V.ref)) ∧ t2.length ≤ i ∧ (∀ t ∈ t2, ∃ l, H t = some (.tup (zs (hs l))) ∧ LotOk W.n l ∧ (∀ x ∈ l, x ∈ rest) ∧ slack W (fun v => left.getD v 0) (memB l) = 0) ∧
      (∀ (j : Nat) (t : Addr) (l : List Nat), j < i → ts[j]? = some t → H t = some (.tup (zs (hs l))) → (∀ x ∈ l, x ∈ rest) → slack W (fun v => left.getD v 0) (memB l) = 0 → t ∈ t2))
      ⟨[], _, _, rfl, kD, upd_same, Nat.le_refl _, fun t ht => absurd ht List.not_mem_nil, fun j _ _ hj => absurd hj (Nat.not_lt_zero j)⟩ (fun i σ H' _ h => ?_) (fun i x σ H1 H2 hi hx hy => ?_) (fun σ H1 hx => ?_)
    · obtain ⟨_, _, _, _, k1, _⟩ := h
      exact .of (k1.keep _ _ hL List.not_mem_nil)
    · obtain ⟨t2, y5, y6, rfl, k1, hD1, ht2, hA, hB⟩ := hx
      obtain ⟨rfl, ex⟩ := hy
      rw [List.length_map] at hi
      have ea : ts[i]? = some ts[i] := List.getElem?_eq_getElem hi
      rw [List.getElem?_map, ea] at ex
      cases ex
      obtain ⟨l, hl, hlo⟩ := hlts.1 _ (List.getElem_mem hi)
      generalize ts[i] = t at *
      have hl8 : l.length ≤ 8 := by
        have := nodup_le W.n l (hlo.1.imp fun h => Nat.ne_of_lt h) hlo.2
        have := ok.2.1
        omega
      walk_at "s"
      refine ⟨t, rfl, ⟨_, .of (k1.tup _ _ hl)⟩, fun D2 hD2 => ?_⟩
      let inr : Nat → Bool := fun v => decide (v ∈ rest)
      refine lc_it (walk_tup (xs := zs (hs l))) (fun j H' => Ex H2 H' ∧ H' D2 = some (.lst (zs (hs ((l.take j).filter inr))))) ⟨.new hD2, upd_same⟩ (fun j H' _ h => .of ((k1.trans h.1).tup _ _ hl)) (fun j x H3 H4 hj hx hy => ?_) (fun H3 hx => ?_)
      · obtain ⟨k3, hD3⟩ := hx
        obtain ⟨rfl, ex⟩ := hy
        rw [zs_len, hs_len] at hj
        have ej : l[j]? = some l[j] := List.getElem?_eq_getElem hj
        cases hs_at ex ej
        walk_at "s"
        refine ⟨rfl, ?_⟩
        walk_at "s"
        refine g_inL ((k1.trans k3).keep _ _ hra List.not_mem_nil) ?_
        walk_at "s"
        refine ite2 (fun e => ?_) (fun e => ?_)
        · walk_at "s"
          refine ⟨_, hD3, small1000 ?_, k3.mutL hD2 hD3, ?_⟩
          · rw [zs_len, hs_len]
            have := List.length_filter_le inr (l.take j)
            rw [List.length_take] at this
            omega
          · rw [upd_same, filter_take' ej, if_pos (show inr l[j] = true from e)]
            simp [zs, hs]
        · refine ⟨k3, ?_⟩
          rw [filter_take' ej, if_neg (show ¬ inr l[j] = true from e), List.append_nil]
          exact hD3
      · obtain ⟨k3, hD3⟩ := hx
        rw [zs_len, hs_len, List.take_length] at hD3
        have k13 := k1.trans k3
        walk_at "s"
        refine g_lenL hD3 ?_
        walk_at "s"
        refine g_lenT (k13.tup _ _ hl) ?_
        walk_at "s"
        rw [zs_len, zs_len, hs_len, hs_len]
        have hiff : ((l.filter inr).length : Int) = l.length ↔ ∀ x ∈ l, x ∈ rest := by
          have := List.length_filter_eq_length_iff (p := inr) (l := l)
          constructor
          · intro e
            have h1 := this.mp (by omega)
            exact fun x hx => of_decide_eq_true (h1 x hx)
          · intro e
            have h1 := this.mpr fun x hx => decide_eq_true (e x hx)
            omega
        have hD5 := k3.keep _ _ hD1 List.not_mem_nil
        have skip : ∀ H5, Ex H2 H5 → ¬ ((∀ x ∈ l, x ∈ rest) ∧ slack W (fun v => left.getD v 0) (memB l) = 0) → ∃ (t2 : List Addr) (y5' y6' : Option V), [some u, some (V.ref la), some (.ref L), some (.ref ra), some (.ref D), some (.ref t), y6] = [some u, some (.ref la), some (.ref L), some (.ref ra), some (.ref D), y5', y6'] ∧ Ex H H5 ∧ H5 D = some (.lst (t2.map V.ref)) ∧ t2.length ≤ i + 1 ∧ (∀ t ∈ t2, ∃ l, H t = some (.tup (zs (hs l))) ∧ LotOk W.n l ∧ (∀ x ∈ l, x ∈ rest) ∧ slack W (fun v => left.getD v 0) (memB l) = 0) ∧
            (∀ (j : Nat) (t : Addr) (l : List Nat), j < i + 1 → ts[j]? = some t → H t = some (.tup (zs (hs l))) → (∀ x ∈ l, x ∈ rest) → slack W (fun v => left.getD v 0) (memB l) = 0 → t ∈ t2) := fun H5 k5 hno => by
          refine ⟨t2, _, _, rfl, k1.trans k5, k5.keep _ _ hD1 List.not_mem_nil, by omega, hA, fun j a' l' hj e hl' m1 m2 => ?_⟩
          rcases Nat.lt_succ_iff_lt_or_eq.mp hj with z | z
          · exact hB j a' l' z e hl' m1 m2
          · subst z
            rw [ea] at e
            cases e
            have := hs_inj (zs_inj hl' hl)
            subst this
            exact absurd ⟨m1, m2⟩ hno
        by_cases e1 : ∀ x ∈ l, x ∈ rest
        · rw [decide_eq_true (hiff.mpr e1)]
          refine iteT ?_
          walk_at "s"
          refine ⟨W, u, la, t, left, l, rfl, hw.kp k13, ok, .inl (k13.keep _ _ hla List.not_mem_nil), hll, k13.tup _ _ hl, hlo, fun H4 k4 => ?_⟩
          walk_at "s"
          have hD4 := k4.keep _ _ hD5 List.not_mem_nil
          refine ite2 (fun e => ?_) (fun e => ?_)
          · have e2 := of_decide_eq_true e
            walk_at "s"
            refine g_ty hD4 ?_
            walk_at "s"
            refine g_app hD4 (by rw [List.length_map]; omega) ?_
            walk_at "s"
            refine ⟨t2 ++ [t], _, _, rfl, (k13.trans k4).mutL hD hD4, by rw [upd_same, List.map_append]; rfl, by rw [List.length_append]; show t2.length + 1 ≤ _; omega, fun t' ht' => ?_, fun j a' l' hj e hl' m1 m2 => ?_⟩
            · rcases List.mem_append.mp ht' with z | z
              · exact hA t' z
              · rw [List.mem_singleton.mp z]
                exact ⟨l, hl, hlo, e1, e2⟩
            · rcases Nat.lt_succ_iff_lt_or_eq.mp hj with z | z
              · exact List.mem_append_left _ (hB j a' l' z e hl' m1 m2)
              · subst z
                rw [ea] at e
                cases e
                exact List.mem_append_right _ List.mem_cons_self
          · walk_at "s"
            exact skip H4 (k3.trans k4) fun z => e (decide_eq_true z.2)
        · rw [decide_eq_false fun z => e1 (hiff.mp z)]
          refine iteF ?_
          refine iteF ?_
          walk_at "s"
          exact skip H3 k3 fun z => e1 z.1
    · obtain ⟨t2, y5, y6, rfl, k1, hD1, ht2, hA, hB⟩ := hx
      rw [List.length_map] at hB ht2
      walk_at "s"
      refine q D t2 H1 k1 hD1 ⟨fun t ht => ?_, fun l h1 h2 h3 => ?_⟩ (by omega)
      · obtain ⟨l, e, g⟩ := hA t ht
        exact ⟨l, k1.tup _ _ e, g⟩
      · obtain ⟨t, ht, e⟩ := hlts.2 l h1
        obtain ⟨j, ej⟩ := List.mem_iff_getElem?.mp ht
        exact ⟨t, hB j t l (List.getElem?_eq_some_iff.mp ej).1 ej e h2 h3, k1.tup _ _ e⟩
end
end K8
set_option Elab.async false
set_option linter.all false
set_option maxRecDepth 100000
set_option maxHeartbeats 4000000
namespace K8
open PySem PySem.Spec PyProof.Rows L2
local macro_rules | `(tactic| walk_at "s") => `(tactic| repeat (first
  | with_reducible refine g_seq ?_ | with_reducible refine g_ret ?_ | with_reducible refine g_asg ?_ | with_reducible refine g_name ?_ | with_reducible refine g_c ?_ | with_reducible refine g_op ?_ | with_reducible refine g_cons ?_ | with_reducible refine g_nil ?_
  | (with_reducible show tVar _ _ _ _; refine g_var rfl ?_) | with_reducible refine g_cb ?_ | with_reducible refine g_call ?_ | with_reducible refine g_if ?_ | with_reducible refine g_test ?_ | with_reducible refine g_tB ?_ | with_reducible refine g_i0 ?_ | with_reducible refine g_bl ?_
  | with_reducible refine g_add ?_ | with_reducible refine g_sub ?_ | with_reducible refine g_eqI ?_ | with_reducible refine g_neI ?_ | with_reducible refine g_drop ?_ | with_reducible refine g_next ?_ | with_reducible refine g_break ?_ | with_reducible refine g_un ?_ | with_reducible refine g_u ?_
  | with_reducible refine g_ifE ?_ | with_reducible refine g_and ?_ | with_reducible refine g_or ?_ | with_reducible refine g_not ?_ | with_reducible refine g_andV ?_ | with_reducible refine g_orV ?_ | with_reducible refine g_notV ?_ | with_reducible refine g_isN ?_ | with_reducible refine g_notN ?_
  | with_reducible refine g_gnil ?_ | with_reducible refine g_gcons ?_ | with_reducible refine g_bm ?_ | with_reducible refine g_abs ?_ | with_reducible refine g_max ?_ | with_reducible refine g_min ?_ | with_reducible refine g_int ?_ | with_reducible refine g_lc ?_ | with_reducible refine g_for ?_ | with_reducible refine g_yes ?_ | with_reducible refine g_rng1 ?_ | with_reducible refine g_rng2 ?_ | with_reducible refine g_il ?_ | with_reducible refine g_it ?_ | with_reducible refine g_en ?_ | with_reducible refine g_zp ?_ | with_reducible refine g_mkT ?_ | with_reducible refine g_mkL ?_ | with_reducible refine g_augS ?_ | (with_reducible show tAug _ _ _ _ _ _; refine g_aug rfl ?_) | with_reducible refine g_ipI ?_ | with_reducible refine g_gsub ?_ | with_reducible refine g_dget ?_ | with_reducible refine g_din ?_ | with_reducible refine g_dnotin ?_ | with_reducible refine g_dput ?_ | with_reducible refine g_dc ?_ | with_reducible refine g_sl ?_ | with_reducible refine g_nopart ?_ | with_reducible refine g_part ?_ | with_reducible refine g_exI ?_ | with_reducible refine g_revL ?_ | (with_reducible show iSq _ _ _ _; refine g_sq rfl ?_) | with_reducible refine g_while ?_ | with_reducible refine g_min3 ?_ | with_reducible refine g_trq ?_ | with_reducible refine g_lock ?_ | with_reducible refine g_mko ?_ | with_reducible refine g_keys ?_ | with_reducible refine g_eqS ?_ | with_reducible refine g_lrg ?_ | with_reducible refine g_trg ?_ | with_reducible refine g_rg1 ?_ | with_reducible refine g_cut ?_ | with_reducible refine g_disp ?_ | with_reducible refine g_dnew ?_ | with_reducible refine iteT ?_ | with_reducible refine iteF ?_))
theorem sorted_len_eq {xs ys : List Nat} (hx : xs.Pairwise (· < ·)) (hy : ys.Pairwise (· < ·)) (h : ∀ x ∈ xs, x ∈ ys) (hl : ys.length ≤ xs.length) : xs = ys :=
  sorted_eq hx hy fun v => ⟨h v, sub_eq (hx.imp fun q => Nat.ne_of_lt q) h hl v⟩
section
variable {P : Program} {w : World} {K : PySem.W.Frag} {mg : Str → Option Value} {base : Heap} {f : Addr} {fd : FuncData} {k : Nat}
theorem sc_law_block : FnScope ["_law_web_here", "_law_left", "_law_lots_here", "_law_house", "_law_rest", "_law_side", "_law_shut_here", "_law_many_here", "_law_others", "_law_lot", "_law_one"] ["_law_web_here", "_law_left", "_law_lots_here", "_law_house", "_law_rest", "_law_side"] (defScope s_law_block) := ⟨rfl, rfl, rfl, by decide +kernel, rfl, by decide +kernel, by decide +kernel⟩
def sp_law_block : Sp := fun vs H Q _ => ∃ (W : Wb) (u : V) (la L ra : Addr) (left : List Int) (ts : List Addr) (rest D : List Nat) (h : Nat) (b : Bool) (near : List Int), vs = [u, .ref la, .ref L, .int h, .ref ra, .str (sd b)] ∧ WebAt H u W ∧ WebOk W ∧ H la = some (.lst (zs left)) ∧ left.length = W.n ∧ H L = some (.lst (ts.map V.ref)) ∧ LtsAt H W.n ts ∧ ts.length ≤ 256 ∧
  H ra = some (.lst (zs (hs rest))) ∧ rest.Nodup ∧ (∀ v, v ∈ rest ↔ v < W.n ∧ v ∉ D) ∧ h < W.n ∧ h ∉ D ∧ Split W.ls near ∧ LeftOk W near (restB W.n D) (fun v => left.getD v 0) ∧
  ∀ (q : Addr) (H' : Hp), Ex H H' → H' q = some (.tup (zs (hs (lotOf W (if b = true then near else turn W.ls near) D h)))) → Q (.ref q) H'
theorem ok_law_block (F : Fun K "_law_block" "_law_block" s_law_block f fd) (T : Txt mg) (c_law_shut : Cal P w K mg base 2 "_law_shut" sp_law_shut) : FnOk P w K mg base CX0 3 f fd ["_law_web_here", "_law_left", "_law_lots_here", "_law_house", "_law_rest", "_law_side"] sp_law_block := by
  have sc := sc_law_block
  refine F.ok sc (fun vs H Q E h => ?_) (fun cdv A outer s H vs Q E hr h => ?_)
  · obtain ⟨W, u, la, L, ra, left, ts, rest, D, h, b, near, rfl, _⟩ := h
    rfl
  · obtain ⟨W, u, la, L, ra, left, ts, rest, D, h, b, near, rfl, hw, ok, hla, hll, hL, hlts, htl, hra, hrnd, hrest, hhn, hhD, hsp, hleft, q⟩ := h
    have hn8 := ok.2.1
    refine ⟨_, (pss_cons (ps_set (i := 6) sc.nd rfl (by first | exact Or.inl rfl | exact Or.inr rfl) (pe_c c_law_shut hr (by decide) (by rfl) (pa_cons (pv 0) (pa_cons (pv 1) (pa_cons (pv 2) (pa_cons (pv 4) pa_nil))))))
      (pss_cons (ps_if (pt_cmpR op_eq (pv 5) pe_str (nomark _))
        (pss_cons (ps_set (i := 7) sc.nd rfl (by first | exact Or.inl rfl | exact Or.inr rfl) (pe_callB (kr_min (K := K) rfl rfl) (by rfl) T.min (by decide +kernel) (pa_cons (pe_lc (own := [("_law_lot", 9)]) rfl sc.nd (kpi_list (K := K) rfl (pv 6)) (blkOk_by (N := ["_law_web_here", "_law_left", "_law_lots_here", "_law_house", "_law_rest", "_law_side", "_law_shut_here", "_law_many_here", "_law_others", "_law_lot", "_law_one"]) (sc := defScope s_law_block) (by decide +kernel)) (fun _ _ _ _ _ => (pg_name (i := 9) sc.nd rfl (by first | exact Or.inl rfl | exact Or.inr rfl))) (fun _ _ _ _ _ => (pts_one (pt_cmpR ((kop_in (K := K) rfl)) (pv 3) (pv 9) (by rfl)))) (fun _ _ _ _ _ => (pe_callB (kq_len (K := K) rfl) (by rfl) T.len (by decide +kernel) (pa_cons (pv 9) pa_nil)))) pa_nil)))
        (pss_one (ps_ret (pe_ix (kx_list (K := K) rfl) (pe_lc (own := [("_law_lot", 9)]) rfl sc.nd (kpi_list (K := K) rfl (pv 6)) (blkOk_by (N := ["_law_web_here", "_law_left", "_law_lots_here", "_law_house", "_law_rest", "_law_side", "_law_shut_here", "_law_many_here", "_law_others", "_law_lot", "_law_one"]) (sc := defScope s_law_block) (by decide +kernel)) (fun _ _ _ _ _ => (pg_name (i := 9) sc.nd rfl (by first | exact Or.inl rfl | exact Or.inr rfl))) (fun _ _ _ _ _ => (pts_one (PW.pt (pw_and (pt_cmpR ((kop_in (K := K) rfl)) (pv 3) (pv 9) (by rfl)) (pw_and1 (pt_cmpR op_eq (pe_callB (kq_len (K := K) rfl) (by rfl) T.len (by decide +kernel) (pa_cons (pv 9) pa_nil)) (pv 7) (nomark _))))))) (fun _ _ _ _ _ => (pv 9))) pe_int (fun _ _ => rfl)))))
        pss_nil)
      (pss_cons (ps_set (i := 7) sc.nd rfl (by first | exact Or.inl rfl | exact Or.inr rfl) (pe_callB (kr_max (K := K) rfl rfl) (by rfl) T.max (by decide +kernel) (pa_cons (pe_lc (own := [("_law_lot", 9)]) rfl sc.nd (kpi_list (K := K) rfl (pv 6)) (blkOk_by (N := ["_law_web_here", "_law_left", "_law_lots_here", "_law_house", "_law_rest", "_law_side", "_law_shut_here", "_law_many_here", "_law_others", "_law_lot", "_law_one"]) (sc := defScope s_law_block) (by decide +kernel)) (fun _ _ _ _ _ => (pg_name (i := 9) sc.nd rfl (by first | exact Or.inl rfl | exact Or.inr rfl))) (fun _ _ _ _ _ => (pts_one (pt_cmpR ((kop_notIn (K := K) rfl)) (pv 3) (pv 9) (by rfl)))) (fun _ _ _ _ _ => (pe_callB (kq_len (K := K) rfl) (by rfl) T.len (by decide +kernel) (pa_cons (pv 9) pa_nil)))) pa_nil)))
      (pss_cons (ps_set (i := 8) sc.nd rfl (by first | exact Or.inl rfl | exact Or.inr rfl) (pe_ix (kx_list (K := K) rfl) (pe_lc (own := [("_law_lot", 9)]) rfl sc.nd (kpi_list (K := K) rfl (pv 6)) (blkOk_by (N := ["_law_web_here", "_law_left", "_law_lots_here", "_law_house", "_law_rest", "_law_side", "_law_shut_here", "_law_many_here", "_law_others", "_law_lot", "_law_one"]) (sc := defScope s_law_block) (by decide +kernel)) (fun _ _ _ _ _ => (pg_name (i := 9) sc.nd rfl (by first | exact Or.inl rfl | exact Or.inr rfl))) (fun _ _ _ _ _ => (pts_one (PW.pt (pw_and (pt_cmpR ((kop_notIn (K := K) rfl)) (pv 3) (pv 9) (by rfl)) (pw_and1 (pt_cmpR op_eq (pe_callB (kq_len (K := K) rfl) (by rfl) T.len (by decide +kernel) (pa_cons (pv 9) pa_nil)) (pv 7) (nomark _))))))) (fun _ _ _ _ _ => (pv 9))) pe_int (fun _ _ => rfl)))
      (pss_one (ps_ret (pe_callTy (kq_tup (K := K) rfl) (by rfl) T.tuple (by decide +kernel) (pa_cons (pe_lc (own := [("_law_one", 10)]) rfl sc.nd (kpi_list (K := K) rfl (pe_callB (kr_sorted (K := K) rfl) (by rfl) T.sorted (by decide +kernel) (pa_cons (pv 4) pa_nil))) (blkOk_by (N := ["_law_web_here", "_law_left", "_law_lots_here", "_law_house", "_law_rest", "_law_side", "_law_shut_here", "_law_many_here", "_law_others", "_law_lot", "_law_one"]) (sc := defScope s_law_block) (by decide +kernel)) (fun _ _ _ _ _ => (pg_name (i := 10) sc.nd rfl (by first | exact Or.inl rfl | exact Or.inr rfl))) (fun _ _ _ _ _ => (pts_one (pt_cmpR ((kop_notIn (K := K) rfl)) (pv 10) (pv 8) (by rfl)))) (fun _ _ _ _ _ => (pv 10))) pa_nil)))))))), ?_⟩
    walk_at "s"
    refine ⟨W, u, la, L, ra, left, rest, ts, rfl, hw, ok, hla, hll, hL, hlts, htl, hra, fun S t2 H1 k1 hS1 hsh ht2 => ?_⟩
    have hra1 := k1.keep _ _ hra List.not_mem_nil
    have hshut : ∀ l, LotOk W.n l → (∀ x ∈ l, x ∈ rest) → (slack W (fun v => left.getD v 0) (memB l) = 0 ↔ ShutL W near D l) := fun l h1 h2 => shut_iff ok hsp hleft fun x hx => (hrest x).mp (h2 x hx)
    have hA : ∀ t ∈ t2, ∃ l, H1 t = some (.tup (zs (hs l))) ∧ LotOk W.n l ∧ (∀ x ∈ l, x < W.n ∧ x ∉ D) ∧ ShutL W near D l := fun t ht => by
      obtain ⟨l, e, h1, h2, h3⟩ := hsh.1 t ht
      exact ⟨l, e, h1, fun x hx => (hrest x).mp (h2 x hx), (hshut l h1 h2).mp h3⟩
    have hB : ∀ l, LotOk W.n l → (∀ x ∈ l, x < W.n ∧ x ∉ D) → ShutL W near D l → ∃ t ∈ t2, H1 t = some (.tup (zs (hs l))) := fun l h1 h2 h3 =>
      hsh.2 l h1 (fun x hx => (hrest x).mpr (h2 x hx)) ((hshut l h1 fun x hx => (hrest x).mpr (h2 x hx)).mpr h3)
    have l8 : ∀ l, LotOk W.n l → l.length ≤ 8 := fun l h => by
      have := nodup_le W.n l (h.1.imp fun h => Nat.ne_of_lt h) h.2
      omega
    walk_at "s"
    rw [sd_out]
    cases b with
    | true =>
      refine iteT ?_
      walk_at "s"
      refine ⟨S, rfl, ⟨_, .of hS1⟩, fun D1 hD1 => ?_⟩
      refine lc_it (walk_list (xs := t2.map V.ref)) (fun i H' => Ex H1 H' ∧ ∃ xs : List Int, H' D1 = some (.lst (zs xs)) ∧ xs.length ≤ i ∧ (∀ x ∈ xs, ∃ l, LotOk W.n l ∧ (∀ x ∈ l, x < W.n ∧ x ∉ D) ∧ ShutL W near D l ∧ h ∈ l ∧ x = l.length) ∧ (∀ (j : Nat) (a : Addr) (l : List Nat), j < i → t2[j]? = some a → H1 a = some (.tup (zs (hs l))) → h ∈ l → (l.length : Int) ∈ xs))
        ⟨.new hD1, [], upd_same, Nat.le_refl _, fun x hx => absurd hx List.not_mem_nil, fun j _ _ hj => absurd hj (Nat.not_lt_zero j)⟩ (fun i H' _ h => .of (h.1.keep _ _ hS1 List.not_mem_nil)) (fun i x H2 H3 hi hx hy => ?_) (fun H2 hx => ?_)
      · obtain ⟨k2, xs, hD2, hxl, g1, g2⟩ := hx
        obtain ⟨rfl, ex⟩ := hy
        rw [List.length_map] at hi
        have ea : t2[i]? = some t2[i] := List.getElem?_eq_getElem hi
        rw [List.getElem?_map, ea] at ex
        cases ex
        obtain ⟨l, hl, hlo, hlr, hls⟩ := hA _ (List.getElem_mem hi)
        generalize t2[i] = a at *
        walk_at "s"
        refine ⟨rfl, ?_⟩
        walk_at "s"
        refine g_inT (k2.tup _ _ hl) ?_
        walk_at "s"
        by_cases e : h ∈ l
        · rw [decide_eq_true e]
          refine iteT ?_
          walk_at "s"
          refine g_lenT (k2.tup _ _ hl) ?_
          rw [zs_len, hs_len]
          refine ⟨_, hD2, small1000 (by rw [zs_len]; omega), k2.mutL hD1 hD2, xs ++ [(l.length : Int)], by rw [upd_same, zs, zs, List.map_append]; rfl, by rw [List.length_append]; show xs.length + 1 ≤ _; omega, fun x hx => ?_, fun j a' l' hj e' hl' m1 => ?_⟩
          · rcases List.mem_append.mp hx with z | z
            · exact g1 x z
            · exact ⟨l, hlo, hlr, hls, e, List.mem_singleton.mp z⟩
          · rcases Nat.lt_succ_iff_lt_or_eq.mp hj with z | z
            · exact List.mem_append_left _ (g2 j a' l' z e' hl' m1)
            · subst z
              rw [ea] at e'
              cases e'
              have := hs_inj (zs_inj hl' hl)
              subst this
              exact List.mem_append_right _ List.mem_cons_self
        · rw [decide_eq_false e]
          refine iteF ?_
          refine ⟨k2, xs, hD2, by omega, g1, fun j a' l' hj e' hl' m1 => ?_⟩
          rcases Nat.lt_succ_iff_lt_or_eq.mp hj with z | z
          · exact g2 j a' l' z e' hl' m1
          · subst z
            rw [ea] at e'
            cases e'
            have := hs_inj (zs_inj hl' hl)
            subst this
            exact absurd m1 e
      · obtain ⟨k2, xs, hD2, hxl, g1, g2⟩ := hx
        rw [List.length_map] at g2
        have l0ok : LotOk W.n (lotOf W near D h) := ⟨lot_pw, fun x hx => (mem_lot.mp hx).1⟩
        have l0r : ∀ x ∈ lotOf W near D h, x < W.n ∧ x ∉ D := fun x hx => ⟨(mem_lot.mp hx).1, lot_out hx hhD⟩
        have l0h : h ∈ lotOf W near D h := lot_self hhn
        obtain ⟨t0, ht0, et0⟩ := hB _ l0ok l0r (lot_shut ok)
        obtain ⟨j0, ej0⟩ := List.mem_iff_getElem?.mp ht0
        have hj0 := (List.getElem?_eq_some_iff.mp ej0).1
        have hm0 := g2 j0 t0 _ hj0 ej0 et0 l0h
        walk_at "s"
        refine ⟨D1, xs, rfl, .of hD2, ?_, fun m hm hmin => ?_⟩
        · cases xs with
          | nil => exact absurd hm0 List.not_mem_nil
          | cons x r => exact Nat.succ_pos _
        have em : m = ((lotOf W near D h).length : Int) := by
          have a1 := hmin _ hm0
          obtain ⟨l, hlo, hlr, hls, hlh, e⟩ := g1 m hm
          have a2 := sub_len lot_nd (lot_least hls hlh)
          omega
        subst em
        have hS2 := k2.keep _ _ hS1 List.not_mem_nil
        walk_at "s"
        refine ⟨S, rfl, ⟨_, .of hS2⟩, fun D3 hD3 => ?_⟩
        refine lc_it (walk_list (xs := t2.map V.ref)) (fun i H' => Ex H2 H' ∧ ∃ xs : List V, H' D3 = some (.lst xs) ∧ xs.length ≤ i ∧ (∀ x ∈ xs, ∃ t, x = .ref t ∧ H1 t = some (.tup (zs (hs (lotOf W near D h))))) ∧ (j0 < i → xs ≠ []))
          ⟨.new hD3, [], upd_same, Nat.le_refl _, fun x hx => absurd hx List.not_mem_nil, fun z => absurd z (Nat.not_lt_zero j0)⟩ (fun i H' _ h => .of (h.1.keep _ _ hS2 List.not_mem_nil)) (fun i x H3 H4 hi hx hy => ?_) (fun H3 hx => ?_)
        · obtain ⟨k3, xs, hD4, hxl, g1, g2⟩ := hx
          obtain ⟨rfl, ex⟩ := hy
          rw [List.length_map] at hi
          have ea : t2[i]? = some t2[i] := List.getElem?_eq_getElem hi
          rw [List.getElem?_map, ea] at ex
          cases ex
          obtain ⟨l, hl, hlo, hlr, hls⟩ := hA _ (List.getElem_mem hi)
          generalize t2[i] = a at *
          have hl4 := (k2.trans k3).tup _ _ hl
          have add : h ∈ l → l.length = (lotOf W near D h).length → ∃ acc, H4 D3 = some (.lst acc) ∧ acc.length < sizeLine ∧ Ex H2 (upd H4 D3 (.lst (acc ++ [.ref a]))) ∧ ∃ xs : List V, (upd H4 D3 (.lst (acc ++ [.ref a]))) D3 = some (.lst xs) ∧ xs.length ≤ i + 1 ∧ (∀ x ∈ xs, ∃ t, x = .ref t ∧ H1 t = some (.tup (zs (hs (lotOf W near D h))))) ∧ (j0 < i + 1 → xs ≠ []) := fun m1 m2 => by
            have : lotOf W near D h = l := sorted_len_eq lot_pw hlo.1 (lot_least hls m1) (by omega)
            refine ⟨xs, hD4, small1000 (by omega), k3.mutL hD3 hD4, _, upd_same, by rw [List.length_append]; show xs.length + 1 ≤ _; omega, fun x hx => ?_, fun _ z => by simp at z⟩
            rcases List.mem_append.mp hx with z | z
            · exact g1 x z
            · exact ⟨a, List.mem_singleton.mp z, by rw [this]; exact hl⟩
          have skip : ¬ (h ∈ l ∧ l.length = (lotOf W near D h).length) → Ex H2 H4 ∧ ∃ xs : List V, H4 D3 = some (.lst xs) ∧ xs.length ≤ i + 1 ∧ (∀ x ∈ xs, ∃ t, x = .ref t ∧ H1 t = some (.tup (zs (hs (lotOf W near D h))))) ∧ (j0 < i + 1 → xs ≠ []) := fun hno => by
            refine ⟨k3, xs, hD4, by omega, g1, fun hj => ?_⟩
            rcases Nat.lt_succ_iff_lt_or_eq.mp hj with z | z
            · exact g2 z
            · subst z
              rw [ea] at ej0
              cases ej0
              have := hs_inj (zs_inj et0 hl)
              subst this
              exact absurd ⟨l0h, rfl⟩ hno
          walk_at "s"
          refine ⟨rfl, ?_⟩
          walk_at "s"
          refine g_inT hl4 ?_
          walk_at "s"
          by_cases e : h ∈ l
          · rw [decide_eq_true e]
            refine iteT ?_
            walk_at "s"
            refine g_lenT hl4 ?_
            walk_at "s"
            rw [zs_len, hs_len]
            by_cases e2 : l.length = (lotOf W near D h).length
            · rw [decide_eq_true (by omega)]
              refine iteT ?_
              walk_at "s"
              exact add e e2
            · rw [decide_eq_false (by omega)]
              refine iteF ?_
              exact skip fun z => e2 z.2
          · rw [decide_eq_false e]
            refine iteF ?_
            refine iteF ?_
            exact skip fun z => e z.1
        · obtain ⟨k3, xs, hD4, hxl, g1, g2⟩ := hx
          rw [List.length_map] at g2
          have hne := g2 hj0
          walk_at "s"
          obtain ⟨x, r, rfl⟩ : ∃ x r, xs = x :: r := by
            cases xs with
            | nil => exact absurd rfl hne
            | cons x r => exact ⟨x, r, rfl⟩
          obtain ⟨t, rfl, et⟩ := g1 x List.mem_cons_self
          refine g_ixL (j := 0) hD4 rfl ?_
          exact q t H3 (k1.trans (k2.trans k3)) ((k2.trans k3).tup _ _ et)
    | false =>
      refine iteF ?_
      walk_at "s"
      refine ⟨S, rfl, ⟨_, .of hS1⟩, fun D1 hD1 => ?_⟩
      refine lc_it (walk_list (xs := t2.map V.ref)) (fun i H' => Ex H1 H' ∧ ∃ xs : List Int, H' D1 = some (.lst (zs xs)) ∧ xs.length ≤ i ∧ (∀ x ∈ xs, ∃ l, LotOk W.n l ∧ (∀ x ∈ l, x < W.n ∧ x ∉ D) ∧ ShutL W near D l ∧ h ∉ l ∧ x = l.length) ∧ (∀ (j : Nat) (a : Addr) (l : List Nat), j < i → t2[j]? = some a → H1 a = some (.tup (zs (hs l))) → h ∉ l → (l.length : Int) ∈ xs))
        ⟨.new hD1, [], upd_same, Nat.le_refl _, fun x hx => absurd hx List.not_mem_nil, fun j _ _ hj => absurd hj (Nat.not_lt_zero j)⟩ (fun i H' _ h => .of (h.1.keep _ _ hS1 List.not_mem_nil)) (fun i x H2 H3 hi hx hy => ?_) (fun H2 hx => ?_)
      · obtain ⟨k2, xs, hD2, hxl, g1, g2⟩ := hx
        obtain ⟨rfl, ex⟩ := hy
        rw [List.length_map] at hi
        have ea : t2[i]? = some t2[i] := List.getElem?_eq_getElem hi
        rw [List.getElem?_map, ea] at ex
        cases ex
        obtain ⟨l, hl, hlo, hlr, hls⟩ := hA _ (List.getElem_mem hi)
        generalize t2[i] = a at *
        walk_at "s"
        refine ⟨rfl, ?_⟩
        walk_at "s"
        refine g_ninT (k2.tup _ _ hl) ?_
        walk_at "s"
        by_cases e : h ∈ l
        · rw [decide_eq_true e]
          refine iteF ?_
          refine ⟨k2, xs, hD2, by omega, g1, fun j a' l' hj e' hl' m1 => ?_⟩
          rcases Nat.lt_succ_iff_lt_or_eq.mp hj with z | z
          · exact g2 j a' l' z e' hl' m1
          · subst z
            rw [ea] at e'
            cases e'
            have := hs_inj (zs_inj hl' hl)
            subst this
            exact absurd e m1
        · rw [decide_eq_false e]
          refine iteT ?_
          walk_at "s"
          refine g_lenT (k2.tup _ _ hl) ?_
          rw [zs_len, hs_len]
          refine ⟨_, hD2, small1000 (by rw [zs_len]; omega), k2.mutL hD1 hD2, xs ++ [(l.length : Int)], by rw [upd_same, zs, zs, List.map_append]; rfl, by rw [List.length_append]; show xs.length + 1 ≤ _; omega, fun x hx => ?_, fun j a' l' hj e' hl' m1 => ?_⟩
          · rcases List.mem_append.mp hx with z | z
            · exact g1 x z
            · exact ⟨l, hlo, hlr, hls, e, List.mem_singleton.mp z⟩
          · rcases Nat.lt_succ_iff_lt_or_eq.mp hj with z | z
            · exact List.mem_append_left _ (g2 j a' l' z e' hl' m1)
            · subst z
              rw [ea] at e'
              cases e'
              have := hs_inj (zs_inj hl' hl)
              subst this
              exact List.mem_append_right _ List.mem_cons_self
      · obtain ⟨k2, xs, hD2, hxl, g1, g2⟩ := hx
        rw [List.length_map] at g2
        have l0ok : LotOk W.n (othersOf W near D h) := ⟨lotS_pw, fun x hx => (mem_others.mp hx).1⟩
        have l0r : ∀ x ∈ othersOf W near D h, x < W.n ∧ x ∉ D := fun x hx => ⟨(mem_others.mp hx).1, (mem_others.mp hx).2.1⟩
        have l0h : h ∉ othersOf W near D h := fun z => (mem_others.mp z).2.2 (lot_self hhn)
        obtain ⟨t0, ht0, et0⟩ := hB _ l0ok l0r (others_shut ok hsp)
        obtain ⟨j0, ej0⟩ := List.mem_iff_getElem?.mp ht0
        have hj0 := (List.getElem?_eq_some_iff.mp ej0).1
        have hm0 := g2 j0 t0 _ hj0 ej0 et0 l0h
        walk_at "s"
        refine ⟨D1, xs, rfl, .of hD2, ?_, fun m hm hmax => ?_⟩
        · cases xs with
          | nil => exact absurd hm0 List.not_mem_nil
          | cons x r => exact Nat.succ_pos _
        have em : m = ((othersOf W near D h).length : Int) := by
          have a1 := hmax _ hm0
          obtain ⟨l, hlo, hlr, hls, hlh, e⟩ := g1 m hm
          have a2 := sub_len (hlo.1.imp fun q => Nat.ne_of_lt q) (others_most hsp hls hlr hlh hhD)
          omega
        subst em
        have hS2 := k2.keep _ _ hS1 List.not_mem_nil
        walk_at "s"
        refine ⟨S, rfl, ⟨_, .of hS2⟩, fun D3 hD3 => ?_⟩
        refine lc_it (walk_list (xs := t2.map V.ref)) (fun i H' => Ex H2 H' ∧ ∃ xs : List V, H' D3 = some (.lst xs) ∧ xs.length ≤ i ∧ (∀ x ∈ xs, ∃ t, x = .ref t ∧ H1 t = some (.tup (zs (hs (othersOf W near D h))))) ∧ (j0 < i → xs ≠ []))
          ⟨.new hD3, [], upd_same, Nat.le_refl _, fun x hx => absurd hx List.not_mem_nil, fun z => absurd z (Nat.not_lt_zero j0)⟩ (fun i H' _ h => .of (h.1.keep _ _ hS2 List.not_mem_nil)) (fun i x H3 H4 hi hx hy => ?_) (fun H3 hx => ?_)
        · obtain ⟨k3, xs, hD4, hxl, g1, g2⟩ := hx
          obtain ⟨rfl, ex⟩ := hy
          rw [List.length_map] at hi
          have ea : t2[i]? = some t2[i] := List.getElem?_eq_getElem hi
          rw [List.getElem?_map, ea] at ex
          cases ex
          obtain ⟨l, hl, hlo, hlr, hls⟩ := hA _ (List.getElem_mem hi)
          generalize t2[i] = a at *
          have hl4 := (k2.trans k3).tup _ _ hl
          have add : h ∉ l → l.length = (othersOf W near D h).length → ∃ acc, H4 D3 = some (.lst acc) ∧ acc.length < sizeLine ∧ Ex H2 (upd H4 D3 (.lst (acc ++ [.ref a]))) ∧ ∃ xs : List V, (upd H4 D3 (.lst (acc ++ [.ref a]))) D3 = some (.lst xs) ∧ xs.length ≤ i + 1 ∧ (∀ x ∈ xs, ∃ t, x = .ref t ∧ H1 t = some (.tup (zs (hs (othersOf W near D h))))) ∧ (j0 < i + 1 → xs ≠ []) := fun m1 m2 => by
            have : l = othersOf W near D h := sorted_len_eq hlo.1 lotS_pw (others_most hsp hls hlr m1 hhD) (by omega)
            refine ⟨xs, hD4, small1000 (by omega), k3.mutL hD3 hD4, _, upd_same, by rw [List.length_append]; show xs.length + 1 ≤ _; omega, fun x hx => ?_, fun _ z => by simp at z⟩
            rcases List.mem_append.mp hx with z | z
            · exact g1 x z
            · exact ⟨a, List.mem_singleton.mp z, by rw [← this]; exact hl⟩
          have skip : ¬ (h ∉ l ∧ l.length = (othersOf W near D h).length) → Ex H2 H4 ∧ ∃ xs : List V, H4 D3 = some (.lst xs) ∧ xs.length ≤ i + 1 ∧ (∀ x ∈ xs, ∃ t, x = .ref t ∧ H1 t = some (.tup (zs (hs (othersOf W near D h))))) ∧ (j0 < i + 1 → xs ≠ []) := fun hno => by
            refine ⟨k3, xs, hD4, by omega, g1, fun hj => ?_⟩
            rcases Nat.lt_succ_iff_lt_or_eq.mp hj with z | z
            · exact g2 z
            · subst z
              rw [ea] at ej0
              cases ej0
              have := hs_inj (zs_inj et0 hl)
              subst this
              exact absurd ⟨l0h, rfl⟩ hno
          walk_at "s"
          refine ⟨rfl, ?_⟩
          walk_at "s"
          refine g_ninT hl4 ?_
          walk_at "s"
          by_cases e : h ∈ l
          · rw [decide_eq_true e]
            refine iteF ?_
            refine iteF ?_
            exact skip fun z => z.1 e
          · rw [decide_eq_false e]
            refine iteT ?_
            walk_at "s"
            refine g_lenT hl4 ?_
            walk_at "s"
            rw [zs_len, hs_len]
            by_cases e2 : l.length = (othersOf W near D h).length
            · rw [decide_eq_true (by omega)]
              refine iteT ?_
              walk_at "s"
              exact add e e2
            · rw [decide_eq_false (by omega)]
              refine iteF ?_
              exact skip fun z => e2 z.2
        · obtain ⟨k3, xs, hD4, hxl, g1, g2⟩ := hx
          rw [List.length_map] at g2
          have hne := g2 hj0
          walk_at "s"
          obtain ⟨x, r, rfl⟩ : ∃ x r, xs = x :: r := by
            cases xs with
            | nil => exact absurd rfl hne
            | cons x r => exact ⟨x, r, rfl⟩
          obtain ⟨t, rfl, et⟩ := g1 x List.mem_cons_self
          have k13 := k2.trans k3
          refine g_ixL (j := 0) hD4 rfl ?_
          walk_at "s"
          have hr8 : rest.length ≤ 8 := by
            have := nodup_le W.n rest hrnd fun v hv => ((hrest v).mp hv).1
            omega
          refine ⟨ra, hs rest, rfl, .of (k13.keep _ _ hra1 List.not_mem_nil), by rw [hs_len]; omega, fun ys p1 hperm hpw hp1 => ?_⟩
          obtain ⟨ss, rfl, hss1, hss2⟩ := hs_perm hperm hrnd hpw
          refine ⟨p1, rfl, ⟨_, .of upd_same⟩, fun D5 hD5 => ?_⟩
          have kp : Ex H3 (upd H3 p1 (.lst (zs (hs ss)))) := .new hp1
          let nin : Nat → Bool := fun v => decide (v ∉ othersOf W near D h)
          refine lc_it (walk_list (xs := zs (hs ss))) (fun i H' => Ex (upd H3 p1 (.lst (zs (hs ss)))) H' ∧ H' D5 = some (.lst (zs (hs ((ss.take i).filter nin))))) ⟨.new hD5, upd_same⟩ (fun i H' _ h => .of (h.1.keep _ _ upd_same List.not_mem_nil)) (fun i x H6 H7 hi hx hy => ?_) (fun H6 hx => ?_)
          · obtain ⟨k6, hD6⟩ := hx
            obtain ⟨rfl, ex⟩ := hy
            rw [zs_len, hs_len] at hi
            have ej : ss[i]? = some ss[i] := List.getElem?_eq_getElem hi
            cases hs_at ex ej
            have hs8 : ss.length ≤ 8 := by rw [hss1.length_eq]; exact hr8
            walk_at "s"
            refine ⟨rfl, ?_⟩
            walk_at "s"
            refine g_ninT ((k13.trans (kp.trans k6)).tup _ _ et) ?_
            walk_at "s"
            by_cases e : ss[i] ∈ othersOf W near D h
            · rw [decide_eq_true e]
              refine iteF ?_
              refine ⟨k6, ?_⟩
              rw [filter_take' ej, if_neg (fun z => (of_decide_eq_true (show decide (ss[i] ∉ othersOf W near D h) = true from z)) e), List.append_nil]
              exact hD6
            · rw [decide_eq_false e]
              refine iteT ?_
              walk_at "s"
              refine ⟨_, hD6, small1000 ?_, k6.mutL hD5 hD6, ?_⟩
              · rw [zs_len, hs_len]
                have := List.length_filter_le nin (ss.take i)
                rw [List.length_take] at this
                omega
              · rw [upd_same, filter_take' ej, if_pos (decide_eq_true e)]
                simp [zs, hs]
          · obtain ⟨k6, hD6⟩ := hx
            rw [zs_len, hs_len, List.take_length] at hD6
            walk_at "s"
            refine g_tupL hD6 fun t9 ht9 => ?_
            have efin : ss.filter nin = lotOf W (turn W.ls near) D h := sorted_eq (List.Pairwise.filter _ hss2) lot_pw fun v => by
              rw [List.mem_filter, hss1.mem_iff, hrest v]
              constructor
              · rintro ⟨⟨h1, h2⟩, h3⟩
                have h3 : v ∉ othersOf W near D h := of_decide_eq_true h3
                by_cases z : v ∈ lotOf W (turn W.ls near) D h
                · exact z
                · exact absurd (mem_others.mpr ⟨h1, h2, z⟩) h3
              · intro z
                exact ⟨⟨(mem_lot.mp z).1, lot_out z hhD⟩, decide_eq_true fun y => (mem_others.mp y).2.2 z⟩
            refine q t9 _ (k1.trans (k13.trans ((kp.trans k6).nnew ht9))) ?_
            rw [upd_same, efin]
            rfl
end
end K8
set_option Elab.async false
set_option linter.all false
set_option maxRecDepth 100000
set_option maxHeartbeats 4000000
namespace K8
open PySem PySem.Spec PyProof.Rows L2
local macro_rules | `(tactic| walk_at "s") => `(tactic| repeat (first
  | with_reducible refine g_seq ?_ | with_reducible refine g_ret ?_ | with_reducible refine g_asg ?_ | with_reducible refine g_name ?_ | with_reducible refine g_c ?_ | with_reducible refine g_op ?_ | with_reducible refine g_cons ?_ | with_reducible refine g_nil ?_
  | (with_reducible show tVar _ _ _ _; refine g_var rfl ?_) | with_reducible refine g_cb ?_ | with_reducible refine g_call ?_ | with_reducible refine g_if ?_ | with_reducible refine g_test ?_ | with_reducible refine g_tB ?_ | with_reducible refine g_i0 ?_ | with_reducible refine g_bl ?_
  | with_reducible refine g_add ?_ | with_reducible refine g_sub ?_ | with_reducible refine g_eqI ?_ | with_reducible refine g_neI ?_ | with_reducible refine g_drop ?_ | with_reducible refine g_next ?_ | with_reducible refine g_break ?_ | with_reducible refine g_un ?_ | with_reducible refine g_u ?_
  | with_reducible refine g_ifE ?_ | with_reducible refine g_and ?_ | with_reducible refine g_or ?_ | with_reducible refine g_not ?_ | with_reducible refine g_andV ?_ | with_reducible refine g_orV ?_ | with_reducible refine g_notV ?_ | with_reducible refine g_isN ?_ | with_reducible refine g_notN ?_
  | with_reducible refine g_gnil ?_ | with_reducible refine g_gcons ?_ | with_reducible refine g_bm ?_ | with_reducible refine g_abs ?_ | with_reducible refine g_max ?_ | with_reducible refine g_min ?_ | with_reducible refine g_int ?_ | with_reducible refine g_lc ?_ | with_reducible refine g_for ?_ | with_reducible refine g_yes ?_ | with_reducible refine g_rng1 ?_ | with_reducible refine g_rng2 ?_ | with_reducible refine g_il ?_ | with_reducible refine g_it ?_ | with_reducible refine g_en ?_ | with_reducible refine g_zp ?_ | with_reducible refine g_mkT ?_ | with_reducible refine g_mkL ?_ | with_reducible refine g_augS ?_ | (with_reducible show tAug _ _ _ _ _ _; refine g_aug rfl ?_) | with_reducible refine g_ipI ?_ | with_reducible refine g_gsub ?_ | with_reducible refine g_dget ?_ | with_reducible refine g_din ?_ | with_reducible refine g_dnotin ?_ | with_reducible refine g_dput ?_ | with_reducible refine g_dc ?_ | with_reducible refine g_sl ?_ | with_reducible refine g_nopart ?_ | with_reducible refine g_part ?_ | with_reducible refine g_exI ?_ | with_reducible refine g_revL ?_ | (with_reducible show iSq _ _ _ _; refine g_sq rfl ?_) | with_reducible refine g_while ?_ | with_reducible refine g_min3 ?_ | with_reducible refine g_trq ?_ | with_reducible refine g_lock ?_ | with_reducible refine g_mko ?_ | with_reducible refine g_keys ?_ | with_reducible refine g_eqS ?_ | with_reducible refine g_lrg ?_ | with_reducible refine g_trg ?_ | with_reducible refine g_rg1 ?_ | with_reducible refine g_cut ?_ | with_reducible refine g_disp ?_ | with_reducible refine g_dnew ?_ | with_reducible refine iteT ?_ | with_reducible refine iteF ?_))
section
variable {P : Program} {w : World} {K : PySem.W.Frag} {mg : Str → Option Value} {base : Heap} {f : Addr} {fd : FuncData} {k : Nat}
theorem sc_law_peel : FnScope ["_law_web_here", "_law_row", "_law_lots_here", "_law_order_here", "_law_sides", "_law_left", "_law_rest", "_law_joining", "_law_k", "_law_block_here", "_law_one", "_law_line"] ["_law_web_here", "_law_row", "_law_lots_here", "_law_order_here", "_law_sides"] (defScope s_law_peel) := ⟨rfl, rfl, rfl, by decide +kernel, rfl, by decide +kernel, by decide +kernel⟩
def sp_law_peel : Sp := fun vs H Q _ => ∃ (W : Wb) (u : V) (pa L o s : Addr) (ps : List Int) (ts : List Addr) (os : List Nat) (bs : List Bool) (near : List Int), vs = [u, .ref pa, .ref L, .ref o, .ref s] ∧ WebAt H u W ∧ WebOk W ∧ H pa = some (.tup (zs ps)) ∧ ps.length = W.n ∧ H L = some (.lst (ts.map V.ref)) ∧ LtsAt H W.n ts ∧ ts.length ≤ 256 ∧
  H o = some (.tup (zs (hs os))) ∧ H s = some (.tup (sdV bs)) ∧ os.Perm (List.range W.n) ∧ bs.length = W.n ∧ Split W.ls near ∧ (∀ v, v < W.n → ps.getD v 0 = purse W.ls near v) ∧
  ∀ (q : Addr) (H' : Hp), Ex H H' → H' q = some (.tup (zs (joinOf W.n (peelL W near (os.zip bs) [])))) → Q (.ref q) H'
theorem purseR_all {W : Wb} (ok : WebOk W) {near : List Int} : ∀ v, purseR (restB W.n []) W.ls near v = purse W.ls near v := by
  have : ∀ (ls : List Ln) (near : List Int), (∀ l ∈ ls, l.a < W.n ∧ l.b < W.n) → ∀ v, purseR (restB W.n []) ls near v = purse ls near v := by
    intro ls
    induction ls with
    | nil => intro near _ v; cases near <;> rfl
    | cons l r ih =>
      intro near hl v
      cases near with
      | nil => rfl
      | cons c cs =>
        have h1 := hl l List.mem_cons_self
        show (if restB W.n [] l.a = true ∧ restB W.n [] l.b = true then _ else 0) + purseR _ r cs v = _ + purse r cs v
        rw [ih cs (fun x hx => hl x (List.mem_cons_of_mem _ hx)) v, if_pos ⟨restB_iff.mpr ⟨h1.1, List.not_mem_nil⟩, restB_iff.mpr ⟨h1.2, List.not_mem_nil⟩⟩]
  exact this W.ls near fun l hl => by have := ok.2.2.2 l hl; omega
theorem first_at {xs : List Nat} {x : Nat} (h : x ∈ xs) : ∃ j : Nat, xs[j]? = some x ∧ ∀ m : Nat, m < j → xs[m]? ≠ some x := by
  induction xs with
  | nil => exact absurd h List.not_mem_nil
  | cons y r ih =>
    by_cases z : y = x
    · exact ⟨0, by rw [z]; rfl, fun m hm => absurd hm (Nat.not_lt_zero m)⟩
    · rcases List.mem_cons.mp h with e | e
      · exact absurd e.symm z
      · obtain ⟨j, e1, e2⟩ := ih e
        refine ⟨j + 1, e1, fun m hm => ?_⟩
        cases m with
        | zero => intro e; exact z (by simpa using e)
        | succ m => exact e2 m (by omega)
theorem mem_eraseIdx_nd {xs : List Nat} (nd : xs.Nodup) {j x : Nat} (e : xs[j]? = some x) : (xs.eraseIdx j).Nodup ∧ ∀ v, v ∈ xs.eraseIdx j ↔ v ∈ xs ∧ v ≠ x := by
  have hj := (List.getElem?_eq_some_iff.mp e)
  have hp := erase_perm xs j hj.1
  rw [hj.2] at hp
  have nd2 := hp.nodup_iff.mpr nd
  have nd3 := List.nodup_cons.mp nd2
  refine ⟨nd3.2, fun v => ?_⟩
  rw [← hp.mem_iff, List.mem_cons]
  constructor
  · intro h
    exact ⟨.inr h, fun z => nd3.1 (by rw [← z]; exact h)⟩
  · rintro ⟨h1, h2⟩
    exact h1.resolve_left h2
theorem ok_law_peel (F : Fun K "_law_peel" "_law_peel" s_law_peel f fd) (T : Txt mg) (c_law_block : Cal P w K mg base 3 "_law_block" sp_law_block) : FnOk P w K mg base CX0 4 f fd ["_law_web_here", "_law_row", "_law_lots_here", "_law_order_here", "_law_sides"] sp_law_peel := by
  have sc := sc_law_peel
  refine F.ok sc (fun vs H Q E h => ?_) (fun cdv A outer s H vs Q E hr h => ?_)
  · obtain ⟨W, u, pa, L, o, s, ps, ts, os, bs, near, rfl, _⟩ := h
    rfl
  · obtain ⟨W, u, pa, L, o, sa, ps, ts, os, bs, near, rfl, hw, ok, hpa, hpl, hL, hlts, htl, ho, hsa, hperm, hbl, hsp, hpv, q⟩ := h
    have hw0 := hw
    obtain ⟨a, c, ls, rfl, ha, hc, hl⟩ := hw0
    have hn8 := ok.2.1
    have hol : os.length = W.n := by rw [hperm.length_eq, List.length_range]
    have holt : ∀ x ∈ os, x < W.n := fun x hx => List.mem_range.mp (hperm.mem_iff.mp hx)
    have hond : os.Nodup := hperm.nodup_iff.mpr List.nodup_range
    refine ⟨_, (pss_cons (ps_set (i := 5) sc.nd rfl (by first | exact Or.inl rfl | exact Or.inr rfl) (pe_callTy (kq_list (K := K) rfl) (by rfl) T.list (by decide +kernel) (pa_cons (pv 1) pa_nil)))
      (pss_cons (ps_set (i := 6) sc.nd rfl (by first | exact Or.inl rfl | exact Or.inr rfl) (pe_callTy (kq_list (K := K) rfl) (by rfl) T.list (by decide +kernel) (pa_cons (pv 3) pa_nil)))
      (pss_cons (ps_set (i := 7) sc.nd rfl (by first | exact Or.inl rfl | exact Or.inr rfl) (pe_op op_rep (pe_lst (pa_cons pe_int pa_nil)) (pe_ix (kx_tup (K := K) rfl) (pv 0) pe_int (fun _ _ => rfl))))
      (pss_cons (ps_for PassesOwn.never rfl (pi_range1 (by rfl) T.range (pa_cons (pe_callB (kq_len (K := K) rfl) (by rfl) T.len (by decide +kernel) (pa_cons (pv 3) pa_nil)) pa_nil)) (pg_name (i := 8) sc.nd rfl (by first | exact Or.inl rfl | exact Or.inr rfl))
        (pss_one (ps_if (pt_cmpR ((kop_in (K := K) rfl)) (pe_ix (kx_tup (K := K) rfl) (pv 3) (pv 8) (fun _ _ => rfl)) (pv 6) (by rfl))
          (pss_cons (ps_set (i := 9) sc.nd rfl (by first | exact Or.inl rfl | exact Or.inr rfl) (pe_c c_law_block hr (by decide) (by rfl) (pa_cons (pv 0) (pa_cons (pv 5) (pa_cons (pv 2) (pa_cons (pe_ix (kx_tup (K := K) rfl) (pv 3) (pv 8) (fun _ _ => rfl)) (pa_cons (pv 6) (pa_cons (pe_ix (kx_tup (K := K) rfl) (pv 4) (pv 8) (fun _ _ => rfl)) pa_nil))))))))
          (pss_cons (ps_for PassesOwn.never rfl (kpi_tup (K := K) rfl (pv 9)) (pg_name (i := 10) sc.nd rfl (by first | exact Or.inl rfl | exact Or.inr rfl))
            (pss_cons (ps_asg (pe_ix (kx_tup (K := K) rfl) (pv 9) pe_int (fun _ _ => rfl)) (pg_sub (pv 7) (pv 10) set_list))
            (pss_one (ps_expr (pe_bm PySem.F.plainAttrs_list PySem.F.slot_list_remove PySem.F.type_list_remove mt_remove (pv 6) (pa_cons (pv 10) pa_nil))))))
          (pss_one (ps_for PassesOwn.never rfl (kpi_tup (K := K) rfl (pe_ix (kx_tup (K := K) rfl) (pv 0) pe_int (fun _ _ => rfl))) (pg_name (i := 11) sc.nd rfl (by first | exact Or.inl rfl | exact Or.inr rfl))
            (pss_one (ps_if (PW.pt (pw_and (pt_cmpR op_eq (pe_ix (kx_tup (K := K) rfl) (pv 4) (pv 8) (fun _ _ => rfl)) pe_str (nomark _)) (pw_and (pt_cmpR ((kop_in (K := K) rfl)) (pe_ix (kx_tup (K := K) rfl) (pv 11) pe_int (fun _ _ => rfl)) (pv 9) (by rfl)) (pw_and1 (pt_cmpR ((kop_in (K := K) rfl)) (pe_ix (kx_tup (K := K) rfl) (pv 11) pe_int (fun _ _ => rfl)) (pv 6) (by rfl))))))
              (pss_one (ps_asg (pe_op op_sub (pe_ix (kx_list (K := K) rfl) (pv 5) (pe_ix (kx_tup (K := K) rfl) (pv 11) pe_int (fun _ _ => rfl)) (fun _ _ => rfl)) (pe_ix (kx_tup (K := K) rfl) (pv 11) pe_int (fun _ _ => rfl))) (pg_sub (pv 5) (pe_ix (kx_tup (K := K) rfl) (pv 11) pe_int (fun _ _ => rfl)) set_list)))
              (pss_one (ps_if (PW.pt (pw_and (pt_cmpR op_eq (pe_ix (kx_tup (K := K) rfl) (pv 4) (pv 8) (fun _ _ => rfl)) pe_str (nomark _)) (pw_and (pt_cmpR ((kop_in (K := K) rfl)) (pe_ix (kx_tup (K := K) rfl) (pv 11) pe_int (fun _ _ => rfl)) (pv 9) (by rfl)) (pw_and1 (pt_cmpR ((kop_in (K := K) rfl)) (pe_ix (kx_tup (K := K) rfl) (pv 11) pe_int (fun _ _ => rfl)) (pv 6) (by rfl))))))
                (pss_one (ps_asg (pe_op op_sub (pe_ix (kx_list (K := K) rfl) (pv 5) (pe_ix (kx_tup (K := K) rfl) (pv 11) pe_int (fun _ _ => rfl)) (fun _ _ => rfl)) (pe_ix (kx_tup (K := K) rfl) (pv 11) pe_int (fun _ _ => rfl))) (pg_sub (pv 5) (pe_ix (kx_tup (K := K) rfl) (pv 11) pe_int (fun _ _ => rfl)) set_list)))
                pss_nil))))))))
          pss_nil)))
      (pss_one (ps_ret (pe_callTy (kq_tup (K := K) rfl) (by rfl) T.tuple (by decide +kernel) (pa_cons (pv 7) pa_nil)))))))), ?_⟩
    walk_at "s"
    refine g_listT hpa fun la hla => ?_
    walk_at "s"
    have kl : Ex H (upd H la (.lst (zs ps))) := .new hla
    refine g_listT (kl.tup _ _ ho) fun ra hra => ?_
    walk_at "s"
    have kr := kl.nnew (o := .lst (zs (hs os))) hra
    have hraH := kl.free hra
    refine ⟨sz, fun z hz => ?_⟩
    walk_at "s"
    have kz := kr.nnew (o := .lst [.int 0]) hz
    have hzH := kr.free hz
    refine g_ixT (j := 0) (kz.tup _ _ ha) rfl ?_
    walk_at "s"
    refine g_rep upd_same (by omega) fun jo hjo => ?_
    walk_at "s"
    have kj := kz.nnew (o := .lst (zs (List.replicate W.n 0))) hjo
    have hjoH := kz.free hjo
    have nlr : la ≠ ra := ne_of_none upd_same hra
    have nlz : la ≠ z := ne_of_none (by rw [upd_ne nlr, upd_same]) hz
    have nrz : ra ≠ z := ne_of_none upd_same hz
    have nlj : la ≠ jo := ne_of_none (by rw [upd_ne nlz, upd_ne nlr, upd_same]) hjo
    have nrj : ra ≠ jo := ne_of_none (by rw [upd_ne nrz, upd_same]) hjo
    refine g_lenT (kj.tup _ _ ho) ?_
    walk_at "s"
    rw [zs_len, hs_len, hol]
    refine ⟨_, rfl, by omega, by omega, ?_⟩
    refine for_range (n := W.n) (fun i σ H' => ∃ (D : List Nat) (lots : List (List Nat)) (rest : List Nat) (left : List Int) (y8 y9 y10 y11 : Option V), σ = [some (.ref a), some (.ref pa), some (.ref L), some (.ref o), some (.ref sa), some (.ref la), some (.ref ra), some (.ref jo), y8, y9, y10, y11] ∧ Ex H H' ∧
      H' la = some (.lst (zs left)) ∧ left.length = W.n ∧ H' ra = some (.lst (zs (hs rest))) ∧ rest.Nodup ∧ (∀ v, v ∈ rest ↔ v < W.n ∧ v ∉ D) ∧ H' jo = some (.lst (zs (joinOf W.n lots))) ∧ LeftOk W near (restB W.n D) (fun v => left.getD v 0) ∧ (∀ v ∈ D, v < W.n) ∧
      lots ++ peelL W near ((os.zip bs).drop i) D = peelL W near (os.zip bs) []) ⟨[], [], os, ps, _, _, _, _, rfl, kj, by rw [upd_ne nlj, upd_ne nlz, upd_ne nlr, upd_same], hpl, by rw [upd_ne nrj, upd_ne nrz, upd_same], hond, fun v => ?_, upd_same, fun v hv _ => ?_, fun v hv => absurd hv List.not_mem_nil, rfl⟩ (fun i σ H1 hi hx => ?_) (fun σ H1 hx => ?_)
    · rw [hperm.mem_iff, List.mem_range]
      exact ⟨fun h => ⟨h, List.not_mem_nil⟩, fun h => h.1⟩
    · rw [purseR_all ok]
      exact hpv v hv
    · obtain ⟨D, lots, rest, left, y8, y9, y10, y11, rfl, k1, hla1, hll, hra1, hrnd, hrest, hjo1, hlok, hDlt, hpe⟩ := hx
      rw [show ((0 : Int) + (i : Int)) = (i : Int) from Int.zero_add _]
      have eo : os[i]? = some (os[i]'(by omega)) := List.getElem?_eq_getElem (by omega)
      have eb : bs[i]? = some (bs[i]'(by omega)) := List.getElem?_eq_getElem (by omega)
      have hhn := holt _ (List.getElem_mem (show i < os.length by omega))
      have hzip : (os.zip bs).drop i = (os[i]'(by omega), bs[i]'(by omega)) :: (os.zip bs).drop (i + 1) := by
        rw [List.drop_eq_getElem_cons (by rw [List.length_zip]; omega)]
        simp
      rw [hzip] at hpe
      generalize os[i]'(by omega) = h at *
      generalize bs[i]'(by omega) = b at *
      have ebv : (sdV bs)[i]? = some (.str (sd b)) := by rw [List.getElem?_map, eb]; rfl
      walk_at "s"
      refine g_ixT (j := i) (k1.tup _ _ ho) (hs_get eo) ?_
      walk_at "s"
      refine g_inL hra1 ?_
      walk_at "s"
      by_cases hhD : h ∈ D
      · rw [decide_eq_false fun z => ((hrest h).mp z).2 hhD]
        refine iteF ?_
        walk_at "s"
        refine ⟨D, lots, rest, left, _, _, _, _, rfl, k1, hla1, hll, hra1, hrnd, hrest, hjo1, hlok, hDlt, ?_⟩
        rw [← hpe]
        show _ = lots ++ (if h ∈ D then _ else _)
        rw [if_pos hhD]
      · have hhr : h ∈ rest := (hrest h).mpr ⟨hhn, hhD⟩
        rw [decide_eq_true hhr]
        refine iteT ?_
        walk_at "s"
        refine g_ixT (j := i) (k1.tup _ _ ho) (hs_get eo) ?_
        walk_at "s"
        refine g_ixT (j := i) (k1.tup _ _ hsa) ebv ?_
        walk_at "s"
        refine ⟨W, _, la, L, ra, left, ts, rest, D, h, b, near, rfl, hw.kp k1, ok, hla1, hll, k1.keep _ _ hL List.not_mem_nil, hlts.kp k1, htl, hra1, hrnd, hrest, hhn, hhD, hsp, hlok, fun bq H2 k2 hbq => ?_⟩
        have hpe2 : (lots ++ [lotOf W (if b = true then near else turn W.ls near) D h]) ++ peelL W near ((os.zip bs).drop (i + 1)) (D ++ lotOf W (if b = true then near else turn W.ls near) D h) = peelL W near (os.zip bs) [] := by
          rw [← hpe, List.append_assoc]
          show _ = lots ++ (if h ∈ D then _ else _)
          rw [if_neg hhD]
          rfl
        have hlotD : ∀ v ∈ lotOf W (if b = true then near else turn W.ls near) D h, v < W.n ∧ v ∉ D := fun v hv => ⟨(mem_lot.mp hv).1, lot_out hv hhD⟩
        have hlotnd : (lotOf W (if b = true then near else turn W.ls near) D h).Nodup := lot_nd
        have hclosed : ∀ u i o, Edge W.ls near u i o → (if b = true then restB W.n D o = true → memB (lotOf W (if b = true then near else turn W.ls near) D h) u = true → memB (lotOf W (if b = true then near else turn W.ls near) D h) o = true else restB W.n D o = true → restB W.n (D ++ lotOf W (if b = true then near else turn W.ls near) D h) u = true → restB W.n (D ++ lotOf W (if b = true then near else turn W.ls near) D h) o = true) := fun u i o e => by
          cases b
          · rw [if_neg Bool.false_ne_true]
            show restB W.n D o = true → restB W.n (D ++ lotOf W (turn W.ls near) D h) u = true → restB W.n (D ++ lotOf W (turn W.ls near) D h) o = true
            intro ro ru
            have h1 := restB_iff.mp ro
            have h2 := restB_iff.mp ru
            refine restB_iff.mpr ⟨h1.1, fun z => ?_⟩
            rcases List.mem_append.mp z with z | z
            · exact h1.2 z
            · exact h2.2 (List.mem_append_right _ (mem_lot.mpr ⟨h2.1, .step (mem_lot.mp z).2 ((edge_turn hsp).mpr e) fun y => h2.2 (List.mem_append_left _ y)⟩))
          · rw [if_pos rfl]
            show restB W.n D o = true → memB (lotOf W near D h) u = true → memB (lotOf W near D h) o = true
            intro ro hu
            exact memB_iff.mpr (lot_shut ok u i o e (restB_iff.mp ro).2 (memB_iff.mp hu))
        have hR' : ∀ v, restB W.n (D ++ lotOf W (if b = true then near else turn W.ls near) D h) v = (restB W.n D v && !memB (lotOf W (if b = true then near else turn W.ls near) D h) v) := fun v => by
          rw [Bool.eq_iff_iff, Bool.and_eq_true, Bool.not_eq_true', restB_iff, restB_iff, memB_not, List.mem_append]
          exact ⟨fun z => ⟨⟨z.1, fun y => z.2 (.inl y)⟩, fun y => z.2 (.inr y)⟩, fun z => ⟨z.1.1, fun y => y.elim z.1.2 z.2⟩⟩
        have hgone := purse_gone b hR' (fun v hv => restB_iff.mpr (hlotD v (memB_iff.mp hv))) hsp hclosed
        generalize lotOf W (if b = true then near else turn W.ls near) D h = lot at *
        have k12 := k1.trans k2
        have hjl : (joinOf W.n lots).length = W.n := by rw [joinOf, joins_len, List.length_replicate]
        walk_at "s"
        refine ⟨bq, rfl, ⟨_, .of hbq⟩, ?_⟩
        refine for_it (walk_tup (xs := zs (hs lot))) (fun j σ H' => ∃ (rest' : List Nat) (y10 y11 : Option V), σ = [some (.ref a), some (.ref pa), some (.ref L), some (.ref o), some (.ref sa), some (.ref la), some (.ref ra), some (.ref jo), some (.int (i : Int)), some (.ref bq), y10, y11] ∧ Ex H H' ∧ Kp [ra, jo] H2 H' ∧
          H' ra = some (.lst (zs (hs rest'))) ∧ rest'.Nodup ∧ (∀ v, v ∈ rest' ↔ v ∈ rest ∧ v ∉ lot.take j) ∧ H' jo = some (.lst (zs ((lot.take j).foldl (fun j h => j.set h ((lot.headD 0 : Nat) : Int)) (joinOf W.n lots)))))
          ⟨rest, _, _, rfl, k12, .refl _ _, k2.keep _ _ hra1 List.not_mem_nil, hrnd, fun v => by simp, k2.keep _ _ hjo1 List.not_mem_nil⟩ (fun j σ H' _ h => ?_) (fun j x σ H3 H4 hj hx hy => ?_) (fun σ H3 hx => ?_)
        · obtain ⟨_, _, _, _, _, k3, _⟩ := h
          exact .of (k3.tup _ _ hbq)
        · obtain ⟨rest', y10, y11, rfl, k3, k23, hra3, hrnd3, hrest3, hjo3⟩ := hx
          obtain ⟨rfl, ex⟩ := hy
          rw [zs_len, hs_len] at hj
          have ej : lot[j]? = some lot[j] := List.getElem?_eq_getElem hj
          cases hs_at ex ej
          have hv := hlotD _ (List.getElem_mem hj)
          have e0 : lot[0]? = some (lot.headD 0) := by
            cases lot with
            | nil => simp at hj
            | cons x r => rfl
          have hnt : lot[j] ∉ lot.take j := fun z => by
            obtain ⟨m, em⟩ := List.mem_iff_getElem?.mp z
            rw [List.getElem?_take] at em
            split at em
            · rename_i hm
              have := (List.getElem_inj hlotnd).mp ((List.getElem?_eq_some_iff.mp em).2.trans rfl)
              omega
            · cases em
          have hin : lot[j] ∈ rest' := (hrest3 _).mpr ⟨(hrest _).mpr hv, hnt⟩
          have hlenf : ∀ (l : List Nat) (c : Int) (j : List Int), (l.foldl (fun j h => j.set h c) j).length = j.length := by
            intro l c
            induction l with
            | nil => intro j; rfl
            | cons x r ih => intro j; rw [List.foldl_cons, ih, List.length_set]
          walk_at "s"
          refine g_ixT (j := 0) (k23.tup _ _ hbq) (hs_get e0) ?_
          walk_at "s"
          refine g_setL hjo3 (by rw [zs_len, hlenf, hjl]; exact hv.1) ?_
          walk_at "s"
          rw [← List.map_set]
          have k4 := k3.mutL (o' := .lst (zs (((lot.take j).foldl (fun j h => j.set h ((lot.headD 0 : Nat) : Int)) (joinOf W.n lots)).set lot[j] ((lot.headD 0 : Nat) : Int)))) hjoH hjo3
          have hra4 : (upd H4 jo (.lst (zs (((lot.take j).foldl (fun j h => j.set h ((lot.headD 0 : Nat) : Int)) (joinOf W.n lots)).set lot[j] ((lot.headD 0 : Nat) : Int))))) ra = some (.lst (zs (hs rest'))) := by rw [upd_ne nrj]; exact hra3
          refine g_ty hra4 ?_
          walk_at "s"
          obtain ⟨m, em, hm⟩ := first_at hin
          obtain ⟨e1, e2⟩ := mem_eraseIdx_nd hrnd3 em
          refine ⟨ra, hs rest', _, m, rfl, rfl, hra4, by rw [List.getElem?_map, em]; rfl, fun m' hm' z => ?_, ?_⟩
          · rw [List.getElem?_map] at z
            cases e3 : rest'[m']? with
            | none => rw [e3] at z; cases z
            | some y =>
              rw [e3] at z
              have : y = lot[j] := by
                have := Option.some.inj z
                show y = lot[j]
                have h3 : (y : Int) = (lot[j] : Nat) := this
                omega
              exact hm m' hm' (by rw [e3, this])
          walk_at "s"
          refine ⟨rest'.eraseIdx m, _, _, rfl, k4.mutL hraH hra4, (k23.trans (.setL hjo3 (by simp))).trans (.setL hra4 (by simp)), by rw [upd_same, hs, map_erase], e1, fun v => ?_, ?_⟩
          · rw [e2 v, hrest3 v, List.take_add_one, ej]
            simp only [List.mem_append, Option.toList_some, List.mem_singleton]
            exact ⟨fun z => ⟨z.1.1, fun y => y.elim z.1.2 z.2⟩, fun z => ⟨⟨z.1, fun y => z.2 (.inl y)⟩, fun y => z.2 (.inr y)⟩⟩
          · rw [upd_ne nrj.symm, upd_same, List.take_add_one, ej, List.foldl_append]
            rfl
        · obtain ⟨rest', y10, y11, rfl, k3, k23, hra3, hrnd3, hrest3, hjo3⟩ := hx
          rw [zs_len, hs_len, List.take_length] at hrest3 hjo3
          have hjo3 : H3 jo = some (.lst (zs (joinOf W.n (lots ++ [lot])))) := by
            have ej : joinOf W.n (lots ++ [lot]) = joinLot (joinOf W.n lots) lot := by rw [joinOf, List.foldl_append]; rfl
            rw [hjo3, ej]
            rfl
          have hrest3 : ∀ v, v ∈ rest' ↔ v < W.n ∧ v ∉ D ++ lot := fun v => by
            rw [hrest3 v, hrest v, List.mem_append]
            exact ⟨fun z => ⟨z.1.1, fun y => y.elim z.1.2 z.2⟩, fun z => ⟨⟨z.1, fun y => z.2 (.inl y)⟩, fun y => z.2 (.inr y)⟩⟩
          have hla3 : H3 la = some (.lst (zs left)) := k23.keep _ _ (k2.keep _ _ hla1 List.not_mem_nil) (by simp [nlr, nlj])
          have hDlt2 : ∀ v ∈ D ++ lot, v < W.n := fun v hv => (List.mem_append.mp hv).elim (hDlt v) fun z => (hlotD v z).1
          have hrB : ∀ v, v < W.n → (v ∈ rest' ↔ restB W.n (D ++ lot) v = true) := fun v _ => (hrest3 v).trans restB_iff.symm
          walk_at "s"
          refine g_ixT (j := 1) (k3.tup _ _ ha) rfl ?_
          refine ⟨c, rfl, ⟨_, .of (k3.tup _ _ hc)⟩, ?_⟩
          refine for_it (walk_tup (xs := ls.map V.ref)) (fun j σ H' => ∃ (left' : List Int) (y10 y11 : Option V), σ = [some (.ref a), some (.ref pa), some (.ref L), some (.ref o), some (.ref sa), some (.ref la), some (.ref ra), some (.ref jo), some (.int (i : Int)), some (.ref bq), y10, y11] ∧ Ex H H' ∧ Kp [la] H3 H' ∧
            H' la = some (.lst (zs left')) ∧ left'.length = W.n ∧ ∀ v, v < W.n → left'.getD v 0 = left.getD v 0 - (if b = true then subR (memB lot) (restB W.n (D ++ lot)) (W.ls.take j) v else 0))
            ⟨left, _, _, rfl, k3, .refl _ _, hla3, hll, fun v _ => by
              have : (if b = true then subR (memB lot) (restB W.n (D ++ lot)) (W.ls.take 0) v else 0) = 0 := by split <;> rfl
              rw [this]
              omega⟩ (fun j σ H' _ h => ?_) (fun j x σ H4 H5 hj hx hy => ?_) (fun σ H4 hx => ?_)
          · obtain ⟨_, _, _, _, k4, _⟩ := h
            exact .of (k4.tup _ _ hc)
          · obtain ⟨left', y10, y11, rfl, k4, k34, hla4, hll4, hleft4⟩ := hx
            obtain ⟨rfl, ex⟩ := hy
            rw [List.length_map, hl.1] at hj
            have el : W.ls[j]? = some W.ls[j] := List.getElem?_eq_getElem hj
            obtain ⟨t, rfl, ht⟩ := hl.ref ex el
            have hlol := ok.2.2.2 _ (List.getElem_mem hj)
            have hsub := fun v => subR_take (memB lot) (restB W.n (D ++ lot)) v _ _ _ el
            generalize W.ls[j] = l at *
            have ht4 := k4.tup _ _ ht
            have hbq4 := k34.tup _ _ (k23.tup _ _ hbq)
            have hra4 := k34.keep _ _ hra3 (by simpa using nlr.symm)
            have nxt : ∀ (left2 : List Int) (H6 : Hp) (y10 y11 : Option V), Ex H H6 → Kp [la] H3 H6 → H6 la = some (.lst (zs left2)) → left2.length = W.n → (∀ v, v < W.n → left2.getD v 0 = left'.getD v 0 - (if b = true then (if memB lot l.a = true ∧ restB W.n (D ++ lot) l.b = true then (if l.b = v then l.r else 0) else if memB lot l.b = true ∧ restB W.n (D ++ lot) l.a = true then (if l.a = v then l.r else 0) else 0) else 0)) →
                ∃ (left' : List Int) (z10 z11 : Option V), [some (V.ref a), some (.ref pa), some (.ref L), some (.ref o), some (.ref sa), some (.ref la), some (.ref ra), some (.ref jo), some (.int (i : Int)), some (.ref bq), y10, y11] = [some (.ref a), some (.ref pa), some (.ref L), some (.ref o), some (.ref sa), some (.ref la), some (.ref ra), some (.ref jo), some (.int (i : Int)), some (.ref bq), z10, z11] ∧ Ex H H6 ∧ Kp [la] H3 H6 ∧
                H6 la = some (.lst (zs left')) ∧ left'.length = W.n ∧ ∀ v, v < W.n → left'.getD v 0 = left.getD v 0 - (if b = true then subR (memB lot) (restB W.n (D ++ lot)) (W.ls.take (j + 1)) v else 0) := fun left2 H6 y10 y11 k6 k36 h1 h2 h3 => by
              refine ⟨left2, _, _, rfl, k6, k36, h1, h2, fun v hv => ?_⟩
              rw [h3 v hv, hleft4 v hv, hsub v]
              cases b
              · simp
              · rw [if_pos rfl, if_pos rfl, if_pos rfl]
                omega
            walk_at "s"
            refine g_ixT (j := i) (k4.tup _ _ hsa) ebv ?_
            walk_at "s"
            rw [sd_out]
            cases b with
            | false =>
              refine iteF ?_
              refine iteF ?_
              walk_at "s"
              refine g_ixT (j := i) (k4.tup _ _ hsa) ebv ?_
              walk_at "s"
              rw [sd_out]
              refine iteF ?_
              refine iteF ?_
              walk_at "s"
              exact nxt left' H5 _ _ k4 k34 hla4 hll4 fun v hv => by simp
            | true =>
              refine iteT ?_
              walk_at "s"
              refine g_ixT (j := 0) ht4 rfl ?_
              walk_at "s"
              refine g_inT hbq4 ?_
              walk_at "s"
              have sel2 : ¬ (memB lot l.a = true ∧ restB W.n (D ++ lot) l.b = true) → ∀ (HG : Prop), (memB lot l.b = true → restB W.n (D ++ lot) l.a = true → HG) → (¬ (memB lot l.b = true ∧ restB W.n (D ++ lot) l.a = true) → HG) → HG := fun _ HG h1 h2 => by
                by_cases z : memB lot l.b = true ∧ restB W.n (D ++ lot) l.a = true
                · exact h1 z.1 z.2
                · exact h2 z
              have getv : ∀ v, v < W.n → left'[v]? = some (left'.getD v 0) := fun v hv => by rw [List.getD_eq_getElem?_getD, List.getElem?_eq_getElem (by rw [hll4]; exact hv)]; rfl
              have setv : ∀ (p : Nat) (hp : p < W.n) (y : Int) (v : Nat), v < W.n → (left'.set p y).getD v 0 = if p = v then y else left'.getD v 0 := fun p hp y v hv => by
                rw [List.getD_eq_getElem?_getD, List.getElem?_set]
                by_cases z : p = v
                · rw [if_pos z, if_pos z, if_pos (by rw [hll4]; exact hp)]
                  rfl
                · rw [if_neg z, if_neg z, ← List.getD_eq_getElem?_getD]
              have dB : ∀ v, decide (v ∈ lot) = memB lot v := fun v => rfl
              by_cases c1 : l.a ∈ lot ∧ l.b ∈ rest'
              · rw [decide_eq_true c1.1]
                refine iteT ?_
                walk_at "s"
                refine g_ixT (j := 1) ht4 rfl ?_
                walk_at "s"
                refine g_inL hra4 ?_
                walk_at "s"
                rw [decide_eq_true c1.2]
                refine iteT ?_
                walk_at "s"
                refine g_ixT (j := 1) ht4 rfl ?_
                refine g_ixL (j := l.b) hla4 (zs_get (getv _ hlol.2.1)) ?_
                walk_at "s"
                refine g_ixT (j := 2) ht4 rfl ?_
                walk_at "s"
                refine g_ixT (j := 1) ht4 rfl ?_
                refine g_setL hla4 (by rw [zs_len, hll4]; exact hlol.2.1) ?_
                walk_at "s"
                rw [← List.map_set]
                refine nxt _ _ _ _ (k4.mutL hla hla4) (k34.trans (.setL hla4 (by simp))) upd_same (by rw [List.length_set]; exact hll4) fun v hv => ?_
                have cnd : memB lot l.a = true ∧ restB W.n (D ++ lot) l.b = true := ⟨memB_iff.mpr c1.1, (hrB _ hlol.2.1).mp c1.2⟩
                rw [setv l.b hlol.2.1 _ v hv, if_pos (show true = true from rfl), if_pos cnd]
                by_cases z : l.b = v
                · rw [if_pos z, if_pos z, ← z]
                · rw [if_neg z, if_neg z]
                  omega
              · have hno : ¬ (memB lot l.a = true ∧ restB W.n (D ++ lot) l.b = true) := fun z => c1 ⟨memB_iff.mp z.1, (hrB _ hlol.2.1).mpr z.2⟩
                have fin2 : ∀ (R0 : Prop), R0 → R0 := fun _ h => h
                have stage : ∀ b0 : Bool, (b0 = true ↔ (l.a ∈ lot ∧ l.b ∈ rest')) → b0 = false := fun b0 hb0 => by
                  cases b0
                  · rfl
                  · exact absurd (hb0.mp rfl) c1
                by_cases d1 : l.a ∈ lot
                · rw [decide_eq_true d1]
                  refine iteT ?_
                  walk_at "s"
                  refine g_ixT (j := 1) ht4 rfl ?_
                  walk_at "s"
                  refine g_inL hra4 ?_
                  walk_at "s"
                  rw [decide_eq_false fun z => c1 ⟨d1, z⟩]
                  refine iteF ?_
                  walk_at "s"
                  refine g_ixT (j := i) (k4.tup _ _ hsa) ebv ?_
                  walk_at "s"
                  rw [sd_out]
                  refine iteT ?_
                  walk_at "s"
                  refine g_ixT (j := 1) ht4 rfl ?_
                  walk_at "s"
                  refine g_inT hbq4 ?_
                  walk_at "s"
                  have hra' : l.a ∉ rest' := fun z => ((hrest3 _).mp z).2 (List.mem_append_right _ d1)
                  have hno2 : ¬ (memB lot l.b = true ∧ restB W.n (D ++ lot) l.a = true) := fun z => hra' ((hrB _ (by omega)).mpr z.2)
                  have skip := nxt left' H5 y10 (some (.ref t)) k4 k34 hla4 hll4 fun v hv => by rw [if_pos (show true = true from rfl), if_neg hno, if_neg hno2]; omega
                  by_cases d2 : l.b ∈ lot
                  · rw [decide_eq_true d2]
                    refine iteT ?_
                    walk_at "s"
                    refine g_ixT (j := 0) ht4 rfl ?_
                    walk_at "s"
                    refine g_inL hra4 ?_
                    walk_at "s"
                    rw [decide_eq_false hra']
                    refine iteF ?_
                    walk_at "s"
                    exact skip
                  · rw [decide_eq_false d2]
                    refine iteF ?_
                    refine iteF ?_
                    walk_at "s"
                    exact skip
                · rw [decide_eq_false d1]
                  refine iteF ?_
                  refine iteF ?_
                  walk_at "s"
                  refine g_ixT (j := i) (k4.tup _ _ hsa) ebv ?_
                  walk_at "s"
                  rw [sd_out]
                  refine iteT ?_
                  walk_at "s"
                  refine g_ixT (j := 1) ht4 rfl ?_
                  walk_at "s"
                  refine g_inT hbq4 ?_
                  walk_at "s"
                  have hla' : l.a < W.n := by omega
                  by_cases d2 : l.b ∈ lot
                  · rw [decide_eq_true d2]
                    refine iteT ?_
                    walk_at "s"
                    refine g_ixT (j := 0) ht4 rfl ?_
                    walk_at "s"
                    refine g_inL hra4 ?_
                    walk_at "s"
                    by_cases d3 : l.a ∈ rest'
                    · rw [decide_eq_true d3]
                      refine iteT ?_
                      walk_at "s"
                      refine g_ixT (j := 0) ht4 rfl ?_
                      refine g_ixL (j := l.a) hla4 (zs_get (getv _ hla')) ?_
                      walk_at "s"
                      refine g_ixT (j := 2) ht4 rfl ?_
                      walk_at "s"
                      refine g_ixT (j := 0) ht4 rfl ?_
                      refine g_setL hla4 (by rw [zs_len, hll4]; exact hla') ?_
                      walk_at "s"
                      rw [← List.map_set]
                      refine nxt _ _ _ _ (k4.mutL hla hla4) (k34.trans (.setL hla4 (by simp))) upd_same (by rw [List.length_set]; exact hll4) fun v hv => ?_
                      have cnd : memB lot l.b = true ∧ restB W.n (D ++ lot) l.a = true := ⟨memB_iff.mpr d2, (hrB _ hla').mp d3⟩
                      rw [setv l.a hla' _ v hv, if_pos (show true = true from rfl), if_neg hno, if_pos cnd]
                      by_cases z : l.a = v
                      · rw [if_pos z, if_pos z, ← z]
                      · rw [if_neg z, if_neg z]
                        omega
                    · rw [decide_eq_false d3]
                      refine iteF ?_
                      walk_at "s"
                      exact nxt left' H5 _ _ k4 k34 hla4 hll4 fun v hv => by rw [if_pos (show true = true from rfl), if_neg hno, if_neg fun z => d3 ((hrB _ hla').mpr z.2)]; omega
                  · rw [decide_eq_false d2]
                    refine iteF ?_
                    refine iteF ?_
                    walk_at "s"
                    exact nxt left' H5 _ _ k4 k34 hla4 hll4 fun v hv => by rw [if_pos (show true = true from rfl), if_neg hno, if_neg fun z => d2 (memB_iff.mp z.1)]; omega
          · obtain ⟨left', y10, y11, rfl, k4, k34, hla4, hll4, hleft4⟩ := hx
            rw [List.length_map, hl.1, List.take_length] at hleft4
            refine ⟨D ++ lot, lots ++ [lot], rest', left', _, _, _, _, rfl, k4, hla4, hll4, k34.keep _ _ hra3 (by simpa using nlr.symm), hrnd3, hrest3, k34.keep _ _ hjo3 (by simpa using nlj.symm), fun v hv hrv => ?_, hDlt2, hpe2⟩
            show left'.getD v 0 = _
            rw [hleft4 v hv]
            have h1 := hlok v hv (restB_iff.mpr ⟨hv, fun z => (restB_iff.mp hrv).2 (List.mem_append_left _ z)⟩)
            have h1 : left.getD v 0 = purseR (restB W.n D) W.ls near v := h1
            rw [h1, hgone v hrv]
            omega
    · obtain ⟨D, lots, rest, left, y8, y9, y10, y11, rfl, k1, hla1, hll, hra1, hrnd, hrest, hjo1, hlok, hDlt, hpe⟩ := hx
      rw [List.drop_of_length_le (by rw [List.length_zip]; omega), show peelL W near [] D = [] from rfl, List.append_nil] at hpe
      walk_at "s"
      refine g_tupL hjo1 fun t ht => ?_
      rw [hpe]
      exact q t _ (k1.nnew ht) upd_same
theorem sc_law_classes : FnScope ["_law_mosts_here", "_law_coins", "_law_joining", "_law_house", "_law_own", "_law_one"] ["_law_mosts_here", "_law_coins"] (defScope s_law_classes) := ⟨rfl, rfl, rfl, by decide +kernel, rfl, by decide +kernel, by decide +kernel⟩
def sp_law_classes : Sp := fun vs H Q _ => ∃ (W : Wb) (M : Addr) (p : Nat → Int) (m : Nat → Nat → Int) (c : Int), vs = [.ref M, .int c] ∧ WebOk W ∧ MostsAt [] H M W.n m ∧ MOk W p m ∧ 1 ≤ c ∧ ∀ (xs : List Nat) (q : Addr) (H' : Hp), Ex H H' → IsClass W.n (Both W p c) xs → H' q = some (.tup (zs (hs xs))) → Q (.ref q) H'
theorem least_both {W : Wb} {p : Nat → Int} {i j : Nat} {x y c : Int} (h1 : IsLeast W p i j x) (h2 : IsLeast W p j i y) : (c ≤ x ∧ c ≤ y) ↔ Both W p c i j := by
  constructor
  · rintro ⟨a, b⟩
    exact ⟨fun X x1 x2 => Int.le_trans a (h1.2 X x1 x2), fun X x1 x2 => Int.le_trans b (h2.2 X x1 x2)⟩
  · rintro ⟨a, b⟩
    obtain ⟨⟨X, x1, x2, x3⟩, _⟩ := h1
    obtain ⟨⟨Y, y1, y2, y3⟩, _⟩ := h2
    exact ⟨by rw [← x3]; exact a X x1 x2, by rw [← y3]; exact b Y y1 y2⟩
theorem ok_law_classes (F : Fun K "_law_classes" "_law_classes" s_law_classes f fd) (T : Txt mg) : FnOk P w K mg base CX0 1 f fd ["_law_mosts_here", "_law_coins"] sp_law_classes := by
  have sc := sc_law_classes
  refine F.ok sc (fun vs H Q E h => ?_) (fun cdv A outer s H vs Q E hr h => ?_)
  · obtain ⟨W, M, p, m, c, rfl, _⟩ := h
    rfl
  · obtain ⟨W, M, p, m, c, rfl, ok, hm, hmok, hc, q⟩ := h
    have hn8 := ok.2.1
    obtain ⟨ts, _, _, hM, htl, hrow⟩ := id hm
    refine ⟨_, (pss_cons (ps_set (i := 2) sc.nd rfl (by first | exact Or.inl rfl | exact Or.inr rfl) (pe_lst pa_nil))
      (pss_cons (ps_for PassesOwn.never rfl (pi_range1 (by rfl) T.range (pa_cons (pe_callB (kq_len (K := K) rfl) (by rfl) T.len (by decide +kernel) (pa_cons (pv 0) pa_nil)) pa_nil)) (pg_name (i := 3) sc.nd rfl (by first | exact Or.inl rfl | exact Or.inr rfl))
        (pss_cons (ps_setLc (i := 4) (own := [("_law_one", 5)]) rfl sc.nd rfl rfl (sw_true rfl rfl rfl (by decide +kernel)) (pi_range1 (by rfl) T.range (pa_cons (pv 3) pa_nil)) (blkOk_by (N := ["_law_mosts_here", "_law_coins", "_law_joining", "_law_house", "_law_own", "_law_one"]) (sc := defScope s_law_classes) (by decide +kernel)) (fun _ _ _ _ _ => (pg_name (i := 5) sc.nd rfl (by first | exact Or.inl rfl | exact Or.inr rfl))) (fun _ _ _ _ _ => (pts_one (PW.pt (pw_and (pt_cmpR op_ge (pe_ix (kx_list (K := K) rfl) (pe_ix (kx_list (K := K) rfl) (pv 0) (pv 5) (fun _ _ => rfl)) (pv 3) (fun _ _ => rfl)) (pv 1) (nomark _)) (pw_and1 (pt_cmpR op_ge (pe_ix (kx_list (K := K) rfl) (pe_ix (kx_list (K := K) rfl) (pv 0) (pv 3) (fun _ _ => rfl)) (pv 5) (fun _ _ => rfl)) (pv 1) (nomark _))))))) (fun _ _ _ _ _ => (pv 5)))
        (pss_one (ps_expr (pe_bm PySem.F.plainAttrs_list PySem.F.slot_list_append PySem.F.type_list_append mt_append (pv 2) (pa_cons (pe_callB (kr_min (K := K) rfl rfl) (by rfl) T.min (by decide +kernel) (pa_cons (pe_op op_cat (pv 4) (pe_lst (pa_cons (pv 3) pa_nil))) pa_nil)) pa_nil))))))
      (pss_one (ps_ret (pe_callTy (kq_tup (K := K) rfl) (by rfl) T.tuple (by decide +kernel) (pa_cons (pv 2) pa_nil)))))), ?_⟩
    walk_at "s"
    refine ⟨sz, fun J hJ => ?_⟩
    walk_at "s"
    have kJ : Ex H (upd H J (.lst [])) := .new hJ
    refine g_lenL (kJ.keep _ _ hM List.not_mem_nil) ?_
    walk_at "s"
    rw [List.length_map, htl]
    refine ⟨_, rfl, by omega, by omega, ?_⟩
    refine for_range (n := W.n) (fun i σ H' => ∃ (xs : List Nat) (y3 y4 y5 : Option V), σ = [some (.ref M), some (.int c), some (.ref J), y3, y4, y5] ∧ Ex H H' ∧ H' J = some (.lst (zs (hs xs))) ∧ IsClass i (Both W p c) xs) ⟨[], _, _, _, rfl, kJ, upd_same, rfl, fun v hv => absurd hv (Nat.not_lt_zero v)⟩ (fun i σ H1 hi hx => ?_) (fun σ H1 hx => ?_)
    · obtain ⟨xs, y3, y4, y5, rfl, k1, hJ1, cl⟩ := hx
      rw [show ((0 : Int) + (i : Int)) = (i : Int) from Int.zero_add _]
      walk_at "s"
      refine ⟨_, rfl, by omega, by omega, fun D hD => ?_⟩
      refine lc_range (n := i) (fun j H' => Ex H1 H' ∧ ∃ os : List Nat, H' D = some (.lst (zs (hs os))) ∧ os.length ≤ j ∧ ∀ v, v ∈ os ↔ v < j ∧ Both W p c v i) ⟨.new hD, [], upd_same, Nat.le_refl _, fun v => ⟨fun h => absurd h List.not_mem_nil, fun h => absurd h.1 (Nat.not_lt_zero v)⟩⟩ (fun j H2 hj hx => ?_) (fun H2 hx => ?_)
      · obtain ⟨k2, os, hD2, hol, hos⟩ := hx
        rw [show ((0 : Int) + (j : Int)) = (j : Int) from Int.zero_add _]
        have k12 := k1.trans k2
        obtain ⟨xj, tj, e1, e2, e3⟩ := (hm.kp k12).get (show j < W.n by omega)
        obtain ⟨xi, ti, f1, f2, f3⟩ := (hm.kp k12).get hi
        have hb := least_both (c := c) ((hmok j i (by omega) hi).2 (by omega)) ((hmok i j hi (by omega)).2 (by omega))
        have skip : ¬ Both W p c j i → Ex H1 H2 ∧ ∃ os : List Nat, H2 D = some (.lst (zs (hs os))) ∧ os.length ≤ j + 1 ∧ ∀ v, v ∈ os ↔ v < j + 1 ∧ Both W p c v i := fun hno => by
          refine ⟨k2, os, hD2, by omega, fun v => ?_⟩
          rw [hos v]
          constructor
          · rintro ⟨a, b⟩
            exact ⟨by omega, b⟩
          · rintro ⟨a, b⟩
            refine ⟨?_, b⟩
            rcases Nat.lt_succ_iff_lt_or_eq.mp a with z | z
            · exact z
            · subst z
              exact absurd b hno
        walk_at "s"
        refine ⟨rfl, ?_⟩
        walk_at "s"
        refine g_ixL (j := j) e1 e2 ?_
        walk_at "s"
        refine g_ixL (j := i) e3 (mget hi) ?_
        walk_at "s"
        refine ite2 (fun e => ?_) (fun e => ?_)
        · have e := of_decide_eq_true e
          walk_at "s"
          refine g_ixL (j := i) f1 f2 ?_
          walk_at "s"
          refine g_ixL (j := j) f3 (mget (by omega)) ?_
          walk_at "s"
          refine ite2 (fun e' => ?_) (fun e' => ?_)
          · have e' := of_decide_eq_true e'
            walk_at "s"
            refine ⟨_, hD2, small1000 (by rw [zs_len, hs_len]; omega), k2.mutL hD hD2, os ++ [j], by rw [upd_same]; simp [zs, hs], by rw [List.length_append]; show os.length + 1 ≤ _; omega, fun v => ?_⟩
            rw [List.mem_append, List.mem_singleton, hos v]
            constructor
            · rintro (⟨a, b⟩ | rfl)
              · exact ⟨by omega, b⟩
              · exact ⟨by omega, hb.mp ⟨e, e'⟩⟩
            · rintro ⟨a, b⟩
              rcases Nat.lt_succ_iff_lt_or_eq.mp a with z | z
              · exact .inl ⟨z, b⟩
              · exact .inr z
          · exact skip fun z => e' (decide_eq_true (hb.mpr z).2)
        · refine iteF ?_
          exact skip fun z => e (decide_eq_true (hb.mpr z).1)
      · obtain ⟨k2, os, hD2, hol, hos⟩ := hx
        have hJ2 := k2.keep _ _ hJ1 List.not_mem_nil
        walk_at "s"
        refine g_ty hJ2 ?_
        walk_at "s"
        refine ⟨sz, fun z hz => ?_⟩
        have kz : Ex H2 (upd H2 z (.lst [.int (i : Int)])) := .new hz
        refine ⟨D, z, _, _, rfl, rfl, kz.keep _ _ hD2 List.not_mem_nil, upd_same, ?_, fun z2 hz2 => ?_⟩
        · rw [zs_len, hs_len]
          have := small1000 (n := 20) (by omega)
          show os.length + 1 ≤ _
          omega
        have kz2 := kz.nnew (o := .lst (zs (hs os) ++ [.int (i : Int)])) hz2
        have ee : zs (hs os) ++ [V.int (i : Int)] = zs (hs (os ++ [i])) := by simp [zs, hs]
        refine ⟨z2, hs (os ++ [i]), rfl, .of (by rw [upd_same, ee]), by rw [hs_len, List.length_append]; exact Nat.succ_pos _, fun mm hmm hmin => ?_⟩
        obtain ⟨mn, hmn, rfl⟩ := List.mem_map.mp hmm
        have hJ4 := kz2.keep _ _ hJ2 List.not_mem_nil
        walk_at "s"
        refine g_app hJ4 (by rw [zs_len, hs_len, cl.1]; omega) ?_
        walk_at "s"
        refine ⟨xs ++ [mn], _, _, _, rfl, (k1.trans (k2.trans kz2)).mutL hJ hJ4, by rw [upd_same]; simp [zs, hs], cl.snoc ?_ ?_ fun m' hm' r => ?_⟩
        · rcases List.mem_append.mp hmn with z | z
          · have := (hos mn).mp z
            omega
          · rw [List.mem_singleton.mp z]
            exact Nat.le_refl _
        · rcases List.mem_append.mp hmn with z | z
          · exact .inr ((hos mn).mp z).2
          · exact .inl (List.mem_singleton.mp z)
        · have hle : mn ≤ i := by
            rcases List.mem_append.mp hmn with z | z
            · have := (hos mn).mp z
              omega
            · rw [List.mem_singleton.mp z]
              exact Nat.le_refl _
          have := hmin (m' : Int) (List.mem_map.mpr ⟨m', List.mem_append_left _ ((hos m').mpr ⟨by omega, r⟩), rfl⟩)
          omega
    · obtain ⟨xs, y3, y4, y5, rfl, k1, hJ1, cl⟩ := hx
      walk_at "s"
      refine g_tupL hJ1 fun t ht => ?_
      exact q xs t _ (k1.nnew ht) cl upd_same
end
end K8
set_option Elab.async false
set_option linter.all false
set_option maxRecDepth 100000
set_option maxHeartbeats 4000000
namespace K8
open PySem PySem.Spec PyProof.Rows L2
local macro_rules | `(tactic| walk_at "s") => `(tactic| repeat (first
  | with_reducible refine g_seq ?_ | with_reducible refine g_ret ?_ | with_reducible refine g_asg ?_ | with_reducible refine g_name ?_ | with_reducible refine g_c ?_ | with_reducible refine g_op ?_ | with_reducible refine g_cons ?_ | with_reducible refine g_nil ?_
  | (with_reducible show tVar _ _ _ _; refine g_var rfl ?_) | with_reducible refine g_cb ?_ | with_reducible refine g_call ?_ | with_reducible refine g_if ?_ | with_reducible refine g_test ?_ | with_reducible refine g_tB ?_ | with_reducible refine g_i0 ?_ | with_reducible refine g_bl ?_
  | with_reducible refine g_add ?_ | with_reducible refine g_sub ?_ | with_reducible refine g_eqI ?_ | with_reducible refine g_neI ?_ | with_reducible refine g_drop ?_ | with_reducible refine g_next ?_ | with_reducible refine g_break ?_ | with_reducible refine g_un ?_ | with_reducible refine g_u ?_
  | with_reducible refine g_ifE ?_ | with_reducible refine g_and ?_ | with_reducible refine g_or ?_ | with_reducible refine g_not ?_ | with_reducible refine g_andV ?_ | with_reducible refine g_orV ?_ | with_reducible refine g_notV ?_ | with_reducible refine g_isN ?_ | with_reducible refine g_notN ?_
  | with_reducible refine g_gnil ?_ | with_reducible refine g_gcons ?_ | with_reducible refine g_bm ?_ | with_reducible refine g_abs ?_ | with_reducible refine g_max ?_ | with_reducible refine g_min ?_ | with_reducible refine g_int ?_ | with_reducible refine g_lc ?_ | with_reducible refine g_for ?_ | with_reducible refine g_yes ?_ | with_reducible refine g_rng1 ?_ | with_reducible refine g_rng2 ?_ | with_reducible refine g_il ?_ | with_reducible refine g_it ?_ | with_reducible refine g_en ?_ | with_reducible refine g_zp ?_ | with_reducible refine g_mkT ?_ | with_reducible refine g_mkL ?_ | with_reducible refine g_augS ?_ | (with_reducible show tAug _ _ _ _ _ _; refine g_aug rfl ?_) | with_reducible refine g_ipI ?_ | with_reducible refine g_gsub ?_ | with_reducible refine g_dget ?_ | with_reducible refine g_din ?_ | with_reducible refine g_dnotin ?_ | with_reducible refine g_dput ?_ | with_reducible refine g_dc ?_ | with_reducible refine g_sl ?_ | with_reducible refine g_nopart ?_ | with_reducible refine g_part ?_ | with_reducible refine g_exI ?_ | with_reducible refine g_revL ?_ | (with_reducible show iSq _ _ _ _; refine g_sq rfl ?_) | with_reducible refine g_while ?_ | with_reducible refine g_min3 ?_ | with_reducible refine g_trq ?_ | with_reducible refine g_lock ?_ | with_reducible refine g_mko ?_ | with_reducible refine g_keys ?_ | with_reducible refine g_eqS ?_ | with_reducible refine g_lrg ?_ | with_reducible refine g_trg ?_ | with_reducible refine g_rg1 ?_ | with_reducible refine g_cut ?_ | with_reducible refine g_disp ?_ | with_reducible refine g_dnew ?_ | with_reducible refine iteT ?_ | with_reducible refine iteF ?_))
/-! ### keywords alone, in the parameters' order turned -/
def gR {α : Type} (us ws : List α) : List α := if us.isEmpty = true then ws.reverse else []
theorem revVals : ∀ {zs : List V} {ws : List Value}, Vals zs ws → Vals zs.reverse ws.reverse := by
  intro zs ws h
  have app : ∀ {a b : List V} {c d : List Value}, Vals a c → Vals b d → Vals (a ++ b) (c ++ d) := by
    intro a b c d h1 h2
    induction h1 with
    | nil => exact h2
    | cons x _ ih => exact .cons x ih
  induction h with
  | nil => exact .nil
  | cons x _ ih =>
    rw [List.reverse_cons, List.reverse_cons]
    exact app ih (.cons x .nil)
theorem gR_rel {vs : List V} {us : List Value} {zs : List V} {ws : List Value} (h1 : Vals vs us) (h2 : Vals zs ws) : Vals (gR vs zs) (gR us ws) := by
  cases h1 with
  | nil => exact revVals h2
  | cons _ _ => exact .nil
theorem kb3 {K : PySem.W.Frag} {x q a b c : Str} {st : Stmt} {f : Addr} {fd : FuncData} (F : Fun K x q st f fd)
    (h : ∀ (kV doc pm : Value) (an : Option Addr) (cdv ct w1 w2 w3 : Value), bindArgs (PySem.W.fnOf x q (defArgs st) (defBody st) (defScope st) .none kV doc pm an cdv ct) ⟨[], [c, b, a].zip [w1, w2, w3]⟩ = pure ([a, b, c].zip [w3, w2, w1])) : KBinds K fd [a, b, c] [c, b, a] gR gR := by
  obtain ⟨oc, od, kV, doc, pm, an, cdv, ct, osl, rfl, lk, hcd⟩ := F.ex
  refine ⟨fun s us ws _ hl => ?_, gR_rel⟩
  cases us with
  | cons x r => exact absurd hl (by intro z; cases z)
  | nil =>
    have : ∃ w1 w2 w3, ws = [w1, w2, w3] := by
      have hl : ws.reverse.length = 3 := hl
      rw [List.length_reverse] at hl
      match ws, hl with
      | [w1, w2, w3], _ => exact ⟨w1, w2, w3, rfl⟩
    obtain ⟨w1, w2, w3, rfl⟩ := this
    exact .of_eq (h kV doc pm an cdv ct w1 w2 w3)
theorem kb4 {K : PySem.W.Frag} {x q a b c d : Str} {st : Stmt} {f : Addr} {fd : FuncData} (F : Fun K x q st f fd)
    (h : ∀ (kV doc pm : Value) (an : Option Addr) (cdv ct w1 w2 w3 w4 : Value), bindArgs (PySem.W.fnOf x q (defArgs st) (defBody st) (defScope st) .none kV doc pm an cdv ct) ⟨[], [d, c, b, a].zip [w1, w2, w3, w4]⟩ = pure ([a, b, c, d].zip [w4, w3, w2, w1])) : KBinds K fd [a, b, c, d] [d, c, b, a] gR gR := by
  obtain ⟨oc, od, kV, doc, pm, an, cdv, ct, osl, rfl, lk, hcd⟩ := F.ex
  refine ⟨fun s us ws _ hl => ?_, gR_rel⟩
  cases us with
  | cons x r => exact absurd hl (by intro z; cases z)
  | nil =>
    have : ∃ w1 w2 w3 w4, ws = [w1, w2, w3, w4] := by
      have hl : ws.reverse.length = 4 := hl
      rw [List.length_reverse] at hl
      match ws, hl with
      | [w1, w2, w3, w4], _ => exact ⟨w1, w2, w3, w4, rfl⟩
    obtain ⟨w1, w2, w3, w4, rfl⟩ := this
    exact .of_eq (h kV doc pm an cdv ct w1 w2 w3 w4)
structure CalK (P : Program) (w : World) (K : PySem.W.Frag) (mg : Str → Option Value) (base : Heap) (k : Nat) (x : Str) (ps ks : List Str) (sp : Sp) : Prop where
  ex : ∃ (f : Addr) (fd : FuncData), FnOk P w K mg base (L2.CX P w) k f fd ps sp ∧ mg x = some (.ref f) ∧ PySem.W.keepIn K (.ref f) = true ∧ KBinds K fd ps ks gR gR
section
variable {X : Cx} {k j : Nat} {sp : Sp} {E : XK} {x : Str} {ps ks : List Str} {p pos : Pos} {kws : List Keyword} {tk : TA}
theorem pe_kx (c : CalK X.prog X.w X.K X.mg X.base k x ps ks sp) (hr : Room j X.A) (hk : k ≤ j) (hg : Gl X x) (hx : Passes (L2.CX X.prog X.w) X E) (hkw : PK X kws tk)
    (hall : (backToKw pos (keywordEach kws X.env)).all (·.1.isSome) = true := by rfl) (hks : (backToKw pos (keywordEach kws X.env)).filterMap (·.1) = ks := by rfl)
    (hdb : (x == ("__debug__" : Str)) = false := by decide)
    (hpl : ((backTo pos (starEach [] X.env)).any (·.1) || (backToKw pos (keywordEach kws X.env)).any (·.1.isNone)) = false := by rfl) :
    PE X (.Call (.Name x p) [] kws pos) (tCallK sp gR E tNil tk) := by
  obtain ⟨f, fd, F, hm, kp, b⟩ := c.ex
  exact pe_callK0 F (hr.mono hk) hg hm kp b hx hkw hall hks hdb hpl
end
/-! ### what is asked and told -/
def ReqA (W : Wb) (d1 d3 : PyData) (RT : List Int → Prop) (RO : Str → Prop) : Nat → Prop
  | 0 => (∃ ps, GoodP W d1 ps ∧ (∀ h : Nat, d3 = .int h → h < W.n → ∀ xs, IsSet W.n xs (fun v => Reaches W (fun v => ps.getD v 0) h v) → RT (hs xs)) ∧ (isH W.n d3 = false → RO "house")) ∨ (BadP W d1 ∧ RO "purses")
  | 1 => (∃ ps, GoodP W d1 ps ∧ (∀ h : Nat, d3 = .int h → h < W.n → ∀ xs, IsSet W.n xs (fun v => Reaches W (fun v => ps.getD v 0) v h) → RT (hs xs)) ∧ (isH W.n d3 = false → RO "house")) ∨ (BadP W d1 ∧ RO "purses")
  | 2 => (∃ ps, GoodP W d1 ps ∧ (∀ os, IsOrd W.n d3 os → ∀ near, Split W.ls near → (∀ v, v < W.n → ps.getD v 0 = purse W.ls near v) → RT (joinOf W.n (peelL W near (os.zip (List.replicate W.n true)) []))) ∧ ((¬ ∃ os, IsOrd W.n d3 os) → RO "order")) ∨ (BadP W d1 ∧ RO "purses")
  | 3 => (∃ ps, GoodP W d1 ps ∧ (∀ c : Int, d3 = .int c → 1 ≤ c → ∀ xs, IsClass W.n (Both W (fun v => ps.getD v 0) c) xs → RT (hs xs)) ∧ (isC d3 = false → RO "coins")) ∨ (BadP W d1 ∧ RO "purses")
  | _ => ∃ d30 d31 r, d3 = .tuple (d30 :: d31 :: r) ∧ ((∃ ps, GoodP W d1 ps ∧ (∀ os bs, IsOrd W.n d30 os → IsSides W.n d31 bs → ∀ near, Split W.ls near → (∀ v, v < W.n → ps.getD v 0 = purse W.ls near v) → RT (joinOf W.n (peelL W near (os.zip bs) []))) ∧ ((¬ ∃ os, IsOrd W.n d30 os) → RO "order") ∧ ((∃ os, IsOrd W.n d30 os) → (¬ ∃ bs, IsSides W.n d31 bs) → RO "sides")) ∨ (BadP W d1 ∧ RO "purses"))
theorem reqA_imp {W : Wb} {d1 d3 : PyData} {RT RT' : List Int → Prop} {RO RO' : Str → Prop} (h1 : ∀ ys, RT ys → RT' ys) (h2 : ∀ x, RO x → RO' x) : ∀ {j : Nat}, j < 5 → ReqA W d1 d3 RT RO j → ReqA W d1 d3 RT' RO' j
  | 0, _, h => (show _ ∨ _ from h).imp (fun ⟨ps, g, a, b⟩ => ⟨ps, g, fun x e hx xs hxs => h1 _ (a x e hx xs hxs), fun e => h2 _ (b e)⟩) fun ⟨b, o⟩ => ⟨b, h2 _ o⟩
  | 1, _, h => (show _ ∨ _ from h).imp (fun ⟨ps, g, a, b⟩ => ⟨ps, g, fun x e hx xs hxs => h1 _ (a x e hx xs hxs), fun e => h2 _ (b e)⟩) fun ⟨b, o⟩ => ⟨b, h2 _ o⟩
  | 2, _, h => (show _ ∨ _ from h).imp (fun ⟨ps, g, a, b⟩ => ⟨ps, g, fun os e near hs hp => h1 _ (a os e near hs hp), fun e => h2 _ (b e)⟩) fun ⟨b, o⟩ => ⟨b, h2 _ o⟩
  | 3, _, h => (show _ ∨ _ from h).imp (fun ⟨ps, g, a, b⟩ => ⟨ps, g, fun x e hx xs hxs => h1 _ (a x e hx xs hxs), fun e => h2 _ (b e)⟩) fun ⟨b, o⟩ => ⟨b, h2 _ o⟩
  | 4, _, ⟨d30, d31, r, e, h⟩ => ⟨d30, d31, r, e, (show _ ∨ _ from h).imp (fun ⟨ps, g, a, b, c⟩ => ⟨ps, g, fun os bs e1 e2 near hs hp => h1 _ (a os bs e1 e2 near hs hp), fun e => h2 _ (b e), fun e1 e2 => h2 _ (c e1 e2)⟩) fun ⟨b, o⟩ => ⟨b, h2 _ o⟩⟩
  | _ + 5, hlt, _ => absurd hlt (by omega)
theorem g_callS {sp : Sp} {E : L2.St → XK} {t : TA} {σ : L2.St} {H : Hp} {Q : VK} (h : t σ H fun vs H1 => sp vs H1 Q (E σ)) : tCallS sp E t σ H Q := h
theorem g_xf {a C : Addr} {cls : Value} {d : Option Addr} {f : Str} {te : TE} {σ : L2.St} {H : Hp} {Q : VK} (h : te σ H fun x H1 => x = .ref a ∧ cls = .ref C ∧ ∃ (dd : Addr) (fs : List (Str × V)) (v : V), d = some dd ∧ H1 dd = some (.xd fs) ∧ fs.lookup f = some v ∧ Q v H1) : tXf a cls d C f te σ H Q := h
theorem g_callK {sp : Sp} {gV : List V → List V → List V} {E : XK} {t tk : TA} {σ : L2.St} {H : Hp} {Q : VK} (h : t σ H fun vs H1 => tk σ H1 fun zs H2 => sp (gV vs zs) H2 Q E) : tCallK sp gV E t tk σ H Q := h
section
variable {P : Program} {w : World} {K : PySem.W.Frag} {mg : Str → Option Value} {base : Heap} {f : Addr} {fd : FuncData} {k : Nat}
theorem sc_law_asked : FnScope ["_law_what", "_law_web_here", "_law_row", "_law_thing"] ["_law_what", "_law_web_here", "_law_row", "_law_thing"] (defScope s_law_asked) := ⟨rfl, rfl, rfl, by decide +kernel, rfl, by decide +kernel, by decide +kernel⟩
def sp_law_asked (K : PySem.W.Frag) : Sp := fun vs H Q E => ∃ (W : Wb) (u v1 v3 : V) (S1 S3 : List Addr) (d1 d3 : PyData) (j : Nat) (what : Int), vs = [.int what, u, v1, v3] ∧ (what = j ∨ what = j + 5) ∧ j < 5 ∧ WebAt H u W ∧ WebOk W ∧ Da S1 H v1 d1 ∧ Da S3 H v3 d3 ∧
  ReqA W d1 d3 (fun ys => ∀ (q : Addr) (H' : Hp), Ex H H' → H' q = some (.tup (zs ys)) → Q (.ref q) H') (fun x => Out K [] H E x) j
theorem ok_law_asked (F : Fun K "_law_asked" "_law_asked" s_law_asked f fd) (T : Txt mg)
    (c_reach_of : CalX P w K mg base 5 "reach_of" ["web", "purses", "house"] (sp_reach_of K false)) (c_payers_of : CalX P w K mg base 5 "payers_of" ["web", "purses", "house"] (sp_reach_of K true)) (c_peel_of : CalX P w K mg base 5 "peel_of" ["web", "purses", "order"] (sp_peel_of K))
    (c_classes_of : CalX P w K mg base 5 "classes_of" ["web", "purses", "coins"] (sp_classes_of K)) (c_peel_either : CalX P w K mg base 5 "peel_either" ["web", "purses", "order", "sides"] (sp_peel_either K))
    (ck_reach_of : CalK P w K mg base 5 "reach_of" ["web", "purses", "house"] ["house", "purses", "web"] (sp_reach_of K false)) (ck_payers_of : CalK P w K mg base 5 "payers_of" ["web", "purses", "house"] ["house", "purses", "web"] (sp_reach_of K true)) (ck_peel_of : CalK P w K mg base 5 "peel_of" ["web", "purses", "order"] ["order", "purses", "web"] (sp_peel_of K))
    (ck_classes_of : CalK P w K mg base 5 "classes_of" ["web", "purses", "coins"] ["coins", "purses", "web"] (sp_classes_of K)) (ck_peel_either : CalK P w K mg base 5 "peel_either" ["web", "purses", "order", "sides"] ["sides", "order", "purses", "web"] (sp_peel_either K)) :
    FnOk P w K mg base (L2.CX P w) 6 f fd ["_law_what", "_law_web_here", "_law_row", "_law_thing"] (sp_law_asked K) := by
  have sc := sc_law_asked
  refine F.okX sc (fun vs H Q E h => ?_) (fun cdv A outer s H vs Q E hr h => ?_)
  · obtain ⟨W, u, v1, v3, S1, S3, d1, d3, j, what, rfl, _⟩ := h
    rfl
  · obtain ⟨W, u, v1, v3, S1, S3, d1, d3, j, what, rfl, hj, hj5, hw, ok, hd1, hd3, hreq⟩ := h
    have f0 : ReqA W d1 d3 (fun ys => ∀ (q : Addr) (H' : Hp), Ex H H' → H' q = some (.tup (zs ys)) → Q (.ref q) H') (fun x => Out K [] H E x) 0 → ∃ (W : Wb) (u' v1' v2 : V) (S1 S2 : List Addr) (d1 d2 : PyData), [u, v1, v3] = [u', v1', v2] ∧ WebAt H u' W ∧ WebOk W ∧ Da S1 H v1' d1 ∧ Da S2 H v2 d2 ∧
        ((∃ ps, GoodP W d1 ps ∧ (∀ h : Nat, d2 = .int h → h < W.n → ∀ xs, IsSet W.n xs (fun v => if false = true then Reaches W (fun v => ps.getD v 0) v h else Reaches W (fun v => ps.getD v 0) h v) → NewT H Q xs) ∧ (isH W.n d2 = false → Out K [] H E "house")) ∨ (BadP W d1 ∧ Out K [] H E "purses")) := fun h =>
      ⟨W, u, v1, v3, S1, S3, d1, d3, rfl, hw, ok, hd1, hd3, (show _ ∨ _ from h).imp (fun ⟨ps, g, a, b⟩ => ⟨ps, g, fun x e hx xs hxs => a x e hx xs hxs, b⟩) id⟩
    have f1 : ReqA W d1 d3 (fun ys => ∀ (q : Addr) (H' : Hp), Ex H H' → H' q = some (.tup (zs ys)) → Q (.ref q) H') (fun x => Out K [] H E x) 1 → ∃ (W : Wb) (u' v1' v2 : V) (S1 S2 : List Addr) (d1 d2 : PyData), [u, v1, v3] = [u', v1', v2] ∧ WebAt H u' W ∧ WebOk W ∧ Da S1 H v1' d1 ∧ Da S2 H v2 d2 ∧
        ((∃ ps, GoodP W d1 ps ∧ (∀ h : Nat, d2 = .int h → h < W.n → ∀ xs, IsSet W.n xs (fun v => if true = true then Reaches W (fun v => ps.getD v 0) v h else Reaches W (fun v => ps.getD v 0) h v) → NewT H Q xs) ∧ (isH W.n d2 = false → Out K [] H E "house")) ∨ (BadP W d1 ∧ Out K [] H E "purses")) := fun h =>
      ⟨W, u, v1, v3, S1, S3, d1, d3, rfl, hw, ok, hd1, hd3, (show _ ∨ _ from h).imp (fun ⟨ps, g, a, b⟩ => ⟨ps, g, fun x e hx xs hxs => a x e hx xs hxs, b⟩) id⟩
    have f2 : ReqA W d1 d3 (fun ys => ∀ (q : Addr) (H' : Hp), Ex H H' → H' q = some (.tup (zs ys)) → Q (.ref q) H') (fun x => Out K [] H E x) 2 → sp_peel_of K [u, v1, v3] H Q E := fun h =>
      ⟨W, u, v1, v3, S1, S3, d1, d3, rfl, hw, ok, hd1, hd3, (show _ ∨ _ from h).imp (fun ⟨ps, g, a, b⟩ => ⟨ps, g, fun os e near q H' k hs hp e2 => a os e near hs hp q H' k e2, b⟩) id⟩
    have f3 : ReqA W d1 d3 (fun ys => ∀ (q : Addr) (H' : Hp), Ex H H' → H' q = some (.tup (zs ys)) → Q (.ref q) H') (fun x => Out K [] H E x) 3 → sp_classes_of K [u, v1, v3] H Q E := fun h =>
      ⟨W, u, v1, v3, S1, S3, d1, d3, rfl, hw, ok, hd1, hd3, (show _ ∨ _ from h).imp (fun ⟨ps, g, a, b⟩ => ⟨ps, g, fun x e hx xs hxs => a x e hx xs hxs, b⟩) id⟩
    have f4 : ReqA W d1 d3 (fun ys => ∀ (q : Addr) (H' : Hp), Ex H H' → H' q = some (.tup (zs ys)) → Q (.ref q) H') (fun x => Out K [] H E x) 4 → ∃ (ta : Addr) (x0 x1 : V) (xs : List V), v3 = .ref ta ∧ H ta = some (.tup (x0 :: x1 :: xs)) ∧ sp_peel_either K [u, v1, x0, x1] H Q E := fun ⟨d30, d31, r, e, h⟩ => by
      subst e
      obtain ⟨ta, xs, rfl, hta, hx⟩ := hd3.tup_inv
      cases hx with
      | @cons x0 _ _ _ h0 hx =>
      cases hx with
      | @cons x1 xs2 _ _ h1 hx =>
      exact ⟨ta, x0, x1, xs2, rfl, hta, W, u, v1, x0, x1, S1, S3, S3, d1, d30, d31, rfl, hw, ok, hd1, h0, h1, (show _ ∨ _ from h).imp (fun ⟨ps, g, a, b, c⟩ => ⟨ps, g, fun os bs e1 e2 near q H' k hs hp e3 => a os bs e1 e2 near hs hp q H' k e3, b, c⟩) id⟩
    refine ⟨_, (pss_cons (ps_if (pt_cmpR op_eq (pv 0) pe_int (nomark _))
        (pss_one (ps_ret (pe_cx c_reach_of hr (by decide) (by rfl) (passes_call (takes_of rfl rfl rfl rfl) (fun _ _ _ _ h => h)) (pa_cons (pv 1) (pa_cons (pv 2) (pa_cons (pv 3) pa_nil))))))
        pss_nil)
      (pss_cons (ps_if (pt_cmpR op_eq (pv 0) pe_int (nomark _))
        (pss_one (ps_ret (pe_cx c_payers_of hr (by decide) (by rfl) (passes_call (takes_of rfl rfl rfl rfl) (fun _ _ _ _ h => h)) (pa_cons (pv 1) (pa_cons (pv 2) (pa_cons (pv 3) pa_nil))))))
        pss_nil)
      (pss_cons (ps_if (pt_cmpR op_eq (pv 0) pe_int (nomark _))
        (pss_one (ps_ret (pe_cx c_peel_of hr (by decide) (by rfl) (passes_call (takes_of rfl rfl rfl rfl) (fun _ _ _ _ h => h)) (pa_cons (pv 1) (pa_cons (pv 2) (pa_cons (pv 3) pa_nil))))))
        pss_nil)
      (pss_cons (ps_if (pt_cmpR op_eq (pv 0) pe_int (nomark _))
        (pss_one (ps_ret (pe_cx c_classes_of hr (by decide) (by rfl) (passes_call (takes_of rfl rfl rfl rfl) (fun _ _ _ _ h => h)) (pa_cons (pv 1) (pa_cons (pv 2) (pa_cons (pv 3) pa_nil))))))
        pss_nil)
      (pss_cons (ps_if (pt_cmpR op_eq (pv 0) pe_int (nomark _))
        (pss_one (ps_ret (pe_cx c_peel_either hr (by decide) (by rfl) (passes_call (takes_of rfl rfl rfl rfl) (fun _ _ _ _ h => h)) (pa_cons (pv 1) (pa_cons (pv 2) (pa_cons (pe_ix (kx_tup (K := K) rfl) (pv 3) pe_int (fun _ _ => rfl)) (pa_cons (pe_ix (kx_tup (K := K) rfl) (pv 3) pe_int (fun _ _ => rfl)) pa_nil)))))))
        pss_nil)
      (pss_cons (ps_if (pt_cmpR op_eq (pv 0) pe_int (nomark _))
        (pss_one (ps_ret (pe_kx ck_reach_of hr (by decide) (by rfl) (passes_call (takes_of rfl rfl rfl rfl) (fun _ _ _ _ h => h)) (pk_cons (pv 3) (pk_cons (pv 2) (pk_cons (pv 1) pk_nil))))))
        pss_nil)
      (pss_cons (ps_if (pt_cmpR op_eq (pv 0) pe_int (nomark _))
        (pss_one (ps_ret (pe_kx ck_payers_of hr (by decide) (by rfl) (passes_call (takes_of rfl rfl rfl rfl) (fun _ _ _ _ h => h)) (pk_cons (pv 3) (pk_cons (pv 2) (pk_cons (pv 1) pk_nil))))))
        pss_nil)
      (pss_cons (ps_if (pt_cmpR op_eq (pv 0) pe_int (nomark _))
        (pss_one (ps_ret (pe_kx ck_peel_of hr (by decide) (by rfl) (passes_call (takes_of rfl rfl rfl rfl) (fun _ _ _ _ h => h)) (pk_cons (pv 3) (pk_cons (pv 2) (pk_cons (pv 1) pk_nil))))))
        pss_nil)
      (pss_cons (ps_if (pt_cmpR op_eq (pv 0) pe_int (nomark _))
        (pss_one (ps_ret (pe_kx ck_classes_of hr (by decide) (by rfl) (passes_call (takes_of rfl rfl rfl rfl) (fun _ _ _ _ h => h)) (pk_cons (pv 3) (pk_cons (pv 2) (pk_cons (pv 1) pk_nil))))))
        pss_nil)
      (pss_one (ps_ret (pe_kx ck_peel_either hr (by decide) (by rfl) (passes_call (takes_of rfl rfl rfl rfl) (fun _ _ _ _ h => h)) (pk_cons (pe_ix (kx_tup (K := K) rfl) (pv 3) pe_int (fun _ _ => rfl)) (pk_cons (pe_ix (kx_tup (K := K) rfl) (pv 3) pe_int (fun _ _ => rfl)) (pk_cons (pv 2) (pk_cons (pv 1) pk_nil)))))))))))))))), ?_⟩
    walk_at "s"
    have step : ∀ (n : Nat), n < 5 → True := fun _ _ => trivial
    have hjs : j = 0 ∨ j = 1 ∨ j = 2 ∨ j = 3 ∨ j = 4 := by omega
    rcases hjs with rfl | rfl | rfl | rfl | rfl <;> rcases hj with rfl | rfl
    all_goals repeat (rw [decide_eq_false (by decide)]; refine iteF ?_; walk_at "s")
    all_goals try (rw [decide_eq_true (by decide)]; refine iteT ?_; walk_at "s")
    · exact f0 hreq
    · refine g_callK ?_
      walk_at "s"
      exact f0 hreq
    · exact f1 hreq
    · refine g_callK ?_
      walk_at "s"
      exact f1 hreq
    · exact f2 hreq
    · refine g_callK ?_
      walk_at "s"
      exact f2 hreq
    · exact f3 hreq
    · refine g_callK ?_
      walk_at "s"
      exact f3 hreq
    · obtain ⟨ta, x0, x1, xs, rfl, hta, hf⟩ := f4 hreq
      refine g_ixT (j := 0) hta rfl ?_
      walk_at "s"
      refine g_ixT (j := 1) hta rfl ?_
      exact hf
    · obtain ⟨ta, x0, x1, xs, rfl, hta, hf⟩ := f4 hreq
      refine g_callK ?_
      walk_at "s"
      refine g_ixT (j := 1) hta rfl ?_
      walk_at "s"
      refine g_ixT (j := 0) hta rfl ?_
      walk_at "s"
      exact hf
theorem sc_law_told : FnScope ["_law_what", "_law_web_here", "_law_row", "_law_thing", "e"] ["_law_what", "_law_web_here", "_law_row", "_law_thing"] (defScope s_law_told) := ⟨rfl, rfl, rfl, by decide +kernel, rfl, by decide +kernel, by decide +kernel⟩
def toldD (ys : List Int) : PyData := .tuple [.str "told", .tuple (ys.map PyData.int)]
def notD (x : Str) : PyData := .tuple [.str "not", .str x, .int (-1)]
def sp_law_told : Sp := fun vs H Q _ => ∃ (W : Wb) (u v1 v3 : V) (S1 S3 : List Addr) (d1 d3 : PyData) (j : Nat) (what : Int), vs = [.int what, u, v1, v3] ∧ (what = j ∨ what = j + 5) ∧ j < 5 ∧ WebAt H u W ∧ WebOk W ∧ Da S1 H v1 d1 ∧ Da S3 H v3 d3 ∧
  ReqA W d1 d3 (fun ys => ∀ (q : Addr) (H' : Hp), Ex H H' → Da [] H' (.ref q) (toldD ys) → Q (.ref q) H') (fun x => ∀ (q : Addr) (H' : Hp), Ex H H' → Da [] H' (.ref q) (notD x) → Q (.ref q) H') j
theorem ok_law_told (F : Fun K "_law_told" "_law_told" s_law_told f fd) (T : Txt mg) (NUx : NU K) (gI : mg "NotUsable" = some (.ref (aNU K))) (c_law_asked : CalX P w K mg base 6 "_law_asked" ["_law_what", "_law_web_here", "_law_row", "_law_thing"] (sp_law_asked K)) :
    FnOk P w K mg base CX0 7 f fd ["_law_what", "_law_web_here", "_law_row", "_law_thing"] sp_law_told := by
  have sc := sc_law_told
  refine F.ok sc (fun vs H Q E h => ?_) (fun cdv A outer s H vs Q E hr h => ?_)
  · obtain ⟨W, u, v1, v3, S1, S3, d1, d3, j, what, rfl, _⟩ := h
    rfl
  · obtain ⟨W, u, v1, v3, S1, S3, d1, d3, j, what, rfl, hj, hj5, hw, ok, hd1, hd3, hreq⟩ := h
    refine ⟨_, (pss_one (ps_try_as (i := 4) rfl rfl sc.nd rfl rfl ⟨rfl, by decide, Or.inl gI⟩ takes0
        (fun W pn xe tk _ => (pss_one (ps_ret (pe_tup (pa_cons pe_str (pa_cons (pe_cxS c_law_asked hr (by decide) (by rfl) tk (pa_cons (pv 0) (pa_cons (pv 1) (pa_cons (pv 2) (pa_cons (pv 3) pa_nil))))) pa_nil))))))
        (fun a oe cls d pn hz hf => (pss_one (ps_ret (pe_tup (pa_cons pe_str (pa_cons (pe_xf NUx.xf NUx.nW hz hf (pv 4)) (pa_cons (pe_xf NUx.xf NUx.nA hz hf (pv 4)) pa_nil))))))))), ?_⟩
    walk_at "s"
    refine g_callS ?_
    walk_at "s"
    refine ⟨W, u, v1, v3, S1, S3, d1, d3, j, what, rfl, hj, hj5, hw, ok, hd1, hd3, reqA_imp ?_ ?_ hj5 hreq⟩
    · intro ys hq q1 H1 k1 e1
      walk_at "s"
      refine ⟨sz, fun t ht => ?_⟩
      refine hq t _ (k1.nnew ht) (.tup upd_same (.cons (.str _) (.cons (.tup (xs := zs ys) ?_ (.ints ys)) .nil)))
      rw [upd_ne (ne_of_none e1 ht)]
      exact e1
    · intro x hq dx H1 k1 e1
      refine ⟨true, NUx.te, fun _ a ha => ?_, fun q => Bool.noConfusion q⟩
      walk_at "s"
      refine g_xf ?_
      walk_at "s"
      refine ⟨rfl, rfl, dx, _, .str x, rfl, e1, rfl, ?_⟩
      refine g_xf ?_
      walk_at "s"
      refine ⟨rfl, rfl, dx, _, .int (-1), rfl, e1, rfl, ?_⟩
      walk_at "s"
      refine ⟨sz, fun t ht => ?_⟩
      exact hq t _ (k1.nnew ht) (.tup upd_same (.cons (.str _) (.cons (.str _) (.cons (.int _) .nil))))
end
end K8
set_option Elab.async false
set_option linter.all false
set_option maxRecDepth 100000
set_option maxHeartbeats 4000000
namespace K8
open PySem PySem.Spec PyProof.Rows L2
local macro_rules | `(tactic| walk_at "s") => `(tactic| repeat (first
  | with_reducible refine g_seq ?_ | with_reducible refine g_ret ?_ | with_reducible refine g_asg ?_ | with_reducible refine g_name ?_ | with_reducible refine g_c ?_ | with_reducible refine g_op ?_ | with_reducible refine g_cons ?_ | with_reducible refine g_nil ?_
  | (with_reducible show tVar _ _ _ _; refine g_var rfl ?_) | with_reducible refine g_cb ?_ | with_reducible refine g_call ?_ | with_reducible refine g_if ?_ | with_reducible refine g_test ?_ | with_reducible refine g_tB ?_ | with_reducible refine g_i0 ?_ | with_reducible refine g_bl ?_
  | with_reducible refine g_add ?_ | with_reducible refine g_sub ?_ | with_reducible refine g_eqI ?_ | with_reducible refine g_neI ?_ | with_reducible refine g_drop ?_ | with_reducible refine g_next ?_ | with_reducible refine g_break ?_ | with_reducible refine g_un ?_ | with_reducible refine g_u ?_
  | with_reducible refine g_ifE ?_ | with_reducible refine g_and ?_ | with_reducible refine g_or ?_ | with_reducible refine g_not ?_ | with_reducible refine g_andV ?_ | with_reducible refine g_orV ?_ | with_reducible refine g_notV ?_ | with_reducible refine g_isN ?_ | with_reducible refine g_notN ?_
  | with_reducible refine g_gnil ?_ | with_reducible refine g_gcons ?_ | with_reducible refine g_bm ?_ | with_reducible refine g_abs ?_ | with_reducible refine g_max ?_ | with_reducible refine g_min ?_ | with_reducible refine g_int ?_ | with_reducible refine g_lc ?_ | with_reducible refine g_for ?_ | with_reducible refine g_yes ?_ | with_reducible refine g_rng1 ?_ | with_reducible refine g_rng2 ?_ | with_reducible refine g_il ?_ | with_reducible refine g_it ?_ | with_reducible refine g_en ?_ | with_reducible refine g_zp ?_ | with_reducible refine g_mkT ?_ | with_reducible refine g_mkL ?_ | with_reducible refine g_augS ?_ | (with_reducible show tAug _ _ _ _ _ _; refine g_aug rfl ?_) | with_reducible refine g_ipI ?_ | with_reducible refine g_gsub ?_ | with_reducible refine g_dget ?_ | with_reducible refine g_din ?_ | with_reducible refine g_dnotin ?_ | with_reducible refine g_dput ?_ | with_reducible refine g_dc ?_ | with_reducible refine g_sl ?_ | with_reducible refine g_nopart ?_ | with_reducible refine g_part ?_ | with_reducible refine g_exI ?_ | with_reducible refine g_revL ?_ | (with_reducible show iSq _ _ _ _; refine g_sq rfl ?_) | with_reducible refine g_while ?_ | with_reducible refine g_min3 ?_ | with_reducible refine g_trq ?_ | with_reducible refine g_lock ?_ | with_reducible refine g_mko ?_ | with_reducible refine g_keys ?_ | with_reducible refine g_eqS ?_ | with_reducible refine g_lrg ?_ | with_reducible refine g_trg ?_ | with_reducible refine g_rg1 ?_ | with_reducible refine g_cut ?_ | with_reducible refine g_disp ?_ | with_reducible refine g_dnew ?_ | with_reducible refine iteT ?_ | with_reducible refine iteF ?_))
theorem pln_told {ys : List Int} (h : ys.length ≤ 100) : Pln 2 (toldD ys) := by
  refine .inr ⟨_, rfl, (by show 2 ≤ 100; decide), fun x hx => ?_⟩
  rcases List.mem_cons.mp hx with z | z
  · subst z
    exact .inl rfl
  · rw [List.mem_singleton.mp z]
    refine .inr ⟨_, rfl, by rw [List.length_map]; exact h, fun y hy => ?_⟩
    obtain ⟨i, _, rfl⟩ := List.mem_map.mp hy
    show isSc (.int i) = true
    rfl
theorem pln_not {x : Str} : Pln 2 (notD x) := by
  refine .inr ⟨_, rfl, (by show 3 ≤ 100; decide), fun y hy => ?_⟩
  have : y = .str "not" ∨ y = .str x ∨ y = .int (-1) := by simpa using hy
  rcases this with rfl | rfl | rfl <;> exact .inl rfl
theorem stand_good {W : Wb} {ps : List Int} (h : StandR W ps) : GoodP W (.tuple (ps.map PyData.int)) ps := ⟨rfl, h.1, h.2⟩
theorem da_ints {H : Hp} {a : Addr} {xs : List Int} (h : H a = some (.tup (zs xs))) : Da [] H (.ref a) (.tuple (xs.map PyData.int)) := .tup h (.ints xs)
theorem da_told {H : Hp} {t a : Addr} {ys : List Int} (h : H t = some (.tup [.str "told", .ref a])) (g : H a = some (.tup (zs ys))) : Da [] H (.ref t) (toldD ys) := .tup h (.cons (.str _) (.cons (da_ints g) .nil))
theorem isH_of {n h : Nat} (hh : h < n) : isH n (.int h) = true := by
  show (decide (0 ≤ (h : Int)) && decide ((h : Int) < n)) = true
  rw [decide_eq_true (by omega), decide_eq_true (by omega)]
  rfl
theorem lotS_len {n : Nat} {X : Nat → Bool} : (lotS n X).length ≤ n := by
  unfold lotS
  have := List.length_filter_le X (List.range n)
  rw [List.length_range] at this
  exact this
section
variable {P : Program} {w : World} {K : PySem.W.Frag} {mg : Str → Option Value} {base : Heap} {f : Addr} {fd : FuncData} {k : Nat}
theorem sc_law_houses_hold : FnScope ["_law_web_here", "_law_row", "_law_mosts_here", "_law_turn", "_law_holds", "_law_turned", "_law_house", "_law_reach", "_law_payers", "_law_line", "_law_one"] ["_law_web_here", "_law_row", "_law_mosts_here", "_law_turn"] (defScope s_law_houses_hold) := ⟨rfl, rfl, rfl, by decide +kernel, rfl, by decide +kernel, by decide +kernel⟩
def sp_law_houses_hold : Sp := fun vs H Q _ => ∃ (W : Wb) (u : V) (pa M : Addr) (ps : List Int) (m : Nat → Nat → Int) (turn : Int), vs = [u, .ref pa, .ref M, .int turn] ∧ (turn = 0 ∨ turn = 5) ∧ WebAt H u W ∧ WebOk W ∧ H pa = some (.tup (zs ps)) ∧ StandR W ps ∧ MostsAt [] H M W.n m ∧ MOk W (fun v => ps.getD v 0) m ∧ (∀ H', Ex H H' → Q (.bl true) H')
theorem ok_law_houses_hold (F : Fun K "_law_houses_hold" "_law_houses_hold" s_law_houses_hold f fd) (T : Txt mg) (c_law_same : Cal P w K mg base 3 "_law_same" (sp_law_same 3)) (c_law_told : Cal P w K mg base 7 "_law_told" sp_law_told) : FnOk P w K mg base CX0 8 f fd ["_law_web_here", "_law_row", "_law_mosts_here", "_law_turn"] sp_law_houses_hold := by
  have sc := sc_law_houses_hold
  refine F.ok sc (fun vs H Q E h => ?_) (fun cdv A outer s H vs Q E hr h => ?_)
  · obtain ⟨W, u, pa, M, ps, m, turn, rfl, _⟩ := h
    rfl
  · obtain ⟨W, u, pa, M, ps, m, tn, rfl, htn, hw, ok, hpa, hst, hM, hmok, q⟩ := h
    have hw0 := hw
    obtain ⟨a, c, ls, rfl, ha, hc, hl⟩ := hw0
    have hn8 := ok.2.1
    have h60 := ok.2.2.1
    have gv : ∀ v, v < W.n → ps[v]? = some (ps.getD v 0) := fun v hv => by rw [List.getD_eq_getElem?_getD, List.getElem?_eq_getElem (by rw [hst.1]; exact hv)]; rfl
    refine ⟨_, (pss_cons (ps_set (i := 4) sc.nd rfl (by first | exact Or.inl rfl | exact Or.inr rfl) (pe_lc (own := [("_law_house", 6)]) rfl sc.nd (pi_range1 (by rfl) T.range (pa_cons (pe_ix (kx_tup (K := K) rfl) (pv 0) pe_int (fun _ _ => rfl)) pa_nil)) (blkOk_by (N := ["_law_web_here", "_law_row", "_law_mosts_here", "_law_turn", "_law_holds", "_law_turned", "_law_house", "_law_reach", "_law_payers", "_law_line", "_law_one"]) (sc := defScope s_law_houses_hold) (by decide +kernel)) (fun _ _ _ _ _ => (pg_name (i := 6) sc.nd rfl (by first | exact Or.inl rfl | exact Or.inr rfl))) (fun _ _ _ _ _ => pts_nil) (fun _ _ _ _ _ => (pe_callB (kr_sum (K := K) rfl rfl) (by rfl) T.sum (by decide +kernel) (pa_cons (pe_lc (own := [("_law_line", 9)]) rfl sc.nd (kpi_tup (K := K) rfl (pe_ix (kx_tup (K := K) rfl) (pv 0) pe_int (fun _ _ => rfl))) (blkOk_by (N := ["_law_web_here", "_law_row", "_law_mosts_here", "_law_turn", "_law_holds", "_law_turned", "_law_house", "_law_reach", "_law_payers", "_law_line", "_law_one"]) (sc := { kind := ScopeKind.function, names := [(".0", NameKind.local), ("_law_house", NameKind.cell), ("sum", NameKind.globalImplicit), ("_law_web_here", NameKind.cell)], isGenerator := false, isCoroutine := false }) (by decide +kernel)) (fun _ _ _ _ _ => (pg_name (i := 9) sc.nd rfl (by first | exact Or.inl rfl | exact Or.inr rfl))) (fun _ _ _ _ _ => (pts_one (pt_cmpR ((kop_in (K := K) rfl)) (pv 6) (pe_slice (ksl_tup (K := K) rfl) (pv 9) po_none (po_some pe_int)) (by rfl)))) (fun _ _ _ _ _ => (pe_ix (kx_tup (K := K) rfl) (pv 9) pe_int (fun _ _ => rfl)))) pa_nil)))))
      (pss_cons (ps_set (i := 5) sc.nd rfl (by first | exact Or.inl rfl | exact Or.inr rfl) (pe_callTy (kq_tup (K := K) rfl) (by rfl) T.tuple (by decide +kernel) (pa_cons (pe_lc (own := [("_law_house", 6)]) rfl sc.nd (pi_range1 (by rfl) T.range (pa_cons (pe_ix (kx_tup (K := K) rfl) (pv 0) pe_int (fun _ _ => rfl)) pa_nil)) (blkOk_by (N := ["_law_web_here", "_law_row", "_law_mosts_here", "_law_turn", "_law_holds", "_law_turned", "_law_house", "_law_reach", "_law_payers", "_law_line", "_law_one"]) (sc := defScope s_law_houses_hold) (by decide +kernel)) (fun _ _ _ _ _ => (pg_name (i := 6) sc.nd rfl (by first | exact Or.inl rfl | exact Or.inr rfl))) (fun _ _ _ _ _ => pts_nil) (fun _ _ _ _ _ => (pe_op op_sub (pe_ix (kx_list (K := K) rfl) (pv 4) (pv 6) (fun _ _ => rfl)) (pe_ix (kx_tup (K := K) rfl) (pv 1) (pv 6) (fun _ _ => rfl))))) pa_nil)))
      (pss_cons (ps_for PassesOwn.never rfl (pi_range1 (by rfl) T.range (pa_cons (pe_ix (kx_tup (K := K) rfl) (pv 0) pe_int (fun _ _ => rfl)) pa_nil)) (pg_name (i := 6) sc.nd rfl (by first | exact Or.inl rfl | exact Or.inr rfl))
        (pss_cons (ps_set (i := 7) sc.nd rfl (by first | exact Or.inl rfl | exact Or.inr rfl) (pe_callTy (kq_tup (K := K) rfl) (by rfl) T.tuple (by decide +kernel) (pa_cons (pe_lc (own := [("_law_one", 10)]) rfl sc.nd (pi_range1 (by rfl) T.range (pa_cons (pe_ix (kx_tup (K := K) rfl) (pv 0) pe_int (fun _ _ => rfl)) pa_nil)) (blkOk_by (N := ["_law_web_here", "_law_row", "_law_mosts_here", "_law_turn", "_law_holds", "_law_turned", "_law_house", "_law_reach", "_law_payers", "_law_line", "_law_one"]) (sc := defScope s_law_houses_hold) (by decide +kernel)) (fun _ _ _ _ _ => (pg_name (i := 10) sc.nd rfl (by first | exact Or.inl rfl | exact Or.inr rfl))) (fun _ _ _ _ _ => (pts_one (PW.pt (pw_or (pt_cmpR op_eq (pv 10) (pv 6) (nomark _)) (pw_or1 (pt_cmpR op_gt (pe_ix (kx_list (K := K) rfl) (pe_ix (kx_list (K := K) rfl) (pv 2) (pv 6) (fun _ _ => rfl)) (pv 10) (fun _ _ => rfl)) pe_int (nomark _))))))) (fun _ _ _ _ _ => (pv 10))) pa_nil)))
        (pss_cons (ps_set (i := 8) sc.nd rfl (by first | exact Or.inl rfl | exact Or.inr rfl) (pe_callTy (kq_tup (K := K) rfl) (by rfl) T.tuple (by decide +kernel) (pa_cons (pe_lc (own := [("_law_one", 10)]) rfl sc.nd (pi_range1 (by rfl) T.range (pa_cons (pe_ix (kx_tup (K := K) rfl) (pv 0) pe_int (fun _ _ => rfl)) pa_nil)) (blkOk_by (N := ["_law_web_here", "_law_row", "_law_mosts_here", "_law_turn", "_law_holds", "_law_turned", "_law_house", "_law_reach", "_law_payers", "_law_line", "_law_one"]) (sc := defScope s_law_houses_hold) (by decide +kernel)) (fun _ _ _ _ _ => (pg_name (i := 10) sc.nd rfl (by first | exact Or.inl rfl | exact Or.inr rfl))) (fun _ _ _ _ _ => (pts_one (PW.pt (pw_or (pt_cmpR op_eq (pv 10) (pv 6) (nomark _)) (pw_or1 (pt_cmpR op_gt (pe_ix (kx_list (K := K) rfl) (pe_ix (kx_list (K := K) rfl) (pv 2) (pv 10) (fun _ _ => rfl)) (pv 6) (fun _ _ => rfl)) pe_int (nomark _))))))) (fun _ _ _ _ _ => (pv 10))) pa_nil)))
        (pss_cons (ps_if (pt_not (pt_val (pe_c c_law_same hr (by decide) (by rfl) (pa_cons (pe_c c_law_told hr (by decide) (by rfl) (pa_cons (pv 3) (pa_cons (pv 0) (pa_cons (pv 1) (pa_cons (pv 6) pa_nil))))) (pa_cons (pe_tup (pa_cons pe_str (pa_cons (pv 7) pa_nil))) pa_nil)))))
          (pss_one (ps_ret pe_bl))
          pss_nil)
        (pss_cons (ps_if (pt_not (pt_val (pe_c c_law_same hr (by decide) (by rfl) (pa_cons (pe_c c_law_told hr (by decide) (by rfl) (pa_cons (pe_op op_add pe_int (pv 3)) (pa_cons (pv 0) (pa_cons (pv 1) (pa_cons (pv 6) pa_nil))))) (pa_cons (pe_tup (pa_cons pe_str (pa_cons (pv 8) pa_nil))) pa_nil)))))
          (pss_one (ps_ret pe_bl))
          pss_nil)
        (pss_one (ps_if (pt_not (pt_val (pe_c c_law_same hr (by decide) (by rfl) (pa_cons (pe_c c_law_told hr (by decide) (by rfl) (pa_cons (pv 3) (pa_cons (pv 0) (pa_cons (pv 5) (pa_cons (pv 6) pa_nil))))) (pa_cons (pe_tup (pa_cons pe_str (pa_cons (pv 8) pa_nil))) pa_nil)))))
          (pss_one (ps_ret pe_bl))
          pss_nil)))))))
      (pss_one (ps_ret pe_bl))))), ?_⟩
    walk_at "s"
    refine g_ixT (j := 0) ha rfl ?_
    walk_at "s"
    refine ⟨_, rfl, by omega, by omega, fun D hD => ?_⟩
    refine lc_range (n := W.n) (fun i H' => Ex H H' ∧ H' D = some (.lst (zs ((List.range i).map (hold W.ls))))) ⟨.new hD, upd_same⟩ (fun i H1 hi hx => ?_) (fun H1 hx => ?_)
    · obtain ⟨k1, hD1⟩ := hx
      rw [show ((0 : Int) + (i : Int)) = (i : Int) from Int.zero_add _]
      walk_at "s"
      refine ⟨rfl, ?_⟩
      walk_at "s"
      refine g_ixT (j := 1) (k1.tup _ _ ha) rfl ?_
      walk_at "s"
      refine ⟨c, rfl, ⟨_, .of (k1.tup _ _ hc)⟩, fun D2 hD2 => ?_⟩
      refine lc_it (walk_tup (xs := ls.map V.ref)) (fun j H' => Ex H1 H' ∧ ∃ xs : List Int, H' D2 = some (.lst (zs xs)) ∧ xs.length ≤ j ∧ xs.sum = hold (W.ls.take j) i) ⟨.new hD2, [], upd_same, Nat.le_refl _, rfl⟩ (fun j H' _ h => .of ((k1.trans h.1).tup _ _ hc)) (fun j x H2 H3 hj hx hy => ?_) (fun H2 hx => ?_)
      · obtain ⟨k2, xs, hD3, hxl, hsum⟩ := hx
        obtain ⟨rfl, ex⟩ := hy
        rw [List.length_map, hl.1] at hj
        have el : W.ls[j]? = some W.ls[j] := List.getElem?_eq_getElem hj
        obtain ⟨t, rfl, ht⟩ := hl.ref ex el
        rw [hold_take _ _ _ _ el]
        generalize W.ls[j] = l at *
        have ht3 := (k1.trans k2).tup _ _ ht
        walk_at "s"
        refine ⟨rfl, ?_⟩
        walk_at "s"
        refine ⟨t, _, rfl, .of ht3, fun z => absurd z.2 (show ¬ HT.sIx 3 3 (some 2) = 3 by decide), fun _ p hp => ?_⟩
        have kp : Ex H3 (upd H3 p (.tup (cutV [.int l.a, .int l.b, .int l.r] none (some 2)))) := .new hp
        refine g_inT (D := [l.a, l.b]) upd_same ?_
        walk_at "s"
        have hD4 := kp.keep _ _ hD3 List.not_mem_nil
        by_cases e : i ∈ [l.a, l.b]
        · have e' : i = l.a ∨ i = l.b := by simpa using e
          rw [decide_eq_true e]
          refine iteT ?_
          walk_at "s"
          refine g_ixT (j := 2) (kp.tup _ _ ht3) rfl ?_
          refine ⟨_, hD4, small1000 (by rw [zs_len]; omega), (k2.trans kp).mutL hD2 hD4, xs ++ [l.r], by rw [upd_same, zs, zs, List.map_append]; rfl, by rw [List.length_append]; show xs.length + 1 ≤ _; omega, ?_⟩
          rw [if_pos e', List.sum_append, hsum]
          simp
        · have e' : ¬ (i = l.a ∨ i = l.b) := by simpa using e
          rw [decide_eq_false e]
          refine iteF ?_
          refine ⟨k2.trans kp, xs, hD4, by omega, ?_⟩
          rw [if_neg e', hsum]
          omega
      · obtain ⟨k2, xs, hD3, hxl, hsum⟩ := hx
        rw [List.length_map, hl.1, List.take_length] at hsum
        walk_at "s"
        refine ⟨D2, xs, rfl, .of hD3, ?_⟩
        rw [hsum]
        have hD4 := k2.keep _ _ hD1 List.not_mem_nil
        refine ⟨_, hD4, small1000 (by rw [zs_len, List.length_map, List.length_range]; omega), (k1.trans k2).mutL hD hD4, ?_⟩
        rw [upd_same, List.range_succ, List.map_append, zs, zs, List.map_append]
        rfl
    · obtain ⟨k1, hD1⟩ := hx
      walk_at "s"
      refine g_ixT (j := 0) (k1.tup _ _ ha) rfl ?_
      walk_at "s"
      refine ⟨_, rfl, by omega, by omega, fun D2 hD2 => ?_⟩
      refine lc_range (n := W.n) (fun i H' => Ex H1 H' ∧ H' D2 = some (.lst (zs ((List.range i).map fun v => hold W.ls v - ps.getD v 0)))) ⟨.new hD2, upd_same⟩ (fun i H2 hi hx => ?_) (fun H2 hx => ?_)
      · obtain ⟨k2, hD3⟩ := hx
        rw [show ((0 : Int) + (i : Int)) = (i : Int) from Int.zero_add _]
        walk_at "s"
        refine ⟨rfl, ?_⟩
        walk_at "s"
        refine g_ixL (j := i) (k2.keep _ _ hD1 List.not_mem_nil) (v := .int (hold W.ls i)) (zs_get (by rw [List.getElem?_map, List.getElem?_range hi]; rfl)) ?_
        walk_at "s"
        refine g_ixT (j := i) ((k1.trans k2).tup _ _ hpa) (zs_get (gv i hi)) ?_
        walk_at "s"
        refine ⟨_, hD3, small1000 (by rw [zs_len, List.length_map, List.length_range]; omega), k2.mutL hD2 hD3, ?_⟩
        rw [upd_same, List.range_succ, List.map_append, zs, zs, List.map_append]
        rfl
      · obtain ⟨k2, hD3⟩ := hx
        walk_at "s"
        refine g_tupL hD3 fun ta hta => ?_
        walk_at "s"
        have k3 : Ex H (upd H2 ta (.tup (zs ((List.range W.n).map fun v => hold W.ls v - ps.getD v 0)))) := (k1.trans k2).nnew hta
        have hta3 : (upd H2 ta (.tup (zs ((List.range W.n).map fun v => hold W.ls v - ps.getD v 0)))) ta = some (.tup (zs ((List.range W.n).map fun v => hold W.ls v - ps.getD v 0))) := upd_same
        have gt : ∀ v, v < W.n → ((List.range W.n).map fun v => hold W.ls v - ps.getD v 0).getD v 0 = hold W.ls v - ps.getD v 0 := fun v hv => by rw [List.getD_eq_getElem?_getD, List.getElem?_map, List.getElem?_range hv]; rfl
        obtain ⟨hst1, near, hsp, hpv⟩ := id hst
        have hpv : ∀ v, v < W.n → ps.getD v 0 = purse W.ls near v := hpv
        have hturn : ∀ v, v < W.n → ((List.range W.n).map fun v => hold W.ls v - ps.getD v 0).getD v 0 = purse W.ls (turn W.ls near) v := fun v hv => by
          rw [gt v hv, hold_turn v (fun l hl => by have := ok.2.2.2 l hl; omega) hsp.1, hpv v hv]
        have hstT : StandR W ((List.range W.n).map fun v => hold W.ls v - ps.getD v 0) := ⟨by rw [List.length_map, List.length_range], _, turn_split hsp, hturn⟩
        have hreachT : ∀ h v, Reaches W (fun v => ((List.range W.n).map fun v => hold W.ls v - ps.getD v 0).getD v 0) h v ↔ Reaches W (fun v => ps.getD v 0) v h := fun h v =>
          (rch_reaches ok (turn_split hsp) hturn h v).symm.trans (rch_turn ok hsp hpv h v)
        generalize upd H2 ta (.tup (zs ((List.range W.n).map fun v => hold W.ls v - ps.getD v 0))) = H3 at *
        generalize (List.range W.n).map (fun v => hold W.ls v - ps.getD v 0) = tps at *
        refine g_ixT (j := 0) (k3.tup _ _ ha) rfl ?_
        walk_at "s"
        refine ⟨_, rfl, by omega, by omega, ?_⟩
        refine for_range (n := W.n) (fun i σ H' => Ex H3 H' ∧ ∃ (y6 y7 y8 y9 y10 : Option V), σ = [some (.ref a), some (.ref pa), some (.ref M), some (.int tn), some (.ref D), some (.ref ta), y6, y7, y8, y9, y10]) ⟨.refl _ _, _, _, _, _, _, rfl⟩ (fun h σ H4 hh hx => ?_) (fun σ H4 hx => ?_)
        · obtain ⟨k4, y6, y7, y8, y9, y10, rfl⟩ := hx
          rw [show ((0 : Int) + (h : Int)) = (h : Int) from Int.zero_add _]
          have k04 := k3.trans k4
          walk_at "s"
          refine g_ixT (j := 0) (k04.tup _ _ ha) rfl ?_
          walk_at "s"
          refine ⟨_, rfl, by omega, by omega, fun D5 hD5 => ?_⟩
          let X : Nat → Bool := fun v => decide (v = h ∨ 0 < m h v)
          have hlen : ∀ (Z : Nat → Bool) (i : Nat), i ≤ W.n → ((List.range W.n).take i |>.filter Z).length ≤ 8 := fun Z i hi => by
            have := List.length_filter_le Z ((List.range W.n).take i)
            rw [List.length_take] at this
            omega
          refine lc_range (n := W.n) (fun i H' => Ex H4 H' ∧ H' D5 = some (.lst (zs (hs (((List.range W.n).take i).filter X))))) ⟨.new hD5, upd_same⟩ (fun i H5 hi hx => ?_) (fun H5 hx => ?_)
          · obtain ⟨k5, hD6⟩ := hx
            rw [show ((0 : Int) + (i : Int)) = (i : Int) from Int.zero_add _]
            have k05 := k04.trans k5
            have add : X i = true → ∃ acc, H5 D5 = some (.lst acc) ∧ acc.length < sizeLine ∧ Ex H4 (upd H5 D5 (.lst (acc ++ [.int (i : Int)]))) ∧ (upd H5 D5 (.lst (acc ++ [.int (i : Int)]))) D5 = some (.lst (zs (hs (((List.range W.n).take (i + 1)).filter X)))) := fun e => by
              refine ⟨_, hD6, small1000 (by rw [zs_len, hs_len]; have := hlen X i (by omega); omega), k5.mutL hD5 hD6, ?_⟩
              rw [upd_same, filter_take i hi, if_pos e]
              simp [zs, hs]
            have skip : ¬ X i = true → Ex H4 H5 ∧ H5 D5 = some (.lst (zs (hs (((List.range W.n).take (i + 1)).filter X)))) := fun e => by
              refine ⟨k5, ?_⟩
              rw [filter_take i hi, if_neg e, List.append_nil]
              exact hD6
            walk_at "s"
            refine ⟨rfl, ?_⟩
            walk_at "s"
            by_cases e : i = h
            · rw [decide_eq_true (by omega)]
              refine iteT ?_
              refine iteT ?_
              walk_at "s"
              exact add (decide_eq_true (.inl e))
            · rw [decide_eq_false (by omega)]
              refine iteF ?_
              walk_at "s"
              obtain ⟨xh, th, e1, e2, e3⟩ := (hM.kp k05).get hh
              refine g_ixL (j := h) e1 e2 ?_
              walk_at "s"
              refine g_ixL (j := i) e3 (mget hi) ?_
              walk_at "s"
              by_cases e4 : 0 < m h i
              · rw [decide_eq_true e4]
                refine iteT ?_
                walk_at "s"
                exact add (decide_eq_true (.inr e4))
              · rw [decide_eq_false e4]
                refine iteF ?_
                exact skip fun z => (of_decide_eq_true z).elim e e4
          · obtain ⟨k5, hD6⟩ := hx
            rw [List.take_of_length_le (by rw [List.length_range]; exact Nat.le_refl _)] at hD6
            have hX : IsSet W.n ((List.range W.n).filter X) (fun v => Reaches W (fun v => ps.getD v 0) h v) := ⟨lotS_pw (X := X), fun v => by
              rw [List.mem_filter, List.mem_range]
              refine and_congr_right fun hv => ?_
              show decide (v = h ∨ 0 < m h v) = true ↔ _
              rw [decide_eq_true_iff]
              by_cases z : v = h
              · subst z
                exact ⟨fun _ => reach_self, fun _ => .inl rfl⟩
              · have lr := least_reach ((hmok h v hh hv).2 fun y => z y.symm)
                exact ⟨fun y => lr.mp (y.resolve_left z), fun y => .inr (lr.mpr y)⟩⟩
            have hXl : ((List.range W.n).filter X).length ≤ W.n := lotS_len (X := X)
            generalize (List.range W.n).filter X = rl at *
            have k05 := k04.trans k5
            walk_at "s"
            refine g_tupL hD6 fun rt hrt => ?_
            walk_at "s"
            have kr : Ex H5 (upd H5 rt (.tup (zs (hs rl)))) := .new hrt
            have hrt6 : (upd H5 rt (.tup (zs (hs rl)))) rt = some (.tup (zs (hs rl))) := upd_same
            generalize upd H5 rt (.tup (zs (hs rl))) = H6 at *
            have k06 := k05.trans kr
            refine g_ixT (j := 0) (k06.tup _ _ ha) rfl ?_
            walk_at "s"
            refine ⟨_, rfl, by omega, by omega, fun D7 hD7 => ?_⟩
            let Y : Nat → Bool := fun v => decide (v = h ∨ 0 < m v h)
            refine lc_range (n := W.n) (fun i H' => Ex H6 H' ∧ H' D7 = some (.lst (zs (hs (((List.range W.n).take i).filter Y))))) ⟨.new hD7, upd_same⟩ (fun i H7 hi hx => ?_) (fun H7 hx => ?_)
            · obtain ⟨k7, hD8⟩ := hx
              rw [show ((0 : Int) + (i : Int)) = (i : Int) from Int.zero_add _]
              have k07 := k06.trans k7
              have add : Y i = true → ∃ acc, H7 D7 = some (.lst acc) ∧ acc.length < sizeLine ∧ Ex H6 (upd H7 D7 (.lst (acc ++ [.int (i : Int)]))) ∧ (upd H7 D7 (.lst (acc ++ [.int (i : Int)]))) D7 = some (.lst (zs (hs (((List.range W.n).take (i + 1)).filter Y)))) := fun e => by
                refine ⟨_, hD8, small1000 (by rw [zs_len, hs_len]; have := hlen Y i (by omega); omega), k7.mutL hD7 hD8, ?_⟩
                rw [upd_same, filter_take i hi, if_pos e]
                simp [zs, hs]
              have skip : ¬ Y i = true → Ex H6 H7 ∧ H7 D7 = some (.lst (zs (hs (((List.range W.n).take (i + 1)).filter Y)))) := fun e => by
                refine ⟨k7, ?_⟩
                rw [filter_take i hi, if_neg e, List.append_nil]
                exact hD8
              walk_at "s"
              refine ⟨rfl, ?_⟩
              walk_at "s"
              by_cases e : i = h
              · rw [decide_eq_true (by omega)]
                refine iteT ?_
                refine iteT ?_
                walk_at "s"
                exact add (decide_eq_true (.inl e))
              · rw [decide_eq_false (by omega)]
                refine iteF ?_
                walk_at "s"
                obtain ⟨xh, th, e1, e2, e3⟩ := (hM.kp k07).get hi
                refine g_ixL (j := i) e1 e2 ?_
                walk_at "s"
                refine g_ixL (j := h) e3 (mget hh) ?_
                walk_at "s"
                by_cases e4 : 0 < m i h
                · rw [decide_eq_true e4]
                  refine iteT ?_
                  walk_at "s"
                  exact add (decide_eq_true (.inr e4))
                · rw [decide_eq_false e4]
                  refine iteF ?_
                  exact skip fun z => (of_decide_eq_true z).elim e e4
            · obtain ⟨k7, hD8⟩ := hx
              rw [List.take_of_length_le (by rw [List.length_range]; exact Nat.le_refl _)] at hD8
              have hY : IsSet W.n ((List.range W.n).filter Y) (fun v => Reaches W (fun v => ps.getD v 0) v h) := ⟨lotS_pw (X := Y), fun v => by
                rw [List.mem_filter, List.mem_range]
                refine and_congr_right fun hv => ?_
                show decide (v = h ∨ 0 < m v h) = true ↔ _
                rw [decide_eq_true_iff]
                by_cases z : v = h
                · subst z
                  exact ⟨fun _ => reach_self, fun _ => .inl rfl⟩
                · have lr := least_reach ((hmok v h hv hh).2 z)
                  exact ⟨fun y => lr.mp (y.resolve_left z), fun y => .inr (lr.mpr y)⟩⟩
              have hYl : ((List.range W.n).filter Y).length ≤ W.n := lotS_len (X := Y)
              generalize (List.range W.n).filter Y = pl at *
              have k07 := k06.trans k7
              walk_at "s"
              refine g_tupL hD8 fun pt hpt => ?_
              walk_at "s"
              have kp8 : Ex H7 (upd H7 pt (.tup (zs (hs pl)))) := .new hpt
              have hpt8 : (upd H7 pt (.tup (zs (hs pl)))) pt = some (.tup (zs (hs pl))) := upd_same
              have hrt8 := (k7.trans kp8).tup _ _ hrt6
              have k38 : Ex H3 (upd H7 pt (.tup (zs (hs pl)))) := ((k4.trans k5).trans kr).trans (k7.trans kp8)
              generalize upd H7 pt (.tup (zs (hs pl))) = H8 at *
              have k08 := k3.trans k38
              have setEq : ∀ {xs ys : List Nat} {R R' : Nat → Prop}, IsSet W.n xs R → IsSet W.n ys R' → (∀ v, R v ↔ R' v) → xs = ys := fun {xs ys R R'} h1 h2 h3 => sorted_eq h1.1 h2.1 fun v => by rw [h1.2 v, h2.2 v, h3 v]
              -- reach
              refine ⟨W, _, _, _, [], [], _, _, 0, tn, rfl, htn.imp id id, by omega, hw.kp k08, ok, da_ints (k08.tup _ _ hpa), .int (h : Int), ?_⟩
              refine .inl ⟨ps, stand_good hst, fun h' e' _ xs hxs t9 H9 k9 hd9 => ?_, fun z => by rw [isH_of hh] at z; cases z⟩
              have eh : h' = h := by
                have := PyData.int.inj e'
                omega
              subst eh
              have := setEq hxs hX fun v => Iff.rfl
              subst this
              walk_at "s"
              refine ⟨sz, fun t10 ht10 => ?_⟩
              walk_at "s"
              have k10 : Ex H9 (upd H9 t10 (.tup [.str "told", .ref rt])) := .new ht10
              refine ⟨[], [], _, _, toldD (hs xs), rfl, hd9.kp k10, da_told upd_same (k10.tup _ _ (k9.tup _ _ hrt8)), pln_told (by rw [hs_len]; omega), fun H11 k11 => ?_⟩
              walk_at "s"
              refine iteF ?_
              walk_at "s"
              have k911 := k9.trans (k10.trans k11)
              have k311 := k38.trans k911
              have k011 := k3.trans k311
              -- payers
              refine ⟨W, _, _, _, [], [], _, _, 1, 1 + tn, rfl, by omega, by omega, hw.kp k011, ok, da_ints (k011.tup _ _ hpa), .int (h' : Int), ?_⟩
              refine .inl ⟨ps, stand_good hst, fun h'' e'' _ xs2 hxs2 t12 H12 k12 hd12 => ?_, fun z => by rw [isH_of hh] at z; cases z⟩
              have eh2 : h'' = h' := by
                have := PyData.int.inj e''
                omega
              subst eh2
              have := setEq hxs2 hY fun v => Iff.rfl
              subst this
              walk_at "s"
              refine ⟨sz, fun t13 ht13 => ?_⟩
              walk_at "s"
              have k13 : Ex H12 (upd H12 t13 (.tup [.str "told", .ref pt])) := .new ht13
              refine ⟨[], [], _, _, toldD (hs xs2), rfl, hd12.kp k13, da_told upd_same (k13.tup _ _ (k12.tup _ _ (k911.tup _ _ hpt8))), pln_told (by rw [hs_len]; omega), fun H14 k14 => ?_⟩
              walk_at "s"
              refine iteF ?_
              walk_at "s"
              have k1114 := k12.trans (k13.trans k14)
              have k314 := k311.trans k1114
              have k014 := k3.trans k314
              -- reach of the turned
              refine ⟨W, _, _, _, [], [], _, _, 0, tn, rfl, htn.imp id id, by omega, hw.kp k014, ok, da_ints (k314.tup _ _ hta3), .int (h'' : Int), ?_⟩
              refine .inl ⟨tps, stand_good hstT, fun h3 e3 _ xs3 hxs3 t15 H15 k15 hd15 => ?_, fun z => by rw [isH_of hh] at z; cases z⟩
              have eh3 : h3 = h'' := by
                have := PyData.int.inj e3
                omega
              subst eh3
              have := setEq hxs3 hY fun v => hreachT _ v
              subst this
              walk_at "s"
              refine ⟨sz, fun t16 ht16 => ?_⟩
              walk_at "s"
              have k16 : Ex H15 (upd H15 t16 (.tup [.str "told", .ref pt])) := .new ht16
              refine ⟨[], [], _, _, toldD (hs xs3), rfl, hd15.kp k16, da_told upd_same (k16.tup _ _ (k15.tup _ _ ((k911.trans k1114).tup _ _ hpt8))), pln_told (by rw [hs_len]; omega), fun H17 k17 => ?_⟩
              walk_at "s"
              refine iteF ?_
              walk_at "s"
              exact ⟨k314.trans (k15.trans (k16.trans k17)), _, _, _, _, _, rfl⟩
        · obtain ⟨k4, y6, y7, y8, y9, y10, rfl⟩ := hx
          walk_at "s"
          exact q H4 (k3.trans k4)
end
end K8
set_option Elab.async false
set_option linter.all false
set_option maxRecDepth 100000
set_option maxHeartbeats 4000000
namespace K8
open PySem PySem.Spec PyProof.Rows L2
local macro_rules | `(tactic| walk_at "s") => `(tactic| repeat (first
  | with_reducible refine g_seq ?_ | with_reducible refine g_ret ?_ | with_reducible refine g_asg ?_ | with_reducible refine g_name ?_ | with_reducible refine g_c ?_ | with_reducible refine g_op ?_ | with_reducible refine g_cons ?_ | with_reducible refine g_nil ?_
  | (with_reducible show tVar _ _ _ _; refine g_var rfl ?_) | with_reducible refine g_cb ?_ | with_reducible refine g_call ?_ | with_reducible refine g_if ?_ | with_reducible refine g_test ?_ | with_reducible refine g_tB ?_ | with_reducible refine g_i0 ?_ | with_reducible refine g_bl ?_
  | with_reducible refine g_add ?_ | with_reducible refine g_sub ?_ | with_reducible refine g_eqI ?_ | with_reducible refine g_neI ?_ | with_reducible refine g_drop ?_ | with_reducible refine g_next ?_ | with_reducible refine g_break ?_ | with_reducible refine g_un ?_ | with_reducible refine g_u ?_
  | with_reducible refine g_ifE ?_ | with_reducible refine g_and ?_ | with_reducible refine g_or ?_ | with_reducible refine g_not ?_ | with_reducible refine g_andV ?_ | with_reducible refine g_orV ?_ | with_reducible refine g_notV ?_ | with_reducible refine g_isN ?_ | with_reducible refine g_notN ?_
  | with_reducible refine g_gnil ?_ | with_reducible refine g_gcons ?_ | with_reducible refine g_bm ?_ | with_reducible refine g_abs ?_ | with_reducible refine g_max ?_ | with_reducible refine g_min ?_ | with_reducible refine g_int ?_ | with_reducible refine g_lc ?_ | with_reducible refine g_for ?_ | with_reducible refine g_yes ?_ | with_reducible refine g_rng1 ?_ | with_reducible refine g_rng2 ?_ | with_reducible refine g_il ?_ | with_reducible refine g_it ?_ | with_reducible refine g_en ?_ | with_reducible refine g_zp ?_ | with_reducible refine g_mkT ?_ | with_reducible refine g_mkL ?_ | with_reducible refine g_augS ?_ | (with_reducible show tAug _ _ _ _ _ _; refine g_aug rfl ?_) | with_reducible refine g_ipI ?_ | with_reducible refine g_gsub ?_ | with_reducible refine g_dget ?_ | with_reducible refine g_din ?_ | with_reducible refine g_dnotin ?_ | with_reducible refine g_dput ?_ | with_reducible refine g_dc ?_ | with_reducible refine g_sl ?_ | with_reducible refine g_nopart ?_ | with_reducible refine g_part ?_ | with_reducible refine g_exI ?_ | with_reducible refine g_revL ?_ | (with_reducible show iSq _ _ _ _; refine g_sq rfl ?_) | with_reducible refine g_while ?_ | with_reducible refine g_min3 ?_ | with_reducible refine g_trq ?_ | with_reducible refine g_lock ?_ | with_reducible refine g_mko ?_ | with_reducible refine g_keys ?_ | with_reducible refine g_eqS ?_ | with_reducible refine g_lrg ?_ | with_reducible refine g_trg ?_ | with_reducible refine g_rg1 ?_ | with_reducible refine g_cut ?_ | with_reducible refine g_disp ?_ | with_reducible refine g_dnew ?_ | with_reducible refine iteT ?_ | with_reducible refine iteF ?_))
theorem peel_pur {W : Wb} (ok : WebOk W) {n1 n2 : List Int} (h1 : Split W.ls n1) (h2 : Split W.ls n2) (hp : ∀ v, v < W.n → purse W.ls n1 v = purse W.ls n2 v) {todo : List (Nat × Bool)} (ht : ∀ q ∈ todo, q.1 < W.n) : peelL W n1 todo [] = peelL W n2 todo [] :=
  peel_same ok h1 h2 todo [] ht fun v hv _ => by rw [purseR_all ok, purseR_all ok, hp v hv]
theorem joinOf_len (n : Nat) (lots : List (List Nat)) : (joinOf n lots).length = n := by rw [joinOf, joins_len, List.length_replicate]
theorem zip_lt {n : Nat} {os : List Nat} {bs : List Bool} (h : ∀ x ∈ os, x < n) : ∀ q ∈ os.zip bs, q.1 < n := fun q hq => h q.1 (List.of_mem_zip hq).1
theorem sdV_da (H : Hp) : ∀ bs : List Bool, DaAll [] H (sdV bs) (bs.map fun b => PyData.str (sd b))
  | [] => .nil
  | _ :: r => .cons (.str _) (sdV_da H r)
theorem g_pow {C : Int → Int → Prop} {a b : Int} {H : Hp} {Q : V → Hp → Prop} (c : C a b) (h : Q (.int (a ^ b.toNat)) H) : rI C (fun i j => .int (i ^ j.toNat)) (.int a) (.int b) H Q := ⟨a, b, rfl, rfl, c, h⟩
section
variable {P : Program} {w : World} {K : PySem.W.Frag} {mg : Str → Option Value} {base : Heap} {f : Addr} {fd : FuncData} {k : Nat}
theorem sc_law_row_holds : FnScope ["_law_pot_here", "_law_web_here", "_law_row", "_law_mosts_here", "_law_lots_here", "_law_turn", "_law_first", "_law_order_here", "_law_due", "_law_sides", "_law_here", "_law_there", "_law_both", "_law_great", "_law_coins", "_law_house"] ["_law_pot_here", "_law_web_here", "_law_row", "_law_mosts_here", "_law_lots_here"] (defScope s_law_row_holds) := ⟨rfl, rfl, rfl, by decide +kernel, rfl, by decide +kernel, by decide +kernel⟩
def sp_law_row_holds : Sp := fun vs H Q _ => ∃ (p r : Addr) (W : Wb) (u : V) (pa M L : Addr) (ps : List Int) (m : Nat → Nat → Int) (ts : List Addr), vs = [.ref p, u, .ref pa, .ref M, .ref L] ∧ PotAt p r H ∧ WebAt H u W ∧ WebOk W ∧ H pa = some (.tup (zs ps)) ∧ StandR W ps ∧ MostsAt [p] H M W.n m ∧ MOk W (fun v => ps.getD v 0) m ∧
  H L = some (.lst (ts.map V.ref)) ∧ L ≠ p ∧ LtsAt H W.n ts ∧ ts.length ≤ 256 ∧ (∀ H', Kp [p] H H' → PotAt p r H' → Q (.bl true) H')
theorem ok_law_row_holds (F : Fun K "_law_row_holds" "_law_row_holds" s_law_row_holds f fd) (T : Txt mg) (c_law_draw : Cal P w K mg base 1 "_law_draw" sp_law_draw) (c_law_order : Cal P w K mg base 2 "_law_order" sp_law_order) (c_law_same : Cal P w K mg base 3 "_law_same" (sp_law_same 3)) (c_law_told : Cal P w K mg base 7 "_law_told" sp_law_told)
    (c_law_houses_hold : Cal P w K mg base 8 "_law_houses_hold" sp_law_houses_hold) (c_law_peel : Cal P w K mg base 4 "_law_peel" sp_law_peel) (c_law_classes : Cal P w K mg base 1 "_law_classes" sp_law_classes) :
    FnOk P w K mg base CX0 9 f fd ["_law_pot_here", "_law_web_here", "_law_row", "_law_mosts_here", "_law_lots_here"] sp_law_row_holds := by
  have sc := sc_law_row_holds
  refine F.ok sc (fun vs H Q E h => ?_) (fun cdv A outer s H vs Q E hr h => ?_)
  · obtain ⟨p, r, W, u, pa, M, L, ps, m, ts, rfl, _⟩ := h
    rfl
  · obtain ⟨p, r, W, u, pa, M, L, ps, m, ts, rfl, hpot, hw, ok, hpa, hst, hM, hmok, hL, hLp, hlts, htl, q⟩ := h
    have hw0 := hw
    obtain ⟨a, c, ls, rfl, ha, hc, hl⟩ := hw0
    have hn8 := ok.2.1
    have hn1 := ok.1
    obtain ⟨hstl, near, hsp, hpv⟩ := id hst
    have hpv : ∀ v, v < W.n → ps.getD v 0 = purse W.ls near v := hpv
    have hMx : ∀ {H' : Hp}, Kp [p] H H' → MostsAt [] H' M W.n m := fun {H'} k => by
      obtain ⟨t, h1, h2, h3, h4, h5⟩ := hM.kp k
      exact ⟨t, List.not_mem_nil, fun _ _ => List.not_mem_nil, h3, h4, h5⟩
    have hLx : ∀ {H' : Hp}, Kp [p] H H' → H' L = some (.lst (ts.map V.ref)) := fun {H'} k => k.keep _ _ hL (by simpa using hLp)
    refine ⟨_, (pss_cons (ps_set (i := 5) sc.nd rfl (by first | exact Or.inl rfl | exact Or.inr rfl) (pe_op op_mul pe_int (pe_c c_law_draw hr (by decide) (by rfl) (pa_cons (pv 0) (pa_cons pe_int pa_nil)))))
      (pss_cons (ps_if (pt_not (pt_val (pe_c c_law_houses_hold hr (by decide) (by rfl) (pa_cons (pv 1) (pa_cons (pv 2) (pa_cons (pv 3) (pa_cons (pv 5) pa_nil)))))))
        (pss_one (ps_ret pe_bl))
        pss_nil)
      (pss_cons (ps_set (i := 6) sc.nd rfl (by first | exact Or.inl rfl | exact Or.inr rfl) (pe_tupRg rfl (by rfl) T.tuple (prg_1 (by rfl) T.range (pe_ix (kx_tup (K := K) rfl) (pv 1) pe_int (fun _ _ => rfl)))))
      (pss_cons (ps_for PassesOwn.never rfl (kpi_tup (K := K) rfl (pe_tup (pa_cons (pv 6) (pa_cons (pe_c c_law_order hr (by decide) (by rfl) (pa_cons (pv 0) (pa_cons (pe_ix (kx_tup (K := K) rfl) (pv 1) pe_int (fun _ _ => rfl)) pa_nil))) pa_nil)))) (pg_name (i := 7) sc.nd rfl (by first | exact Or.inl rfl | exact Or.inr rfl))
        (pss_cons (ps_set (i := 8) sc.nd rfl (by first | exact Or.inl rfl | exact Or.inr rfl) (pe_c c_law_peel hr (by decide) (by rfl) (pa_cons (pv 1) (pa_cons (pv 2) (pa_cons (pv 4) (pa_cons (pv 7) (pa_cons (pe_op op_repTk (pe_tup (pa_cons pe_str pa_nil)) (pe_ix (kx_tup (K := K) rfl) (pv 1) pe_int (fun _ _ => rfl))) pa_nil)))))))
        (pss_cons (ps_if (pt_not (pt_val (pe_c c_law_same hr (by decide) (by rfl) (pa_cons (pe_c c_law_told hr (by decide) (by rfl) (pa_cons (pe_op op_add pe_int (pv 5)) (pa_cons (pv 1) (pa_cons (pv 2) (pa_cons (pv 7) pa_nil))))) (pa_cons (pe_tup (pa_cons pe_str (pa_cons (pv 8) pa_nil))) pa_nil)))))
          (pss_one (ps_ret pe_bl))
          pss_nil)
        (pss_cons (ps_set (i := 9) sc.nd rfl (by first | exact Or.inl rfl | exact Or.inr rfl) (pe_callTy (kq_tup (K := K) rfl) (by rfl) T.tuple (by decide +kernel) (pa_cons (pe_lc (own := [("_law_house", 15)]) rfl sc.nd (kpi_tup (K := K) rfl (pv 7)) (blkOk_by (N := ["_law_pot_here", "_law_web_here", "_law_row", "_law_mosts_here", "_law_lots_here", "_law_turn", "_law_first", "_law_order_here", "_law_due", "_law_sides", "_law_here", "_law_there", "_law_both", "_law_great", "_law_coins", "_law_house"]) (sc := defScope s_law_row_holds) (by decide +kernel)) (fun _ _ _ _ _ => (pg_name (i := 15) sc.nd rfl (by first | exact Or.inl rfl | exact Or.inr rfl))) (fun _ _ _ _ _ => pts_nil) (fun _ _ _ _ _ => (pe_ix (kx_tup (K := K) rfl) (pe_tup (pa_cons pe_str (pa_cons pe_str pa_nil))) (pe_c c_law_draw hr (by decide) (by rfl) (pa_cons (pv 0) (pa_cons pe_int pa_nil))) (fun _ _ => rfl)))) pa_nil)))
        (pss_cons (ps_set (i := 8) sc.nd rfl (by first | exact Or.inl rfl | exact Or.inr rfl) (pe_c c_law_peel hr (by decide) (by rfl) (pa_cons (pv 1) (pa_cons (pv 2) (pa_cons (pv 4) (pa_cons (pv 7) (pa_cons (pv 9) pa_nil)))))))
        (pss_one (ps_if (pt_not (pt_val (pe_c c_law_same hr (by decide) (by rfl) (pa_cons (pe_c c_law_told hr (by decide) (by rfl) (pa_cons (pe_op op_add pe_int (pv 5)) (pa_cons (pv 1) (pa_cons (pv 2) (pa_cons (pe_tup (pa_cons (pv 7) (pa_cons (pv 9) pa_nil))) pa_nil))))) (pa_cons (pe_tup (pa_cons pe_str (pa_cons (pv 8) pa_nil))) pa_nil)))))
          (pss_one (ps_ret pe_bl))
          pss_nil)))))))
      (pss_cons (ps_set (i := 10) sc.nd rfl (by first | exact Or.inl rfl | exact Or.inr rfl) (pe_c c_law_draw hr (by decide) (by rfl) (pa_cons (pv 0) (pa_cons (pe_ix (kx_tup (K := K) rfl) (pv 1) pe_int (fun _ _ => rfl)) pa_nil))))
      (pss_cons (ps_set (i := 11) sc.nd rfl (by first | exact Or.inl rfl | exact Or.inr rfl) (pe_c c_law_draw hr (by decide) (by rfl) (pa_cons (pv 0) (pa_cons (pe_ix (kx_tup (K := K) rfl) (pv 1) pe_int (fun _ _ => rfl)) pa_nil))))
      (pss_cons (ps_set (i := 12) sc.nd rfl (by first | exact Or.inl rfl | exact Or.inr rfl) (pe_callB (cq_min rfl) (by rfl) T.min (by decide +kernel) (pa_cons (pe_ix (kx_list (K := K) rfl) (pe_ix (kx_list (K := K) rfl) (pv 3) (pv 10) (fun _ _ => rfl)) (pv 11) (fun _ _ => rfl)) (pa_cons (pe_ix (kx_list (K := K) rfl) (pe_ix (kx_list (K := K) rfl) (pv 3) (pv 11) (fun _ _ => rfl)) (pv 10) (fun _ _ => rfl)) pa_nil))))
      (pss_cons (ps_set (i := 13) sc.nd rfl (by first | exact Or.inl rfl | exact Or.inr rfl) (pe_op op_pow pe_int pe_int))
      (pss_cons (ps_for PassesOwn.never rfl (kpi_tup (K := K) rfl (pe_tup (pa_cons pe_int (pa_cons (pe_op op_add pe_int (pe_c c_law_draw hr (by decide) (by rfl) (pa_cons (pv 0) (pa_cons pe_int pa_nil)))) (pa_cons (pe_callB (cq_max rfl) (by rfl) T.max (by decide +kernel) (pa_cons pe_int (pa_cons (pe_callB (cq_min rfl) (by rfl) T.min (by decide +kernel) (pa_cons (pv 12) (pa_cons (pv 13) pa_nil))) pa_nil))) (pa_cons (pe_callB (cq_min rfl) (by rfl) T.min (by decide +kernel) (pa_cons (pe_op op_add (pv 12) pe_int) (pa_cons (pv 13) pa_nil))) (pa_cons (pv 13) pa_nil))))))) (pg_name (i := 14) sc.nd rfl (by first | exact Or.inl rfl | exact Or.inr rfl))
        (pss_cons (ps_set (i := 8) sc.nd rfl (by first | exact Or.inl rfl | exact Or.inr rfl) (pe_c c_law_classes hr (by decide) (by rfl) (pa_cons (pv 3) (pa_cons (pv 14) pa_nil))))
        (pss_one (ps_if (pt_not (pt_val (pe_c c_law_same hr (by decide) (by rfl) (pa_cons (pe_c c_law_told hr (by decide) (by rfl) (pa_cons (pe_op op_add pe_int (pv 5)) (pa_cons (pv 1) (pa_cons (pv 2) (pa_cons (pv 14) pa_nil))))) (pa_cons (pe_tup (pa_cons pe_str (pa_cons (pv 8) pa_nil))) pa_nil)))))
          (pss_one (ps_ret pe_bl))
          pss_nil))))
      (pss_one (ps_ret pe_bl))))))))))), ?_⟩
    walk_at "s"
    refine ⟨p, r, 2, rfl, hpot, by omega, by omega, fun tu H1 htu k1 hpot1 => ?_⟩
    refine g_mulL (by omega) ?_
    walk_at "s"
    obtain ⟨tn, etn, htn⟩ : ∃ tn : Int, (5 : Int) * (tu : Int) = tn ∧ (tn = 0 ∨ tn = 5) := ⟨_, rfl, by omega⟩
    rw [etn]
    refine ⟨W, _, pa, M, ps, m, tn, rfl, htn, hw.kp k1, ok, k1.tup _ _ hpa, hst, hMx k1, hmok, fun H2 k2 => ?_⟩
    walk_at "s"
    refine iteF ?_
    walk_at "s"
    have k12 := k1.trans (.of_ex k2)
    have hpot2 := hpot1.ex k2
    refine g_ixT (j := 0) (k12.tup _ _ ha) rfl ?_
    refine ⟨W.n, rfl, rg_ok (by omega), fun ft hft => ?_⟩
    walk_at "s"
    rw [rgV_nat]
    have k3 : Ex H2 (upd H2 ft (.tup (zs (hs (List.range W.n))))) := .new hft
    have hft3 : (upd H2 ft (.tup (zs (hs (List.range W.n))))) ft = some (.tup (zs (hs (List.range W.n)))) := upd_same
    generalize upd H2 ft (.tup (zs (hs (List.range W.n)))) = H3 at *
    have k13 := k12.trans (.of_ex k3)
    refine g_ixT (j := 0) (k13.tup _ _ ha) rfl ?_
    walk_at "s"
    refine ⟨p, r, W.n, rfl, hpot2.ex k3, hn8, fun os2 ot H4 hos2 k4 hpot4 hot => ?_⟩
    walk_at "s"
    refine ⟨sz, fun tt htt => ?_⟩
    have k14 := k13.trans k4
    have k5 : Ex H4 (upd H4 tt (.tup [.ref ft, .ref ot])) := .new htt
    have htt5 : (upd H4 tt (.tup [.ref ft, .ref ot])) tt = some (.tup [.ref ft, .ref ot]) := upd_same
    have hft5 := k5.tup _ _ (k4.tup _ _ hft3)
    have hot5 := k5.tup _ _ hot
    have hpot5 := hpot4.ex k5
    have k15 := k14.trans (.of_ex k5)
    generalize upd H4 tt (.tup [.ref ft, .ref ot]) = H5 at *
    refine ⟨tt, rfl, ⟨_, .of htt5⟩, ?_⟩
    refine for_it (walk_tup (xs := [V.ref ft, .ref ot])) (fun i σ H' => ∃ (y7 y8 y9 y10 y11 y12 y13 y14 y15 : Option V), σ = [some (.ref p), some (.ref a), some (.ref pa), some (.ref M), some (.ref L), some (.int tn), some (.ref ft), y7, y8, y9, y10, y11, y12, y13, y14, y15] ∧ Kp [p] H5 H' ∧ PotAt p r H') ⟨_, _, _, _, _, _, _, _, _, rfl, .refl _ _, hpot5⟩ (fun i σ H' _ h => ?_) (fun i x σ H6 H7 hi hx hy => ?_) (fun σ H6 hx => ?_)
    · obtain ⟨_, _, _, _, _, _, _, _, _, _, k6, _⟩ := h
      exact .of (k6.tup _ _ htt5)
    · obtain ⟨y7, y8, y9, y10, y11, y12, y13, y14, y15, rfl, k6, hpot6⟩ := hx
      obtain ⟨rfl, ex⟩ := hy
      obtain ⟨oa, os, rfl, hoa5, hperm⟩ : ∃ oa os, x = .ref oa ∧ H5 oa = some (.tup (zs (hs os))) ∧ os.Perm (List.range W.n) := by
        match i, hi, ex with
        | 0, _, e => exact ⟨ft, _, (Option.some.inj e).symm, hft5, .refl _⟩
        | 1, _, e => exact ⟨ot, _, (Option.some.inj e).symm, hot5, hos2⟩
      have hord : IsOrd W.n (.tuple (os.map fun x : Nat => PyData.int (x : Int))) os := ⟨rfl, hperm⟩
      have hosl := hord.len
      have hoslt := hord.lt
      have hoa := k6.tup _ _ hoa5
      have k16 := k15.trans k6
      have daO : ∀ {H' : Hp}, H' oa = some (.tup (zs (hs os))) → Da [] H' (.ref oa) (.tuple (os.map fun x : Nat => PyData.int (x : Int))) := fun {H'} h => by
        have := da_ints h
        rw [hs, List.map_map] at this
        exact this
      walk_at "s"
      refine ⟨sz, fun z hz => ?_⟩
      walk_at "s"
      have kz : Ex H7 (upd H7 z (.tup [.str "out"])) := .new hz
      refine g_ixT (j := 0) ((k16.trans (.of_ex kz)).tup _ _ ha) rfl ?_
      refine g_repT upd_same hn1 (by omega) fun sq H8 k8 hsq => ?_
      walk_at "s"
      have k78 : Ex H7 H8 := kz.trans k8
      have k18 := k16.trans (.of_ex k78)
      refine ⟨W, _, pa, L, oa, sq, ps, ts, os, List.replicate W.n true, near, rfl, hw.kp k18, ok, k18.tup _ _ hpa, hstl, hLx k18, hlts.kp k18, htl, k78.tup _ _ hoa, by rw [hsq, sdV, List.map_replicate]; rfl, hperm, List.length_replicate, hsp, hpv, fun dq H9 k9 hdq => ?_⟩
      walk_at "s"
      have k79 := k78.trans k9
      have k19 := k16.trans (.of_ex k79)
      refine ⟨W, _, _, _, [], [], _, _, 2, 2 + tn, rfl, by omega, by omega, hw.kp k19, ok, da_ints (k19.tup _ _ hpa), daO (k79.tup _ _ hoa), ?_⟩
      refine .inl ⟨ps, stand_good hst, fun os' ho' near' hsp' hpv' t10 H10 k10 hd10 => ?_, fun z => absurd ⟨os, hord⟩ z⟩
      have eos : os' = os := by
        have := ho'.1
        simp only [PyData.tuple.injEq] at this
        exact (nats_inj this).symm
      subst eos
      have epeel : peelL W near' (os'.zip (List.replicate W.n true)) [] = peelL W near (os'.zip (List.replicate W.n true)) [] := peel_pur ok hsp' hsp (fun v hv => by rw [← hpv' v hv, hpv v hv]) (zip_lt hoslt)
      rw [epeel] at hd10
      walk_at "s"
      refine ⟨sz, fun t11 ht11 => ?_⟩
      walk_at "s"
      have k11 : Ex H10 (upd H10 t11 (.tup [.str "told", .ref dq])) := .new ht11
      refine ⟨[], [], _, _, _, rfl, hd10.kp k11, da_told upd_same (k11.tup _ _ (k10.tup _ _ hdq)), pln_told (by rw [joinOf_len]; omega), fun H12 k12' => ?_⟩
      walk_at "s"
      refine iteF ?_
      walk_at "s"
      have k712 := k79.trans (k10.trans (k11.trans k12'))
      have hpot12 := hpot6.ex k712
      have k012 := k16.trans (.of_ex k712)
      have hoa12 := k712.tup _ _ hoa
      refine ⟨oa, rfl, ⟨_, .of hoa12⟩, fun D hD => ?_⟩
      have hDp := hpot12.ne hD
      refine lc_it (walk_tup (xs := zs (hs os'))) (fun j H' => Kp [p] H12 H' ∧ PotAt p r H' ∧ ∃ bs : List Bool, H' D = some (.lst (sdV bs)) ∧ bs.length = j) ⟨.new hD, hpot12.ex (.new hD), [], upd_same, rfl⟩ (fun j H' _ h => .of (h.1.tup _ _ hoa12)) (fun j x H13 H14 hj hx hy => ?_) (fun H13 hx => ?_)
      · obtain ⟨k13', hpot13, bs, hD13, hbl⟩ := hx
        obtain ⟨rfl, ex⟩ := hy
        rw [zs_len, hs_len] at hj
        walk_at "s"
        refine ⟨rfl, ?_⟩
        walk_at "s"
        refine ⟨sz, fun t15 ht15 => ?_⟩
        walk_at "s"
        have k15' : Ex H14 (upd H14 t15 (.tup [.str "out", .str "in"])) := .new ht15
        refine ⟨p, r, 2, rfl, hpot13.ex k15', by omega, by omega, fun y H16 hy' k16' hpot16 => ?_⟩
        have hD16 := k16'.keep _ _ (k15'.keep _ _ hD13 List.not_mem_nil) (by simpa using hDp.1)
        have ht16 : H16 t15 = some (.tup [.str "out", .str "in"]) := k16'.tup _ _ upd_same
        have hb : ∃ b : Bool, ([V.str "out", .str "in"])[y]? = some (.str (sd b)) := by
          match y, hy' with
          | 0, _ => exact ⟨true, rfl⟩
          | 1, _ => exact ⟨false, rfl⟩
        obtain ⟨b, hb⟩ := hb
        refine g_ixT (j := y) ht16 hb ?_
        refine ⟨_, hD16, small1000 (by rw [List.length_map]; omega), (((k13'.trans (.of_ex k15')).trans k16')).mutPL hD hD16, hpot16.upd hDp, bs ++ [b], by rw [upd_same, sdV, sdV, List.map_append]; rfl, by rw [List.length_append, hbl]; rfl⟩
      · obtain ⟨k13', hpot13, bs, hD13, hbl⟩ := hx
        rw [zs_len, hs_len, hosl] at hbl
        walk_at "s"
        refine g_tupL hD13 fun sa hsa => ?_
        walk_at "s"
        have ks : Ex H13 (upd H13 sa (.tup (sdV bs))) := .new hsa
        have hsa14 : (upd H13 sa (.tup (sdV bs))) sa = some (.tup (sdV bs)) := upd_same
        generalize upd H13 sa (.tup (sdV bs)) = H14 at *
        have k1214 := k13'.trans (.of_ex ks)
        have k014 := k012.trans k1214
        have hpot14 := hpot13.ex ks
        have hoa14 := k1214.tup _ _ hoa12
        refine ⟨W, _, pa, L, oa, sa, ps, ts, os', bs, near, rfl, hw.kp k014, ok, k014.tup _ _ hpa, hstl, hLx k014, hlts.kp k014, htl, hoa14, hsa14, hperm, hbl, hsp, hpv, fun dq2 H15 k15' hdq2 => ?_⟩
        walk_at "s"
        have k015 := k014.trans (.of_ex k15')
        refine ⟨sz, fun t16 ht16 => ?_⟩
        walk_at "s"
        have k16' : Ex H15 (upd H15 t16 (.tup [.ref oa, .ref sa])) := .new ht16
        have k016 := k015.trans (.of_ex k16')
        have hsides : IsSides W.n (.tuple (bs.map fun b => PyData.str (sd b))) bs := ⟨rfl, hbl⟩
        have daS : ∀ {H' : Hp}, H' sa = some (.tup (sdV bs)) → Da [] H' (.ref sa) (.tuple (bs.map fun b => PyData.str (sd b))) := fun {H'} h => .tup h (sdV_da H' bs)
        refine ⟨W, _, _, _, [], [], _, _, 4, 4 + tn, rfl, by omega, by omega, hw.kp k016, ok, da_ints (k016.tup _ _ hpa), .tup upd_same (.cons (daO (k16'.tup _ _ (k15'.tup _ _ hoa14))) (.cons (daS (k16'.tup _ _ (k15'.tup _ _ hsa14))) .nil)), ?_⟩
        refine ⟨_, _, [], rfl, .inl ⟨ps, stand_good hst, fun os2' bs2 ho2 hb2 near' hsp' hpv' t17 H17 k17 hd17 => ?_, fun z => absurd ⟨os', hord⟩ z, fun _ z => absurd ⟨bs, hsides⟩ z⟩⟩
        have eos : os2' = os' := by
          have := ho2.1
          simp only [PyData.tuple.injEq] at this
          exact (nats_inj this).symm
        have ebs : bs2 = bs := by
          have := hb2.1
          simp only [PyData.tuple.injEq] at this
          have inj : ∀ {x y : List Bool}, x.map (fun b => PyData.str (sd b)) = y.map (fun b => PyData.str (sd b)) → x = y := by
            intro x
            induction x with
            | nil => intro y h; cases y with
              | nil => rfl
              | cons _ _ => simp at h
            | cons b r ih =>
              intro y h
              cases y with
              | nil => simp at h
              | cons b2 r2 =>
                simp only [List.map_cons, List.cons.injEq, PyData.str.injEq] at h
                rw [ih h.2, sd_inj h.1]
          exact (inj this).symm
        subst eos ebs
        have epeel2 : peelL W near' (os2'.zip bs2) [] = peelL W near (os2'.zip bs2) [] := peel_pur ok hsp' hsp (fun v hv => by rw [← hpv' v hv, hpv v hv]) (zip_lt hoslt)
        rw [epeel2] at hd17
        walk_at "s"
        refine ⟨sz, fun t18 ht18 => ?_⟩
        walk_at "s"
        have k18' : Ex H17 (upd H17 t18 (.tup [.str "told", .ref dq2])) := .new ht18
        refine ⟨[], [], _, _, _, rfl, hd17.kp k18', da_told upd_same (k18'.tup _ _ (k17.tup _ _ (k16'.tup _ _ hdq2))), pln_told (by rw [joinOf_len]; omega), fun H19 k19' => ?_⟩
        walk_at "s"
        refine iteF ?_
        walk_at "s"
        have kk : Ex H14 H19 := k15'.trans (k16'.trans (k17.trans (k18'.trans k19')))
        exact ⟨_, _, _, _, _, _, _, _, _, rfl, ((k6.trans (.of_ex k712)).trans k1214).trans (.of_ex kk), hpot14.ex kk⟩
    · obtain ⟨y7, y8, y9, y10, y11, y12, y13, y14, y15, rfl, k6, hpot6⟩ := hx
      have k16 := k15.trans k6
      walk_at "s"
      refine g_ixT (j := 0) (k16.tup _ _ ha) rfl ?_
      walk_at "s"
      refine ⟨p, r, W.n, rfl, hpot6, hn1, by omega, fun he H7 hhe k7 hpot7 => ?_⟩
      walk_at "s"
      have k17 := k16.trans k7
      refine g_ixT (j := 0) (k17.tup _ _ ha) rfl ?_
      walk_at "s"
      refine ⟨p, r, W.n, rfl, hpot7, hn1, by omega, fun th H8 hth k8 hpot8 => ?_⟩
      walk_at "s"
      have k18 := k17.trans k8
      obtain ⟨x1, t1, e1, e2, e3⟩ := (hMx k18).get hhe
      obtain ⟨x2, t2, f1, f2, f3⟩ := (hMx k18).get hth
      refine g_ixL (j := he) e1 e2 ?_
      walk_at "s"
      refine g_ixL (j := th) e3 (mget hth) ?_
      walk_at "s"
      refine g_ixL (j := th) f1 f2 ?_
      walk_at "s"
      refine g_ixL (j := he) f3 (mget hhe) ?_
      walk_at "s"
      have hboth : 0 ≤ min (m he th) (m th he) := by
        have nn : ∀ i j, i < W.n → j < W.n → 0 ≤ m i j := fun i j hi hj => by
          by_cases z : i = j
          · rw [(hmok i j hi hj).1 z]
            exact Int.le_refl 0
          · obtain ⟨⟨X, _, _, x3⟩, _⟩ := (hmok i j hi hj).2 z
            rw [← x3]
            exact hst.2.slack ok X
        have := nn he th hhe hth
        have := nn th he hth hhe
        omega
      generalize min (m he th) (m th he) = both at *
      refine g_pow ⟨by omega, by omega, by decide⟩ ?_
      walk_at "s"
      have hgreat : (1 : Int) ≤ 10 ^ (30 : Int).toNat := by decide
      generalize (10 : Int) ^ (30 : Int).toNat = great at *
      refine ⟨p, r, 4, rfl, hpot8, by omega, by omega, fun d4 H9 hd4 k9 hpot9 => ?_⟩
      walk_at "s"
      refine ⟨sz, fun tc htc => ?_⟩
      have k19 := k18.trans k9
      have kc : Ex H9 (upd H9 tc (.tup [.int 1, .int (2 + (d4 : Int)), .int (max 1 (min both great)), .int (min (both + 1) great), .int great])) := .new htc
      have htc10 : (upd H9 tc (.tup [.int 1, .int (2 + (d4 : Int)), .int (max 1 (min both great)), .int (min (both + 1) great), .int great])) tc = some (.tup (zs [1, 2 + (d4 : Int), max 1 (min both great), min (both + 1) great, great])) := upd_same
      have hcs : ∀ x ∈ [1, 2 + (d4 : Int), max 1 (min both great), min (both + 1) great, great], (1 : Int) ≤ x := fun x hx => by
        simp only [List.mem_cons, List.not_mem_nil, or_false] at hx
        omega
      have hcl : [1, 2 + (d4 : Int), max 1 (min both great), min (both + 1) great, great].length = 5 := rfl
      generalize upd H9 tc (.tup [.int 1, .int (2 + (d4 : Int)), .int (max 1 (min both great)), .int (min (both + 1) great), .int great]) = H10 at *
      generalize [1, 2 + (d4 : Int), max 1 (min both great), min (both + 1) great, great] = cs at *
      have k110 := k19.trans (.of_ex kc)
      have hpot10 := hpot9.ex kc
      refine ⟨tc, rfl, ⟨_, .of htc10⟩, ?_⟩
      refine for_it (walk_tup (xs := zs cs)) (fun i σ H' => ∃ (y7 y8 y9 y14 y15 : Option V), σ = [some (.ref p), some (.ref a), some (.ref pa), some (.ref M), some (.ref L), some (.int tn), some (.ref ft), y7, y8, y9, some (.int (he : Int)), some (.int (th : Int)), some (.int both), some (.int great), y14, y15] ∧ Ex H10 H') ⟨_, _, _, _, _, rfl, .refl _ _⟩ (fun i σ H' _ h => ?_) (fun i x σ H11 H12 hi hx hy => ?_) (fun σ H11 hx => ?_)
      · obtain ⟨_, _, _, _, _, _, k11⟩ := h
        exact .of (k11.tup _ _ htc10)
      · obtain ⟨y7, y8, y9, y14, y15, rfl, k11⟩ := hx
        obtain ⟨rfl, ex⟩ := hy
        rw [zs_len] at hi
        have ec : cs[i]? = some cs[i] := List.getElem?_eq_getElem hi
        cases zs_at ex ec
        have hc1 := hcs _ (List.getElem_mem hi)
        generalize cs[i] = cc at *
        have k011 := k110.trans (.of_ex k11)
        walk_at "s"
        refine ⟨W, M, _, m, cc, rfl, ok, hMx k011, hmok, hc1, fun xs dq H13 k13' hxs hdq => ?_⟩
        walk_at "s"
        have k013 := k011.trans (.of_ex k13')
        refine ⟨W, _, _, _, [], [], _, _, 3, 3 + tn, rfl, by omega, by omega, hw.kp k013, ok, da_ints (k013.tup _ _ hpa), .int cc, ?_⟩
        refine .inl ⟨ps, stand_good hst, fun c' e' _ xs' hxs' t14 H14 k14' hd14 => ?_, fun z => absurd (show isC (.int cc) = true from decide_eq_true hc1) (by rw [z]; exact Bool.false_ne_true)⟩
        have ecc := PyData.int.inj e'
        subst ecc
        have := hxs'.uniq hxs
        subst this
        walk_at "s"
        refine ⟨sz, fun t15 ht15 => ?_⟩
        walk_at "s"
        have k15' : Ex H14 (upd H14 t15 (.tup [.str "told", .ref dq])) := .new ht15
        refine ⟨[], [], _, _, _, rfl, hd14.kp k15', da_told upd_same (k15'.tup _ _ (k14'.tup _ _ hdq)), pln_told (by rw [hs_len, hxs.1]; omega), fun H16 k16' => ?_⟩
        walk_at "s"
        refine iteF ?_
        walk_at "s"
        exact ⟨_, _, _, _, _, rfl, k11.trans (k13'.trans (k14'.trans (k15'.trans k16')))⟩
      · obtain ⟨y7, y8, y9, y14, y15, rfl, k11⟩ := hx
        walk_at "s"
        exact q H11 (k110.trans (.of_ex k11)) (hpot10.ex k11)
end
end K8
set_option Elab.async false
set_option linter.all false
set_option maxRecDepth 100000
set_option maxHeartbeats 4000000
namespace K8
open PySem PySem.Spec PyProof.Rows L2
local macro_rules | `(tactic| walk_at "s") => `(tactic| repeat (first
  | with_reducible refine g_seq ?_ | with_reducible refine g_ret ?_ | with_reducible refine g_asg ?_ | with_reducible refine g_name ?_ | with_reducible refine g_c ?_ | with_reducible refine g_op ?_ | with_reducible refine g_cons ?_ | with_reducible refine g_nil ?_
  | (with_reducible show tVar _ _ _ _; refine g_var rfl ?_) | with_reducible refine g_cb ?_ | with_reducible refine g_call ?_ | with_reducible refine g_if ?_ | with_reducible refine g_test ?_ | with_reducible refine g_tB ?_ | with_reducible refine g_i0 ?_ | with_reducible refine g_bl ?_
  | with_reducible refine g_add ?_ | with_reducible refine g_sub ?_ | with_reducible refine g_eqI ?_ | with_reducible refine g_neI ?_ | with_reducible refine g_drop ?_ | with_reducible refine g_next ?_ | with_reducible refine g_break ?_ | with_reducible refine g_un ?_ | with_reducible refine g_u ?_
  | with_reducible refine g_ifE ?_ | with_reducible refine g_and ?_ | with_reducible refine g_or ?_ | with_reducible refine g_not ?_ | with_reducible refine g_andV ?_ | with_reducible refine g_orV ?_ | with_reducible refine g_notV ?_ | with_reducible refine g_isN ?_ | with_reducible refine g_notN ?_
  | with_reducible refine g_gnil ?_ | with_reducible refine g_gcons ?_ | with_reducible refine g_bm ?_ | with_reducible refine g_abs ?_ | with_reducible refine g_max ?_ | with_reducible refine g_min ?_ | with_reducible refine g_int ?_ | with_reducible refine g_lc ?_ | with_reducible refine g_for ?_ | with_reducible refine g_yes ?_ | with_reducible refine g_rng1 ?_ | with_reducible refine g_rng2 ?_ | with_reducible refine g_il ?_ | with_reducible refine g_it ?_ | with_reducible refine g_en ?_ | with_reducible refine g_zp ?_ | with_reducible refine g_mkT ?_ | with_reducible refine g_mkL ?_ | with_reducible refine g_augS ?_ | (with_reducible show tAug _ _ _ _ _ _; refine g_aug rfl ?_) | with_reducible refine g_ipI ?_ | with_reducible refine g_gsub ?_ | with_reducible refine g_dget ?_ | with_reducible refine g_din ?_ | with_reducible refine g_dnotin ?_ | with_reducible refine g_dput ?_ | with_reducible refine g_dc ?_ | with_reducible refine g_sl ?_ | with_reducible refine g_nopart ?_ | with_reducible refine g_part ?_ | with_reducible refine g_exI ?_ | with_reducible refine g_revL ?_ | (with_reducible show iSq _ _ _ _; refine g_sq rfl ?_) | with_reducible refine g_while ?_ | with_reducible refine g_min3 ?_ | with_reducible refine g_trq ?_ | with_reducible refine g_lock ?_ | with_reducible refine g_mko ?_ | with_reducible refine g_keys ?_ | with_reducible refine g_eqS ?_ | with_reducible refine g_lrg ?_ | with_reducible refine g_trg ?_ | with_reducible refine g_rg1 ?_ | with_reducible refine g_cut ?_ | with_reducible refine g_disp ?_ | with_reducible refine g_dnew ?_ | with_reducible refine iteT ?_ | with_reducible refine iteF ?_))
section
variable {H : Hp} {Q : VK} {K : PySem.W.Frag}
theorem g_slA {a : Addr} {xs : List V} {lo hi : Option Int} (e : H a = some (.tup xs)) (h : ∀ (q : Addr) (H' : Hp), Ex H H' → H' q = some (.tup (cutV xs lo hi)) → Q (.ref q) H') : rSlA K (.ref a) lo hi H Q :=
  ⟨a, xs, rfl, .of e, fun z => by
    have : cutV xs lo hi = xs := by
      unfold cutV
      rw [z.1, z.2, List.drop_zero, Nat.sub_zero, List.take_length]
    exact h a H (.refl _ _) (by rw [this]; exact e), fun _ p hp => h p _ (.new hp) upd_same⟩
theorem cut_from (xs : List V) (j : Nat) : cutV xs (some (j : Int)) none = xs.drop j := by
  unfold cutV
  rw [HT.sIx_nat, HT.sIx_none]
  by_cases z : j ≤ xs.length
  · rw [Nat.min_eq_left z]
    exact List.take_of_length_le (by rw [List.length_drop]; exact Nat.le_refl _)
  · rw [Nat.min_eq_right (by omega), Nat.sub_self, List.take_zero, List.drop_of_length_le (by omega)]
theorem cut_to (xs : List V) (j : Nat) : cutV xs none (some (j : Int)) = xs.take j := by
  unfold cutV
  rw [HT.sIx_nat, HT.sIx_none, List.drop_zero, Nat.sub_zero]
  by_cases z : j ≤ xs.length
  · rw [Nat.min_eq_left z]
  · rw [Nat.min_eq_right (by omega), List.take_length, List.take_of_length_le (by omega)]
theorem cut_init (xs : List V) : cutV xs none (some (-1)) = xs.dropLast := by
  unfold cutV
  rw [HT.sIx_none, List.drop_zero, Nat.sub_zero, List.dropLast_eq_take]
  have : HT.sIx xs.length xs.length (some (-1)) = xs.length - 1 := by
    show ((-1 : Int) + (xs.length : Int)).toNat = _
    omega
  rw [this]
theorem g_from {a : Addr} {xs : List V} {j : Nat} (e : H a = some (.tup xs)) (h : ∀ (q : Addr) (H' : Hp), Ex H H' → H' q = some (.tup (xs.drop j)) → Q (.ref q) H') : rSlA K (.ref a) (some (j : Int)) none H Q :=
  g_slA e fun q H' k h' => h q H' k (by rw [← cut_from]; exact h')
theorem g_to {a : Addr} {xs : List V} {j : Nat} (e : H a = some (.tup xs)) (h : ∀ (q : Addr) (H' : Hp), Ex H H' → H' q = some (.tup (xs.take j)) → Q (.ref q) H') : rSlA K (.ref a) none (some (j : Int)) H Q :=
  g_slA e fun q H' k h' => h q H' k (by rw [← cut_to]; exact h')
theorem g_init {a : Addr} {xs : List V} (e : H a = some (.tup xs)) (h : ∀ (q : Addr) (H' : Hp), Ex H H' → H' q = some (.tup xs.dropLast) → Q (.ref q) H') : rSlA K (.ref a) none (some (-1)) H Q :=
  g_slA e fun q H' k h' => h q H' k (by rw [← cut_init]; exact h')
end
/-! ### what is bad -/
def BadK (n : Nat) : Nat → PyData → Prop
  | 0 => fun d => isH n d = false
  | 1 => fun d => isH n d = false
  | 3 => fun d => isC d = false
  | _ => fun d => ¬ ∃ os, IsOrd n d os
/-- a list of bad data -/
def BadsAt (S : List Addr) (H : Hp) (q : Addr) (n kd : Nat) : Prop := ∃ vs : List V, H q = some (.lst vs) ∧ 8 ≤ vs.length ∧ vs.length ≤ 20 ∧ ∀ v ∈ vs, ∃ d, Da S H v d ∧ BadK n kd d
theorem new_nin {S : List Addr} {H H' : Hp} {x : Addr} (hS : ∀ x ∈ S, ∃ o, H x = some o) (k : Ex H H') (e : H' x = none) : x ∉ S := fun m => by
  obtain ⟨o, h⟩ := hS x m
  exact k.ne h e rfl
theorem bads_of {S : List Addr} {H : Hp} {q : Addr} {n kd : Nat} {vs : List V} {ds : List PyData} (h : H q = some (.lst vs)) (hd : DaAll S H vs ds) (hb : ∀ d ∈ ds, BadK n kd d) (h8 : 8 ≤ ds.length ∧ ds.length ≤ 20) : BadsAt S H q n kd :=
  ⟨vs, h, by rw [hd.len]; exact h8.1, by rw [hd.len]; exact h8.2, fun v hv => by
    obtain ⟨i, hi, rfl⟩ := List.mem_iff_getElem.mp hv
    obtain ⟨d, e, h⟩ := hd.getv (List.getElem?_eq_getElem hi)
    exact ⟨d, h, hb d (List.mem_of_getElem? e)⟩⟩
theorem bp_len {W : Wb} {ds : List PyData} (h : ds.length ≠ W.n) : BadP W (.tuple ds) := .inl (by simp [isP, h])
theorem bp_el {W : Wb} {ds : List PyData} {d : PyData} (hd : d ∈ ds) (h : isN d = false) : BadP W (.tuple ds) := .inl (by
  have : ds.all isN = false := by
    rw [Bool.eq_false_iff]
    intro z
    rw [List.all_eq_true.mp z d hd] at h
    cases h
  show (decide (ds.length = W.n) && ds.all isN) = false
  rw [this, Bool.and_false])
def fiD (n : Nat) : List PyData := (hs (List.range n)).map PyData.int
theorem fiD_len (n : Nat) : (fiD n).length = n := by rw [fiD, List.length_map, hs_len, List.length_range]
theorem ord_len {n : Nat} {ds : List PyData} (h : ds.length ≠ n) : ¬ ∃ os, IsOrd n (.tuple ds) os := fun ⟨os, e, p⟩ => h (by
  rw [PyData.tuple.inj e, List.length_map, p.length_eq, List.length_range])
theorem ord_int {n : Nat} {ds : List PyData} {d : PyData} (hd : d ∈ ds) (h : ¬ ∃ x : Nat, x < n ∧ d = .int x) : ¬ ∃ os, IsOrd n (.tuple ds) os := fun ⟨os, e, p⟩ => h (by
  rw [PyData.tuple.inj e] at hd
  obtain ⟨x, hx, e2⟩ := List.mem_map.mp hd
  exact ⟨x, List.mem_range.mp (p.mem_iff.mp hx), e2.symm⟩)
section
variable {P : Program} {w : World} {K : PySem.W.Frag} {mg : Str → Option Value} {base : Heap} {f : Addr} {fd : FuncData} {k : Nat}
theorem sc_law_bad : FnScope ["_law_kind", "_law_size", "_law_first", "_law_bad_here"] ["_law_kind", "_law_size"] (defScope s_law_bad) := ⟨rfl, rfl, rfl, by decide +kernel, rfl, by decide +kernel, by decide +kernel⟩
def sp_law_bad : Sp := fun vs H Q _ => ∃ (S : List Addr) (n kd : Nat), vs = [.int kd, .int n] ∧ (∀ x ∈ S, ∃ o, H x = some o) ∧ kd < 5 ∧ 1 ≤ n ∧ n ≤ 8 ∧ ∀ (q : Addr) (H' : Hp), Ex H H' → q ∉ S → BadsAt S H' q n kd → Q (.ref q) H'
theorem ok_law_bad (F : Fun K "_law_bad" "_law_bad" s_law_bad f fd) (T : Txt mg) : FnOk P w K mg base CX0 1 f fd ["_law_kind", "_law_size"] sp_law_bad := by
  have sc := sc_law_bad
  refine F.ok sc (fun vs H Q E h => ?_) (fun cdv A outer s H vs Q E hr h => ?_)
  · obtain ⟨S, n, kd, rfl, _⟩ := h
    rfl
  · obtain ⟨S, n, kd, rfl, hS, hkd, hn1, hn8, q⟩ := h
    refine ⟨_, (pss_cons (ps_if (pt_cmpR op_lt (pv 0) pe_int (nomark _))
        (pss_one (ps_ret (pe_lst (pa_cons (pe_un un_neg pe_int) (pa_cons (pv 1) (pa_cons pe_bl (pa_cons pe_bl (pa_cons pe_non (pa_cons pe_str (pa_cons (pe_tup (pa_cons pe_int pa_nil)) (pa_cons (pe_lst (pa_cons pe_int pa_nil)) pa_nil)))))))))))
        pss_nil)
      (pss_cons (ps_if (pt_cmpR op_eq (pv 0) pe_int (nomark _))
        (pss_one (ps_ret (pe_lst (pa_cons pe_int (pa_cons (pe_un un_neg pe_int) (pa_cons pe_bl (pa_cons pe_bl (pa_cons pe_non (pa_cons pe_str (pa_cons (pe_tup (pa_cons pe_int pa_nil)) (pa_cons (pe_lst (pa_cons pe_int pa_nil)) pa_nil)))))))))))
        pss_nil)
      (pss_cons (ps_set (i := 2) sc.nd rfl (by first | exact Or.inl rfl | exact Or.inr rfl) (pe_tupRg rfl (by rfl) T.tuple (prg_1 (by rfl) T.range (pv 1))))
      (pss_cons (ps_set (i := 3) sc.nd rfl (by first | exact Or.inl rfl | exact Or.inr rfl) (pe_lst (pa_cons (pe_callTy (kq_list (K := K) rfl) (by rfl) T.list (by decide +kernel) (pa_cons (pv 2) pa_nil)) (pa_cons (pe_slice (ksl_tup (K := K) rfl) (pv 2) (po_some pe_int) po_none) (pa_cons (pe_op (kop_catA (K := K) rfl) (pv 2) (pe_tup (pa_cons pe_int pa_nil))) (pa_cons (pe_op (kop_catA (K := K) rfl) (pv 2) (pe_tup (pa_cons (pv 1) pa_nil))) (pa_cons (pe_op (kop_catA (K := K) rfl) (pe_slice (ksl_tup (K := K) rfl) (pv 2) po_none (po_some (pe_un un_neg pe_int))) (pe_tup (pa_cons (pv 1) pa_nil))) (pa_cons (pe_op (kop_catA (K := K) rfl) (pe_slice (ksl_tup (K := K) rfl) (pv 2) po_none (po_some (pe_un un_neg pe_int))) (pe_tup (pa_cons (pe_un un_neg pe_int) pa_nil))) (pa_cons (pe_op (kop_catA (K := K) rfl) (pe_tup (pa_cons pe_bl pa_nil)) (pe_slice (ksl_tup (K := K) rfl) (pv 2) (po_some pe_int) po_none)) (pa_cons pe_non (pa_cons (pv 1) (pa_cons pe_str (pa_cons (pe_tup (pa_cons (pv 2) pa_nil)) pa_nil)))))))))))))
      (Evl.pss_cut (ps_if (pt_cmpR op_gt (pv 1) pe_int (nomark _))
        (pss_cons (ps_expr (pe_bm PySem.F.plainAttrs_list PySem.F.slot_list_append PySem.F.type_list_append mt_append (pv 3) (pa_cons (pe_op (kop_catA (K := K) rfl) (pe_slice (ksl_tup (K := K) rfl) (pv 2) po_none (po_some (pe_un un_neg pe_int))) (pe_tup (pa_cons pe_int pa_nil))) pa_nil)))
        (pss_one (ps_expr (pe_bm PySem.F.plainAttrs_list PySem.F.slot_list_append PySem.F.type_list_append mt_append (pv 3) (pa_cons (pe_op (kop_catA (K := K) rfl) (pe_tup (pa_cons pe_int (pa_cons pe_bl pa_nil))) (pe_slice (ksl_tup (K := K) rfl) (pv 2) (po_some pe_int) po_none)) pa_nil)))))
        pss_nil)
      (pss_one (ps_ret (pv 3)))))))), ?_⟩
    walk_at "s"
    by_cases h2 : kd < 2
    · rw [if_pos (decide_eq_true (show (kd : Int) < 2 by omega))]
      walk_at "s"
      refine ⟨sz, fun t1 ht1 => ?_⟩
      walk_at "s"
      refine ⟨sz, fun t2 ht2 => ?_⟩
      walk_at "s"
      refine ⟨sz, fun t3 ht3 => ?_⟩
      have k1 : Ex H (upd H t1 (.tup [.int 0])) := .new ht1
      have k2 := Kp.new (S := []) (o := .lst [.int 0]) ht2
      have k3 := Kp.new (S := []) (o := .lst [V.int (-1), V.int n, V.bl true, V.bl false, V.non, V.str (Str.ofString "0"), V.ref t1, V.ref t2]) ht3
      refine q t3 _ (k1.trans (k2.trans k3)) (new_nin hS (k1.trans k2) ht3) (bads_of (ds := [.int (-1), .int n, .bool true, .bool false, .none, .str (Str.ofString "0"), .tuple [.int 0], .list [.int 0]]) upd_same
        (.cons (.int _) (.cons (.int _) (.cons (.bl _) (.cons (.bl _) (.cons .non (.cons (.str _) (.cons (.tup (k3.tup _ _ (k2.tup _ _ upd_same)) (.cons (.int _) .nil)) (.cons (.lst (new_nin hS k1 ht2) (k3.keep _ _ upd_same List.not_mem_nil) (.cons (.int _) .nil)) .nil))))))))
        (fun d hd => ?_) ⟨Nat.le_refl 8, by show 8 ≤ 20; decide⟩)
      have hb : isH n d = false := by
        simp only [List.mem_cons, List.not_mem_nil, or_false] at hd
        rcases hd with rfl | rfl | rfl | rfl | rfl | rfl | rfl | rfl
        · rfl
        · show (decide (0 ≤ (n : Int)) && decide ((n : Int) < n)) = false
          rw [decide_eq_false (show ¬ (n : Int) < n by omega), Bool.and_false]
        all_goals rfl
      have : kd = 0 ∨ kd = 1 := by omega
      rcases this with rfl | rfl <;> exact hb
    rw [if_neg (show ¬ decide ((kd : Int) < 2) = true by rw [decide_eq_true_iff]; omega)]
    walk_at "s"
    by_cases h3 : kd = 3
    · rw [if_pos (decide_eq_true (show (kd : Int) = 3 by omega))]
      walk_at "s"
      refine ⟨sz, fun t1 ht1 => ?_⟩
      walk_at "s"
      refine ⟨sz, fun t2 ht2 => ?_⟩
      walk_at "s"
      refine ⟨sz, fun t3 ht3 => ?_⟩
      have k1 : Ex H (upd H t1 (.tup [.int 1])) := .new ht1
      have k2 := Kp.new (S := []) (o := .lst [.int 1]) ht2
      have k3 := Kp.new (S := []) (o := .lst [V.int 0, V.int (-1), V.bl true, V.bl false, V.non, V.str (Str.ofString "1"), V.ref t1, V.ref t2]) ht3
      refine q t3 _ (k1.trans (k2.trans k3)) (new_nin hS (k1.trans k2) ht3) (bads_of (ds := [.int 0, .int (-1), .bool true, .bool false, .none, .str (Str.ofString "1"), .tuple [.int 1], .list [.int 1]]) upd_same
        (.cons (.int _) (.cons (.int _) (.cons (.bl _) (.cons (.bl _) (.cons .non (.cons (.str _) (.cons (.tup (k3.tup _ _ (k2.tup _ _ upd_same)) (.cons (.int _) .nil)) (.cons (.lst (new_nin hS k1 ht2) (k3.keep _ _ upd_same List.not_mem_nil) (.cons (.int _) .nil)) .nil))))))))
        (fun d hd => ?_) ⟨Nat.le_refl 8, by show 8 ≤ 20; decide⟩)
      subst h3
      show isC d = false
      simp only [List.mem_cons, List.not_mem_nil, or_false] at hd
      rcases hd with rfl | rfl | rfl | rfl | rfl | rfl | rfl | rfl <;> rfl
    rw [if_neg (show ¬ decide ((kd : Int) = 3) = true by rw [decide_eq_true_iff]; omega)]
    walk_at "s"
    refine ⟨rg_ok (by omega), fun ft hft => ?_⟩
    have hfi : rgV 0 (n : Int) = zs (hs (List.range n)) := rgV_nat n
    rw [hfi]
    generalize hF : List.range n = fi at *
    have hfl : fi.length = n := by rw [← hF, List.length_range]
    have hzl : (zs (hs fi)).length = n := by rw [zs_len, hs_len, hfl]
    have kf : Ex H (upd H ft (.tup (zs (hs fi)))) := .new hft
    have ef : (upd H ft (.tup (zs (hs fi)))) ft = some (.tup (zs (hs fi))) := upd_same
    generalize upd H ft (.tup (zs (hs fi))) = H1 at *
    walk_at "s"
    refine g_listT ef fun p0 hp0 => ?_
    have k1 := Kp.new (S := []) (o := .lst (zs (hs fi))) hp0
    have e0 : (upd H1 p0 (.lst (zs (hs fi)))) p0 = some (.lst (zs (hs fi))) := upd_same
    generalize upd H1 p0 (.lst (zs (hs fi))) = H2 at *
    walk_at "s"
    refine g_from (j := 1) (k1.tup _ _ ef) fun p1 H3 k3 e1 => ?_
    have kf3 := k1.trans k3
    walk_at "s"
    refine ⟨sz, fun a2 ha2 => ?_⟩
    walk_at "s"
    have c2 := Kp.new (S := []) (o := .tup [V.int 0]) ha2
    refine g_catA (c2.tup _ _ (kf3.tup _ _ ef)) upd_same (by rw [hzl]; show n + 1 ≤ 1000; omega) fun p2 H4 d2 e2 => ?_
    have k4 := c2.trans d2
    have f4 := (k1.trans (k3.trans k4)).tup _ _ ef
    walk_at "s"
    refine ⟨sz, fun a3 ha3 => ?_⟩
    walk_at "s"
    have c3 := Kp.new (S := []) (o := .tup [V.int n]) ha3
    refine g_catA (c3.tup _ _ f4) upd_same (by rw [hzl]; show n + 1 ≤ 1000; omega) fun p3 H5 d3 e3 => ?_
    have k5 := c3.trans d3
    have f5 := k5.tup _ _ f4
    walk_at "s"
    refine g_init f5 fun q4 H6 k6 g4 => ?_
    walk_at "s"
    refine ⟨sz, fun a4 ha4 => ?_⟩
    walk_at "s"
    have c4 := Kp.new (S := []) (o := .tup [V.int n]) ha4
    refine g_catA (c4.tup _ _ g4) upd_same (by rw [List.length_dropLast, hzl]; show n - 1 + 1 ≤ 1000; omega) fun p4 H7 d4 e4 => ?_
    have k7 := c4.trans d4
    have f7 := k7.tup _ _ (k6.tup _ _ f5)
    walk_at "s"
    refine g_init f7 fun q5 H8 k8 g5 => ?_
    walk_at "s"
    refine ⟨sz, fun a5 ha5 => ?_⟩
    walk_at "s"
    have c5 := Kp.new (S := []) (o := .tup [V.int (-1)]) ha5
    refine g_catA (c5.tup _ _ g5) upd_same (by rw [List.length_dropLast, hzl]; show n - 1 + 1 ≤ 1000; omega) fun p5 H9 d5 e5 => ?_
    have k9 := c5.trans d5
    have f9 := k9.tup _ _ (k8.tup _ _ f7)
    walk_at "s"
    refine ⟨sz, fun a6 ha6 => ?_⟩
    walk_at "s"
    have c6 := Kp.new (S := []) (o := .tup [V.bl false]) ha6
    refine g_from (j := 1) (c6.tup _ _ f9) fun q6 H10 k10 g6 => ?_
    walk_at "s"
    refine g_catA (k10.tup _ _ upd_same) g6 (by rw [List.length_drop, hzl]; show 1 + (n - 1) ≤ 1000; omega) fun p6 H11 d6 e6 => ?_
    have k11 := c6.trans (k10.trans d6)
    have f11 := k11.tup _ _ f9
    walk_at "s"
    refine ⟨sz, fun p7 hp7 => ?_⟩
    have k12 := Kp.new (S := []) (o := .tup [V.ref ft]) hp7
    have e7 : (upd H11 p7 (.tup [V.ref ft])) p7 = some (.tup [V.ref ft]) := upd_same
    generalize upd H11 p7 (.tup [V.ref ft]) = H12 at *
    walk_at "s"
    refine ⟨sz, fun L hL => ?_⟩
    have s12 := k12
    have s11 := k11.trans s12
    have s9 := (k8.trans k9).trans s11
    have s7 := (k6.trans k7).trans s9
    have s5 := k5.trans s7
    have s4 := k4.trans s5
    have s3 := k3.trans s4
    have s1 := k1.trans s3
    have sH := kf.trans s1
    have kL := Kp.new (S := []) (o := .lst [V.ref p0, V.ref p1, V.ref p2, V.ref p3, V.ref p4, V.ref p5, V.ref p6, V.non, V.int n, V.str (Str.ofString "0"), V.ref p7]) hL
    have r1 : (zs (hs fi)).drop 1 = zs ((hs fi).drop 1) := List.map_drop.symm
    have r2 : (zs (hs fi)).dropLast = zs (hs fi).dropLast := List.map_dropLast.symm
    have da : DaAll S H12 [V.ref p0, V.ref p1, V.ref p2, V.ref p3, V.ref p4, V.ref p5, V.ref p6, V.non, V.int n, V.str (Str.ofString "0"), V.ref p7]
        [.list ((hs fi).map .int), .tuple (((hs fi).drop 1).map .int), .tuple ((hs fi).map .int ++ [.int 0]), .tuple ((hs fi).map .int ++ [.int n]), .tuple ((hs fi).dropLast.map .int ++ [.int n]), .tuple ((hs fi).dropLast.map .int ++ [.int (-1)]), .tuple (.bool false :: ((hs fi).drop 1).map .int), .none, .int n, .str (Str.ofString "0"), .tuple [.tuple ((hs fi).map .int)]] :=
      .cons (.lst (new_nin hS kf hp0) (s3.keep _ _ e0 List.not_mem_nil) (.ints _)) <|
      .cons (.tup (s4.tup _ _ e1) (by rw [r1]; exact .ints _)) <|
      .cons (.tup (s5.tup _ _ e2) (.app (.ints _) (.cons (.int _) .nil))) <|
      .cons (.tup (s7.tup _ _ e3) (.app (.ints _) (.cons (.int _) .nil))) <|
      .cons (.tup (s9.tup _ _ e4) (by rw [r2]; exact .app (.ints _) (.cons (.int _) .nil))) <|
      .cons (.tup (s11.tup _ _ e5) (by rw [r2]; exact .app (.ints _) (.cons (.int _) .nil))) <|
      .cons (.tup (s12.tup _ _ e6) (by rw [r1]; exact .cons (.bl _) (.ints _))) <|
      .cons .non <| .cons (.int _) <| .cons (.str _) <|
      .cons (.tup e7 (.cons (.tup (s12.tup _ _ f11) (.ints _)) .nil)) .nil
    have hbk : ∀ d, (¬ ∃ os, IsOrd n d os) → BadK n kd d := fun d h => by
      have : kd = 2 ∨ kd = 4 := by omega
      rcases this with rfl | rfl <;> exact h
    have hnx : ¬ ∃ x : Nat, x < n ∧ PyData.int n = .int x := fun ⟨x, hx, e⟩ => by
      have := PyData.int.inj e
      omega
    have hnm : ¬ ∃ x : Nat, x < n ∧ PyData.int (-1) = .int x := fun ⟨x, hx, e⟩ => by
      have := PyData.int.inj e
      omega
    have hll : ((hs fi).map PyData.int).length = n := by rw [List.length_map, hs_len, hfl]
    have hbad : ∀ d ∈ [PyData.list ((hs fi).map .int), .tuple (((hs fi).drop 1).map .int), .tuple ((hs fi).map .int ++ [.int 0]), .tuple ((hs fi).map .int ++ [.int n]), .tuple ((hs fi).dropLast.map .int ++ [.int n]), .tuple ((hs fi).dropLast.map .int ++ [.int (-1)]), .tuple (.bool false :: ((hs fi).drop 1).map .int), .none, .int n, .str (Str.ofString "0"), .tuple [.tuple ((hs fi).map .int)]], BadK n kd d := fun d hd => hbk d (by
      simp only [List.mem_cons, List.not_mem_nil, or_false] at hd
      rcases hd with rfl | rfl | rfl | rfl | rfl | rfl | rfl | rfl | rfl | rfl | rfl
      · exact fun ⟨_, e, _⟩ => nomatch e
      · exact ord_len (by rw [List.length_map, List.length_drop, hs_len, hfl]; omega)
      · exact ord_len (by rw [List.length_append, hll]; show n + 1 ≠ n; omega)
      · exact ord_len (by rw [List.length_append, hll]; show n + 1 ≠ n; omega)
      · exact ord_int (List.mem_append_right _ List.mem_cons_self) hnx
      · exact ord_int (List.mem_append_right _ List.mem_cons_self) hnm
      · exact ord_int List.mem_cons_self (fun ⟨_, _, e⟩ => nomatch e)
      · exact fun ⟨_, e, _⟩ => nomatch e
      · exact fun ⟨_, e, _⟩ => nomatch e
      · exact fun ⟨_, e, _⟩ => nomatch e
      · exact ord_int List.mem_cons_self (fun ⟨_, _, e⟩ => nomatch e))
    walk_at "s"
    refine ⟨fun σ' H' => σ' = [some (.int kd), some (.int n), some (.ref ft), some (.ref L)] ∧ Ex H H' ∧ BadsAt S H' L n kd, ?_, fun σ' H' hx => ?_⟩
    · walk_at "s"
      by_cases hn : 1 < n
      · rw [if_pos (decide_eq_true (show (1 : Int) < n by omega))]
        walk_at "s"
        refine g_ty upd_same ?_
        walk_at "s"
        have tL := kL.tup _ _ (s12.tup _ _ f11)
        have eL : (upd H12 L (.lst [V.ref p0, V.ref p1, V.ref p2, V.ref p3, V.ref p4, V.ref p5, V.ref p6, V.non, V.int n, V.str (Str.ofString "0"), V.ref p7])) L = some (.lst [V.ref p0, V.ref p1, V.ref p2, V.ref p3, V.ref p4, V.ref p5, V.ref p6, V.non, V.int n, V.str (Str.ofString "0"), V.ref p7]) := upd_same
        generalize hvs : [V.ref p0, V.ref p1, V.ref p2, V.ref p3, V.ref p4, V.ref p5, V.ref p6, V.non, V.int n, V.str (Str.ofString "0"), V.ref p7] = vs at *
        have hvl : vs.length = 11 := by rw [← hvs]; rfl
        clear hvs
        generalize upd H12 L (.lst vs) = H13 at *
        refine g_init tL fun q8 H14 k14 g8 => ?_
        walk_at "s"
        refine ⟨sz, fun a8 ha8 => ?_⟩
        walk_at "s"
        have c8 := Kp.new (S := []) (o := .tup [V.int 0]) ha8
        refine g_catA (c8.tup _ _ g8) upd_same (by rw [List.length_dropLast, hzl]; show n - 1 + 1 ≤ 1000; omega) fun p8 H15 d8 e8 => ?_
        have k15 := k14.trans (c8.trans d8)
        have eL15 := k15.keep _ _ eL List.not_mem_nil
        walk_at "s"
        refine g_app eL15 (by omega) ?_
        walk_at "s"
        have np8 : p8 ≠ L := fun z => by
          rw [z, eL15] at e8
          cases e8
        have m1 := (kL.trans k15).mutL (o' := .lst (vs ++ [V.ref p8])) hL eL15
        have e8' : (upd H15 L (.lst (vs ++ [V.ref p8]))) p8 = _ := (upd_ne np8).trans e8
        have eL16 : (upd H15 L (.lst (vs ++ [V.ref p8]))) L = _ := upd_same
        generalize upd H15 L (.lst (vs ++ [V.ref p8])) = H16 at *
        refine g_ty eL16 ?_
        walk_at "s"
        refine ⟨sz, fun a9 ha9 => ?_⟩
        walk_at "s"
        have c9 := Kp.new (S := []) (o := .tup [V.int 0, V.bl true]) ha9
        refine g_from (j := 2) (c9.tup _ _ (m1.tup _ _ (s12.tup _ _ f11))) fun q9 H17 k17 g9 => ?_
        walk_at "s"
        refine g_catA (k17.tup _ _ upd_same) g9 (by rw [List.length_drop, hzl]; show 2 + (n - 2) ≤ 1000; omega) fun p9 H18 d9 e9 => ?_
        have k18 := c9.trans (k17.trans d9)
        have eL18 := k18.keep _ _ eL16 List.not_mem_nil
        walk_at "s"
        refine g_app eL18 (by rw [List.length_append, hvl]; show 12 ≤ 1000; decide) ?_
        walk_at "s"
        have np9 : p9 ≠ L := fun z => by
          rw [z, eL18] at e9
          cases e9
        have np8' : p8 ≠ L := np8
        have m2 := (m1.trans k18).mutL (o' := .lst (vs ++ [V.ref p8] ++ [V.ref p9])) hL eL18
        have r3 : (zs (hs fi)).drop 2 = zs ((hs fi).drop 2) := List.map_drop.symm
        refine ⟨rfl, sH.trans m2, bads_of (ds := _ ++ [.tuple ((hs fi).dropLast.map .int ++ [.int 0])] ++ [.tuple (.int 0 :: .bool true :: ((hs fi).drop 2).map .int)]) upd_same
          ((DaAll.app (da.kp (.of_ex m2)) (.cons (.tup ((upd_ne np8).trans (k18.tup _ _ e8')) (by rw [r2]; exact .app (.ints _) (.cons (.int _) .nil))) .nil)).app (.cons (.tup ((upd_ne np9).trans e9) (by rw [r3]; exact .cons (.int _) (.cons (.bl _) (.ints _)))) .nil)) (fun d hd => ?_) ⟨by rw [List.length_append, List.length_append, ← da.len, hvl]; show 8 ≤ 13; decide, by rw [List.length_append, List.length_append, ← da.len, hvl]; show 13 ≤ 20; decide⟩⟩
        rcases List.mem_append.mp hd with hd | hd
        · rcases List.mem_append.mp hd with hd | hd
          · exact hbad d hd
          · rw [List.mem_singleton.mp hd]
            refine hbk _ fun ⟨os, e, pm⟩ => ?_
            have e2 : fi.dropLast ++ [0] = os := nats_inj (by
              rw [← PyData.tuple.inj e]
              simp [List.map_dropLast]
              rfl)
            have nd : (fi.dropLast ++ [0]).Nodup := by
              rw [e2]
              exact pm.nodup_iff.mpr List.nodup_range
            have := (List.nodup_append.mp nd).2.2 0 (by
              rw [← hF]
              have : n = (n - 1) + 1 := by omega
              rw [this, List.range_succ, List.dropLast_concat]
              exact List.mem_range.mpr (by omega)) 0 List.mem_cons_self
            exact this rfl
        · rw [List.mem_singleton.mp hd]
          exact hbk _ (ord_int (List.mem_cons_of_mem _ List.mem_cons_self) (fun ⟨_, _, e⟩ => nomatch e))
      · rw [if_neg (show ¬ decide ((1 : Int) < n) = true by rw [decide_eq_true_iff]; omega)]
        walk_at "s"
        exact ⟨rfl, sH.trans kL, bads_of upd_same (da.kp (.of_ex kL)) hbad ⟨by show 8 ≤ 11; decide, by show 11 ≤ 20; decide⟩⟩
    · obtain ⟨rfl, kk, hb⟩ := hx
      walk_at "s"
      exact q L H' kk (new_nin hS sH hL) hb
theorem sc_law_no_standings : FnScope ["_law_row", "_law_small", "_law_bools", "_law_odd", "_law_house"] ["_law_row"] (defScope s_law_no_standings) := ⟨rfl, rfl, rfl, by decide +kernel, rfl, by decide +kernel, by decide +kernel⟩
def OddsAt (S : List Addr) (H : Hp) (q : Addr) (W : Wb) (ps : List Int) : Prop := ∃ (v0 : V) (vs : List V), H q = some (.lst (v0 :: vs)) ∧ vs.length ≤ 20 ∧ Da S H v0 (.list (ps.map PyData.int)) ∧ ∀ v ∈ v0 :: vs, ∃ d, Da S H v d ∧ BadP W d
theorem odds_of {S : List Addr} {H : Hp} {q : Addr} {W : Wb} {ps : List Int} {v0 : V} {vs : List V} {ds : List PyData} (h : H q = some (.lst (v0 :: vs))) (hd : DaAll S H (v0 :: vs) (.list (ps.map PyData.int) :: ds)) (hb : ∀ d ∈ PyData.list (ps.map PyData.int) :: ds, BadP W d) (hl : ds.length ≤ 20) : OddsAt S H q W ps := by
  have hg : ∀ v ∈ v0 :: vs, ∃ d, Da S H v d ∧ BadP W d := fun v hv => by
    obtain ⟨i, hi, rfl⟩ := List.mem_iff_getElem.mp hv
    obtain ⟨d, e, h⟩ := hd.getv (List.getElem?_eq_getElem hi)
    exact ⟨d, h, hb d (List.mem_of_getElem? e)⟩
  cases hd with
  | cons h0 hr => exact ⟨v0, vs, h, by rw [hr.len]; exact hl, h0, hg⟩
def sp_law_no_standings : Sp := fun vs H Q _ => ∃ (S : List Addr) (W : Wb) (pa : Addr) (ps : List Int), vs = [.ref pa] ∧ (∀ x ∈ S, ∃ o, H x = some o) ∧ WebOk W ∧ H pa = some (.tup (zs ps)) ∧ StandR W ps ∧ ∀ (q : Addr) (H' : Hp), Ex H H' → q ∉ S → OddsAt S H' q W ps → Q (.ref q) H'
theorem ok_law_no_standings (F : Fun K "_law_no_standings" "_law_no_standings" s_law_no_standings f fd) (T : Txt mg) : FnOk P w K mg base CX0 1 f fd ["_law_row"] sp_law_no_standings := by
  have sc := sc_law_no_standings
  refine F.ok sc (fun vs H Q E h => ?_) (fun cdv A outer s H vs Q E hr h => ?_)
  · obtain ⟨S, W, pa, ps, rfl, _⟩ := h
    rfl
  · obtain ⟨S, W, pa, ps, rfl, hS, ok, hpa, hst, q⟩ := h
    have hn1 := ok.1
    have hn8 := ok.2.1
    have hl := hst.1
    refine ⟨_, (pss_cons (ps_set (i := 1) sc.nd rfl (by first | exact Or.inl rfl | exact Or.inr rfl) (pe_op op_cat (pe_lc (own := [("_law_house", 4)]) rfl sc.nd (pi_range1 (by rfl) T.range (pa_cons (pe_callB (kq_len (K := K) rfl) (by rfl) T.len (by decide +kernel) (pa_cons (pv 0) pa_nil)) pa_nil)) (blkOk_by (N := ["_law_row", "_law_small", "_law_bools", "_law_odd", "_law_house"]) (sc := defScope s_law_no_standings) (by decide +kernel)) (fun _ _ _ _ _ => (pg_name (i := 4) sc.nd rfl (by first | exact Or.inl rfl | exact Or.inr rfl))) (fun _ _ _ _ _ => (pts_one (pt_cmpR op_lt (pe_ix (kx_tup (K := K) rfl) (pv 0) (pv 4) (fun _ _ => rfl)) pe_int (nomark _)))) (fun _ _ _ _ _ => (pv 4))) (pe_lst (pa_cons pe_int pa_nil))))
      (pss_cons (ps_set (i := 2) sc.nd rfl (by first | exact Or.inl rfl | exact Or.inr rfl) (pe_op (kop_catA (K := K) rfl) (pe_op (kop_catA (K := K) rfl) (pe_slice (ksl_tup (K := K) rfl) (pv 0) po_none (po_some (pe_ix (kx_list (K := K) rfl) (pv 1) pe_int (fun _ _ => rfl)))) (pe_tup (pa_cons (pe_cmpR op_gt (pe_ix (kx_tup (K := K) rfl) (pv 0) (pe_ix (kx_list (K := K) rfl) (pv 1) pe_int (fun _ _ => rfl)) (fun _ _ => rfl)) pe_int (nomark _)) pa_nil))) (pe_slice (ksl_tup (K := K) rfl) (pv 0) (po_some (pe_op op_add (pe_ix (kx_list (K := K) rfl) (pv 1) pe_int (fun _ _ => rfl)) pe_int)) po_none)))
      (pss_cons (ps_set (i := 3) sc.nd rfl (by first | exact Or.inl rfl | exact Or.inr rfl) (pe_lst (pa_cons (pe_callTy (kq_list (K := K) rfl) (by rfl) T.list (by decide +kernel) (pa_cons (pv 0) pa_nil)) (pa_cons (pe_slice (ksl_tup (K := K) rfl) (pv 0) po_none (po_some (pe_un un_neg pe_int))) (pa_cons (pe_op (kop_catA (K := K) rfl) (pv 0) (pe_tup (pa_cons pe_int pa_nil))) (pa_cons (pe_tup (pa_cons (pv 0) pa_nil)) (pa_cons pe_non (pa_cons pe_int (pa_cons (pv 2) (pa_cons (pe_op (kop_catA (K := K) rfl) (pe_slice (ksl_tup (K := K) rfl) (pv 0) po_none (po_some (pe_un un_neg pe_int))) (pe_tup (pa_cons pe_non pa_nil))) (pa_cons (pe_op (kop_catA (K := K) rfl) (pe_slice (ksl_tup (K := K) rfl) (pv 0) po_none (po_some (pe_un un_neg pe_int))) (pe_tup (pa_cons (pe_op op_add (pe_ix (kx_tup (K := K) rfl) (pv 0) (pe_un un_neg pe_int) (fun _ _ => rfl)) pe_int) pa_nil))) pa_nil)))))))))))
      (Evl.pss_cut (ps_if (pt_cmpR op_gt (pe_callB (kq_len (K := K) rfl) (by rfl) T.len (by decide +kernel) (pa_cons (pv 0) pa_nil)) pe_int (nomark _))
        (pss_one (ps_expr (pe_bm PySem.F.plainAttrs_list PySem.F.slot_list_append PySem.F.type_list_append mt_append (pv 3) (pa_cons (pe_op (kop_catA (K := K) rfl) (pe_tup (pa_cons (pe_un un_neg pe_int) (pa_cons (pe_op op_add (pe_op op_add (pe_ix (kx_tup (K := K) rfl) (pv 0) pe_int (fun _ _ => rfl)) (pe_ix (kx_tup (K := K) rfl) (pv 0) pe_int (fun _ _ => rfl))) pe_int) pa_nil))) (pe_slice (ksl_tup (K := K) rfl) (pv 0) (po_some pe_int) po_none)) pa_nil))))
        pss_nil)
      (pss_one (ps_ret (pv 3))))))), ?_⟩
    obtain ⟨ps0, la, hps⟩ : ∃ ps0 la, ps = ps0 ++ [la] := ⟨ps.dropLast, ps.getLast (fun z => by rw [z] at hl; change 0 = _ at hl; omega), (List.dropLast_concat_getLast _).symm⟩
    have hzl : (zs ps).length = W.n := by rw [zs_len, hl]
    have hzd : (zs ps).dropLast = zs ps0 := by rw [hps, zs, List.map_append]; exact List.dropLast_concat
    have hz0 : (zs ps0).length = W.n - 1 := by rw [zs_len, ← hl, hps, List.length_append]; rfl
    have hz1 : ps0.length = W.n - 1 := by rw [← hz0, zs_len]
    have hlast : atI (zs ps) (-1) = some (.int la) := by rw [hps, zs, List.map_append]; exact atI_last _ _
    have gv : ∀ v, v < W.n → (zs ps)[v]? = some (.int (ps.getD v 0)) := fun v hv => by rw [List.getElem?_map, List.getD_eq_getElem?_getD, List.getElem?_eq_getElem (by omega)]; rfl
    walk_at "s"
    refine g_lenT hpa ?_
    walk_at "s"
    rw [hzl]
    refine ⟨_, rfl, by omega, by omega, fun D hD => ?_⟩
    refine lc_range (n := W.n) (fun i H' => Ex H H' ∧ ∃ xs : List Nat, H' D = some (.lst (zs (hs xs))) ∧ (∀ x ∈ xs, x < W.n) ∧ xs.length ≤ i) ⟨.new hD, [], upd_same, fun x hx => absurd hx List.not_mem_nil, Nat.le_refl _⟩ (fun i H1 hi hx => ?_) (fun H1 hx => ?_)
    · obtain ⟨k1, xs, hD1, hxs, hxl⟩ := hx
      rw [show ((0 : Int) + (i : Int)) = (i : Int) from Int.zero_add _]
      walk_at "s"
      refine ⟨rfl, ?_⟩
      walk_at "s"
      refine g_ixT (j := i) (k1.tup _ _ hpa) (gv i hi) ?_
      walk_at "s"
      by_cases e : ps.getD i 0 < 2
      · rw [if_pos (decide_eq_true e)]
        walk_at "s"
        refine ⟨_, hD1, small1000 (by rw [zs_len, hs_len]; omega), k1.mutL hD hD1, xs ++ [i], by rw [upd_same, zs, zs, hs, hs, List.map_append, List.map_append]; rfl, fun x hx => ?_, by rw [List.length_append]; show xs.length + 1 ≤ _; omega⟩
        rcases List.mem_append.mp hx with z | z
        · exact hxs x z
        · rw [List.mem_singleton.mp z]
          exact hi
      · rw [if_neg (show ¬ decide (ps.getD i 0 < 2) = true by rw [decide_eq_true_iff]; exact e)]
        walk_at "s"
        exact ⟨k1, xs, hD1, hxs, Nat.le_succ_of_le hxl⟩
    · obtain ⟨k1, xs, hD1, hxs, hxl⟩ := hx
      walk_at "s"
      refine ⟨sz, fun b hb => ?_⟩
      walk_at "s"
      have kb := Kp.new (S := []) (o := .lst [V.int 0]) hb
      refine ⟨D, b, _, _, rfl, rfl, kb.keep _ _ hD1 List.not_mem_nil, upd_same, small1000 (by rw [zs_len, hs_len]; omega), fun SM hSM => ?_⟩
      obtain ⟨sm, hsm, hsmn⟩ : ∃ sm : Nat, (zs (hs xs) ++ [V.int 0])[0]? = some (.int sm) ∧ sm < W.n := by
        cases xs with
        | nil => exact ⟨0, rfl, by omega⟩
        | cons x r => exact ⟨x, rfl, hxs x List.mem_cons_self⟩
      have kS := Kp.new (S := []) (o := .lst (zs (hs xs) ++ [V.int 0])) hSM
      have eS : (upd (upd H1 b (.lst [V.int 0])) SM (.lst (zs (hs xs) ++ [V.int 0]))) SM = some (.lst (zs (hs xs) ++ [V.int 0])) := upd_same
      have k2 := k1.trans (kb.trans kS)
      generalize upd (upd H1 b (.lst [V.int 0])) SM (.lst (zs (hs xs) ++ [V.int 0])) = H2 at *
      have f2 := k2.tup _ _ hpa
      walk_at "s"
      refine g_ixL (j := 0) eS hsm ?_
      walk_at "s"
      refine g_to (j := sm) f2 fun q1 H3 k3 g1 => ?_
      walk_at "s"
      refine g_ixL (j := 0) (k3.keep _ _ eS List.not_mem_nil) hsm ?_
      walk_at "s"
      refine g_ixT (j := sm) (k3.tup _ _ f2) (gv sm hsmn) ?_
      walk_at "s"
      refine ⟨sz, fun a1 ha1 => ?_⟩
      walk_at "s"
      have c1 := Kp.new (S := []) (o := .tup [V.bl (decide (0 < ps.getD sm 0))]) ha1
      refine g_catA (c1.tup _ _ g1) upd_same (by rw [List.length_take, hzl]; show min sm W.n + 1 ≤ 1000; omega) fun p1 H4 d1 e1 => ?_
      have k4 := k3.trans (c1.trans d1)
      walk_at "s"
      refine g_ixL (j := 0) (k4.keep _ _ eS List.not_mem_nil) hsm ?_
      walk_at "s"
      refine g_from (j := sm + 1) (k4.tup _ _ f2) fun q2 H5 k5 g2 => ?_
      walk_at "s"
      refine g_catA (k5.tup _ _ e1) g2 (by rw [List.length_append, List.length_take, List.length_drop, hzl]; show min sm W.n + 1 + (W.n - (sm + 1)) ≤ 1000; omega) fun p6 H6 k6 e6 => ?_
      have f6 := (k4.trans (k5.trans k6)).tup _ _ f2
      have kH6 := k2.trans (k4.trans (k5.trans k6))
      generalize hbt : (zs ps).take sm ++ [V.bl (decide (0 < ps.getD sm 0))] ++ (zs ps).drop (sm + 1) = bt at *
      have hbd : ∀ H', DaAll S H' bt ((ps.take sm).map .int ++ [.bool (decide (0 < ps.getD sm 0))] ++ (ps.drop (sm + 1)).map .int) := fun H' => by
        rw [← hbt, zs, ← List.map_take, ← List.map_drop]
        exact .app (.app (.ints _) (.cons (.bl _) .nil)) (.ints _)
      clear hbt
      walk_at "s"
      refine g_listT f6 fun r0 hr0 => ?_
      have k7 := Kp.new (S := []) (o := .lst (zs ps)) hr0
      have e0 : (upd H6 r0 (.lst (zs ps))) r0 = some (.lst (zs ps)) := upd_same
      generalize upd H6 r0 (.lst (zs ps)) = H7 at *
      have f7 := k7.tup _ _ f6
      walk_at "s"
      refine g_init f7 fun r1 H8 k8 e1 => ?_
      rw [hzd] at e1
      have f8 := k8.tup _ _ f7
      walk_at "s"
      refine ⟨sz, fun a2 ha2 => ?_⟩
      walk_at "s"
      have c2 := Kp.new (S := []) (o := .tup [V.int 0]) ha2
      refine g_catA (c2.tup _ _ f8) upd_same (by rw [hzl]; show W.n + 1 ≤ 1000; omega) fun r2 H9 d2 e2 => ?_
      have k9 := c2.trans d2
      have f9 := k9.tup _ _ f8
      walk_at "s"
      refine ⟨sz, fun r3 hr3 => ?_⟩
      have k10 := Kp.new (S := []) (o := .tup [V.ref pa]) hr3
      have e3 : (upd H9 r3 (.tup [V.ref pa])) r3 = some (.tup [V.ref pa]) := upd_same
      generalize upd H9 r3 (.tup [V.ref pa]) = H10 at *
      have f10 := k10.tup _ _ f9
      walk_at "s"
      refine g_init f10 fun q7 H11 k11 g7 => ?_
      rw [hzd] at g7
      walk_at "s"
      refine ⟨sz, fun a7 ha7 => ?_⟩
      walk_at "s"
      have c7 := Kp.new (S := []) (o := .tup [V.non]) ha7
      refine g_catA (c7.tup _ _ g7) upd_same (by rw [hz0]; show W.n - 1 + 1 ≤ 1000; omega) fun r7 H12 d7 e7 => ?_
      have k12 := k11.trans (c7.trans d7)
      have f12 := k12.tup _ _ f10
      walk_at "s"
      refine g_init f12 fun q8 H13 k13 g8 => ?_
      rw [hzd] at g8
      have f13 := k13.tup _ _ f12
      walk_at "s"
      refine ⟨pa, _, _, _, rfl, rfl, .of f13, hlast, ?_⟩
      walk_at "s"
      refine ⟨sz, fun a8 ha8 => ?_⟩
      walk_at "s"
      have c8 := Kp.new (S := []) (o := .tup [V.int (la + 1)]) ha8
      refine g_catA (c8.tup _ _ g8) upd_same (by rw [hz0]; show W.n - 1 + 1 ≤ 1000; omega) fun r8 H14 d8 e8 => ?_
      have k14 := k13.trans (c8.trans d8)
      have f14 := k14.tup _ _ f12
      walk_at "s"
      refine ⟨sz, fun L hL => ?_⟩
      have s12 := k14
      have s10 := k12.trans s12
      have s9 := k10.trans s10
      have s8 := k9.trans s9
      have s7 := k8.trans s8
      have s6 := k7.trans s7
      have sH := kH6.trans s6
      have da : DaAll S H14 [V.ref r0, V.ref r1, V.ref r2, V.ref r3, V.non, V.int 1, V.ref p6, V.ref r7, V.ref r8]
          [.list (ps.map .int), .tuple (ps0.map .int), .tuple (ps.map .int ++ [.int 0]), .tuple [.tuple (ps.map .int)], .none, .int 1, .tuple ((ps.take sm).map .int ++ [.bool (decide (0 < ps.getD sm 0))] ++ (ps.drop (sm + 1)).map .int), .tuple (ps0.map .int ++ [.none]), .tuple (ps0.map .int ++ [.int (la + 1)])] :=
        .cons (.lst (new_nin hS kH6 hr0) (s7.keep _ _ e0 List.not_mem_nil) (.ints _)) <|
        .cons (.tup (s8.tup _ _ e1) (.ints _)) <|
        .cons (.tup (s9.tup _ _ e2) (.app (.ints _) (.cons (.int _) .nil))) <|
        .cons (.tup (s10.tup _ _ e3) (.cons (.tup f14 (.ints _)) .nil)) <|
        .cons .non <| .cons (.int _) <|
        .cons (.tup (s6.tup _ _ e6) (hbd _)) <|
        .cons (.tup (s12.tup _ _ e7) (.app (.ints _) (.cons .non .nil))) <|
        .cons (.tup e8 (.app (.ints _) (.cons (.int _) .nil))) .nil
      have hbad : ∀ d ∈ [PyData.list (ps.map .int), .tuple (ps0.map .int), .tuple (ps.map .int ++ [.int 0]), .tuple [.tuple (ps.map .int)], .none, .int 1, .tuple ((ps.take sm).map .int ++ [.bool (decide (0 < ps.getD sm 0))] ++ (ps.drop (sm + 1)).map .int), .tuple (ps0.map .int ++ [.none]), .tuple (ps0.map .int ++ [.int (la + 1)])], BadP W d := fun d hd => by
        simp only [List.mem_cons, List.not_mem_nil, or_false] at hd
        rcases hd with rfl | rfl | rfl | rfl | rfl | rfl | rfl | rfl | rfl
        · exact .inl rfl
        · exact bp_len (by rw [List.length_map, hz1]; omega)
        · exact bp_len (by rw [List.length_append, List.length_map, hl]; show W.n + 1 ≠ W.n; omega)
        · exact bp_el List.mem_cons_self rfl
        · exact .inl rfl
        · exact .inl rfl
        · exact bp_el (List.mem_append_left _ (List.mem_append_right _ List.mem_cons_self)) rfl
        · exact bp_el (List.mem_append_right _ List.mem_cons_self) rfl
        · refine .inr ⟨ps0 ++ [la + 1], by rw [List.map_append]; rfl, ?_⟩
          have := good_sum ok (stand_good hst)
          rw [← this, hps, List.sum_append, List.sum_append]
          simp
          omega
      have kL := Kp.new (S := []) (o := .lst [V.ref r0, V.ref r1, V.ref r2, V.ref r3, V.non, V.int 1, V.ref p6, V.ref r7, V.ref r8]) hL
      have eL : (upd H14 L (.lst [V.ref r0, V.ref r1, V.ref r2, V.ref r3, V.non, V.int 1, V.ref p6, V.ref r7, V.ref r8])) L = _ := upd_same
      generalize upd H14 L (.lst [V.ref r0, V.ref r1, V.ref r2, V.ref r3, V.non, V.int 1, V.ref p6, V.ref r7, V.ref r8]) = H15 at *
      walk_at "s"
      refine ⟨fun σ' H' => (∃ y4, σ' = [some (.ref pa), some (.ref SM), some (.ref p6), some (.ref L), y4]) ∧ Ex H H' ∧ OddsAt S H' L W ps, ?_, fun σ' H' hx => ?_⟩
      · walk_at "s"
        have f15 := kL.tup _ _ f14
        refine g_lenT f15 ?_
        walk_at "s"
        rw [hzl]
        by_cases hn : 1 < W.n
        · rw [if_pos (decide_eq_true (show (1 : Int) < W.n by omega))]
          walk_at "s"
          refine g_ty eL ?_
          walk_at "s"
          refine g_ixT (j := 0) f15 (gv 0 (by omega)) ?_
          walk_at "s"
          refine g_ixT (j := 1) f15 (gv 1 hn) ?_
          walk_at "s"
          refine ⟨sz, fun a9 ha9 => ?_⟩
          walk_at "s"
          have c9 := Kp.new (S := []) (o := .tup [V.int (-1), V.int (ps.getD 0 0 + ps.getD 1 0 + 1)]) ha9
          refine g_from (j := 2) (c9.tup _ _ f15) fun q9 H16 k16 g9 => ?_
          walk_at "s"
          refine g_catA (k16.tup _ _ upd_same) g9 (by rw [List.length_drop, hzl]; show 2 + (W.n - 2) ≤ 1000; omega) fun p9 H17 d9 e9 => ?_
          have k17 := c9.trans (k16.trans d9)
          have eL17 := k17.keep _ _ eL List.not_mem_nil
          walk_at "s"
          refine g_app eL17 (by show 9 ≤ 1000; decide) ?_
          walk_at "s"
          have np9 : p9 ≠ L := fun z => by
            rw [z, eL17] at e9
            cases e9
          have m2 := (kL.trans k17).mutL (o' := .lst ([V.ref r0, V.ref r1, V.ref r2, V.ref r3, V.non, V.int 1, V.ref p6, V.ref r7, V.ref r8] ++ [V.ref p9])) hL eL17
          have rd2 : (zs ps).drop 2 = zs (ps.drop 2) := List.map_drop.symm
          exact ⟨⟨_, rfl⟩, sH.trans m2, odds_of (vs := [V.ref r1, V.ref r2, V.ref r3, V.non, V.int 1, V.ref p6, V.ref r7, V.ref r8] ++ [V.ref p9]) upd_same
            (ds := [.tuple (ps0.map .int), .tuple (ps.map .int ++ [.int 0]), .tuple [.tuple (ps.map .int)], .none, .int 1, .tuple ((ps.take sm).map .int ++ [.bool (decide (0 < ps.getD sm 0))] ++ (ps.drop (sm + 1)).map .int), .tuple (ps0.map .int ++ [.none]), .tuple (ps0.map .int ++ [.int (la + 1)])] ++ [.tuple (.int (-1) :: .int (ps.getD 0 0 + ps.getD 1 0 + 1) :: (ps.drop 2).map .int)])
            (DaAll.app (ds := [PyData.list (ps.map .int), .tuple (ps0.map .int), .tuple (ps.map .int ++ [.int 0]), .tuple [.tuple (ps.map .int)], .none, .int 1, .tuple ((ps.take sm).map .int ++ [.bool (decide (0 < ps.getD sm 0))] ++ (ps.drop (sm + 1)).map .int), .tuple (ps0.map .int ++ [.none]), .tuple (ps0.map .int ++ [.int (la + 1)])]) (da.kp (.of_ex m2)) (.cons (.tup ((upd_ne np9).trans e9) (by rw [rd2]; exact .cons (.int _) (.cons (.int _) (.ints _)))) .nil))
            (fun d hd => by
              rcases List.mem_append (s := [PyData.list (ps.map .int), .tuple (ps0.map .int), .tuple (ps.map .int ++ [.int 0]), .tuple [.tuple (ps.map .int)], .none, .int 1, .tuple ((ps.take sm).map .int ++ [.bool (decide (0 < ps.getD sm 0))] ++ (ps.drop (sm + 1)).map .int), .tuple (ps0.map .int ++ [.none]), .tuple (ps0.map .int ++ [.int (la + 1)])]).mp hd with z | z
              · exact hbad d z
              · rw [List.mem_singleton.mp z]
                exact bp_el List.mem_cons_self rfl) (by show 9 ≤ 20; decide)⟩
        · rw [if_neg (show ¬ decide ((1 : Int) < W.n) = true by rw [decide_eq_true_iff]; omega)]
          walk_at "s"
          exact ⟨⟨_, rfl⟩, sH.trans kL, odds_of eL (da.kp (.of_ex kL)) hbad (by show 8 ≤ 20; decide)⟩
      · obtain ⟨⟨y4, rfl⟩, kk, hb⟩ := hx
        walk_at "s"
        exact q L H' kk (new_nin hS sH hL) hb
end
end K8
set_option Elab.async false
set_option linter.all false
set_option maxRecDepth 100000
set_option maxHeartbeats 4000000
namespace K8
open PySem PySem.Spec PyProof.Rows L2
local macro_rules | `(tactic| walk_at "s") => `(tactic| repeat (first
  | with_reducible refine g_seq ?_ | with_reducible refine g_ret ?_ | with_reducible refine g_asg ?_ | with_reducible refine g_name ?_ | with_reducible refine g_c ?_ | with_reducible refine g_op ?_ | with_reducible refine g_cons ?_ | with_reducible refine g_nil ?_
  | (with_reducible show tVar _ _ _ _; refine g_var rfl ?_) | with_reducible refine g_cb ?_ | with_reducible refine g_call ?_ | with_reducible refine g_if ?_ | with_reducible refine g_test ?_ | with_reducible refine g_tB ?_ | with_reducible refine g_i0 ?_ | with_reducible refine g_bl ?_
  | with_reducible refine g_add ?_ | with_reducible refine g_sub ?_ | with_reducible refine g_eqI ?_ | with_reducible refine g_neI ?_ | with_reducible refine g_drop ?_ | with_reducible refine g_next ?_ | with_reducible refine g_break ?_ | with_reducible refine g_un ?_ | with_reducible refine g_u ?_
  | with_reducible refine g_ifE ?_ | with_reducible refine g_and ?_ | with_reducible refine g_or ?_ | with_reducible refine g_not ?_ | with_reducible refine g_andV ?_ | with_reducible refine g_orV ?_ | with_reducible refine g_notV ?_ | with_reducible refine g_isN ?_ | with_reducible refine g_notN ?_
  | with_reducible refine g_gnil ?_ | with_reducible refine g_gcons ?_ | with_reducible refine g_bm ?_ | with_reducible refine g_abs ?_ | with_reducible refine g_max ?_ | with_reducible refine g_min ?_ | with_reducible refine g_int ?_ | with_reducible refine g_lc ?_ | with_reducible refine g_for ?_ | with_reducible refine g_yes ?_ | with_reducible refine g_rng1 ?_ | with_reducible refine g_rng2 ?_ | with_reducible refine g_il ?_ | with_reducible refine g_it ?_ | with_reducible refine g_en ?_ | with_reducible refine g_zp ?_ | with_reducible refine g_mkT ?_ | with_reducible refine g_mkL ?_ | with_reducible refine g_augS ?_ | (with_reducible show tAug _ _ _ _ _ _; refine g_aug rfl ?_) | with_reducible refine g_ipI ?_ | with_reducible refine g_gsub ?_ | with_reducible refine g_dget ?_ | with_reducible refine g_din ?_ | with_reducible refine g_dnotin ?_ | with_reducible refine g_dput ?_ | with_reducible refine g_dc ?_ | with_reducible refine g_sl ?_ | with_reducible refine g_nopart ?_ | with_reducible refine g_part ?_ | with_reducible refine g_exI ?_ | with_reducible refine g_revL ?_ | (with_reducible show iSq _ _ _ _; refine g_sq rfl ?_) | with_reducible refine g_while ?_ | with_reducible refine g_min3 ?_ | with_reducible refine g_trq ?_ | with_reducible refine g_lock ?_ | with_reducible refine g_mko ?_ | with_reducible refine g_keys ?_ | with_reducible refine g_eqS ?_ | with_reducible refine g_lrg ?_ | with_reducible refine g_trg ?_ | with_reducible refine g_rg1 ?_ | with_reducible refine g_cut ?_ | with_reducible refine g_disp ?_ | with_reducible refine g_dnew ?_ | with_reducible refine iteT ?_ | with_reducible refine iteF ?_))
section
variable {P : Program} {w : World} {K : PySem.W.Frag} {mg : Str → Option Value} {base : Heap} {f : Addr} {fd : FuncData} {k : Nat}
theorem sc_law_odd_holds : FnScope ["_law_pot_here", "_law_web_here", "_law_row", "_law_turn", "_law_first", "_law_sides", "_law_good", "_law_odd", "_law_k", "_law_kind", "_law_thing", "_law_words", "_law_both", "_law_house"] ["_law_pot_here", "_law_web_here", "_law_row"] (defScope s_law_odd_holds) := ⟨rfl, rfl, rfl, by decide +kernel, rfl, by decide +kernel, by decide +kernel⟩
theorem req_bad {W : Wb} {d1 d3 : PyData} {RT : List Int → Prop} {RO : Str → Prop} {j : Nat} (hj : j < 5) (hb : BadP W d1) (h4 : j = 4 → ∃ d30 d31 r, d3 = .tuple (d30 :: d31 :: r)) (h : RO "purses") : ReqA W d1 d3 RT RO j := by
  match j, hj with
  | 0, _ => exact .inr ⟨hb, h⟩
  | 1, _ => exact .inr ⟨hb, h⟩
  | 2, _ => exact .inr ⟨hb, h⟩
  | 3, _ => exact .inr ⟨hb, h⟩
  | 4, _ =>
    obtain ⟨d30, d31, r, e⟩ := h4 rfl
    exact ⟨d30, d31, r, e, .inr ⟨hb, h⟩⟩
def wordK : Nat → Str
  | 0 => "house"
  | 1 => "house"
  | 2 => "order"
  | _ => "coins"
theorem word_at {kd : Nat} (h : kd < 4) : [V.str "house", V.str "house", V.str "order", V.str "coins"][kd]? = some (.str (wordK kd)) := by
  match kd, h with
  | 0, _ => rfl
  | 1, _ => rfl
  | 2, _ => rfl
  | 3, _ => rfl
theorem req_badk {W : Wb} {ps : List Int} {d3 : PyData} {RT : List Int → Prop} {RO : Str → Prop} {j : Nat} (hj : j < 4) (hs : StandR W ps) (hb : BadK W.n j d3) (h : RO (wordK j)) : ReqA W (.tuple (ps.map PyData.int)) d3 RT RO j := by
  match j, hj with
  | 0, _ => exact .inl ⟨ps, stand_good hs, fun x e hx => absurd (show isH W.n d3 = true by rw [e]; exact isH_of hx) (by rw [show isH W.n d3 = false from hb]; exact Bool.false_ne_true), fun _ => h⟩
  | 1, _ => exact .inl ⟨ps, stand_good hs, fun x e hx => absurd (show isH W.n d3 = true by rw [e]; exact isH_of hx) (by rw [show isH W.n d3 = false from hb]; exact Bool.false_ne_true), fun _ => h⟩
  | 2, _ => exact .inl ⟨ps, stand_good hs, fun os ho => absurd ⟨os, ho⟩ hb, fun _ => h⟩
  | 3, _ => exact .inl ⟨ps, stand_good hs, fun c e hc => absurd (show isC d3 = true by rw [e]; exact decide_eq_true hc) (by rw [show isC d3 = false from hb]; exact Bool.false_ne_true), fun _ => h⟩
theorem sides_len {n : Nat} {ds : List PyData} (h : ds.length ≠ n) : ¬ ∃ bs, IsSides n (.tuple ds) bs := fun ⟨os, e, p⟩ => h (by
  rw [PyData.tuple.inj e, List.length_map, p])
theorem sides_el {n : Nat} {ds : List PyData} {d : PyData} (hd : d ∈ ds) (h : ∀ b, d ≠ .str (sd b)) : ¬ ∃ bs, IsSides n (.tuple ds) bs := fun ⟨os, e, p⟩ => by
  rw [PyData.tuple.inj e] at hd
  obtain ⟨x, hx, e2⟩ := List.mem_map.mp hd
  exact h x e2.symm
theorem pot_dom {p r : Addr} {H : Hp} (h : PotAt p r H) : ∀ x ∈ [p], ∃ o, H x = some o := fun x hx => by
  obtain ⟨_, _, _, _, _, e, _⟩ := h
  rw [List.mem_singleton.mp hx]
  exact ⟨_, e⟩
theorem da_sides {S : List Addr} (H : Hp) : ∀ bs : List Bool, DaAll S H (sdV bs) (bs.map fun b => PyData.str (sd b))
  | [] => .nil
  | _ :: r => .cons (.str _) (da_sides H r)
def sp_law_odd_holds : Sp := fun vs H Q _ => ∃ (W : Wb) (p r pa : Addr) (u : V) (ps : List Int), vs = [.ref p, u, .ref pa] ∧ PotAt p r H ∧ WebAt H u W ∧ WebOk W ∧ H pa = some (.tup (zs ps)) ∧ StandR W ps ∧ ∀ H', Kp [p] H H' → PotAt p r H' → Q (.bl true) H'
theorem ok_law_odd_holds (F : Fun K "_law_odd_holds" "_law_odd_holds" s_law_odd_holds f fd) (T : Txt mg) (c_law_draw : Cal P w K mg base 1 "_law_draw" sp_law_draw) (c_law_same : Cal P w K mg base 3 "_law_same" (sp_law_same 3)) (c_law_told : Cal P w K mg base 7 "_law_told" sp_law_told) (c_law_bad : Cal P w K mg base 1 "_law_bad" sp_law_bad) (c_law_no_standings : Cal P w K mg base 1 "_law_no_standings" sp_law_no_standings) :
    FnOk P w K mg base CX0 9 f fd ["_law_pot_here", "_law_web_here", "_law_row"] sp_law_odd_holds := by
  have sc := sc_law_odd_holds
  refine F.ok sc (fun vs H Q E h => ?_) (fun cdv A outer s H vs Q E hr h => ?_)
  · obtain ⟨W, p, r, pa, u, ps, rfl, _⟩ := h
    rfl
  · obtain ⟨W, p, r, pa, u, ps, rfl, hpot, hw, ok, hpa, hst, q⟩ := h
    have hw0 := hw
    obtain ⟨a, c, ls, rfl, ha, hc, hl⟩ := hw0
    have hn1 := ok.1
    have hn8 := ok.2.1
    have hu64 := hr.units
    refine ⟨_, (pss_cons (ps_set (i := 3) sc.nd rfl (by first | exact Or.inl rfl | exact Or.inr rfl) (pe_op op_mul pe_int (pe_c c_law_draw hr (by decide) (by rfl) (pa_cons (pv 0) (pa_cons pe_int pa_nil)))))
      (pss_cons (ps_set (i := 4) sc.nd rfl (by first | exact Or.inl rfl | exact Or.inr rfl) (pe_tupRg rfl (by rfl) T.tuple (prg_1 (by rfl) T.range (pe_ix (kx_tup (K := K) rfl) (pv 1) pe_int (fun _ _ => rfl)))))
      (pss_cons (ps_set (i := 5) sc.nd rfl (by first | exact Or.inl rfl | exact Or.inr rfl) (pe_callTy (kq_tup (K := K) rfl) (by rfl) T.tuple (by decide +kernel) (pa_cons (pe_lc (own := [("_law_house", 13)]) rfl sc.nd (kpi_tup (K := K) rfl (pv 4)) (blkOk_by (N := ["_law_pot_here", "_law_web_here", "_law_row", "_law_turn", "_law_first", "_law_sides", "_law_good", "_law_odd", "_law_k", "_law_kind", "_law_thing", "_law_words", "_law_both", "_law_house"]) (sc := defScope s_law_odd_holds) (by decide +kernel)) (fun _ _ _ _ _ => (pg_name (i := 13) sc.nd rfl (by first | exact Or.inl rfl | exact Or.inr rfl))) (fun _ _ _ _ _ => pts_nil) (fun _ _ _ _ _ => (pe_ix (kx_tup (K := K) rfl) (pe_tup (pa_cons pe_str (pa_cons pe_str pa_nil))) (pe_c c_law_draw hr (by decide) (by rfl) (pa_cons (pv 0) (pa_cons pe_int pa_nil))) (fun _ _ => rfl)))) pa_nil)))
      (pss_cons (ps_set (i := 6) sc.nd rfl (by first | exact Or.inl rfl | exact Or.inr rfl) (pe_lst (pa_cons pe_int (pa_cons (pe_op op_sub (pe_ix (kx_tup (K := K) rfl) (pv 1) pe_int (fun _ _ => rfl)) pe_int) (pa_cons (pv 4) (pa_cons pe_int (pa_cons (pe_tup (pa_cons (pv 4) (pa_cons (pv 5) pa_nil))) pa_nil)))))))
      (pss_cons (ps_set (i := 7) sc.nd rfl (by first | exact Or.inl rfl | exact Or.inr rfl) (pe_c c_law_no_standings hr (by decide) (by rfl) (pa_cons (pv 2) pa_nil)))
      (pss_cons (ps_for PassesOwn.never rfl (pi_range1 (by rfl) T.range (pa_cons (pe_callB (kq_len (K := K) rfl) (by rfl) T.len (by decide +kernel) (pa_cons (pv 7) pa_nil)) pa_nil)) (pg_name (i := 8) sc.nd rfl (by first | exact Or.inl rfl | exact Or.inr rfl))
        (pss_one (ps_for PassesOwn.never rfl (pi_range1 (by rfl) T.range (pa_cons pe_int pa_nil)) (pg_name (i := 9) sc.nd rfl (by first | exact Or.inl rfl | exact Or.inr rfl))
          (pss_cons (ps_set (i := 10) sc.nd rfl (by first | exact Or.inl rfl | exact Or.inr rfl) (pe_ix (kx_list (K := K) rfl) (pv 6) (pv 9) (fun _ _ => rfl)))
          (Evl.pss_cut (ps_if (pt_cmpR op_eq (pe_op op_mod (pe_callTy cq_int (by rfl) T.int (by decide +kernel) (pa_cons (pv 8) pa_nil)) pe_int) pe_int (nomark _))
            (pss_one (ps_set (i := 10) sc.nd rfl (by first | exact Or.inl rfl | exact Or.inr rfl) (pe_tup (pa_cons (pe_ix (kx_list (K := K) rfl) (pe_c c_law_bad hr (by decide) (by rfl) (pa_cons (pv 9) (pa_cons (pe_ix (kx_tup (K := K) rfl) (pv 1) pe_int (fun _ _ => rfl)) pa_nil))) (pe_op op_mod (pe_callTy cq_int (by rfl) T.int (by decide +kernel) (pa_cons (pv 8) pa_nil)) pe_int) (fun _ _ => rfl)) (pa_cons pe_non pa_nil)))))
            pss_nil)
          (pss_one (ps_if (pt_not (pt_val (pe_c c_law_same hr (by decide) (by rfl) (pa_cons (pe_c c_law_told hr (by decide) (by rfl) (pa_cons (pe_op op_add (pv 9) (pv 3)) (pa_cons (pv 1) (pa_cons (pe_ix (kx_list (K := K) rfl) (pv 7) (pv 8) (fun _ _ => rfl)) (pa_cons (pv 10) pa_nil))))) (pa_cons (pe_tup (pa_cons pe_str (pa_cons pe_str (pa_cons (pe_un un_neg pe_int) pa_nil)))) pa_nil)))))
            (pss_one (ps_ret pe_bl))
            pss_nil)))))))
      (pss_cons (ps_set (i := 11) sc.nd rfl (by first | exact Or.inl rfl | exact Or.inr rfl) (pe_tup (pa_cons pe_str (pa_cons pe_str (pa_cons pe_str (pa_cons pe_str pa_nil))))))
      (pss_cons (ps_for PassesOwn.never rfl (pi_range1 (by rfl) T.range (pa_cons pe_int pa_nil)) (pg_name (i := 9) sc.nd rfl (by first | exact Or.inl rfl | exact Or.inr rfl))
        (pss_one (ps_for PassesOwn.never rfl (kpi_list (K := K) rfl (pe_c c_law_bad hr (by decide) (by rfl) (pa_cons (pv 9) (pa_cons (pe_ix (kx_tup (K := K) rfl) (pv 1) pe_int (fun _ _ => rfl)) pa_nil)))) (pg_name (i := 10) sc.nd rfl (by first | exact Or.inl rfl | exact Or.inr rfl))
          (pss_one (ps_if (pt_not (pt_val (pe_c c_law_same hr (by decide) (by rfl) (pa_cons (pe_c c_law_told hr (by decide) (by rfl) (pa_cons (pe_op op_sub (pe_op op_add (pv 9) pe_int) (pv 3)) (pa_cons (pv 1) (pa_cons (pv 2) (pa_cons (pv 10) pa_nil))))) (pa_cons (pe_tup (pa_cons pe_str (pa_cons (pe_ix (kx_tup (K := K) rfl) (pv 11) (pv 9) (fun _ _ => rfl)) (pa_cons (pe_un un_neg pe_int) pa_nil)))) pa_nil)))))
            (pss_one (ps_ret pe_bl))
            pss_nil)))))
      (pss_cons (ps_for PassesOwn.never rfl (kpi_list (K := K) rfl (pe_c c_law_bad hr (by decide) (by rfl) (pa_cons pe_int (pa_cons (pe_ix (kx_tup (K := K) rfl) (pv 1) pe_int (fun _ _ => rfl)) pa_nil)))) (pg_name (i := 10) sc.nd rfl (by first | exact Or.inl rfl | exact Or.inr rfl))
        (pss_cons (ps_set (i := 12) sc.nd rfl (by first | exact Or.inl rfl | exact Or.inr rfl) (pe_tup (pa_cons (pv 10) (pa_cons (pe_ix (kx_tup (K := K) rfl) (pe_tup (pa_cons (pv 5) (pa_cons pe_non pa_nil))) (pe_c c_law_draw hr (by decide) (by rfl) (pa_cons (pv 0) (pa_cons pe_int pa_nil))) (fun _ _ => rfl)) pa_nil))))
        (pss_one (ps_if (pt_not (pt_val (pe_c c_law_same hr (by decide) (by rfl) (pa_cons (pe_c c_law_told hr (by decide) (by rfl) (pa_cons (pe_op op_add pe_int (pv 3)) (pa_cons (pv 1) (pa_cons (pv 2) (pa_cons (pv 12) pa_nil))))) (pa_cons (pe_tup (pa_cons pe_str (pa_cons pe_str (pa_cons (pe_un un_neg pe_int) pa_nil)))) pa_nil)))))
          (pss_one (ps_ret pe_bl))
          pss_nil))))
      (pss_cons (ps_for PassesOwn.never rfl (kpi_tup (K := K) rfl (pe_tup (pa_cons (pe_lst pa_nil) (pa_cons (pe_callTy (kq_list (K := K) rfl) (by rfl) T.list (by decide +kernel) (pa_cons (pv 5) pa_nil)) (pa_cons (pe_slice (ksl_tup (K := K) rfl) (pv 5) (po_some pe_int) po_none) (pa_cons (pe_op (kop_catA (K := K) rfl) (pv 5) (pe_tup (pa_cons pe_str pa_nil))) (pa_cons (pe_op (kop_catA (K := K) rfl) (pe_slice (ksl_tup (K := K) rfl) (pv 5) (po_some pe_int) po_none) (pe_tup (pa_cons pe_str pa_nil))) (pa_cons (pe_op (kop_catA (K := K) rfl) (pe_slice (ksl_tup (K := K) rfl) (pv 5) po_none (po_some (pe_un un_neg pe_int))) (pe_tup (pa_cons pe_non pa_nil))) (pa_cons pe_str (pa_cons pe_non (pa_cons pe_int (pa_cons (pe_op (kop_catA (K := K) rfl) (pe_slice (ksl_tup (K := K) rfl) (pv 5) (po_some pe_int) po_none) (pe_tup (pa_cons pe_bl pa_nil))) (pa_cons (pe_op (kop_catA (K := K) rfl) (pe_slice (ksl_tup (K := K) rfl) (pv 5) (po_some pe_int) po_none) (pe_tup (pa_cons pe_str pa_nil))) (pa_cons (pe_tup (pa_cons (pv 5) pa_nil)) pa_nil)))))))))))))) (pg_name (i := 10) sc.nd rfl (by first | exact Or.inl rfl | exact Or.inr rfl))
        (pss_one (ps_if (pt_not (pt_val (pe_c c_law_same hr (by decide) (by rfl) (pa_cons (pe_c c_law_told hr (by decide) (by rfl) (pa_cons (pe_op op_sub pe_int (pv 3)) (pa_cons (pv 1) (pa_cons (pv 2) (pa_cons (pe_tup (pa_cons (pv 4) (pa_cons (pv 10) pa_nil))) pa_nil))))) (pa_cons (pe_tup (pa_cons pe_str (pa_cons pe_str (pa_cons (pe_un un_neg pe_int) pa_nil)))) pa_nil)))))
          (pss_one (ps_ret pe_bl))
          pss_nil)))
      (pss_one (ps_ret (pe_cmpR (kop_eqD (K := K) rfl hu64) (pe_ix (kx_list (K := K) rfl) (pv 7) pe_int (fun _ _ => rfl)) (pe_callTy (kq_list (K := K) rfl) (by rfl) T.list (by decide +kernel) (pa_cons (pv 2) pa_nil)) (nomark _)))))))))))))), ?_⟩
    walk_at "s"
    refine ⟨p, r, 2, rfl, hpot, by omega, by omega, fun tu H1 htu k1 hpot1 => ?_⟩
    refine g_mulL (by omega) ?_
    walk_at "s"
    obtain ⟨tn, etn, htn⟩ : ∃ tn : Int, (5 : Int) * (tu : Int) = tn ∧ (tn = 0 ∨ tn = 5) := ⟨_, rfl, by omega⟩
    rw [etn]
    refine g_ixT (j := 0) (k1.tup _ _ ha) rfl ?_
    walk_at "s"
    refine ⟨rg_ok (by omega), fun ft hft => ?_⟩
    rw [show rgV 0 (W.n : Int) = zs (hs (List.range W.n)) from rgV_nat W.n]
    have kf : Kp [p] H (upd H1 ft (.tup (zs (hs (List.range W.n))))) := k1.nnew hft
    have ef : (upd H1 ft (.tup (zs (hs (List.range W.n))))) ft = some (.tup (zs (hs (List.range W.n)))) := upd_same
    have hpot2 := hpot1.ex (.new (o := .tup (zs (hs (List.range W.n)))) hft)
    generalize upd H1 ft (.tup (zs (hs (List.range W.n)))) = H2 at *
    walk_at "s"
    refine ⟨ft, rfl, ⟨_, .of ef⟩, fun D hD => ?_⟩
    have hDp := hpot2.ne hD
    refine lc_it (walk_tup (xs := zs (hs (List.range W.n)))) (fun j H' => Kp [p] H2 H' ∧ PotAt p r H' ∧ ∃ bs : List Bool, H' D = some (.lst (sdV bs)) ∧ bs.length = j) ⟨.new hD, hpot2.ex (.new hD), [], upd_same, rfl⟩ (fun j H' _ h => .of (h.1.tup _ _ ef)) (fun j x H13 H14 hj hx hy => ?_) (fun H13 hx => ?_)
    · obtain ⟨k13', hpot13, bs, hD13, hbl⟩ := hx
      obtain ⟨rfl, ex⟩ := hy
      rw [zs_len, hs_len, List.length_range] at hj
      walk_at "s"
      refine ⟨rfl, ?_⟩
      walk_at "s"
      refine ⟨sz, fun t15 ht15 => ?_⟩
      walk_at "s"
      have k15' : Ex H14 (upd H14 t15 (.tup [.str "out", .str "in"])) := .new ht15
      refine ⟨p, r, 2, rfl, hpot13.ex k15', by omega, by omega, fun y H16 hy' k16' hpot16 => ?_⟩
      have hD16 := k16'.keep _ _ (k15'.keep _ _ hD13 List.not_mem_nil) (by simpa using hDp.1)
      have ht16 : H16 t15 = some (.tup [.str "out", .str "in"]) := k16'.tup _ _ upd_same
      have hb : ∃ b : Bool, ([V.str "out", .str "in"])[y]? = some (.str (sd b)) := by
        match y, hy' with
        | 0, _ => exact ⟨true, rfl⟩
        | 1, _ => exact ⟨false, rfl⟩
      obtain ⟨b, hb⟩ := hb
      refine g_ixT (j := y) ht16 hb ?_
      refine ⟨_, hD16, small1000 (by rw [List.length_map]; omega), (((k13'.trans (.of_ex k15')).trans k16')).mutPL hD hD16, hpot16.upd hDp, bs ++ [b], by rw [upd_same, sdV, sdV, List.map_append]; rfl, by rw [List.length_append, hbl]; rfl⟩
    · obtain ⟨k13', hpot13, bs, hD13, hbl⟩ := hx
      rw [zs_len, hs_len, List.length_range] at hbl
      walk_at "s"
      refine g_tupL hD13 fun sa hsa => ?_
      walk_at "s"
      have ks : Ex H13 (upd H13 sa (.tup (sdV bs))) := .new hsa
      have hsa14 : (upd H13 sa (.tup (sdV bs))) sa = some (.tup (sdV bs)) := upd_same
      have hpot14 := hpot13.ex ks
      have k214 := k13'.trans (.of_ex ks)
      generalize upd H13 sa (.tup (sdV bs)) = H14 at *
      have ef14 := k214.tup _ _ ef
      have k014 := kf.trans k214
      refine g_ixT (j := 0) (k014.tup _ _ ha) rfl ?_
      walk_at "s"
      refine ⟨sz, fun gt hgt => ?_⟩
      walk_at "s"
      have kg := Kp.new (S := []) (o := .tup [V.ref ft, V.ref sa]) hgt
      refine ⟨sz, fun gl hgl => ?_⟩
      walk_at "s"
      have kl := Kp.new (S := []) (o := .lst [V.int 0, V.int ((W.n : Int) - 1), V.ref ft, V.int 1, V.ref gt]) hgl
      have egt : (upd (upd H14 gt (.tup [V.ref ft, V.ref sa])) gl (.lst [V.int 0, V.int ((W.n : Int) - 1), V.ref ft, V.int 1, V.ref gt])) gt = some (.tup [V.ref ft, V.ref sa]) := kl.tup _ _ upd_same
      have egl : (upd (upd H14 gt (.tup [V.ref ft, V.ref sa])) gl (.lst [V.int 0, V.int ((W.n : Int) - 1), V.ref ft, V.int 1, V.ref gt])) gl = some (.lst [V.int 0, V.int ((W.n : Int) - 1), V.ref ft, V.int 1, V.ref gt]) := upd_same
      have kgl := kg.trans kl
      have hpot15 := hpot14.ex kgl
      generalize upd (upd H14 gt (.tup [V.ref ft, V.ref sa])) gl (.lst [V.int 0, V.int ((W.n : Int) - 1), V.ref ft, V.int 1, V.ref gt]) = H15 at *
      have k015 := k014.trans (.of_ex kgl)
      have ef15 := kgl.tup _ _ ef14
      have esa15 := kgl.tup _ _ hsa14
      refine ⟨[p], W, pa, ps, rfl, pot_dom hpot15, ok, k015.tup _ _ hpa, hst, fun od H16 k16 hodn hod => ?_⟩
      walk_at "s"
      have k016 := k015.trans (.of_ex k16)
      have hpot16 := hpot15.ex k16
      have daF : ∀ {H' : Hp}, Ex H15 H' → Da [] H' (.ref ft) (.tuple ((hs (List.range W.n)).map PyData.int)) := fun {H'} k => da_ints (k.tup _ _ ef15)
      have daS : ∀ {H' : Hp}, Ex H15 H' → Da [] H' (.ref sa) (.tuple (bs.map fun b => PyData.str (sd b))) := fun {H'} k => .tup (k.tup _ _ esa15) (sdV_da H' bs)
      have hgood : ∀ (kd : Nat) {H' : Hp}, kd < 5 → Ex H15 H' → ∃ v d, [V.int 0, V.int ((W.n : Int) - 1), V.ref ft, V.int 1, V.ref gt][kd]? = some v ∧ Da [] H' v d ∧ (kd = 4 → ∃ d30 d31 r, d = .tuple (d30 :: d31 :: r)) := fun kd {H'} h k => by
        match kd, h with
        | 0, _ => exact ⟨_, _, rfl, .int _, fun z => by omega⟩
        | 1, _ => exact ⟨_, _, rfl, .int _, fun z => by omega⟩
        | 2, _ => exact ⟨_, _, rfl, daF k, fun z => by omega⟩
        | 3, _ => exact ⟨_, _, rfl, .int _, fun z => by omega⟩
        | 4, _ => exact ⟨_, _, rfl, .tup (k.tup _ _ egt) (.cons (daF k) (.cons (daS k) .nil)), fun _ => ⟨_, _, _, rfl⟩⟩
      obtain ⟨v0, vs, hodL, hvl, hd0, hodd⟩ := hod
      refine g_lenL hodL ?_
      walk_at "s"
      have hvl1 : (v0 :: vs).length ≤ 21 := by show vs.length + 1 ≤ 21; omega
      generalize hvv : v0 :: vs = vv at *
      refine ⟨_, rfl, by omega, by omega, ?_⟩
      refine for_range (n := vv.length) (fun i σ H' => ∃ (y8 y9 y10 y11 y12 y13 : Option V), σ = [some (.ref p), some (.ref a), some (.ref pa), some (.int tn), some (.ref ft), some (.ref sa), some (.ref gl), some (.ref od), y8, y9, y10, y11, y12, y13] ∧ Ex H16 H') ⟨_, _, _, _, _, _, rfl, .refl _ _⟩ (fun i σ H17 hi hx => ?_) (fun σ H17 hx => ?_)
      · obtain ⟨y8, y9, y10, y11, y12, y13, rfl, k17⟩ := hx
        rw [show ((0 : Int) + (i : Int)) = (i : Int) from Int.zero_add _]
        walk_at "s"
        refine ⟨_, rfl, by omega, by omega, ?_⟩
        refine for_range (n := 5) (fun kd σ H' => ∃ (y9 y10 y11 y12 y13 : Option V), σ = [some (.ref p), some (.ref a), some (.ref pa), some (.int tn), some (.ref ft), some (.ref sa), some (.ref gl), some (.ref od), some (.int (i : Int)), y9, y10, y11, y12, y13] ∧ Ex H16 H') ⟨_, _, _, _, _, rfl, k17⟩ (fun kd σ H18 hk hx => ?_) (fun σ H18 hx => ?_)
        · obtain ⟨y9, y10, y11, y12, y13, rfl, k18⟩ := hx
          rw [show ((0 : Int) + (kd : Int)) = (kd : Int) from Int.zero_add _]
          walk_at "s"
          have k1518 := k16.trans k18
          obtain ⟨gv, gd, eg, hgd, hg4⟩ := hgood kd hk k1518
          refine g_ixL (j := kd) (k1518.keep _ _ egl List.not_mem_nil) eg ?_
          walk_at "s"
          refine ⟨fun σ' H' => ∃ (tv : V) (td : PyData) (y11 y12 y13 : Option V), σ' = [some (.ref p), some (.ref a), some (.ref pa), some (.int tn), some (.ref ft), some (.ref sa), some (.ref gl), some (.ref od), some (.int (i : Int)), some (.int (kd : Int)), some tv, y11, y12, y13] ∧ Ex H16 H' ∧ Da [] H' tv td ∧ (kd = 4 → ∃ d30 d31 r, td = .tuple (d30 :: d31 :: r)), ?_, fun σ' H' hx => ?_⟩
          · walk_at "s"
            refine g_mod (by omega) ?_
            walk_at "s"
            by_cases e : (i : Int) % 2 = 1
            · rw [if_pos (decide_eq_true e)]
              walk_at "s"
              have k018 := k016.trans (.of_ex k18)
              refine g_ixT (j := 0) (k018.tup _ _ ha) rfl ?_
              walk_at "s"
              refine ⟨[], W.n, kd, rfl, (fun _ m => nomatch m), hk, hn1, hn8, fun bq H19 k19 _ hbq => ?_⟩
              walk_at "s"
              refine g_mod (by omega) ?_
              walk_at "s"
              obtain ⟨bvs, hbL, hb8, hb20, hball⟩ := hbq
              obtain ⟨m, em, hm8⟩ : ∃ m : Nat, (i : Int) % 8 = (m : Int) ∧ m < 8 := ⟨i % 8, by omega, by omega⟩
              rw [em]
              refine g_ixL (j := m) hbL (List.getElem?_eq_getElem (by omega)) ?_
              walk_at "s"
              refine ⟨sz, fun tt htt => ?_⟩
              walk_at "s"
              obtain ⟨bd, hbd, _⟩ := hball bvs[m] (List.getElem_mem (by omega))
              have kt := Kp.new (S := []) (o := .tup [bvs[m], V.non]) htt
              exact ⟨_, _, _, _, _, rfl, k18.trans (k19.trans kt), .tup upd_same (.cons (hbd.kp kt) (.cons .non .nil)), fun _ => ⟨_, _, _, rfl⟩⟩
            · rw [if_neg (show ¬ decide ((i : Int) % 2 = 1) = true by rw [decide_eq_true_iff]; exact e)]
              walk_at "s"
              exact ⟨_, _, _, _, _, rfl, k18, hgd, hg4⟩
          · obtain ⟨tv, td, y11, y12, y13, rfl, k19, htd, ht4⟩ := hx
            have k019 := k016.trans (.of_ex k19)
            walk_at "s"
            refine g_ixL (j := i) (k19.keep _ _ hodL List.not_mem_nil) (List.getElem?_eq_getElem hi) ?_
            walk_at "s"
            obtain ⟨rd, hrd, hbp⟩ := hodd vv[i] (List.getElem_mem hi)
            refine ⟨W, _, _, _, [p], [], rd, td, kd, kd + tn, rfl, by omega, hk, hw.kp k019, ok, hrd.kp (.of_ex k19), htd, req_bad hk hbp ht4 fun t20 H20 k20 hd20 => ?_⟩
            walk_at "s"
            refine ⟨sz, fun t21 ht21 => ?_⟩
            walk_at "s"
            have k21 := Kp.new (S := []) (o := .tup [.str "not", .str "purses", .int (-1)]) ht21
            refine ⟨[], [], _, _, _, rfl, hd20.kp k21, .tup upd_same (.cons (.str _) (.cons (.str _) (.cons (.int _) .nil))), pln_not, fun H22 k22 => ?_⟩
            walk_at "s"
            refine iteF ?_
            walk_at "s"
            exact ⟨_, _, _, _, _, rfl, k19.trans (k20.trans (k21.trans k22))⟩
        · obtain ⟨y9, y10, y11, y12, y13, rfl, k18⟩ := hx
          walk_at "s"
          exact ⟨_, _, _, _, _, _, rfl, k18⟩
      · obtain ⟨y8, y9, y10, y11, y12, y13, rfl, k17⟩ := hx
        have k017 := k016.trans (.of_ex k17)
        walk_at "s"
        refine ⟨sz, fun wt hwt => ?_⟩
        walk_at "s"
        have k18 := Kp.new (S := []) (o := .tup [V.str "house", V.str "house", V.str "order", V.str "coins"]) hwt
        have ewt : (upd H17 wt (.tup [V.str "house", V.str "house", V.str "order", V.str "coins"])) wt = some (.tup [V.str "house", V.str "house", V.str "order", V.str "coins"]) := upd_same
        generalize upd H17 wt (.tup [V.str "house", V.str "house", V.str "order", V.str "coins"]) = H18 at *
        have k1618 := k17.trans k18
        refine ⟨_, rfl, by omega, by omega, ?_⟩
        refine for_range (n := 4) (fun kd σ H' => ∃ (y8 y9 y10 y12 y13 : Option V), σ = [some (.ref p), some (.ref a), some (.ref pa), some (.int tn), some (.ref ft), some (.ref sa), some (.ref gl), some (.ref od), y8, y9, y10, some (.ref wt), y12, y13] ∧ Ex H18 H') ⟨_, _, _, _, _, rfl, .refl _ _⟩ (fun kd σ H19 hk hx => ?_) (fun σ H19 hx => ?_)
        · obtain ⟨y8, y9, y10, y12, y13, rfl, k19⟩ := hx
          rw [show ((0 : Int) + (kd : Int)) = (kd : Int) from Int.zero_add _]
          walk_at "s"
          have k019 := k016.trans (.of_ex (k1618.trans k19))
          refine g_ixT (j := 0) (k019.tup _ _ ha) rfl ?_
          walk_at "s"
          refine ⟨[], W.n, kd, rfl, (fun _ m => nomatch m), by omega, hn1, hn8, fun bq H20 k20 _ hbq => ?_⟩
          walk_at "s"
          obtain ⟨bvs, hbL, hb8, hb20, hball⟩ := hbq
          refine ⟨bq, rfl, ⟨_, .of hbL⟩, ?_⟩
          refine for_it (walk_list (xs := bvs)) (fun i σ H' => ∃ (y8 y10 y12 y13 : Option V), σ = [some (.ref p), some (.ref a), some (.ref pa), some (.int tn), some (.ref ft), some (.ref sa), some (.ref gl), some (.ref od), y8, some (.int (kd : Int)), y10, some (.ref wt), y12, y13] ∧ Ex H20 H') ⟨_, _, _, _, rfl, .refl _ _⟩ (fun i σ H' _ h => ?_) (fun i x σ H21 H22 hi hx hy => ?_) (fun σ H21 hx => ?_)
          · obtain ⟨_, _, _, _, _, k21⟩ := h
            exact .of (k21.keep _ _ hbL List.not_mem_nil)
          · obtain ⟨y8, y10, y12, y13, rfl, k21⟩ := hx
            obtain ⟨rfl, ex⟩ := hy
            have k021 := k019.trans (.of_ex (k20.trans k21))
            obtain ⟨bd, hbd, hbk⟩ := hball x (List.mem_of_getElem? ex)
            walk_at "s"
            refine ⟨W, _, _, _, [], [], _, bd, kd, (kd : Int) + 5 - tn, rfl, by omega, by omega, hw.kp k021, ok, da_ints (k021.tup _ _ hpa), hbd.kp k21, req_badk hk hst hbk fun t22 H23 k23 hd23 => ?_⟩
            walk_at "s"
            refine g_ixT (j := kd) ((k19.trans (k20.trans (k21.trans k23))).tup _ _ ewt) (word_at hk) ?_
            walk_at "s"
            refine ⟨sz, fun t24 ht24 => ?_⟩
            walk_at "s"
            have k24 := Kp.new (S := []) (o := .tup [.str "not", .str (wordK kd), .int (-1)]) ht24
            refine ⟨[], [], _, _, _, rfl, hd23.kp k24, .tup upd_same (.cons (.str _) (.cons (.str _) (.cons (.int _) .nil))), pln_not, fun H25 k25 => ?_⟩
            walk_at "s"
            refine iteF ?_
            walk_at "s"
            exact ⟨_, _, _, _, rfl, k21.trans (k23.trans (k24.trans k25))⟩
          · obtain ⟨y8, y10, y12, y13, rfl, k21⟩ := hx
            walk_at "s"
            exact ⟨_, _, _, _, _, rfl, k19.trans (k20.trans k21)⟩
        · obtain ⟨y8, y9, y10, y12, y13, rfl, k19⟩ := hx
          walk_at "s"
          have k1619 := k1618.trans k19
          have k019 := k016.trans (.of_ex k1619)
          have hpot19 := hpot16.ex k1619
          refine g_ixT (j := 0) (k019.tup _ _ ha) rfl ?_
          walk_at "s"
          refine ⟨[p], W.n, 2, rfl, pot_dom hpot19, by omega, hn1, hn8, fun bq H20 k20 hbp hbq => ?_⟩
          walk_at "s"
          obtain ⟨bvs, hbL, hb8, hb20, hball⟩ := hbq
          have hpot20 := hpot19.ex k20
          have k020 := k019.trans (.of_ex k20)
          refine ⟨bq, rfl, ⟨_, .of hbL⟩, ?_⟩
          refine for_it (walk_list (xs := bvs)) (fun i σ H' => ∃ (y8 y9 y10 y12 y13 : Option V), σ = [some (.ref p), some (.ref a), some (.ref pa), some (.int tn), some (.ref ft), some (.ref sa), some (.ref gl), some (.ref od), y8, y9, y10, some (.ref wt), y12, y13] ∧ Kp [p] H20 H' ∧ PotAt p r H') ⟨_, _, _, _, _, rfl, .refl _ _, hpot20⟩ (fun i σ H' _ h => ?_) (fun i x σ H21 H22 hi hx hy => ?_) (fun σ H21 hx => ?_)
          · obtain ⟨_, _, _, _, _, _, k21, _⟩ := h
            exact .of (k21.keep _ _ hbL hbp)
          · obtain ⟨y8, y9, y10, y12, y13, rfl, k21, hpot21⟩ := hx
            obtain ⟨rfl, ex⟩ := hy
            have k021 := k020.trans k21
            obtain ⟨bd, hbd, hbk⟩ := hball x (List.mem_of_getElem? ex)
            walk_at "s"
            refine ⟨sz, fun t22 ht22 => ?_⟩
            walk_at "s"
            have k22 := Kp.new (S := []) (o := .tup [V.ref sa, V.non]) ht22
            refine ⟨p, r, 2, rfl, hpot21.ex k22, by omega, by omega, fun y H23 hy k23 hpot23 => ?_⟩
            have k2023 := (k21.trans (.of_ex k22)).trans k23
            have hb : ∃ yv yd, ([V.ref sa, V.non])[y]? = some yv ∧ Da [p] H23 yv yd := by
              match y, hy with
              | 0, _ => exact ⟨_, _, rfl, .tup ((k21.trans (.of_ex k22)).trans k23 |>.tup _ _ ((k16.trans (k1619.trans k20)).tup _ _ esa15)) (da_sides H23 bs)⟩
              | 1, _ => exact ⟨_, _, rfl, .non⟩
            obtain ⟨yv, yd, eyv, hyd⟩ := hb
            refine g_ixT (j := y) (k23.tup _ _ upd_same) eyv ?_
            walk_at "s"
            refine ⟨sz, fun t24 ht24 => ?_⟩
            walk_at "s"
            have k24 := Kp.new (S := [p]) (o := .tup [x, yv]) ht24
            have k024 := (k020.trans k2023).trans k24
            refine ⟨W, _, _, _, [], [p], _, .tuple [bd, yd], 4, 4 + tn, rfl, by omega, by omega, hw.kp k024, ok, da_ints (k024.tup _ _ hpa), .tup upd_same (.cons (hbd.kp (k2023.trans k24)) (.cons (hyd.kp k24) .nil)), ?_⟩
            refine ⟨_, _, [], rfl, .inl ⟨ps, stand_good hst, fun os bs ho => absurd ⟨os, ho⟩ hbk, fun _ t25 H25 k25 hd25 => ?_, fun z => absurd z hbk⟩⟩
            walk_at "s"
            refine ⟨sz, fun t26 ht26 => ?_⟩
            walk_at "s"
            have k26 := Kp.new (S := []) (o := .tup [.str "not", .str "order", .int (-1)]) ht26
            refine ⟨[], [], _, _, _, rfl, hd25.kp k26, .tup upd_same (.cons (.str _) (.cons (.str _) (.cons (.int _) .nil))), pln_not, fun H27 k27 => ?_⟩
            walk_at "s"
            refine iteF ?_
            walk_at "s"
            have kk := (Kp.new (S := []) (o := .tup [x, yv]) ht24).trans (k25.trans (k26.trans k27))
            exact ⟨_, _, _, _, _, rfl, k2023.trans (.of_ex kk), hpot23.ex kk⟩
          · obtain ⟨y8, y9, y10, y12, y13, rfl, k21, hpot21⟩ := hx
            walk_at "s"
            have k020' := k020.trans k21
            have f0 : H21 sa = some (.tup (sdV bs)) := k21.tup _ _ ((k16.trans (k1619.trans k20)).tup _ _ esa15)
            have fl : (sdV bs).length = W.n := by rw [List.length_map, hbl]
            refine ⟨sz, fun r0 hr0 => ?_⟩
            have k22 := Kp.new (S := []) (o := .lst []) hr0
            have e0 : (upd H21 r0 (.lst [])) r0 = some (.lst []) := upd_same
            generalize upd H21 r0 (.lst []) = H22 at *
            have f22 := k22.tup _ _ f0
            walk_at "s"
            refine g_listT f22 fun r1 hr1 => ?_
            have k23 := Kp.new (S := []) (o := .lst (sdV bs)) hr1
            have e1 : (upd H22 r1 (.lst (sdV bs))) r1 = some (.lst (sdV bs)) := upd_same
            generalize upd H22 r1 (.lst (sdV bs)) = H23 at *
            have f23 := k23.tup _ _ f22
            walk_at "s"
            refine g_from (j := 1) f23 fun r2 H24 k24 e2 => ?_
            have f24 := k24.tup _ _ f23
            walk_at "s"
            refine ⟨sz, fun a3 ha3 => ?_⟩
            walk_at "s"
            have c3 := Kp.new (S := []) (o := .tup [V.str "in"]) ha3
            refine g_catA (c3.tup _ _ f24) upd_same (by rw [fl]; show W.n + 1 ≤ 1000; omega) fun r3 H25 d3 e3 => ?_
            have k25 := c3.trans d3
            have f25 := k25.tup _ _ f24
            walk_at "s"
            refine g_from (j := 1) f25 fun q4 H26 d4 g4 => ?_
            walk_at "s"
            refine ⟨sz, fun a4 ha4 => ?_⟩
            walk_at "s"
            have c4 := Kp.new (S := []) (o := .tup [V.str "In"]) ha4
            refine g_catA (c4.tup _ _ g4) upd_same (by rw [List.length_drop, fl]; show W.n - 1 + 1 ≤ 1000; omega) fun r4 H27 d4' e4 => ?_
            have k27 := d4.trans (c4.trans d4')
            have f27 := k27.tup _ _ f25
            walk_at "s"
            refine g_init f27 fun q5 H28 d5 g5 => ?_
            walk_at "s"
            refine ⟨sz, fun a5 ha5 => ?_⟩
            walk_at "s"
            have c5 := Kp.new (S := []) (o := .tup [V.non]) ha5
            refine g_catA (c5.tup _ _ g5) upd_same (by rw [List.length_dropLast, fl]; show W.n - 1 + 1 ≤ 1000; omega) fun r5 H29 d5' e5 => ?_
            have k29 := d5.trans (c5.trans d5')
            have f29 := k29.tup _ _ f27
            walk_at "s"
            refine g_from (j := 1) f29 fun q9 H30 d9 g9 => ?_
            walk_at "s"
            refine ⟨sz, fun a9 ha9 => ?_⟩
            walk_at "s"
            have c9 := Kp.new (S := []) (o := .tup [V.bl true]) ha9
            refine g_catA (c9.tup _ _ g9) upd_same (by rw [List.length_drop, fl]; show W.n - 1 + 1 ≤ 1000; omega) fun r9 H31 d9' e9 => ?_
            have k31 := d9.trans (c9.trans d9')
            have f31 := k31.tup _ _ f29
            walk_at "s"
            refine g_from (j := 1) f31 fun q10 H32 d10 g10 => ?_
            walk_at "s"
            refine ⟨sz, fun a10 ha10 => ?_⟩
            walk_at "s"
            have c10 := Kp.new (S := []) (o := .tup [V.str ""]) ha10
            refine g_catA (c10.tup _ _ g10) upd_same (by rw [List.length_drop, fl]; show W.n - 1 + 1 ≤ 1000; omega) fun r10 H33 d10' e10 => ?_
            have k33 := d10.trans (c10.trans d10')
            have f33 := k33.tup _ _ f31
            walk_at "s"
            refine ⟨sz, fun r11 hr11 => ?_⟩
            have k34 := Kp.new (S := []) (o := .tup [V.ref sa]) hr11
            have e11 : (upd H33 r11 (.tup [V.ref sa])) r11 = some (.tup [V.ref sa]) := upd_same
            generalize upd H33 r11 (.tup [V.ref sa]) = H34 at *
            have f34 := k34.tup _ _ f33
            walk_at "s"
            refine ⟨sz, fun tt htt => ?_⟩
            have s33 := k34
            have s31 := k33.trans s33
            have s29 := k31.trans s31
            have s27 := k29.trans s29
            have s25 := k27.trans s27
            have s24 := k25.trans s25
            have s23 := k24.trans s24
            have s22 := k23.trans s23
            have s21 := k22.trans s22
            have rd1 : (sdV bs).drop 1 = sdV (bs.drop 1) := List.map_drop.symm
            have rd2 : (sdV bs).dropLast = sdV bs.dropLast := List.map_dropLast.symm
            have hdl : (bs.map fun b => PyData.str (sd b)).length = W.n := by rw [List.length_map, hbl]
            obtain ⟨xs, hxs⟩ : ∃ xs, xs = [V.ref r0, V.ref r1, V.ref r2, V.ref r3, V.ref r4, V.ref r5, V.str "in", V.non, V.int 0, V.ref r9, V.ref r10, V.ref r11] := ⟨_, rfl⟩
            have da : DaAll [] H34 xs
                ([.list [], .list (bs.map fun b => .str (sd b)), .tuple ((bs.drop 1).map fun b => .str (sd b)), .tuple ((bs.map fun b => .str (sd b)) ++ [.str "in"]), .tuple (((bs.drop 1).map fun b => .str (sd b)) ++ [.str "In"]), .tuple ((bs.dropLast.map fun b => .str (sd b)) ++ [.none]), .str "in", .none, .int 0, .tuple (((bs.drop 1).map fun b => .str (sd b)) ++ [.bool true]), .tuple (((bs.drop 1).map fun b => .str (sd b)) ++ [.str ""]), .tuple [.tuple (bs.map fun b => .str (sd b))]] : List PyData) := by
              rw [hxs]
              exact .cons (.lst List.not_mem_nil (s22.keep _ _ e0 List.not_mem_nil) .nil) <|
                .cons (.lst List.not_mem_nil (s23.keep _ _ e1 List.not_mem_nil) (da_sides _ _)) <|
                .cons (.tup (s24.tup _ _ e2) (by rw [rd1]; exact da_sides _ _)) <|
                .cons (.tup (s25.tup _ _ e3) (.app (da_sides _ _) (.cons (.str _) .nil))) <|
                .cons (.tup (s27.tup _ _ e4) (by rw [rd1]; exact .app (da_sides _ _) (.cons (.str _) .nil))) <|
                .cons (.tup (s29.tup _ _ e5) (by rw [rd2]; exact .app (da_sides _ _) (.cons .non .nil))) <|
                .cons (.str _) <| .cons .non <| .cons (.int _) <|
                .cons (.tup (s31.tup _ _ e9) (by rw [rd1]; exact .app (da_sides _ _) (.cons (.bl _) .nil))) <|
                .cons (.tup (s33.tup _ _ e10) (by rw [rd1]; exact .app (da_sides _ _) (.cons (.str _) .nil))) <|
                .cons (.tup e11 (.cons (.tup f34 (da_sides _ _)) .nil)) .nil
            have hbad : ∀ d ∈ ([.list [], .list (bs.map fun b => .str (sd b)), .tuple ((bs.drop 1).map fun b => .str (sd b)), .tuple ((bs.map fun b => .str (sd b)) ++ [.str "in"]), .tuple (((bs.drop 1).map fun b => .str (sd b)) ++ [.str "In"]), .tuple ((bs.dropLast.map fun b => .str (sd b)) ++ [.none]), .str "in", .none, .int 0, .tuple (((bs.drop 1).map fun b => .str (sd b)) ++ [.bool true]), .tuple (((bs.drop 1).map fun b => .str (sd b)) ++ [.str ""]), .tuple [.tuple (bs.map fun b => .str (sd b))]] : List PyData), ¬ ∃ b, IsSides W.n d b := fun d hd => by
              simp only [List.mem_cons, List.not_mem_nil, or_false] at hd
              rcases hd with rfl | rfl | rfl | rfl | rfl | rfl | rfl | rfl | rfl | rfl | rfl | rfl
              · exact fun ⟨_, e, _⟩ => nomatch e
              · exact fun ⟨_, e, _⟩ => nomatch e
              · exact sides_len (by rw [List.length_map, List.length_drop, hbl]; omega)
              · exact sides_len (by rw [List.length_append, hdl]; show W.n + 1 ≠ W.n; omega)
              · exact sides_el (List.mem_append_right _ List.mem_cons_self) fun b e => by cases b <;> exact absurd (PyData.str.inj e) (by decide)
              · exact sides_el (List.mem_append_right _ List.mem_cons_self) fun b e => nomatch e
              · exact fun ⟨_, e, _⟩ => nomatch e
              · exact fun ⟨_, e, _⟩ => nomatch e
              · exact fun ⟨_, e, _⟩ => nomatch e
              · exact sides_el (List.mem_append_right _ List.mem_cons_self) fun b e => nomatch e
              · exact sides_el (List.mem_append_right _ List.mem_cons_self) fun b e => by cases b <;> exact absurd (PyData.str.inj e) (by decide)
              · exact sides_el List.mem_cons_self fun b e => nomatch e
            have kT := Kp.new (S := []) (o := .tup xs) htt
            have eT : (upd H34 tt (.tup xs)) tt = some (.tup xs) := upd_same
            rw [← hxs]
            generalize upd H34 tt (.tup xs) = H35 at *
            have s2135 := s21.trans kT
            have hpot35 := hpot21.ex s2135
            have k035 := k020'.trans (.of_ex s2135)
            refine ⟨tt, rfl, ⟨_, .of eT⟩, ?_⟩
            refine for_it (walk_tup (xs := xs)) (fun i σ H' => ∃ (y8 y9 y10 y12 y13 : Option V), σ = [some (.ref p), some (.ref a), some (.ref pa), some (.int tn), some (.ref ft), some (.ref sa), some (.ref gl), some (.ref od), y8, y9, y10, some (.ref wt), y12, y13] ∧ Ex H35 H') ⟨_, _, _, _, _, rfl, .refl _ _⟩ (fun i σ H' _ h => ?_) (fun i x σ H36 H37 hi hx hy => ?_) (fun σ H36 hx => ?_)
            · obtain ⟨_, _, _, _, _, _, k36⟩ := h
              exact .of (k36.tup _ _ eT)
            · obtain ⟨y8, y9, y10, y12, y13, rfl, k36⟩ := hx
              obtain ⟨rfl, ex⟩ := hy
              have k036 := k035.trans (.of_ex k36)
              obtain ⟨bd, ebd, hbd⟩ := da.getv ex
              have hbk := hbad bd (List.mem_of_getElem? ebd)
              walk_at "s"
              refine ⟨sz, fun t37 ht37 => ?_⟩
              walk_at "s"
              have k37 := Kp.new (S := []) (o := .tup [V.ref ft, x]) ht37
              have k037 := k036.trans (.of_ex k37)
              have hft37 := ((k21.trans (.of_ex (s2135.trans (k36.trans k37)))).tup _ _ ((k16.trans (k1619.trans k20)).tup _ _ ef15))
              refine ⟨W, _, _, _, [], [], _, .tuple [.tuple ((hs (List.range W.n)).map PyData.int), bd], 4, 9 - tn, rfl, by omega, by omega, hw.kp k037, ok, da_ints (k037.tup _ _ hpa), .tup upd_same (.cons (da_ints hft37) (.cons (hbd.kp (kT.trans (k36.trans k37))) .nil)), ?_⟩
              have hord : IsOrd W.n (.tuple ((hs (List.range W.n)).map PyData.int)) (List.range W.n) := ⟨by rw [hs, List.map_map]; rfl, List.Perm.refl _⟩
              refine ⟨_, _, [], rfl, .inl ⟨ps, stand_good hst, fun os bs2 _ hb2 => absurd ⟨bs2, hb2⟩ hbk, fun z => absurd ⟨_, hord⟩ z, fun _ _ t38 H38 k38 hd38 => ?_⟩⟩
              walk_at "s"
              refine ⟨sz, fun t39 ht39 => ?_⟩
              walk_at "s"
              have k39 := Kp.new (S := []) (o := .tup [.str "not", .str "sides", .int (-1)]) ht39
              refine ⟨[], [], _, _, _, rfl, hd38.kp k39, .tup upd_same (.cons (.str _) (.cons (.str _) (.cons (.int _) .nil))), pln_not, fun H40 k40 => ?_⟩
              walk_at "s"
              refine iteF ?_
              walk_at "s"
              exact ⟨_, _, _, _, _, rfl, k36.trans (k37.trans (k38.trans (k39.trans k40)))⟩
            · obtain ⟨y8, y9, y10, y12, y13, rfl, k36⟩ := hx
              walk_at "s"
              have k1636 : Kp [p] H16 H36 := ((Kp.of_ex (k1619.trans k20)).trans k21).trans (.of_ex (s2135.trans k36))
              refine g_ixL (j := 0) (k1636.keep _ _ hodL hodn) (v := v0) (by rw [← hvv]; rfl) ?_
              walk_at "s"
              refine g_listT ((k016.trans k1636).tup _ _ hpa) fun q0 hq0 => ?_
              obtain ⟨a0, xs0, rfl, na0, ea0, hx0⟩ := hd0.lst_inv
              have ex0 := hx0.ints_inv
              subst ex0
              refine g_eqZ ((Kp.new (S := []) hq0).keep _ _ (k1636.keep _ _ ea0 na0) List.not_mem_nil) upd_same ?_
              rw [decide_eq_true rfl]
              exact q _ ((k016.trans k1636).nnew hq0) ((hpot35.ex k36).ex (.new hq0))
end
end K8
set_option Elab.async false
set_option linter.all false
set_option maxRecDepth 100000
set_option maxHeartbeats 4000000
namespace K8
open PySem PySem.Spec PyProof.Rows L2
local macro_rules | `(tactic| walk_at "s") => `(tactic| repeat (first
  | with_reducible refine g_seq ?_ | with_reducible refine g_ret ?_ | with_reducible refine g_asg ?_ | with_reducible refine g_name ?_ | with_reducible refine g_c ?_ | with_reducible refine g_op ?_ | with_reducible refine g_cons ?_ | with_reducible refine g_nil ?_
  | (with_reducible show tVar _ _ _ _; refine g_var rfl ?_) | with_reducible refine g_cb ?_ | with_reducible refine g_call ?_ | with_reducible refine g_if ?_ | with_reducible refine g_test ?_ | with_reducible refine g_tB ?_ | with_reducible refine g_i0 ?_ | with_reducible refine g_bl ?_
  | with_reducible refine g_add ?_ | with_reducible refine g_sub ?_ | with_reducible refine g_eqI ?_ | with_reducible refine g_neI ?_ | with_reducible refine g_drop ?_ | with_reducible refine g_next ?_ | with_reducible refine g_break ?_ | with_reducible refine g_un ?_ | with_reducible refine g_u ?_
  | with_reducible refine g_ifE ?_ | with_reducible refine g_and ?_ | with_reducible refine g_or ?_ | with_reducible refine g_not ?_ | with_reducible refine g_andV ?_ | with_reducible refine g_orV ?_ | with_reducible refine g_notV ?_ | with_reducible refine g_isN ?_ | with_reducible refine g_notN ?_
  | with_reducible refine g_gnil ?_ | with_reducible refine g_gcons ?_ | with_reducible refine g_bm ?_ | with_reducible refine g_abs ?_ | with_reducible refine g_max ?_ | with_reducible refine g_min ?_ | with_reducible refine g_int ?_ | with_reducible refine g_lc ?_ | with_reducible refine g_for ?_ | with_reducible refine g_yes ?_ | with_reducible refine g_rng1 ?_ | with_reducible refine g_rng2 ?_ | with_reducible refine g_il ?_ | with_reducible refine g_it ?_ | with_reducible refine g_en ?_ | with_reducible refine g_zp ?_ | with_reducible refine g_mkT ?_ | with_reducible refine g_mkL ?_ | with_reducible refine g_augS ?_ | (with_reducible show tAug _ _ _ _ _ _; refine g_aug rfl ?_) | with_reducible refine g_ipI ?_ | with_reducible refine g_gsub ?_ | with_reducible refine g_dget ?_ | with_reducible refine g_din ?_ | with_reducible refine g_dnotin ?_ | with_reducible refine g_dput ?_ | with_reducible refine g_dc ?_ | with_reducible refine g_sl ?_ | with_reducible refine g_nopart ?_ | with_reducible refine g_part ?_ | with_reducible refine g_exI ?_ | with_reducible refine g_revL ?_ | (with_reducible show iSq _ _ _ _; refine g_sq rfl ?_) | with_reducible refine g_while ?_ | with_reducible refine g_min3 ?_ | with_reducible refine g_trq ?_ | with_reducible refine g_lock ?_ | with_reducible refine g_mko ?_ | with_reducible refine g_keys ?_ | with_reducible refine g_eqS ?_ | with_reducible refine g_lrg ?_ | with_reducible refine g_trg ?_ | with_reducible refine g_rg1 ?_ | with_reducible refine g_cut ?_ | with_reducible refine g_disp ?_ | with_reducible refine g_dnew ?_ | with_reducible refine iteT ?_ | with_reducible refine iteF ?_))
section
variable {P : Program} {w : World} {K : PySem.W.Frag} {mg : Str → Option Value} {base : Heap} {f : Addr} {fd : FuncData} {k : Nat}
theorem sc_law : FnScope ["_law_script", "_law_pot_here", "_law_web_here", "_law_names", "_law_table", "_law_row", "_law_lots_here", "_law_k", "_law_far_here"] ["_law_script"] (defScope s_law) := ⟨rfl, rfl, rfl, by decide +kernel, rfl, by decide +kernel, by decide +kernel⟩
def sp_law (K : PySem.W.Frag) : Sp := fun vs H Q _ => ∃ (a : Addr) (ns : List Int), vs = [.ref a] ∧ SqL K H a (zs ns) ∧ ns.length ≤ 1000 ∧ ∀ H', Q (.bl true) H'
theorem ok_law (F : Fun K "law" "law" s_law f fd) (T : Txt mg) (c_law_pot : Cal P w K mg base 1 "_law_pot" (sp_law_pot K)) (c_law_web : Cal P w K mg base 3 "_law_web" sp_law_web) (c_law_standings : Cal P w K mg base 1 "_law_standings" sp_law_standings) (c_law_lots : Cal P w K mg base 1 "_law_lots" sp_law_lots) (c_law_draw : Cal P w K mg base 1 "_law_draw" sp_law_draw)
    (c_law_row_holds : Cal P w K mg base 9 "_law_row_holds" sp_law_row_holds) (c_law_mosts : Cal P w K mg base 3 "_law_mosts" sp_law_mosts) (c_law_odd_holds : Cal P w K mg base 9 "_law_odd_holds" sp_law_odd_holds) (c_law_far_web : Cal P w K mg base 4 "_law_far_web" sp_law_far_web) (c_law_far_split : Cal P w K mg base 3 "_law_far_split" sp_law_far_split) (c_law_purses : Cal P w K mg base 1 "_law_purses" sp_law_purses) :
    FnOk P w K mg base CX0 10 f fd ["_law_script"] (sp_law K) := by
  have sc := sc_law
  refine F.ok sc (fun vs H Q E h => ?_) (fun cdv A outer s H vs Q E hr h => ?_)
  · obtain ⟨a, ns, rfl, _⟩ := h
    rfl
  · obtain ⟨sa, ns, rfl, hsq, hnl, q⟩ := h
    have hu64 := hr.units
    have hu := hu_of hr
    refine ⟨_, (pss_cons (ps_set (i := 1) sc.nd rfl (by first | exact Or.inl rfl | exact Or.inr rfl) (pe_c c_law_pot hr (by decide) (by rfl) (pa_cons (pv 0) pa_nil)))
      (pss_cons (ps_set (i := 2) sc.nd rfl (by first | exact Or.inl rfl | exact Or.inr rfl) (pe_c c_law_web hr (by decide) (by rfl) (pa_cons (pv 1) (pa_cons pe_int pa_nil))))
      (pss_cons (ps_set (i := 3) sc.nd rfl (by first | exact Or.inl rfl | exact Or.inr rfl) (pe_c c_law_standings hr (by decide) (by rfl) (pa_cons (pv 2) pa_nil)))
      (pss_cons (ps_set (i := 4) sc.nd rfl (by first | exact Or.inl rfl | exact Or.inr rfl) pe_dnewT)
      (pss_cons (ps_for PassesOwn.never rfl (kpi_list (K := K) rfl (pv 3)) (pg_name (i := 5) sc.nd rfl (by first | exact Or.inl rfl | exact Or.inr rfl))
        (pss_one (ps_dput hu (pv 4) (pv 5) pe_bl rfl)))
      (pss_cons (ps_set (i := 6) sc.nd rfl (by first | exact Or.inl rfl | exact Or.inr rfl) (pe_c c_law_lots hr (by decide) (by rfl) (pa_cons (pe_ix (kx_tup (K := K) rfl) (pv 2) pe_int (fun _ _ => rfl)) pa_nil)))
      (pss_cons (ps_for PassesOwn.never rfl (pi_range1 (by rfl) T.range (pa_cons pe_int pa_nil)) (pg_name (i := 7) sc.nd rfl (by first | exact Or.inl rfl | exact Or.inr rfl))
        (pss_cons (ps_set (i := 5) sc.nd rfl (by first | exact Or.inl rfl | exact Or.inr rfl) (pe_ix (kx_list (K := K) rfl) (pv 3) (pe_c c_law_draw hr (by decide) (by rfl) (pa_cons (pv 1) (pa_cons (pe_callB (kq_len (K := K) rfl) (by rfl) T.len (by decide +kernel) (pa_cons (pv 3) pa_nil)) pa_nil))) (fun _ _ => rfl)))
        (pss_one (ps_if (pt_not (pt_val (pe_c c_law_row_holds hr (by decide) (by rfl) (pa_cons (pv 1) (pa_cons (pv 2) (pa_cons (pv 5) (pa_cons (pe_c c_law_mosts hr (by decide) (by rfl) (pa_cons (pv 2) (pa_cons (pv 5) (pa_cons (pv 4) (pa_cons (pv 6) (pa_cons pe_bl pa_nil)))))) (pa_cons (pv 6) pa_nil))))))))
          (pss_one (ps_ret pe_bl))
          pss_nil))))
      (pss_cons (ps_if (pt_not (pt_val (pe_c c_law_odd_holds hr (by decide) (by rfl) (pa_cons (pv 1) (pa_cons (pv 2) (pa_cons (pe_ix (kx_list (K := K) rfl) (pv 3) (pe_c c_law_draw hr (by decide) (by rfl) (pa_cons (pv 1) (pa_cons (pe_callB (kq_len (K := K) rfl) (by rfl) T.len (by decide +kernel) (pa_cons (pv 3) pa_nil)) pa_nil))) (fun _ _ => rfl)) pa_nil))))))
        (pss_one (ps_ret pe_bl))
        pss_nil)
      (pss_cons (ps_set (i := 8) sc.nd rfl (by first | exact Or.inl rfl | exact Or.inr rfl) (pe_c c_law_far_web hr (by decide) (by rfl) (pa_cons (pv 1) pa_nil)))
      (pss_cons (ps_set (i := 6) sc.nd rfl (by first | exact Or.inl rfl | exact Or.inr rfl) (pe_c c_law_lots hr (by decide) (by rfl) (pa_cons (pe_ix (kx_tup (K := K) rfl) (pv 8) pe_int (fun _ _ => rfl)) pa_nil)))
      (pss_cons (ps_set (i := 5) sc.nd rfl (by first | exact Or.inl rfl | exact Or.inr rfl) (pe_c c_law_purses hr (by decide) (by rfl) (pa_cons (pv 8) (pa_cons (pe_c c_law_far_split hr (by decide) (by rfl) (pa_cons (pv 1) (pa_cons (pv 8) pa_nil))) pa_nil))))
      (pss_one (ps_ret (pe_c c_law_row_holds hr (by decide) (by rfl) (pa_cons (pv 1) (pa_cons (pv 8) (pa_cons (pv 5) (pa_cons (pe_c c_law_mosts hr (by decide) (by rfl) (pa_cons (pv 8) (pa_cons (pv 5) (pa_cons (pv 4) (pa_cons (pv 6) (pa_cons pe_bl pa_nil)))))) (pa_cons (pv 6) pa_nil))))))))))))))))))), ?_⟩
    walk_at "s"
    refine ⟨sa, ns, rfl, hsq, hnl, fun p r H1 hpot1 => ?_⟩
    walk_at "s"
    refine ⟨p, r, rfl, hpot1, fun W wa H2 k2 hpot2 hw ok hn5 hpr hll => ?_⟩
    walk_at "s"
    have hw0 := hw
    obtain ⟨wa2, c, ls, eu, ha, hc, hl⟩ := hw0
    cases eu
    refine ⟨W, _, rfl, hw, ok, hpr, fun NL ts H3 k3 hNLn hNL hnames hts1 hts2 => ?_⟩
    walk_at "s"
    have hNp := hpot2.ne hNLn
    have hpot3 := hpot2.ex k3
    intro d hd
    walk_at "s"
    have k4 := Kp.new (S := []) (o := .dT []) hd
    have hdNL : H3 NL = some (.lst (ts.map V.ref)) := hNL
    refine ⟨NL, rfl, ⟨_, .of (k4.keep _ _ hNL List.not_mem_nil)⟩, ?_⟩
    refine for_it (walk_list (xs := ts.map V.ref)) (fun i σ H' => ∃ (y5 y6 y7 y8 : Option V) (rows : List (List Int)), σ = [some (.ref sa), some (.ref p), some (.ref wa), some (.ref NL), some (.ref d), y5, y6, y7, y8] ∧ Ex H3 H' ∧ DT H' d rows ∧ rows.length ≤ i ∧ (∀ row ∈ rows, StandR W row) ∧ (∀ (j : Nat) (t : Addr) (row : List Int), j < i → ts[j]? = some t → H3 t = some (.tup (zs row)) → row ∈ rows))
      ⟨_, _, _, _, [], rfl, k4, ⟨[], upd_same, rfl⟩, Nat.le_refl _, fun _ m => (nomatch m), fun j _ _ hj => absurd hj (Nat.not_lt_zero j)⟩ (fun i σ H' _ h => ?_) (fun i x σ H5 H6 hi hx hy => ?_) (fun σ H5 hx => ?_)
    · obtain ⟨_, _, _, _, _, _, k5, _⟩ := h
      exact .of (k5.keep _ _ hNL List.not_mem_nil)
    · obtain ⟨y5, y6, y7, y8, rows, rfl, k5, hdt, hrl, hr1, hr2⟩ := hx
      obtain ⟨rfl, ex⟩ := hy
      rw [List.length_map] at hi
      have et : ts[i]? = some ts[i] := List.getElem?_eq_getElem hi
      rw [List.getElem?_map, et] at ex
      cases ex
      obtain ⟨row, hrow, hstr⟩ := hnames.1 _ (List.getElem_mem hi)
      generalize ts[i] = t at *
      walk_at "s"
      obtain ⟨ob, rows', hput, hdt2, hmem, hlen⟩ := hdt.put (b := t) (row := row) (v := .bl true) (k5.tup _ _ hrow) (by omega)
      refine ⟨d, _, rfl, hput, ?_⟩
      walk_at "s"
      have kk : Ex H3 (upd H6 d ob) := by
        obtain ⟨kv, e1, _⟩ := hdt
        exact k5.mut hd e1 (fun _ z => nomatch z)
      refine ⟨_, _, _, _, rows', rfl, kk, hdt2, by omega, fun rw' h => ?_, fun j t' rw' hj e1 e2 => ?_⟩
      · rcases (hmem rw').mp h with z | z
        · exact hr1 _ z
        · rw [z]
          exact hstr
      · by_cases z : j < i
        · exact (hmem _).mpr (.inl (hr2 j t' rw' z e1 e2))
        · have : j = i := by omega
          subst this
          rw [et] at e1
          cases e1
          exact (hmem _).mpr (.inr (zs_inj e2 hrow))
    · obtain ⟨y5, y6, y7, y8, rows, rfl, k5, hdt, hrl, hr1, hr2⟩ := hx
      rw [List.length_map] at hrl hr2
      have htbl : TblAt H5 d W := ⟨rows, hdt, fun row => ⟨hr1 row, fun h => by
        obtain ⟨t, ht, e⟩ := hnames.2 row h
        obtain ⟨j, hj, rfl⟩ := List.mem_iff_getElem.mp ht
        exact hr2 j _ row hj (List.getElem?_eq_getElem hj) e⟩⟩
      have hdp : d ≠ p := (hpot3.ne hd).1
      have hpot5 := hpot3.ex k5
      have k35 := k3.trans k5
      walk_at "s"
      refine g_ixT (j := 0) (k35.tup _ _ ha) rfl ?_
      walk_at "s"
      refine ⟨W.n, rfl, by omega, fun L lts H6 k6 hLn hL hlts hltl => ?_⟩
      walk_at "s"
      have hLp := (hpot5.ne hLn).1
      have hpot6 := hpot5.ex k6
      refine ⟨_, rfl, by omega, by omega, ?_⟩
      refine for_range (n := 3) (fun i σ H' => ∃ (y5 y7 y8 : Option V), σ = [some (.ref sa), some (.ref p), some (.ref wa), some (.ref NL), some (.ref d), y5, some (.ref L), y7, y8] ∧ Kp [p] H6 H' ∧ PotAt p r H') ⟨_, _, _, rfl, .refl _ _, hpot6⟩ (fun i σ H7 hi hx => ?_) (fun σ H7 hx => ?_)
      · obtain ⟨y5, y7, y8, rfl, k7, hpot7⟩ := hx
        have nNL : NL ∉ [p] := by simpa using hNp.1
        have nd : d ∉ [p] := by simpa using hdp
        have nL : L ∉ [p] := by simpa using hLp
        have k37 : Kp [p] H3 H7 := (Kp.of_ex (k5.trans k6)).trans k7
        have k27 := (Kp.of_ex k3).trans k37
        walk_at "s"
        refine g_lenL (k37.keep _ _ hNL nNL) ?_
        walk_at "s"
        rw [List.length_map]
        refine ⟨p, r, ts.length, rfl, hpot7, hts1, by omega, fun j H8 hj k8 hpot8 => ?_⟩
        have k38 := k37.trans k8
        have k68 := k7.trans k8
        have k28 := (Kp.of_ex k3).trans k38
        refine g_ixL (j := j) (k38.keep _ _ hNL nNL) (v := .ref ts[j]) (by rw [List.getElem?_map, List.getElem?_eq_getElem hj]; rfl) ?_
        obtain ⟨row, hrow, hstr⟩ := hnames.1 _ (List.getElem_mem hj)
        generalize ts[j] = t at *
        walk_at "s"
        refine ⟨W, _, t, d, L, row, false, rfl, hw.kp k28, ok, k38.tup _ _ hrow, hstr, fun z => (nomatch z), fun _ => ⟨htbl.kp ((Kp.of_ex k6).trans k68) nd, hpr⟩, fun M m H9 k9 hM hmok => ?_⟩
        have k69 := k68.trans (.of_ex k9)
        have k29 := k28.trans (.of_ex k9)
        walk_at "s"
        refine ⟨p, r, W, _, t, M, L, row, m, lts, rfl, hpot8.ex k9, hw.kp k29, ok, (k38.trans (.of_ex k9)).tup _ _ hrow, hstr, hM [p] (pot_dom hpot8), hmok, k69.keep _ _ hL nL, hLp, hlts.kp k69, hltl, fun H10 k10 hpot10 => ?_⟩
        walk_at "s"
        refine iteF ?_
        walk_at "s"
        exact ⟨_, _, _, rfl, k69.trans k10, hpot10⟩
      · obtain ⟨y5, y7, y8, rfl, k7, hpot7⟩ := hx
        have nNL : NL ∉ [p] := by simpa using hNp.1
        have nd : d ∉ [p] := by simpa using hdp
        have k37 : Kp [p] H3 H7 := (Kp.of_ex (k5.trans k6)).trans k7
        walk_at "s"
        refine g_lenL (k37.keep _ _ hNL nNL) ?_
        walk_at "s"
        rw [List.length_map]
        refine ⟨p, r, ts.length, rfl, hpot7, hts1, by omega, fun j H8 hj k8 hpot8 => ?_⟩
        have k38 := k37.trans k8
        have k28 := (Kp.of_ex k3).trans k38
        refine g_ixL (j := j) (k38.keep _ _ hNL nNL) (v := .ref ts[j]) (by rw [List.getElem?_map, List.getElem?_eq_getElem hj]; rfl) ?_
        obtain ⟨row, hrow, hstr⟩ := hnames.1 _ (List.getElem_mem hj)
        generalize ts[j] = t at *
        walk_at "s"
        refine ⟨W, p, r, t, _, row, rfl, hpot8, hw.kp k28, ok, k38.tup _ _ hrow, hstr, fun H9 k9 hpot9 => ?_⟩
        walk_at "s"
        refine iteF ?_
        walk_at "s"
        refine ⟨p, r, rfl, hpot9, fun W2 fa H10 k10 hpot10 hw2 ok2 => ?_⟩
        walk_at "s"
        have hw20 := hw2
        obtain ⟨fa2, fc, fls, eu, fha, fhc, fhl⟩ := hw20
        cases eu
        refine g_ixT (j := 0) fha rfl ?_
        walk_at "s"
        refine ⟨W2.n, rfl, ok2.2.1, fun L2 lts2 H11 k11 hLn2 hL2 hlts2 hltl2 => ?_⟩
        have hL2p := (hpot10.ne hLn2).1
        have hpot11 := hpot10.ex k11
        walk_at "s"
        refine ⟨p, r, W2, _, rfl, hpot11, hw2.kp k11, ok2, fun near q0 H12 k12 hpot12 hq0 hsp => ?_⟩
        walk_at "s"
        have k1012 : Kp [p] H10 H12 := (Kp.of_ex k11).trans k12
        refine ⟨W2, _, q0, near, rfl, hw2.kp k1012, ok2, hq0, hsp.1, fun xs pa H13 k13 hpa hxl hxv => ?_⟩
        walk_at "s"
        have hst2 : StandR W2 xs := ⟨hxl, near, hsp, fun v hv => by show xs.getD v 0 = _; rw [List.getD_eq_getElem?_getD, hxv v hv]; rfl⟩
        have k1013 := k1012.trans (.of_ex k13)
        have k1113 := k12.trans (.of_ex k13)
        have nL2 : L2 ∉ [p] := by simpa using hL2p
        refine ⟨W2, _, pa, d, L2, xs, true, rfl, hw2.kp k1013, ok2, hpa, hst2, fun _ => ⟨lts2, k1113.keep _ _ hL2 nL2, hlts2.kp k1113, hltl2⟩, fun z => (nomatch z), fun M m H14 k14 hM hmok => ?_⟩
        walk_at "s"
        have k1114 := k1113.trans (.of_ex k14)
        have hpot13 := hpot12.ex k13
        refine ⟨p, r, W2, _, pa, M, L2, xs, m, lts2, rfl, hpot13.ex k14, hw2.kp (k1013.trans (.of_ex k14)), ok2, k14.tup _ _ hpa, hst2, hM [p] (pot_dom hpot13), hmok, k1114.keep _ _ hL2 nL2, hL2p, hlts2.kp k1114, hltl2, fun H15 _ _ => ?_⟩
        walk_at "s"
        exact q H15
end
end K8
set_option Elab.async false
set_option linter.all false
set_option maxRecDepth 100000
set_option maxHeartbeats 0
namespace K8
open PySem PySem.Spec PyProof.Rows L2
theorem txt_of {K : PySem.W.Frag} {h : Heap} {mg : Str → Option Value} (X : K.In h) (G : h.Ns mainGlobals mg) (c : He.SaysD fa fn K) : Txt mg where
  abs := He.free_ok X G (c.fact 59 (f := .free "abs") rfl)
  bool := He.free_ok X G (c.fact 60 (f := .free "bool") rfl)
  enumerate := He.free_ok X G (c.fact 61 (f := .free "enumerate") rfl)
  int := He.free_ok X G (c.fact 62 (f := .free "int") rfl)
  isinstance := He.free_ok X G (c.fact 63 (f := .free "isinstance") rfl)
  len := He.free_ok X G (c.fact 64 (f := .free "len") rfl)
  list := He.free_ok X G (c.fact 65 (f := .free "list") rfl)
  max := He.free_ok X G (c.fact 66 (f := .free "max") rfl)
  min := He.free_ok X G (c.fact 67 (f := .free "min") rfl)
  range := He.free_ok X G (c.fact 68 (f := .free "range") rfl)
  sorted := He.free_ok X G (c.fact 69 (f := .free "sorted") rfl)
  str := He.free_ok X G (c.fact 70 (f := .free "str") rfl)
  sum := He.free_ok X G (c.fact 71 (f := .free "sum") rfl)
  tuple := He.free_ok X G (c.fact 72 (f := .free "tuple") rfl)
  zip := He.free_ok X G (c.fact 73 (f := .free "zip") rfl)
theorem facts {P : Program} {w : World} {K : PySem.W.Frag} {h : Heap} {mg : Str → Option Value} {f : Addr} (X : K.In h) (G : h.Ns mainGlobals mg) (hfa : mg ("law" : Str) = some (.ref f)) (cq : SaysQ K) :
    ∃ fd : FuncData, (∀ (s : Shared) (v : Value), BindsTo s fd ⟨[v], []⟩ [("_law_script", v)]) ∧ ∀ base : Heap, K.In base → base.Ns mainGlobals mg → FnOk P w K mg base CX0 10 f fd ["_law_script"] (sp_law K) := by
  have c := cq.d
  have nu : NU K := exB_ok cq.ex
  have T : Txt mg := txt_of X G c
  have gI : mg "NotUsable" = some (.ref (aNU K)) := He.glo_ok X G (c.fact 0 (f := .glo "NotUsable") rfl)
  obtain ⟨fd_is_integer, D_is_integer⟩ := c.def_ 1 (d := d_is_integer) rfl
  have F_is_integer : Fun K "is_integer" "is_integer" s_is_integer _ fd_is_integer := fun_of (st := s_is_integer) D_is_integer
  have b_is_integer : Binds K fd_is_integer ["thing"] [] := F_is_integer.binds fun _ _ _ _ _ _ us hl => match us, hl with | [_], _ => rfl
  have g_is_integer := He.glo_ok X G (c.fact 1 (f := .glo "is_integer") rfl)
  obtain ⟨fd_is_number, D_is_number⟩ := c.def_ 2 (d := d_is_number) rfl
  have F_is_number : Fun K "is_number" "is_number" s_is_number _ fd_is_number := fun_of (st := s_is_number) D_is_number
  have b_is_number : Binds K fd_is_number ["thing"] [] := F_is_number.binds fun _ _ _ _ _ _ us hl => match us, hl with | [_], _ => rfl
  have g_is_number := He.glo_ok X G (c.fact 2 (f := .glo "is_number") rfl)
  obtain ⟨fd_b_is_coins, D_b_is_coins⟩ := c.def_ 5 (d := d_b_is_coins) rfl
  have F_b_is_coins : Fun K "b_is_coins" "b_is_coins" s_b_is_coins _ fd_b_is_coins := fun_of (st := s_b_is_coins) D_b_is_coins
  have b_b_is_coins : Binds K fd_b_is_coins ["thing"] [] := F_b_is_coins.binds fun _ _ _ _ _ _ us hl => match us, hl with | [_], _ => rfl
  have g_b_is_coins := He.glo_ok X G (c.fact 5 (f := .glo "b_is_coins") rfl)
  obtain ⟨fd_is_purses, D_is_purses⟩ := c.def_ 3 (d := d_is_purses) rfl
  have F_is_purses : Fun K "is_purses" "is_purses" s_is_purses _ fd_is_purses := fun_of (st := s_is_purses) D_is_purses
  have b_is_purses : Binds K fd_is_purses ["size", "thing"] [] := F_is_purses.binds fun _ _ _ _ _ _ us hl => match us, hl with | [_, _], _ => rfl
  have g_is_purses := He.glo_ok X G (c.fact 3 (f := .glo "is_purses") rfl)
  obtain ⟨fd_b_is_house, D_b_is_house⟩ := c.def_ 4 (d := d_b_is_house) rfl
  have F_b_is_house : Fun K "b_is_house" "b_is_house" s_b_is_house _ fd_b_is_house := fun_of (st := s_b_is_house) D_b_is_house
  have b_b_is_house : Binds K fd_b_is_house ["web", "thing"] [] := F_b_is_house.binds fun _ _ _ _ _ _ us hl => match us, hl with | [_, _], _ => rfl
  have g_b_is_house := He.glo_ok X G (c.fact 4 (f := .glo "b_is_house") rfl)
  obtain ⟨fd_init, D_init⟩ := c.def_ 0 (d := d_init) rfl
  have F_init : Fun K "__init__" "NotUsable.__init__" s_init _ fd_init := fun_of (st := s_init) D_init
  have b_init : Binds K fd_init ["self", "word", "at"] [] := F_init.binds fun _ _ _ _ _ _ us hl => match us, hl with | [_, _, _], _ => rfl
  obtain ⟨fd_b_need_house, D_b_need_house⟩ := c.def_ 6 (d := d_b_need_house) rfl
  have F_b_need_house : Fun K "b_need_house" "b_need_house" s_b_need_house _ fd_b_need_house := fun_of (st := s_b_need_house) D_b_need_house
  have b_b_need_house : Binds K fd_b_need_house ["web", "house", "word"] [] := F_b_need_house.binds fun _ _ _ _ _ _ us hl => match us, hl with | [_, _, _], _ => rfl
  have g_b_need_house := He.glo_ok X G (c.fact 6 (f := .glo "b_need_house") rfl)
  obtain ⟨fd_b_links, D_b_links⟩ := c.def_ 7 (d := d_b_links) rfl
  have F_b_links : Fun K "b_links" "b_links" s_b_links _ fd_b_links := fun_of (st := s_b_links) D_b_links
  have b_b_links : Binds K fd_b_links ["web"] [] := F_b_links.binds fun _ _ _ _ _ _ us hl => match us, hl with | [_], _ => rfl
  have g_b_links := He.glo_ok X G (c.fact 7 (f := .glo "b_links") rfl)
  obtain ⟨fd_b_turned, D_b_turned⟩ := c.def_ 8 (d := d_b_turned) rfl
  have F_b_turned : Fun K "b_turned" "b_turned" s_b_turned _ fd_b_turned := fun_of (st := s_b_turned) D_b_turned
  have b_b_turned : Binds K fd_b_turned ["web", "near"] [] := F_b_turned.binds fun _ _ _ _ _ _ us hl => match us, hl with | [_, _], _ => rfl
  have g_b_turned := He.glo_ok X G (c.fact 8 (f := .glo "b_turned") rfl)
  obtain ⟨fd_b_purses, D_b_purses⟩ := c.def_ 9 (d := d_b_purses) rfl
  have F_b_purses : Fun K "b_purses" "b_purses" s_b_purses _ fd_b_purses := fun_of (st := s_b_purses) D_b_purses
  have b_b_purses : Binds K fd_b_purses ["web", "near"] [] := F_b_purses.binds fun _ _ _ _ _ _ us hl => match us, hl with | [_, _], _ => rfl
  have g_b_purses := He.glo_ok X G (c.fact 9 (f := .glo "b_purses") rfl)
  obtain ⟨fd_b_search, D_b_search⟩ := c.def_ 10 (d := d_b_search) rfl
  have F_b_search : Fun K "b_search" "b_search" s_b_search _ fd_b_search := fun_of (st := s_b_search) D_b_search
  have b_b_search : Binds K fd_b_search ["web", "links", "near", "starts", "least"] [] := F_b_search.binds fun _ _ _ _ _ _ us hl => match us, hl with | [_, _, _, _, _], _ => rfl
  have g_b_search := He.glo_ok X G (c.fact 10 (f := .glo "b_search") rfl)
  obtain ⟨fd_b_reached, D_b_reached⟩ := c.def_ 11 (d := d_b_reached) rfl
  have F_b_reached : Fun K "b_reached" "b_reached" s_b_reached _ fd_b_reached := fun_of (st := s_b_reached) D_b_reached
  have b_b_reached : Binds K fd_b_reached ["web", "links", "near", "starts"] [] := F_b_reached.binds fun _ _ _ _ _ _ us hl => match us, hl with | [_, _, _, _], _ => rfl
  have g_b_reached := He.glo_ok X G (c.fact 11 (f := .glo "b_reached") rfl)
  obtain ⟨fd_b_trace, D_b_trace⟩ := c.def_ 12 (d := d_b_trace) rfl
  have F_b_trace : Fun K "b_trace" "b_trace" s_b_trace _ fd_b_trace := fun_of (st := s_b_trace) D_b_trace
  have b_b_trace : Binds K fd_b_trace ["back", "house"] [] := F_b_trace.binds fun _ _ _ _ _ _ us hl => match us, hl with | [_, _], _ => rfl
  have g_b_trace := He.glo_ok X G (c.fact 12 (f := .glo "b_trace") rfl)
  obtain ⟨fd_b_carry, D_b_carry⟩ := c.def_ 13 (d := d_b_carry) rfl
  have F_b_carry : Fun K "b_carry" "b_carry" s_b_carry _ fd_b_carry := fun_of (st := s_b_carry) D_b_carry
  have b_b_carry : Binds K fd_b_carry ["web", "near", "house", "way"] [] := F_b_carry.binds fun _ _ _ _ _ _ us hl => match us, hl with | [_, _, _, _], _ => rfl
  have g_b_carry := He.glo_ok X G (c.fact 13 (f := .glo "b_carry") rfl)
  obtain ⟨fd_b_move, D_b_move⟩ := c.def_ 14 (d := d_b_move) rfl
  have F_b_move : Fun K "b_move" "b_move" s_b_move _ fd_b_move := fun_of (st := s_b_move) D_b_move
  have b_b_move : Binds K fd_b_move ["web", "near", "house", "way", "coins"] [] := F_b_move.binds fun _ _ _ _ _ _ us hl => match us, hl with | [_, _, _, _, _], _ => rfl
  have g_b_move := He.glo_ok X G (c.fact 14 (f := .glo "b_move") rfl)
  obtain ⟨fd_b_shortest, D_b_shortest⟩ := c.def_ 15 (d := d_b_shortest) rfl
  have F_b_shortest : Fun K "b_shortest" "b_shortest" s_b_shortest _ fd_b_shortest := fun_of (st := s_b_shortest) D_b_shortest
  have b_b_shortest : Binds K fd_b_shortest ["web", "links", "near", "here", "there"] [] := F_b_shortest.binds fun _ _ _ _ _ _ us hl => match us, hl with | [_, _, _, _, _], _ => rfl
  have g_b_shortest := He.glo_ok X G (c.fact 15 (f := .glo "b_shortest") rfl)
  obtain ⟨fd_b_first, D_b_first⟩ := c.def_ 17 (d := d_b_first) rfl
  have F_b_first : Fun K "b_first" "b_first" s_b_first _ fd_b_first := fun_of (st := s_b_first) D_b_first
  have b_b_first : Binds K fd_b_first ["web", "purses"] [] := F_b_first.binds fun _ _ _ _ _ _ us hl => match us, hl with | [_, _], _ => rfl
  have g_b_first := He.glo_ok X G (c.fact 17 (f := .glo "b_first") rfl)
  obtain ⟨fd_b_pay, D_b_pay⟩ := c.def_ 16 (d := d_b_pay) rfl
  have F_b_pay : Fun K "b_pay" "b_pay" s_b_pay _ fd_b_pay := fun_of (st := s_b_pay) D_b_pay
  have b_b_pay : Binds K fd_b_pay ["web", "links", "near", "here", "there", "coins"] [] := F_b_pay.binds fun _ _ _ _ _ _ us hl => match us, hl with | [_, _, _, _, _, _], _ => rfl
  have g_b_pay := He.glo_ok X G (c.fact 16 (f := .glo "b_pay") rfl)
  obtain ⟨fd_b_both_pay, D_b_both_pay⟩ := c.def_ 28 (d := d_b_both_pay) rfl
  have F_b_both_pay : Fun K "b_both_pay" "b_both_pay" s_b_both_pay _ fd_b_both_pay := fun_of (st := s_b_both_pay) D_b_both_pay
  have b_b_both_pay : Binds K fd_b_both_pay ["web", "links", "near", "here", "there", "coins"] [] := F_b_both_pay.binds fun _ _ _ _ _ _ us hl => match us, hl with | [_, _, _, _, _, _], _ => rfl
  have g_b_both_pay := He.glo_ok X G (c.fact 28 (f := .glo "b_both_pay") rfl)
  obtain ⟨fd_b_bring, D_b_bring⟩ := c.def_ 18 (d := d_b_bring) rfl
  have F_b_bring : Fun K "b_bring" "b_bring" s_b_bring _ fd_b_bring := fun_of (st := s_b_bring) D_b_bring
  have b_b_bring : Binds K fd_b_bring ["web", "links", "near", "goal"] [] := F_b_bring.binds fun _ _ _ _ _ _ us hl => match us, hl with | [_, _, _, _], _ => rfl
  have g_b_bring := He.glo_ok X G (c.fact 18 (f := .glo "b_bring") rfl)
  obtain ⟨fd_b_held, D_b_held⟩ := c.def_ 19 (d := d_b_held) rfl
  have F_b_held : Fun K "b_held" "b_held" s_b_held _ fd_b_held := fun_of (st := s_b_held) D_b_held
  have b_b_held : Binds K fd_b_held ["web", "links", "purses"] [] := F_b_held.binds fun _ _ _ _ _ _ us hl => match us, hl with | [_, _, _], _ => rfl
  have g_b_held := He.glo_ok X G (c.fact 19 (f := .glo "b_held") rfl)
  obtain ⟨fd_reach_of, D_reach_of⟩ := c.def_ 20 (d := d_reach_of) rfl
  have F_reach_of : Fun K "reach_of" "reach_of" s_reach_of _ fd_reach_of := fun_of (st := s_reach_of) D_reach_of
  have b_reach_of : Binds K fd_reach_of ["web", "purses", "house"] [] := F_reach_of.binds fun _ _ _ _ _ _ us hl => match us, hl with | [_, _, _], _ => rfl
  have g_reach_of := He.glo_ok X G (c.fact 20 (f := .glo "reach_of") rfl)
  obtain ⟨fd_payers_of, D_payers_of⟩ := c.def_ 21 (d := d_payers_of) rfl
  have F_payers_of : Fun K "payers_of" "payers_of" s_payers_of _ fd_payers_of := fun_of (st := s_payers_of) D_payers_of
  have b_payers_of : Binds K fd_payers_of ["web", "purses", "house"] [] := F_payers_of.binds fun _ _ _ _ _ _ us hl => match us, hl with | [_, _, _], _ => rfl
  have g_payers_of := He.glo_ok X G (c.fact 21 (f := .glo "payers_of") rfl)
  obtain ⟨fd_b_is_order, D_b_is_order⟩ := c.def_ 22 (d := d_b_is_order) rfl
  have F_b_is_order : Fun K "b_is_order" "b_is_order" s_b_is_order _ fd_b_is_order := fun_of (st := s_b_is_order) D_b_is_order
  have b_b_is_order : Binds K fd_b_is_order ["size", "thing"] [] := F_b_is_order.binds fun _ _ _ _ _ _ us hl => match us, hl with | [_, _], _ => rfl
  have g_b_is_order := He.glo_ok X G (c.fact 22 (f := .glo "b_is_order") rfl)
  obtain ⟨fd_b_joining, D_b_joining⟩ := c.def_ 23 (d := d_b_joining) rfl
  have F_b_joining : Fun K "b_joining" "b_joining" s_b_joining _ fd_b_joining := fun_of (st := s_b_joining) D_b_joining
  have b_b_joining : Binds K fd_b_joining ["size", "lots"] [] := F_b_joining.binds fun _ _ _ _ _ _ us hl => match us, hl with | [_, _], _ => rfl
  have g_b_joining := He.glo_ok X G (c.fact 23 (f := .glo "b_joining") rfl)
  obtain ⟨fd_b_are_sides, D_b_are_sides⟩ := c.def_ 24 (d := d_b_are_sides) rfl
  have F_b_are_sides : Fun K "b_are_sides" "b_are_sides" s_b_are_sides _ fd_b_are_sides := fun_of (st := s_b_are_sides) D_b_are_sides
  have b_b_are_sides : Binds K fd_b_are_sides ["size", "thing"] [] := F_b_are_sides.binds fun _ _ _ _ _ _ us hl => match us, hl with | [_, _], _ => rfl
  have g_b_are_sides := He.glo_ok X G (c.fact 24 (f := .glo "b_are_sides") rfl)
  obtain ⟨fd_b_peel, D_b_peel⟩ := c.def_ 25 (d := d_b_peel) rfl
  have F_b_peel : Fun K "b_peel" "b_peel" s_b_peel _ fd_b_peel := fun_of (st := s_b_peel) D_b_peel
  have b_b_peel : Binds K fd_b_peel ["web", "links", "near", "order", "sides"] [] := F_b_peel.binds fun _ _ _ _ _ _ us hl => match us, hl with | [_, _, _, _, _], _ => rfl
  have g_b_peel := He.glo_ok X G (c.fact 25 (f := .glo "b_peel") rfl)
  obtain ⟨fd_peel_of, D_peel_of⟩ := c.def_ 26 (d := d_peel_of) rfl
  have F_peel_of : Fun K "peel_of" "peel_of" s_peel_of _ fd_peel_of := fun_of (st := s_peel_of) D_peel_of
  have b_peel_of : Binds K fd_peel_of ["web", "purses", "order"] [] := F_peel_of.binds fun _ _ _ _ _ _ us hl => match us, hl with | [_, _, _], _ => rfl
  have g_peel_of := He.glo_ok X G (c.fact 26 (f := .glo "peel_of") rfl)
  obtain ⟨fd_peel_either, D_peel_either⟩ := c.def_ 27 (d := d_peel_either) rfl
  have F_peel_either : Fun K "peel_either" "peel_either" s_peel_either _ fd_peel_either := fun_of (st := s_peel_either) D_peel_either
  have b_peel_either : Binds K fd_peel_either ["web", "purses", "order", "sides"] [] := F_peel_either.binds fun _ _ _ _ _ _ us hl => match us, hl with | [_, _, _, _], _ => rfl
  have g_peel_either := He.glo_ok X G (c.fact 27 (f := .glo "peel_either") rfl)
  obtain ⟨fd_classes_of, D_classes_of⟩ := c.def_ 29 (d := d_classes_of) rfl
  have F_classes_of : Fun K "classes_of" "classes_of" s_classes_of _ fd_classes_of := fun_of (st := s_classes_of) D_classes_of
  have b_classes_of : Binds K fd_classes_of ["web", "purses", "coins"] [] := F_classes_of.binds fun _ _ _ _ _ _ us hl => match us, hl with | [_, _, _], _ => rfl
  have g_classes_of := He.glo_ok X G (c.fact 29 (f := .glo "classes_of") rfl)
  obtain ⟨fd_law_pot, D_law_pot⟩ := c.def_ 30 (d := d_law_pot) rfl
  have F_law_pot : Fun K "_law_pot" "_law_pot" s_law_pot _ fd_law_pot := fun_of (st := s_law_pot) D_law_pot
  have b_law_pot : Binds K fd_law_pot ["_law_script"] [] := F_law_pot.binds fun _ _ _ _ _ _ us hl => match us, hl with | [_], _ => rfl
  have g_law_pot := He.glo_ok X G (c.fact 30 (f := .glo "_law_pot") rfl)
  obtain ⟨fd_law_draw, D_law_draw⟩ := c.def_ 31 (d := d_law_draw) rfl
  have F_law_draw : Fun K "_law_draw" "_law_draw" s_law_draw _ fd_law_draw := fun_of (st := s_law_draw) D_law_draw
  have b_law_draw : Binds K fd_law_draw ["_law_pot_here", "_law_many_here"] [] := F_law_draw.binds fun _ _ _ _ _ _ us hl => match us, hl with | [_, _], _ => rfl
  have g_law_draw := He.glo_ok X G (c.fact 31 (f := .glo "_law_draw") rfl)
  obtain ⟨fd_law_order, D_law_order⟩ := c.def_ 32 (d := d_law_order) rfl
  have F_law_order : Fun K "_law_order" "_law_order" s_law_order _ fd_law_order := fun_of (st := s_law_order) D_law_order
  have b_law_order : Binds K fd_law_order ["_law_pot_here", "_law_size"] [] := F_law_order.binds fun _ _ _ _ _ _ us hl => match us, hl with | [_, _], _ => rfl
  have g_law_order := He.glo_ok X G (c.fact 32 (f := .glo "_law_order") rfl)
  obtain ⟨fd_law_pairs, D_law_pairs⟩ := c.def_ 33 (d := d_law_pairs) rfl
  have F_law_pairs : Fun K "_law_pairs" "_law_pairs" s_law_pairs _ fd_law_pairs := fun_of (st := s_law_pairs) D_law_pairs
  have b_law_pairs : Binds K fd_law_pairs ["_law_pot_here", "_law_size"] [] := F_law_pairs.binds fun _ _ _ _ _ _ us hl => match us, hl with | [_, _], _ => rfl
  have g_law_pairs := He.glo_ok X G (c.fact 33 (f := .glo "_law_pairs") rfl)
  obtain ⟨fd_law_web, D_law_web⟩ := c.def_ 34 (d := d_law_web) rfl
  have F_law_web : Fun K "_law_web" "_law_web" s_law_web _ fd_law_web := fun_of (st := s_law_web) D_law_web
  have b_law_web : Binds K fd_law_web ["_law_pot_here", "_law_bound"] [] := F_law_web.binds fun _ _ _ _ _ _ us hl => match us, hl with | [_, _], _ => rfl
  have g_law_web := He.glo_ok X G (c.fact 34 (f := .glo "_law_web") rfl)
  obtain ⟨fd_law_far, D_law_far⟩ := c.def_ 35 (d := d_law_far) rfl
  have F_law_far : Fun K "_law_far" "_law_far" s_law_far _ fd_law_far := fun_of (st := s_law_far) D_law_far
  have b_law_far : Binds K fd_law_far ["_law_pot_here"] [] := F_law_far.binds fun _ _ _ _ _ _ us hl => match us, hl with | [_], _ => rfl
  have g_law_far := He.glo_ok X G (c.fact 35 (f := .glo "_law_far") rfl)
  obtain ⟨fd_law_far_web, D_law_far_web⟩ := c.def_ 36 (d := d_law_far_web) rfl
  have F_law_far_web : Fun K "_law_far_web" "_law_far_web" s_law_far_web _ fd_law_far_web := fun_of (st := s_law_far_web) D_law_far_web
  have b_law_far_web : Binds K fd_law_far_web ["_law_pot_here"] [] := F_law_far_web.binds fun _ _ _ _ _ _ us hl => match us, hl with | [_], _ => rfl
  have g_law_far_web := He.glo_ok X G (c.fact 36 (f := .glo "_law_far_web") rfl)
  obtain ⟨fd_law_far_split, D_law_far_split⟩ := c.def_ 37 (d := d_law_far_split) rfl
  have F_law_far_split : Fun K "_law_far_split" "_law_far_split" s_law_far_split _ fd_law_far_split := fun_of (st := s_law_far_split) D_law_far_split
  have b_law_far_split : Binds K fd_law_far_split ["_law_pot_here", "_law_web_here"] [] := F_law_far_split.binds fun _ _ _ _ _ _ us hl => match us, hl with | [_, _], _ => rfl
  have g_law_far_split := He.glo_ok X G (c.fact 37 (f := .glo "_law_far_split") rfl)
  obtain ⟨fd_law_purses, D_law_purses⟩ := c.def_ 38 (d := d_law_purses) rfl
  have F_law_purses : Fun K "_law_purses" "_law_purses" s_law_purses _ fd_law_purses := fun_of (st := s_law_purses) D_law_purses
  have b_law_purses : Binds K fd_law_purses ["_law_web_here", "_law_split"] [] := F_law_purses.binds fun _ _ _ _ _ _ us hl => match us, hl with | [_, _], _ => rfl
  have g_law_purses := He.glo_ok X G (c.fact 38 (f := .glo "_law_purses") rfl)
  obtain ⟨fd_law_standings, D_law_standings⟩ := c.def_ 39 (d := d_law_standings) rfl
  have F_law_standings : Fun K "_law_standings" "_law_standings" s_law_standings _ fd_law_standings := fun_of (st := s_law_standings) D_law_standings
  have b_law_standings : Binds K fd_law_standings ["_law_web_here"] [] := F_law_standings.binds fun _ _ _ _ _ _ us hl => match us, hl with | [_], _ => rfl
  have g_law_standings := He.glo_ok X G (c.fact 39 (f := .glo "_law_standings") rfl)
  obtain ⟨fd_law_lots, D_law_lots⟩ := c.def_ 40 (d := d_law_lots) rfl
  have F_law_lots : Fun K "_law_lots" "_law_lots" s_law_lots _ fd_law_lots := fun_of (st := s_law_lots) D_law_lots
  have b_law_lots : Binds K fd_law_lots ["_law_size"] [] := F_law_lots.binds fun _ _ _ _ _ _ us hl => match us, hl with | [_], _ => rfl
  have g_law_lots := He.glo_ok X G (c.fact 40 (f := .glo "_law_lots") rfl)
  obtain ⟨fd_law_slack, D_law_slack⟩ := c.def_ 41 (d := d_law_slack) rfl
  have F_law_slack : Fun K "_law_slack" "_law_slack" s_law_slack _ fd_law_slack := fun_of (st := s_law_slack) D_law_slack
  have b_law_slack : Binds K fd_law_slack ["_law_web_here", "_law_row", "_law_lot"] [] := F_law_slack.binds fun _ _ _ _ _ _ us hl => match us, hl with | [_, _, _], _ => rfl
  have g_law_slack := He.glo_ok X G (c.fact 41 (f := .glo "_law_slack") rfl)
  obtain ⟨fd_law_same, D_law_same⟩ := c.def_ 42 (d := d_law_same) rfl
  have F_law_same : Fun K "_law_same" "_law_same" s_law_same _ fd_law_same := fun_of (st := s_law_same) D_law_same
  have b_law_same : Binds K fd_law_same ["_law_told_here", "_law_due"] [] := F_law_same.binds fun _ _ _ _ _ _ us hl => match us, hl with | [_, _], _ => rfl
  have g_law_same := He.glo_ok X G (c.fact 42 (f := .glo "_law_same") rfl)
  obtain ⟨fd_law_many, D_law_many⟩ := c.def_ 43 (d := d_law_many) rfl
  have F_law_many : Fun K "_law_many" "_law_many" s_law_many _ fd_law_many := fun_of (st := s_law_many) D_law_many
  have b_law_many : Binds K fd_law_many ["_law_table", "_law_row", "_law_here", "_law_there"] [] := F_law_many.binds fun _ _ _ _ _ _ us hl => match us, hl with | [_, _, _, _], _ => rfl
  have g_law_many := He.glo_ok X G (c.fact 43 (f := .glo "_law_many") rfl)
  obtain ⟨fd_law_least, D_law_least⟩ := c.def_ 44 (d := d_law_least) rfl
  have F_law_least : Fun K "_law_least" "_law_least" s_law_least _ fd_law_least := fun_of (st := s_law_least) D_law_least
  have b_law_least : Binds K fd_law_least ["_law_web_here", "_law_row", "_law_lots_here", "_law_here", "_law_there"] [] := F_law_least.binds fun _ _ _ _ _ _ us hl => match us, hl with | [_, _, _, _, _], _ => rfl
  have g_law_least := He.glo_ok X G (c.fact 44 (f := .glo "_law_least") rfl)
  obtain ⟨fd_law_mosts, D_law_mosts⟩ := c.def_ 45 (d := d_law_mosts) rfl
  have F_law_mosts : Fun K "_law_mosts" "_law_mosts" s_law_mosts _ fd_law_mosts := fun_of (st := s_law_mosts) D_law_mosts
  have b_law_mosts : Binds K fd_law_mosts ["_law_web_here", "_law_row", "_law_table", "_law_lots_here", "_law_far_here"] [] := F_law_mosts.binds fun _ _ _ _ _ _ us hl => match us, hl with | [_, _, _, _, _], _ => rfl
  have g_law_mosts := He.glo_ok X G (c.fact 45 (f := .glo "_law_mosts") rfl)
  obtain ⟨fd_law_shut, D_law_shut⟩ := c.def_ 46 (d := d_law_shut) rfl
  have F_law_shut : Fun K "_law_shut" "_law_shut" s_law_shut _ fd_law_shut := fun_of (st := s_law_shut) D_law_shut
  have b_law_shut : Binds K fd_law_shut ["_law_web_here", "_law_left", "_law_lots_here", "_law_rest"] [] := F_law_shut.binds fun _ _ _ _ _ _ us hl => match us, hl with | [_, _, _, _], _ => rfl
  have g_law_shut := He.glo_ok X G (c.fact 46 (f := .glo "_law_shut") rfl)
  obtain ⟨fd_law_block, D_law_block⟩ := c.def_ 47 (d := d_law_block) rfl
  have F_law_block : Fun K "_law_block" "_law_block" s_law_block _ fd_law_block := fun_of (st := s_law_block) D_law_block
  have b_law_block : Binds K fd_law_block ["_law_web_here", "_law_left", "_law_lots_here", "_law_house", "_law_rest", "_law_side"] [] := F_law_block.binds fun _ _ _ _ _ _ us hl => match us, hl with | [_, _, _, _, _, _], _ => rfl
  have g_law_block := He.glo_ok X G (c.fact 47 (f := .glo "_law_block") rfl)
  obtain ⟨fd_law_peel, D_law_peel⟩ := c.def_ 48 (d := d_law_peel) rfl
  have F_law_peel : Fun K "_law_peel" "_law_peel" s_law_peel _ fd_law_peel := fun_of (st := s_law_peel) D_law_peel
  have b_law_peel : Binds K fd_law_peel ["_law_web_here", "_law_row", "_law_lots_here", "_law_order_here", "_law_sides"] [] := F_law_peel.binds fun _ _ _ _ _ _ us hl => match us, hl with | [_, _, _, _, _], _ => rfl
  have g_law_peel := He.glo_ok X G (c.fact 48 (f := .glo "_law_peel") rfl)
  obtain ⟨fd_law_classes, D_law_classes⟩ := c.def_ 49 (d := d_law_classes) rfl
  have F_law_classes : Fun K "_law_classes" "_law_classes" s_law_classes _ fd_law_classes := fun_of (st := s_law_classes) D_law_classes
  have b_law_classes : Binds K fd_law_classes ["_law_mosts_here", "_law_coins"] [] := F_law_classes.binds fun _ _ _ _ _ _ us hl => match us, hl with | [_, _], _ => rfl
  have g_law_classes := He.glo_ok X G (c.fact 49 (f := .glo "_law_classes") rfl)
  obtain ⟨fd_law_asked, D_law_asked⟩ := c.def_ 50 (d := d_law_asked) rfl
  have F_law_asked : Fun K "_law_asked" "_law_asked" s_law_asked _ fd_law_asked := fun_of (st := s_law_asked) D_law_asked
  have b_law_asked : Binds K fd_law_asked ["_law_what", "_law_web_here", "_law_row", "_law_thing"] [] := F_law_asked.binds fun _ _ _ _ _ _ us hl => match us, hl with | [_, _, _, _], _ => rfl
  have g_law_asked := He.glo_ok X G (c.fact 50 (f := .glo "_law_asked") rfl)
  obtain ⟨fd_law_told, D_law_told⟩ := c.def_ 51 (d := d_law_told) rfl
  have F_law_told : Fun K "_law_told" "_law_told" s_law_told _ fd_law_told := fun_of (st := s_law_told) D_law_told
  have b_law_told : Binds K fd_law_told ["_law_what", "_law_web_here", "_law_row", "_law_thing"] [] := F_law_told.binds fun _ _ _ _ _ _ us hl => match us, hl with | [_, _, _, _], _ => rfl
  have g_law_told := He.glo_ok X G (c.fact 51 (f := .glo "_law_told") rfl)
  obtain ⟨fd_law_houses_hold, D_law_houses_hold⟩ := c.def_ 52 (d := d_law_houses_hold) rfl
  have F_law_houses_hold : Fun K "_law_houses_hold" "_law_houses_hold" s_law_houses_hold _ fd_law_houses_hold := fun_of (st := s_law_houses_hold) D_law_houses_hold
  have b_law_houses_hold : Binds K fd_law_houses_hold ["_law_web_here", "_law_row", "_law_mosts_here", "_law_turn"] [] := F_law_houses_hold.binds fun _ _ _ _ _ _ us hl => match us, hl with | [_, _, _, _], _ => rfl
  have g_law_houses_hold := He.glo_ok X G (c.fact 52 (f := .glo "_law_houses_hold") rfl)
  obtain ⟨fd_law_row_holds, D_law_row_holds⟩ := c.def_ 53 (d := d_law_row_holds) rfl
  have F_law_row_holds : Fun K "_law_row_holds" "_law_row_holds" s_law_row_holds _ fd_law_row_holds := fun_of (st := s_law_row_holds) D_law_row_holds
  have b_law_row_holds : Binds K fd_law_row_holds ["_law_pot_here", "_law_web_here", "_law_row", "_law_mosts_here", "_law_lots_here"] [] := F_law_row_holds.binds fun _ _ _ _ _ _ us hl => match us, hl with | [_, _, _, _, _], _ => rfl
  have g_law_row_holds := He.glo_ok X G (c.fact 53 (f := .glo "_law_row_holds") rfl)
  obtain ⟨fd_law_bad, D_law_bad⟩ := c.def_ 55 (d := d_law_bad) rfl
  have F_law_bad : Fun K "_law_bad" "_law_bad" s_law_bad _ fd_law_bad := fun_of (st := s_law_bad) D_law_bad
  have b_law_bad : Binds K fd_law_bad ["_law_kind", "_law_size"] [] := F_law_bad.binds fun _ _ _ _ _ _ us hl => match us, hl with | [_, _], _ => rfl
  have g_law_bad := He.glo_ok X G (c.fact 55 (f := .glo "_law_bad") rfl)
  obtain ⟨fd_law_no_standings, D_law_no_standings⟩ := c.def_ 54 (d := d_law_no_standings) rfl
  have F_law_no_standings : Fun K "_law_no_standings" "_law_no_standings" s_law_no_standings _ fd_law_no_standings := fun_of (st := s_law_no_standings) D_law_no_standings
  have b_law_no_standings : Binds K fd_law_no_standings ["_law_row"] [] := F_law_no_standings.binds fun _ _ _ _ _ _ us hl => match us, hl with | [_], _ => rfl
  have g_law_no_standings := He.glo_ok X G (c.fact 54 (f := .glo "_law_no_standings") rfl)
  obtain ⟨fd_law_odd_holds, D_law_odd_holds⟩ := c.def_ 56 (d := d_law_odd_holds) rfl
  have F_law_odd_holds : Fun K "_law_odd_holds" "_law_odd_holds" s_law_odd_holds _ fd_law_odd_holds := fun_of (st := s_law_odd_holds) D_law_odd_holds
  have b_law_odd_holds : Binds K fd_law_odd_holds ["_law_pot_here", "_law_web_here", "_law_row"] [] := F_law_odd_holds.binds fun _ _ _ _ _ _ us hl => match us, hl with | [_, _, _], _ => rfl
  have g_law_odd_holds := He.glo_ok X G (c.fact 56 (f := .glo "_law_odd_holds") rfl)
  obtain ⟨fd_law, D_law⟩ := c.def_ 57 (d := d_law) rfl
  have e := hfa.symm.trans (He.glo_ok X G (c.fact 57 (f := .glo "law") rfl))
  cases e
  have b := FunD.bindsA (ps := ["_law_script"]) D_law fun _ _ _ _ _ _ us hl => match us, hl with | [_], _ => rfl
  refine ⟨fd_law, fun s v => b s [v] rfl, fun base _ _ => ?_⟩
  have c_is_integer : Cal P w K mg base 1 "is_integer" sp_is_integer := ⟨⟨_, _, _, ok_is_integer (k := 0) F_is_integer T, g_is_integer, F_is_integer.kp, b_is_integer⟩⟩
  have c_is_number : Cal P w K mg base 2 "is_number" sp_is_number := ⟨⟨_, _, _, ok_is_number F_is_number T c_is_integer, g_is_number, F_is_number.kp, b_is_number⟩⟩
  have c_b_is_coins : Cal P w K mg base 2 "b_is_coins" sp_b_is_coins := ⟨⟨_, _, _, ok_b_is_coins F_b_is_coins T c_is_integer, g_b_is_coins, F_b_is_coins.kp, b_b_is_coins⟩⟩
  have c_is_purses : Cal P w K mg base 3 "is_purses" sp_is_purses := ⟨⟨_, _, _, ok_is_purses F_is_purses T c_is_number, g_is_purses, F_is_purses.kp, b_is_purses⟩⟩
  have c_b_is_house : Cal P w K mg base 3 "b_is_house" sp_b_is_house := ⟨⟨_, _, _, ok_b_is_house F_b_is_house T c_is_number, g_b_is_house, F_b_is_house.kp, b_b_is_house⟩⟩
  have N : NI P w K mg base := ⟨nu, gI, fd_init, ok_init (k := 0) F_init nu, b_init⟩
  have c_b_need_house : CalX P w K mg base 4 "b_need_house" ["web", "house", "word"] (sp_b_need_house K) := ⟨⟨_, _, ok_b_need_house F_b_need_house T N c_b_is_house, g_b_need_house, F_b_need_house.kp, b_b_need_house⟩⟩
  have c_b_links : Cal P w K mg base 1 "b_links" sp_b_links := ⟨⟨_, _, _, ok_b_links F_b_links T, g_b_links, F_b_links.kp, b_b_links⟩⟩
  have c_b_turned : Cal P w K mg base 1 "b_turned" sp_b_turned := ⟨⟨_, _, _, ok_b_turned F_b_turned T, g_b_turned, F_b_turned.kp, b_b_turned⟩⟩
  have c_b_purses : Cal P w K mg base 1 "b_purses" sp_b_purses := ⟨⟨_, _, _, ok_b_purses F_b_purses T, g_b_purses, F_b_purses.kp, b_b_purses⟩⟩
  have c_b_search : Cal P w K mg base 1 "b_search" sp_b_search := ⟨⟨_, _, _, ok_b_search F_b_search T, g_b_search, F_b_search.kp, b_b_search⟩⟩
  have c_b_reached : Cal P w K mg base 2 "b_reached" sp_b_reached := ⟨⟨_, _, _, ok_b_reached F_b_reached T c_b_search, g_b_reached, F_b_reached.kp, b_b_reached⟩⟩
  have c_b_trace : Cal P w K mg base 1 "b_trace" sp_b_trace := ⟨⟨_, _, _, ok_b_trace F_b_trace T, g_b_trace, F_b_trace.kp, b_b_trace⟩⟩
  have c_b_carry : Cal P w K mg base 1 "b_carry" sp_b_carry := ⟨⟨_, _, _, ok_b_carry F_b_carry T, g_b_carry, F_b_carry.kp, b_b_carry⟩⟩
  have c_b_move : Cal P w K mg base 1 "b_move" sp_b_move := ⟨⟨_, _, _, ok_b_move F_b_move T, g_b_move, F_b_move.kp, b_b_move⟩⟩
  have c_b_shortest : Cal P w K mg base 2 "b_shortest" sp_b_shortest := ⟨⟨_, _, _, ok_b_shortest F_b_shortest T c_b_search c_b_trace, g_b_shortest, F_b_shortest.kp, b_b_shortest⟩⟩
  have c_b_first : Cal P w K mg base 1 "b_first" sp_b_first := ⟨⟨_, _, _, ok_b_first F_b_first T, g_b_first, F_b_first.kp, b_b_first⟩⟩
  have c_b_pay : Cal P w K mg base 3 "b_pay" sp_b_pay := ⟨⟨_, _, _, ok_b_pay F_b_pay T c_b_shortest c_b_carry c_b_move, g_b_pay, F_b_pay.kp, b_b_pay⟩⟩
  have c_b_both_pay : Cal P w K mg base 4 "b_both_pay" sp_b_both_pay := ⟨⟨_, _, _, ok_b_both_pay F_b_both_pay T c_b_pay, g_b_both_pay, F_b_both_pay.kp, b_b_both_pay⟩⟩
  have c_b_bring : Cal P w K mg base 2 "b_bring" sp_b_bring := ⟨⟨_, _, _, ok_b_bring F_b_bring T c_b_purses c_b_search c_b_trace c_b_carry c_b_move, g_b_bring, F_b_bring.kp, b_b_bring⟩⟩
  have c_b_held : CalX P w K mg base 4 "b_held" ["web", "links", "purses"] (sp_b_held K) := ⟨⟨_, _, ok_b_held F_b_held T N c_is_purses c_b_first c_b_bring, g_b_held, F_b_held.kp, b_b_held⟩⟩
  have c_reach_of : CalX P w K mg base 5 "reach_of" ["web", "purses", "house"] (sp_reach_of K false) := ⟨⟨_, _, ok_reach_of F_reach_of T c_b_links c_b_held c_b_need_house c_b_reached, g_reach_of, F_reach_of.kp, b_reach_of⟩⟩
  have ck_reach_of : CalK P w K mg base 5 "reach_of" ["web", "purses", "house"] ["house", "purses", "web"] (sp_reach_of K false) := ⟨⟨_, _, ok_reach_of F_reach_of T c_b_links c_b_held c_b_need_house c_b_reached, g_reach_of, F_reach_of.kp, kb3 F_reach_of (fun _ _ _ _ _ _ _ _ _ => rfl)⟩⟩
  have c_payers_of : CalX P w K mg base 5 "payers_of" ["web", "purses", "house"] (sp_reach_of K true) := ⟨⟨_, _, ok_payers_of F_payers_of T c_b_links c_b_held c_b_need_house c_b_reached c_b_turned, g_payers_of, F_payers_of.kp, b_payers_of⟩⟩
  have ck_payers_of : CalK P w K mg base 5 "payers_of" ["web", "purses", "house"] ["house", "purses", "web"] (sp_reach_of K true) := ⟨⟨_, _, ok_payers_of F_payers_of T c_b_links c_b_held c_b_need_house c_b_reached c_b_turned, g_payers_of, F_payers_of.kp, kb3 F_payers_of (fun _ _ _ _ _ _ _ _ _ => rfl)⟩⟩
  have c_b_is_order : Cal P w K mg base 3 "b_is_order" sp_b_is_order := ⟨⟨_, _, _, ok_b_is_order F_b_is_order T c_is_number, g_b_is_order, F_b_is_order.kp, b_b_is_order⟩⟩
  have c_b_joining : Cal P w K mg base 1 "b_joining" sp_b_joining := ⟨⟨_, _, _, ok_b_joining F_b_joining T, g_b_joining, F_b_joining.kp, b_b_joining⟩⟩
  have c_b_are_sides : Cal P w K mg base 1 "b_are_sides" sp_b_are_sides := ⟨⟨_, _, _, ok_b_are_sides F_b_are_sides T, g_b_are_sides, F_b_are_sides.kp, b_b_are_sides⟩⟩
  have c_b_peel : Cal P w K mg base 3 "b_peel" sp_b_peel := ⟨⟨_, _, _, ok_b_peel F_b_peel T c_b_turned c_b_reached c_b_joining, g_b_peel, F_b_peel.kp, b_b_peel⟩⟩
  have c_peel_of : CalX P w K mg base 5 "peel_of" ["web", "purses", "order"] (sp_peel_of K) := ⟨⟨_, _, ok_peel_of F_peel_of T N c_b_links c_b_held c_b_is_order c_b_peel, g_peel_of, F_peel_of.kp, b_peel_of⟩⟩
  have ck_peel_of : CalK P w K mg base 5 "peel_of" ["web", "purses", "order"] ["order", "purses", "web"] (sp_peel_of K) := ⟨⟨_, _, ok_peel_of F_peel_of T N c_b_links c_b_held c_b_is_order c_b_peel, g_peel_of, F_peel_of.kp, kb3 F_peel_of (fun _ _ _ _ _ _ _ _ _ => rfl)⟩⟩
  have c_peel_either : CalX P w K mg base 5 "peel_either" ["web", "purses", "order", "sides"] (sp_peel_either K) := ⟨⟨_, _, ok_peel_either F_peel_either T N c_b_links c_b_held c_b_is_order c_b_are_sides c_b_peel, g_peel_either, F_peel_either.kp, b_peel_either⟩⟩
  have ck_peel_either : CalK P w K mg base 5 "peel_either" ["web", "purses", "order", "sides"] ["sides", "order", "purses", "web"] (sp_peel_either K) := ⟨⟨_, _, ok_peel_either F_peel_either T N c_b_links c_b_held c_b_is_order c_b_are_sides c_b_peel, g_peel_either, F_peel_either.kp, kb4 F_peel_either (fun _ _ _ _ _ _ _ _ _ _ => rfl)⟩⟩
  have c_classes_of : CalX P w K mg base 5 "classes_of" ["web", "purses", "coins"] (sp_classes_of K) := ⟨⟨_, _, ok_classes_of F_classes_of T N c_b_links c_b_held c_b_is_coins c_b_both_pay, g_classes_of, F_classes_of.kp, b_classes_of⟩⟩
  have ck_classes_of : CalK P w K mg base 5 "classes_of" ["web", "purses", "coins"] ["coins", "purses", "web"] (sp_classes_of K) := ⟨⟨_, _, ok_classes_of F_classes_of T N c_b_links c_b_held c_b_is_coins c_b_both_pay, g_classes_of, F_classes_of.kp, kb3 F_classes_of (fun _ _ _ _ _ _ _ _ _ => rfl)⟩⟩
  have c_law_pot : Cal P w K mg base 1 "_law_pot" (sp_law_pot K) := ⟨⟨_, _, _, ok_law_pot F_law_pot T, g_law_pot, F_law_pot.kp, b_law_pot⟩⟩
  have c_law_draw : Cal P w K mg base 1 "_law_draw" sp_law_draw := ⟨⟨_, _, _, ok_law_draw F_law_draw T, g_law_draw, F_law_draw.kp, b_law_draw⟩⟩
  have c_law_order : Cal P w K mg base 2 "_law_order" sp_law_order := ⟨⟨_, _, _, ok_law_order F_law_order T c_law_draw, g_law_order, F_law_order.kp, b_law_order⟩⟩
  have c_law_pairs : Cal P w K mg base 2 "_law_pairs" sp_law_pairs := ⟨⟨_, _, _, ok_law_pairs F_law_pairs T c_law_draw, g_law_pairs, F_law_pairs.kp, b_law_pairs⟩⟩
  have c_law_web : Cal P w K mg base 3 "_law_web" sp_law_web := ⟨⟨_, _, _, ok_law_web F_law_web T c_law_draw c_law_order c_law_pairs, g_law_web, F_law_web.kp, b_law_web⟩⟩
  have c_law_far : Cal P w K mg base 2 "_law_far" sp_law_far := ⟨⟨_, _, _, ok_law_far F_law_far T c_law_draw, g_law_far, F_law_far.kp, b_law_far⟩⟩
  have c_law_far_web : Cal P w K mg base 4 "_law_far_web" sp_law_far_web := ⟨⟨_, _, _, ok_law_far_web F_law_far_web T c_law_draw c_law_web c_law_far, g_law_far_web, F_law_far_web.kp, b_law_far_web⟩⟩
  have c_law_far_split : Cal P w K mg base 3 "_law_far_split" sp_law_far_split := ⟨⟨_, _, _, ok_law_far_split F_law_far_split T c_law_draw c_law_far, g_law_far_split, F_law_far_split.kp, b_law_far_split⟩⟩
  have c_law_purses : Cal P w K mg base 1 "_law_purses" sp_law_purses := ⟨⟨_, _, _, ok_law_purses F_law_purses T, g_law_purses, F_law_purses.kp, b_law_purses⟩⟩
  have c_law_standings : Cal P w K mg base 1 "_law_standings" sp_law_standings := ⟨⟨_, _, _, ok_law_standings F_law_standings T, g_law_standings, F_law_standings.kp, b_law_standings⟩⟩
  have c_law_lots : Cal P w K mg base 1 "_law_lots" sp_law_lots := ⟨⟨_, _, _, ok_law_lots F_law_lots T, g_law_lots, F_law_lots.kp, b_law_lots⟩⟩
  have c_law_slack : Cal P w K mg base 1 "_law_slack" sp_law_slack := ⟨⟨_, _, _, ok_law_slack F_law_slack T, g_law_slack, F_law_slack.kp, b_law_slack⟩⟩
  have c_law_same : Cal P w K mg base 3 "_law_same" (sp_law_same 3) := ⟨⟨_, _, _, ok_law_same F_law_same T g_law_same b_law_same 3, g_law_same, F_law_same.kp, b_law_same⟩⟩
  have c_law_many : Cal P w K mg base 1 "_law_many" sp_law_many := ⟨⟨_, _, _, ok_law_many F_law_many T, g_law_many, F_law_many.kp, b_law_many⟩⟩
  have c_law_least : Cal P w K mg base 2 "_law_least" sp_law_least := ⟨⟨_, _, _, ok_law_least F_law_least T c_law_slack, g_law_least, F_law_least.kp, b_law_least⟩⟩
  have c_law_mosts : Cal P w K mg base 3 "_law_mosts" sp_law_mosts := ⟨⟨_, _, _, ok_law_mosts F_law_mosts T c_law_least c_law_many, g_law_mosts, F_law_mosts.kp, b_law_mosts⟩⟩
  have c_law_shut : Cal P w K mg base 2 "_law_shut" sp_law_shut := ⟨⟨_, _, _, ok_law_shut F_law_shut T c_law_slack, g_law_shut, F_law_shut.kp, b_law_shut⟩⟩
  have c_law_block : Cal P w K mg base 3 "_law_block" sp_law_block := ⟨⟨_, _, _, ok_law_block F_law_block T c_law_shut, g_law_block, F_law_block.kp, b_law_block⟩⟩
  have c_law_peel : Cal P w K mg base 4 "_law_peel" sp_law_peel := ⟨⟨_, _, _, ok_law_peel F_law_peel T c_law_block, g_law_peel, F_law_peel.kp, b_law_peel⟩⟩
  have c_law_classes : Cal P w K mg base 1 "_law_classes" sp_law_classes := ⟨⟨_, _, _, ok_law_classes F_law_classes T, g_law_classes, F_law_classes.kp, b_law_classes⟩⟩
  have c_law_asked : CalX P w K mg base 6 "_law_asked" ["_law_what", "_law_web_here", "_law_row", "_law_thing"] (sp_law_asked K) := ⟨⟨_, _, ok_law_asked F_law_asked T c_reach_of c_payers_of c_peel_of c_classes_of c_peel_either ck_reach_of ck_payers_of ck_peel_of ck_classes_of ck_peel_either, g_law_asked, F_law_asked.kp, b_law_asked⟩⟩
  have c_law_told : Cal P w K mg base 7 "_law_told" sp_law_told := ⟨⟨_, _, _, ok_law_told F_law_told T nu gI c_law_asked, g_law_told, F_law_told.kp, b_law_told⟩⟩
  have c_law_houses_hold : Cal P w K mg base 8 "_law_houses_hold" sp_law_houses_hold := ⟨⟨_, _, _, ok_law_houses_hold F_law_houses_hold T c_law_same c_law_told, g_law_houses_hold, F_law_houses_hold.kp, b_law_houses_hold⟩⟩
  have c_law_row_holds : Cal P w K mg base 9 "_law_row_holds" sp_law_row_holds := ⟨⟨_, _, _, ok_law_row_holds F_law_row_holds T c_law_draw c_law_order c_law_same c_law_told c_law_houses_hold c_law_peel c_law_classes, g_law_row_holds, F_law_row_holds.kp, b_law_row_holds⟩⟩
  have c_law_bad : Cal P w K mg base 1 "_law_bad" sp_law_bad := ⟨⟨_, _, _, ok_law_bad F_law_bad T, g_law_bad, F_law_bad.kp, b_law_bad⟩⟩
  have c_law_no_standings : Cal P w K mg base 1 "_law_no_standings" sp_law_no_standings := ⟨⟨_, _, _, ok_law_no_standings F_law_no_standings T, g_law_no_standings, F_law_no_standings.kp, b_law_no_standings⟩⟩
  have c_law_odd_holds : Cal P w K mg base 9 "_law_odd_holds" sp_law_odd_holds := ⟨⟨_, _, _, ok_law_odd_holds F_law_odd_holds T c_law_draw c_law_same c_law_told c_law_bad c_law_no_standings, g_law_odd_holds, F_law_odd_holds.kp, b_law_odd_holds⟩⟩
  exact ok_law (fun_of (x := "law") (q := "law") (st := s_law) D_law) T c_law_pot c_law_web c_law_standings c_law_lots c_law_draw c_law_row_holds c_law_mosts c_law_odd_holds c_law_far_web c_law_far_split c_law_purses
end K8
open PySem PySem.W PySem.Calls PyProof.Rows
theorem PySem.Challenge.cw_howeverled_k08_whole_reaches_and_peels_holds : PySem.Challenge.rw_howeverled_k08_whole_reaches_and_peels.Holds := by
  w_on; o_law
  refine HandSHeadRun.head_any (r := OpenLaw.row PySem.Challenge.rw_howeverled_k08_whole_reaches_and_peels) (q := view (OpenLaw.row PySem.Challenge.rw_howeverled_k08_whole_reaches_and_peels).prog [64]) (H := K8.hk) (ob := K8.ob) (M := 4000) (loose := K8.loose) (d := HandSHeadRun.topDef (OpenLaw.row PySem.Challenge.rw_howeverled_k08_whole_reaches_and_peels).prog 64) (kwd := []) K8.ob_eq
    (by kernel_rfl) (fun s => by kernel_rfl) K8.run (by kernel_rfl) (by kernel_rfl) (by kernel_rfl) (by rfl) (by first | assumption | decide +kernel) (by decide +kernel) ⟨rfl, rfl, rfl, rfl, rfl, by decide +kernel⟩ ?hw ?hc
  case hw => w_witness2
  case hc =>
    refine L2.walk_ofE (l := PySem.Challenge.rw_howeverled_k08_whole_reaches_and_peels) (n := 63) (k := 10) (x := "_law_script") (CX := L2.CX0) rfl (by decide) (by kernel_rfl) ⟨rfl, by decide, by decide⟩ ?F (fun _ _ _ _ z => z)
    intro w mg fa h Y G hmg0
    obtain ⟨K, KX, c⟩ := Y
    have hmg : mg ("law" : PySem.Str) = some (.ref fa) := by
      have e : (HandSHeadRun.topDef (OpenLaw.row PySem.Challenge.rw_howeverled_k08_whole_reaches_and_peels).prog 64).name = ("law" : PySem.Str) := by kernel_rfl
      rw [← e]
      exact hmg0
    obtain ⟨fd, hb, hF⟩ := K8.facts (P := (PySem.Challenge.rw_howeverled_k08_whole_reaches_and_peels).prog) (w := w) KX G hmg c
    exact ⟨K, fd, K8.sp_law K, KX, hb, fun H a ns hl _ hS => ⟨a, ns, rfl, hS, by omega, fun _ => rfl⟩, hF⟩
