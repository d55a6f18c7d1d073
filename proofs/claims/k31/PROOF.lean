import PyProof.Rows.All
import Wide.All
import OpenK.AllK
import Wide.FinOn
import PySem.Challenge.RW_settledways_k31_whole_relations_refused
import HandS.ForMost
import HandS.Wide
import KE.KeyNested
import KE.KEqNest
import KE.LtSeq
import PyProof.NeKinds
import KE.KEqDict
import PyProof.SeqIndex
import HandS.ExcInit
import KE.KExcSuper
import PySem.Str
import HandS.Deep
import HandS.TupAny
import HandS.TupMul
import HandS.Star
import HandS.Lambda
import KE.KDictKeyed
import KE.KDictCopyH
import KE.KDictLaw
import KE.KRevSl
import HandS.ExcValue
import KE.KDictDisplayH
import HandS.TryOnly
import HandS.Iter
import HandS.Zip
import KE.KDictWalk
import HandS.ExcCtx
import HandS.IsInst
import HandS.DictComp
import HandS.CallSlots
import HandS.ExcField
import HandS.TryMany
import KE.SortKeyHeap
import KE.KDictSum
import KE.DataMinMax
import PyProof.CallFns
import KE.KDictPairs
import HandS.Keys
import KE.GoesComp
import HandS.Defaults
import HandS.HeadHook4
import HandS.HeadWalk
import HandS.Codes
import KE.KStateDown
import HandS.Head2
set_option Elab.async false
set_option linter.all false
set_option maxRecDepth 100000
set_option maxHeartbeats 4000000
/-! ZC: tuples and lists compared: the first pair that differs. -/
namespace Z
open PySem PySem.Spec PyProof.Rows L2
open PySem.SeqAt PySem.AutoSeq1 PySem.MeetsSeq PySem.MeetsSeq2 PySem.MeetsSeq3 PySem.SeqRoads2
/-- the first pair that differs, none where one list begins the other -/
inductive Diff (P : Program) (w : World) (A : Around) (s : Shared) : List Value → List Value → Option (Value × Value) → Prop
  | left {vs : List Value} : Diff P w A s [] vs none
  | right {us : List Value} : Diff P w A s us [] none
  | eq {u v : Value} {us vs : List Value} {d : Option (Value × Value)} : PySem.SeqAt.EqIn P w A s u v true → Diff P w A s us vs d → Diff P w A s (u :: us) (v :: vs) d
  | ne {u v : Value} {us vs : List Value} : PySem.SeqAt.EqIn P w A s u v false → Diff P w A s (u :: us) (v :: vs) (some (u, v))
section
variable {prog : Program} {w : World}
theorem tuple_eqD (l b : Addr) (us vs : List Value) (n n2 : Nat) (dd dd2 : Option Addr) (sl sl2 : Array (Option Value)) (dif : Option (Value × Value)) :
    MeetsIn prog w (Builtin.«tuple.__eq__» ⟨[.ref l, .ref b], []⟩)
      (fun A R s => s.heap.get? l = some { cls := .type "tuple", dict := dd, data := .seq us.toArray n, slots := sl } ∧ s.heap.get? b = some { cls := .type "tuple", dict := dd2, data := .seq vs.toArray n2, slots := sl2 } ∧ Diff prog w A.in1 s us vs dif ∧
        R (.ok (.ret (match dif with | some _ => .bool false | none => Builtin.Tuple.tupleCompareSizes .Eq us.length vs.length))) s) :=
  .of_wp fun A R s h => by
    obtain ⟨hp, g, d, tk, os⟩ := s; obtain ⟨hl, hb, he, h⟩ := h
    have f2 := AutoSeq1.sub_tuple_tuple
    wp_walk using wpAny_loadPart' hl, wpAny_loadPart' hb, wpAny_forIn_list _ (fun rest b s' => b.1 = none ∧ s' = ⟨hp, g, d, tk, os⟩ ∧ ∃ p q, rest = List.zip p q ∧ Diff prog w A.in1 ⟨hp, g, d, tk, os⟩ p q dif) _
    case turn =>
      rintro ⟨y, x⟩ rest b s' ⟨hb', rfl, p, q, hz, hR⟩
      cases hR with
      | left => cases hz
      | right => simp at hz
      | eq e1 e2 =>
        injection hz with hy hx
        cases hy
        refine wpAny_bind (e1 _ _ ?_)
        wp_walk
        exact ⟨rfl, rfl, _, _, hx, e2⟩
      | ne e1 =>
        injection hz with hy hx
        cases hy
        refine wpAny_bind (e1 _ _ ?_)
        wp_walk
        exact ⟨_, rfl, h⟩
    case fin =>
      rintro ⟨b1, b2⟩ s' ⟨hb', rfl, p, q, hz, hR⟩
      simp only at hb'
      subst hb'
      cases hR with
      | left => wp_walk; exact ⟨_, rfl, by simpa using h⟩
      | right => wp_walk; exact ⟨_, rfl, by simpa using h⟩
      | eq e1 e2 => cases hz
      | ne e1 => cases hz
    case h =>
      exact ⟨rfl, rfl, us, vs, by simp, he⟩
theorem tuple_neD (l b : Addr) (us vs : List Value) (n n2 : Nat) (dd dd2 : Option Addr) (sl sl2 : Array (Option Value)) (dif : Option (Value × Value)) :
    MeetsIn prog w (Builtin.«tuple.__ne__» ⟨[.ref l, .ref b], []⟩)
      (fun A R s => s.heap.get? l = some { cls := .type "tuple", dict := dd, data := .seq us.toArray n, slots := sl } ∧ s.heap.get? b = some { cls := .type "tuple", dict := dd2, data := .seq vs.toArray n2, slots := sl2 } ∧ Diff prog w A.in1 s us vs dif ∧
        R (.ok (.ret (match dif with | some _ => .bool true | none => Builtin.Tuple.tupleCompareSizes .NotEq us.length vs.length))) s) :=
  .of_wp fun A R s h => by
    obtain ⟨hp, g, d, tk, os⟩ := s; obtain ⟨hl, hb, he, h⟩ := h
    have f2 := AutoSeq1.sub_tuple_tuple
    wp_walk using wpAny_loadPart' hl, wpAny_loadPart' hb, wpAny_forIn_list _ (fun rest b s' => b.1 = none ∧ s' = ⟨hp, g, d, tk, os⟩ ∧ ∃ p q, rest = List.zip p q ∧ Diff prog w A.in1 ⟨hp, g, d, tk, os⟩ p q dif) _
    case turn =>
      rintro ⟨y, x⟩ rest b s' ⟨hb', rfl, p, q, hz, hR⟩
      cases hR with
      | left => cases hz
      | right => simp at hz
      | eq e1 e2 =>
        injection hz with hy hx
        cases hy
        refine wpAny_bind (e1 _ _ ?_)
        wp_walk
        exact ⟨rfl, rfl, _, _, hx, e2⟩
      | ne e1 =>
        injection hz with hy hx
        cases hy
        refine wpAny_bind (e1 _ _ ?_)
        wp_walk
        exact ⟨_, rfl, h⟩
    case fin =>
      rintro ⟨b1, b2⟩ s' ⟨hb', rfl, p, q, hz, hR⟩
      simp only at hb'
      subst hb'
      cases hR with
      | left => wp_walk; exact ⟨_, rfl, by simpa using h⟩
      | right => wp_walk; exact ⟨_, rfl, by simpa using h⟩
      | eq e1 e2 => cases hz
      | ne e1 => cases hz
    case h =>
      exact ⟨rfl, rfl, us, vs, by simp, he⟩
theorem tuple_ltD (l b : Addr) (us vs : List Value) (n n2 : Nat) (dd dd2 : Option Addr) (sl sl2 : Array (Option Value)) (dif : Option (Value × Value)) (k : Bool) :
    MeetsIn prog w (Builtin.«tuple.__lt__» ⟨[.ref l, .ref b], []⟩)
      (fun A R s => s.heap.get? l = some { cls := .type "tuple", dict := dd, data := .seq us.toArray n, slots := sl } ∧ s.heap.get? b = some { cls := .type "tuple", dict := dd2, data := .seq vs.toArray n2, slots := sl2 } ∧ Diff prog w A.in1 s us vs dif ∧
        (∀ p, dif = some p → ∀ (E : Value → Shared → Prop) (Q : Value → Shared → Prop), Q (.bool k) s → wpAny (model prog w) A.in1 (richCompare .Lt p.1 p.2) Q E s) ∧
        R (.ok (.ret (match dif with | some _ => .bool k | none => Builtin.Tuple.tupleCompareSizes .Lt us.length vs.length))) s) :=
  .of_wp fun A R s h => by
    obtain ⟨hp, g, d, tk, os⟩ := s; obtain ⟨hl, hb, he, hr, h⟩ := h
    have f2 := AutoSeq1.sub_tuple_tuple
    wp_walk using wpAny_loadPart' hl, wpAny_loadPart' hb, wpAny_forIn_list _ (fun rest b s' => b.1 = none ∧ s' = ⟨hp, g, d, tk, os⟩ ∧ ∃ p q, rest = List.zip p q ∧ Diff prog w A.in1 ⟨hp, g, d, tk, os⟩ p q dif) _
    case turn =>
      rintro ⟨y, x⟩ rest b s' ⟨hb', rfl, p, q, hz, hR⟩
      cases hR with
      | left => cases hz
      | right => simp at hz
      | eq e1 e2 =>
        injection hz with hy hx
        cases hy
        refine wpAny_bind (e1 _ _ ?_)
        wp_walk
        exact ⟨rfl, rfl, _, _, hx, e2⟩
      | ne e1 =>
        injection hz with hy hx
        cases hy
        refine wpAny_bind (e1 _ _ ?_)
        simp only [Bool.not_false, if_true, bind_assoc]
        refine wpAny_bind (m := richCompare .Lt y x) (hr (y, x) rfl _ _ ?_)
        wp_walk
        exact ⟨_, rfl, h⟩
    case fin =>
      rintro ⟨b1, b2⟩ s' ⟨hb', rfl, p, q, hz, hR⟩
      simp only at hb'
      subst hb'
      cases hR with
      | left => wp_walk; exact ⟨_, rfl, by simpa using h⟩
      | right => wp_walk; exact ⟨_, rfl, by simpa using h⟩
      | eq e1 e2 => cases hz
      | ne e1 => cases hz
    case h =>
      exact ⟨rfl, rfl, us, vs, by simp, he⟩

theorem list_loopD {code : Int} {op : CmpOp} {z : Bool} (hop : (code = 2 ∧ op = .Eq ∧ z = false) ∨ (code = 3 ∧ op = .NotEq ∧ z = true)) (l b : Addr) (us vs : List Value) (n n2 : Nat) (dd dd2 : Option Addr) (sl sl2 : Array (Option Value)) (hsz : us.length = vs.length) (dif : Option (Value × Value)) :
    ∀ (r q : List Value) (i : Nat), us.drop i = r → vs.drop i = q → i ≤ us.length →
    MeetsIn prog w (Builtin.«list.__eq__.loop» ⟨[.ref l, .ref b, rawInt (i : Int), rawInt code], []⟩)
      (fun A R s => s.heap.get? l = some { cls := .type "list", dict := dd, data := .seq us.toArray n, slots := sl } ∧ s.heap.get? b = some { cls := .type "list", dict := dd2, data := .seq vs.toArray n2, slots := sl2 } ∧ Diff prog w A.in1 s r q dif ∧
        R (.ok (.ret (.bool (match dif with | some _ => z | none => !z)))) s) := by
  intro r
  induction r with
  | nil =>
    intro q i hr hq hi A R s h
    obtain ⟨hp, g, d, tk, os⟩ := s; obtain ⟨hl, hb, he, h⟩ := h
    have hi' : i = us.length := by
      have := congrArg List.length hr
      simp at this
      omega
    have h1 : us.toArray[((i : Nat) : Int).toNat]? = none := by simp; omega
    have h2 : vs.toArray[((i : Nat) : Int).toNat]? = none := by simp; omega
    have hq' : q = [] := by rw [← hq]; simp; omega
    subst hq'
    have hd : dif = none := by cases he <;> rfl
    subst hd
    rcases hop with ⟨rfl, rfl, rfl⟩ | ⟨rfl, rfl, rfl⟩
    · wp_walk using wpAny_loadPart' hl, wpAny_loadPart' hb
      rw [h1, h2]
      wp_walk using wpAny_loadPart' hl, wpAny_loadPart' hb
      show R (.ok (.ret (.bool (us.toArray.size == vs.toArray.size)))) _
      simpa [hsz] using h
    · wp_walk using wpAny_loadPart' hl, wpAny_loadPart' hb
      rw [h1, h2]
      wp_walk using wpAny_loadPart' hl, wpAny_loadPart' hb
      show R (.ok (.ret (.bool (us.toArray.size != vs.toArray.size)))) _
      simpa [hsz] using h
  | cons u r ih =>
    intro q i hr hq hi A R s h
    obtain ⟨hp, g, d, tk, os⟩ := s; obtain ⟨hl, hb, he, h⟩ := h
    have hlt : i < us.length := by
      have := congrArg List.length hr
      simp at this
      omega
    have hlt2 : i < vs.length := by omega
    have hu : us[i] = u ∧ us.drop (i + 1) = r := by
      rw [List.drop_eq_getElem_cons hlt] at hr
      injection hr with a b
      exact ⟨a, b⟩
    rw [List.drop_eq_getElem_cons hlt2] at hq
    subst hq
    have h1 : us.toArray[((i : Nat) : Int).toNat]? = some u := by simp [hlt, hu.1]
    have h2 : vs.toArray[((i : Nat) : Int).toNat]? = some vs[i] := by simp [hlt2]
    have hc : ((i : Int) + 1) = ((i + 1 : Nat) : Int) := by push_cast; rfl
    cases he with
    | eq e1 e2 =>
      rcases hop with ⟨rfl, rfl, rfl⟩ | ⟨rfl, rfl, rfl⟩
      · wp_walk using wpAny_loadPart' hl, wpAny_loadPart' hb
        rw [h1, h2]
        refine wpAny_bind (e1 _ _ ?_)
        wp_walk
        rw [hc]
        exact ⟨plainId_quiet plain_eq_loop _, codeAny_builtin entry_eq_loop (by
          rw [Around.under_plainId plain_eq_loop _]
          exact ih _ (i + 1) hu.2 rfl (by omega) A R _ ⟨hl, hb, e2, h⟩)⟩
      · wp_walk using wpAny_loadPart' hl, wpAny_loadPart' hb
        rw [h1, h2]
        refine wpAny_bind (e1 _ _ ?_)
        wp_walk
        rw [hc]
        exact ⟨plainId_quiet plain_eq_loop _, codeAny_builtin entry_eq_loop (by
          rw [Around.under_plainId plain_eq_loop _]
          exact ih _ (i + 1) hu.2 rfl (by omega) A R _ ⟨hl, hb, e2, h⟩)⟩
    | ne e1 =>
      rcases hop with ⟨rfl, rfl, rfl⟩ | ⟨rfl, rfl, rfl⟩ <;>
      · wp_walk using wpAny_loadPart' hl, wpAny_loadPart' hb
        rw [h1, h2]
        refine wpAny_bind (e1 _ _ ?_)
        wp_walk using wpAny_loadPart' hl, wpAny_loadPart' hb
        rw [h1, h2]
        wp_walk
        simpa using h
end
end Z

set_option Elab.async false
set_option linter.all false
set_option maxRecDepth 100000
set_option maxHeartbeats 4000000
/-! ZC2: ==, !=, < of tuples, ==, != of lists, by the first pair that differs. -/
namespace Z
open PySem PySem.Spec PyProof.Rows L2
open PySem.SeqAt PySem.AutoSeq1 PySem.MeetsSeq PySem.MeetsSeq2 PySem.MeetsSeq3 PySem.SeqRoads2
section
variable {prog : Program} {w : World}
theorem list_eqD (l b : Addr) (us vs : List Value) (n n2 : Nat) (dd dd2 : Option Addr) (sl sl2 : Array (Option Value)) (hsz : us.length = vs.length) (dif : Option (Value × Value)) :
    MeetsIn prog w (Builtin.«list.__eq__» ⟨[.ref l, .ref b], []⟩)
      (fun A R s => s.heap.get? l = some { cls := .type "list", dict := dd, data := .seq us.toArray n, slots := sl } ∧ s.heap.get? b = some { cls := .type "list", dict := dd2, data := .seq vs.toArray n2, slots := sl2 } ∧ Diff prog w A.in1 s us vs dif ∧
        R (.ok (.ret (.bool (match dif with | some _ => false | none => !false)))) s) := by
  intro A R s h
  obtain ⟨hp, g, d, tk, os⟩ := s; obtain ⟨hl, hb, he, h⟩ := h
  have f3 := AutoSeq1.sub_list_list
  have hne : ¬ (us.toArray.size != vs.toArray.size) = true := by simp [hsz]
  wp_walk using wpAny_loadPart' hl, wpAny_loadPart' hb
  exact ⟨plainId_quiet plain_eq_loop _, codeAny_builtin entry_eq_loop (by
    rw [Around.under_plainId plain_eq_loop _]
    exact list_loopD (.inl ⟨rfl, rfl, rfl⟩) l b us vs n n2 dd dd2 sl sl2 hsz dif us vs 0 rfl rfl (Nat.zero_le _) A R _ ⟨hl, hb, he, h⟩)⟩
theorem list_neD (l b : Addr) (us vs : List Value) (n n2 : Nat) (dd dd2 : Option Addr) (sl sl2 : Array (Option Value)) (hsz : us.length = vs.length) (dif : Option (Value × Value)) :
    MeetsIn prog w (Builtin.«list.__ne__» ⟨[.ref l, .ref b], []⟩)
      (fun A R s => s.heap.get? l = some { cls := .type "list", dict := dd, data := .seq us.toArray n, slots := sl } ∧ s.heap.get? b = some { cls := .type "list", dict := dd2, data := .seq vs.toArray n2, slots := sl2 } ∧ Diff prog w A.in1 s us vs dif ∧
        R (.ok (.ret (.bool (match dif with | some _ => true | none => !true)))) s) := by
  intro A R s h
  obtain ⟨hp, g, d, tk, os⟩ := s; obtain ⟨hl, hb, he, h⟩ := h
  have f3 := AutoSeq1.sub_list_list
  have hne : ¬ (us.toArray.size != vs.toArray.size) = true := by simp [hsz]
  wp_walk using wpAny_loadPart' hl, wpAny_loadPart' hb
  exact ⟨plainId_quiet plain_eq_loop _, codeAny_builtin entry_eq_loop (by
    rw [Around.under_plainId plain_eq_loop _]
    exact list_loopD (.inr ⟨rfl, rfl, rfl⟩) l b us vs n n2 dd dd2 sl sl2 hsz dif us vs 0 rfl rfl (Nat.zero_le _) A R _ ⟨hl, hb, he, h⟩)⟩
end
section
variable {prog : Program} {w : World} {A : Around} {E : Value → Shared → Prop} {s : Shared} {l b : Addr} {us vs : List Value} {dif : Option (Value × Value)} {Q : Value → Shared → Prop}
theorem rc_listsEq (hl : s.heap.IsList l us.toArray) (hb : s.heap.IsList b vs.toArray) (hsz : us.length = vs.length) (hu : A.units < cLine) (he : Diff prog w A.in1 s us vs dif) (h : Q (.bool dif.isNone) s) :
    wpAny (model prog w) A (compareOp .Eq (.ref l) (.ref b)) Q E s := by
  obtain ⟨⟨cls, dd, data, sl⟩, ho, hc, n, hd⟩ := hl
  obtain ⟨⟨cls2, dd2, data2, sl2⟩, ho2, hc2, n2, hd2⟩ := hb
  simp only at hc hd hc2 hd2
  subst hc hd hc2 hd2
  exact wpAny_richCompare_same_room (T := "list") (op := .Eq) ⟨_, ho, rfl⟩ ⟨_, ho2, rfl⟩ F.slot_list_eq (call_meetsIn F.slot_list_eq ⟨_, ho, rfl⟩ F.entry_list_eq (F.args_list_eq_2 _ _) (list_eqD l b us vs n n2 dd dd2 sl sl2 hsz dif)
    ⟨ho, ho2, he, by cases dif <;> exact ⟨(fun x => nomatch x), h⟩⟩) hu
theorem rc_listsNe (hl : s.heap.IsList l us.toArray) (hb : s.heap.IsList b vs.toArray) (hsz : us.length = vs.length) (hu : A.units < cLine) (he : Diff prog w A.in1 s us vs dif) (h : Q (.bool dif.isSome) s) :
    wpAny (model prog w) A (compareOp .NotEq (.ref l) (.ref b)) Q E s := by
  obtain ⟨⟨cls, dd, data, sl⟩, ho, hc, n, hd⟩ := hl
  obtain ⟨⟨cls2, dd2, data2, sl2⟩, ho2, hc2, n2, hd2⟩ := hb
  simp only at hc hd hc2 hd2
  subst hc hd hc2 hd2
  exact wpAny_richCompare_same_room (T := "list") (op := .NotEq) ⟨_, ho, rfl⟩ ⟨_, ho2, rfl⟩ F.slot_list_ne (call_meetsIn F.slot_list_ne ⟨_, ho, rfl⟩ F.entry_list_ne (F.args_list_ne_2 _ _) (list_neD l b us vs n n2 dd dd2 sl sl2 hsz dif)
    ⟨ho, ho2, he, by cases dif <;> exact ⟨(fun x => nomatch x), h⟩⟩) hu
theorem rc_tuplesEq (hl : s.heap.IsTuple l us.toArray) (hb : s.heap.IsTuple b vs.toArray) (hu : A.units < cLine) (he : Diff prog w A.in1 s us vs dif) (h : Q (.bool (dif.isNone && us.length == vs.length)) s) :
    wpAny (model prog w) A (compareOp .Eq (.ref l) (.ref b)) Q E s := by
  obtain ⟨⟨cls, dd, data, sl⟩, ho, hc, n, hd⟩ := hl
  obtain ⟨⟨cls2, dd2, data2, sl2⟩, ho2, hc2, n2, hd2⟩ := hb
  simp only at hc hd hc2 hd2
  subst hc hd hc2 hd2
  exact wpAny_richCompare_same_room (T := "tuple") (op := .Eq) ⟨_, ho, rfl⟩ ⟨_, ho2, rfl⟩ F.slot_tuple_eq (call_meetsIn F.slot_tuple_eq ⟨_, ho, rfl⟩ F.entry_tuple_eq (F.args_tuple_eq_2 _ _) (tuple_eqD l b us vs n n2 dd dd2 sl sl2 dif)
    ⟨ho, ho2, he, by cases dif <;> exact ⟨(fun x => nomatch x), h⟩⟩) hu
theorem rc_tuplesNe (hl : s.heap.IsTuple l us.toArray) (hb : s.heap.IsTuple b vs.toArray) (hu : A.units < cLine) (he : Diff prog w A.in1 s us vs dif) (h : Q (.bool (dif.isSome || us.length != vs.length)) s) :
    wpAny (model prog w) A (compareOp .NotEq (.ref l) (.ref b)) Q E s := by
  obtain ⟨⟨cls, dd, data, sl⟩, ho, hc, n, hd⟩ := hl
  obtain ⟨⟨cls2, dd2, data2, sl2⟩, ho2, hc2, n2, hd2⟩ := hb
  simp only at hc hd hc2 hd2
  subst hc hd hc2 hd2
  exact wpAny_richCompare_same_room (T := "tuple") (op := .NotEq) ⟨_, ho, rfl⟩ ⟨_, ho2, rfl⟩ F.slot_tuple_ne (call_meetsIn F.slot_tuple_ne ⟨_, ho, rfl⟩ F.entry_tuple_ne (F.args_tuple_ne_2 _ _) (tuple_neD l b us vs n n2 dd dd2 sl sl2 dif)
    ⟨ho, ho2, he, by cases dif <;> exact ⟨(fun x => nomatch x), h⟩⟩) hu
theorem rc_tuplesLt {k : Bool} (hl : s.heap.IsTuple l us.toArray) (hb : s.heap.IsTuple b vs.toArray) (hu : A.units < cLine) (he : Diff prog w A.in1 s us vs dif)
    (hr : ∀ p, dif = some p → ∀ (E : Value → Shared → Prop) (Q : Value → Shared → Prop), Q (.bool k) s → wpAny (model prog w) A.in1 (richCompare .Lt p.1 p.2) Q E s)
    (h : Q (.bool (if dif.isSome = true then k else decide (us.length < vs.length))) s) :
    wpAny (model prog w) A (compareOp .Lt (.ref l) (.ref b)) Q E s := by
  obtain ⟨⟨cls, dd, data, sl⟩, ho, hc, n, hd⟩ := hl
  obtain ⟨⟨cls2, dd2, data2, sl2⟩, ho2, hc2, n2, hd2⟩ := hb
  simp only at hc hd hc2 hd2
  subst hc hd hc2 hd2
  exact wpAny_richCompare_same_room (T := "tuple") (op := .Lt) ⟨_, ho, rfl⟩ ⟨_, ho2, rfl⟩ F.slot_tuple_lt (call_meetsIn F.slot_tuple_lt ⟨_, ho, rfl⟩ F.entry_tuple_lt (F.args_tuple_lt_2 _ _) (tuple_ltD l b us vs n n2 dd dd2 sl sl2 dif k)
    ⟨ho, ho2, he, hr, by cases dif <;> exact ⟨(fun x => nomatch x), h⟩⟩) hu
end
end Z

set_option Elab.async false
set_option linter.all false
set_option maxRecDepth 100000
set_option maxHeartbeats 4000000
/-! ZI: a value sought in a list, a tuple: the first place. -/
namespace Z
open PySem PySem.Spec PyProof.Rows L2
open PySem.SeqAt PySem.AutoSeq1 PySem.MeetsSeq PySem.MeetsSeq2 PySem.MeetsSeq3 PySem.SeqRoads2
/-- the first place that answers x -/
inductive Hit (P : Program) (w : World) (A : Around) (s : Shared) (x : Value) : List Value → Option Nat → Prop
  | nil : Hit P w A s x [] none
  | here {y : Value} {r : List Value} : PySem.SeqAt.EqIn P w A s y x true → Hit P w A s x (y :: r) (some 0)
  | later {y : Value} {r : List Value} {o : Option Nat} : PySem.SeqAt.EqIn P w A s y x false → Hit P w A s x r o → Hit P w A s x (y :: r) (o.map (· + 1))
section
variable {prog : Program} {w : World}
theorem drop_cons {us r : List Value} {u : Value} {i : Nat} (h : us.drop i = u :: r) : us.toArray[((i : Nat) : Int).toNat]? = some u ∧ us.drop (i + 1) = r ∧ i < us.length := by
  have hlt : i < us.length := by
    have := congrArg List.length h
    simp at this
    omega
  rw [List.drop_eq_getElem_cons hlt] at h
  injection h with a b
  exact ⟨by simp [hlt, a], b, hlt⟩
theorem drop_nil {us : List Value} {i : Nat} (h : us.drop i = []) : us.toArray[((i : Nat) : Int).toNat]? = none := by
  simp at h
  simp [h]
theorem contains_loopH (l : Addr) (us : List Value) (n : Nat) (dd : Option Addr) (sl : Array (Option Value)) (x : Value) : ∀ (r : List Value) (i : Nat) (o : Option Nat), us.drop i = r →
    MeetsIn prog w (Builtin.«list.__contains__.loop» ⟨[.ref l, x, rawInt (i : Int)], []⟩)
      (fun A R s => s.heap.get? l = some { cls := .type "list", dict := dd, data := .seq us.toArray n, slots := sl } ∧ Hit prog w A.in1 s x r o ∧ R (.ok (.ret (.bool o.isSome))) s) := by
  intro r
  induction r with
  | nil =>
    intro i o hr A R s h
    obtain ⟨hp, g, d, tk, os⟩ := s; obtain ⟨hl, he, h⟩ := h
    wp_walk using wpAny_loadPart' hl
    rw [drop_nil hr]
    cases he
    wp_walk
    exact h
  | cons u r ih =>
    intro i o hr A R s h
    obtain ⟨hp, g, d, tk, os⟩ := s; obtain ⟨hl, he, h⟩ := h
    obtain ⟨h1, h2, h3⟩ := drop_cons hr
    have hc : ((i : Int) + 1) = ((i + 1 : Nat) : Int) := by push_cast; rfl
    wp_walk using wpAny_loadPart' hl
    rw [h1]
    cases he with
    | here e1 =>
      refine wpAny_bind (e1 _ _ ?_)
      wp_walk
      exact h
    | later e1 e2 =>
      refine wpAny_bind (e1 _ _ ?_)
      wp_walk
      rw [hc]
      exact ⟨plainId_quiet plain_contains_loop _, codeAny_builtin entry_contains_loop (by
        rw [Around.under_plainId plain_contains_loop _]
        exact ih (i + 1) _ h2 A R _ ⟨hl, e2, by simpa using h⟩)⟩
theorem list_containsH (l : Addr) (us : List Value) (n : Nat) (dd : Option Addr) (sl : Array (Option Value)) (x : Value) (o : Option Nat) :
    MeetsIn prog w (Builtin.«list.__contains__» ⟨[.ref l, x], []⟩)
      (fun A R s => s.heap.get? l = some { cls := .type "list", dict := dd, data := .seq us.toArray n, slots := sl } ∧ Hit prog w A.in1 s x us o ∧ R (.ok (.ret (.bool o.isSome))) s) := by
  intro A R s h
  obtain ⟨hp, g, d, tk, os⟩ := s; obtain ⟨hl, he, h⟩ := h
  wp_walk using wpAny_loadPart' hl
  exact ⟨plainId_quiet plain_contains_loop _, codeAny_builtin entry_contains_loop (by
    rw [Around.under_plainId plain_contains_loop _]
    exact contains_loopH l us n dd sl x us 0 o rfl A R _ ⟨hl, he, h⟩)⟩
theorem tuple_containsH (l : Addr) (us : List Value) (n : Nat) (dd : Option Addr) (sl : Array (Option Value)) (x : Value) (o : Option Nat) :
    MeetsIn prog w (Builtin.«tuple.__contains__» ⟨[.ref l, x], []⟩)
      (fun A R s => s.heap.get? l = some { cls := .type "tuple", dict := dd, data := .seq us.toArray n, slots := sl } ∧ Hit prog w A.in1 s x us o ∧ R (.ok (.ret (.bool o.isSome))) s) :=
  .of_wp fun A R s h => by
    obtain ⟨hp, g, d, tk, os⟩ := s; obtain ⟨hl, he, h⟩ := h
    wp_walk using wpAny_loadPart' hl, wpAny_forIn_array _ (fun rest b s' => b.1 = none ∧ s' = ⟨hp, g, d, tk, os⟩ ∧ ∃ q, Hit prog w A.in1 ⟨hp, g, d, tk, os⟩ x rest q ∧ q.isSome = o.isSome) _
    case turn =>
      rintro y rest b s' ⟨hb', rfl, q, hq, hR⟩
      cases hq with
      | here e1 =>
        refine wpAny_bind (e1 _ _ ?_)
        wp_walk
        exact ⟨_, rfl, by rw [← hR] at h; exact h⟩
      | later e1 e2 =>
        refine wpAny_bind (e1 _ _ ?_)
        wp_walk
        exact ⟨rfl, rfl, _, e2, by rw [← hR]; simp⟩
    case fin =>
      rintro ⟨b1, b2⟩ s' ⟨hb', rfl, q, hq, hR⟩
      simp only at hb'
      subst hb'
      cases hq
      wp_walk
      exact ⟨_, rfl, by rw [← hR] at h; exact h⟩
    case h =>
      exact ⟨rfl, rfl, o, by simpa using he, rfl⟩
theorem index_loopH (l : Addr) (us : List Value) (n : Nat) (dd : Option Addr) (sl : Array (Option Value)) (x : Value) {upto : Int} (hup : (us.length : Int) ≤ upto) : ∀ (r : List Value) (i j : Nat), us.drop i = r →
    MeetsIn prog w (Builtin.«list.index.loop» ⟨[.ref l, x, rawInt (i : Int), rawInt upto], []⟩)
      (fun A R s => s.heap.get? l = some { cls := .type "list", dict := dd, data := .seq us.toArray n, slots := sl } ∧ Hit prog w A.in1 s x r (some j) ∧ R (.ok (.ret (.int ((i + j : Nat) : Int) s.toks))) { s with toks := s.toks + 1 }) := by
  intro r
  induction r with
  | nil =>
    intro i j hr A R s h
    obtain ⟨hl, he, h⟩ := h
    cases he
  | cons u r ih =>
    intro i j hr A R s h
    obtain ⟨hp, g, d, tk, os⟩ := s; obtain ⟨hl, he, h⟩ := h
    obtain ⟨h1, h2, h3⟩ := drop_cons hr
    have hst : (i : Int) < upto := by omega
    have hi : (if (i : Int) < upto then us.toArray[((i : Nat) : Int).toNat]? else none) = some u := by rw [if_pos hst]; exact h1
    have hc : ((i : Int) + 1) = ((i + 1 : Nat) : Int) := by push_cast; rfl
    wp_walk using wpAny_loadPart' hl
    rw [hi]
    generalize hj : some j = oj at he
    cases he with
    | here e1 =>
      cases hj
      refine wpAny_bind (e1 _ _ ?_)
      wp_walk
      exact h
    | @later _ _ o e1 e2 =>
      cases o with
      | none => cases hj
      | some k =>
        have hk : j = k + 1 := by simpa using hj
        subst hk
        refine wpAny_bind (e1 _ _ ?_)
        wp_walk
        rw [hc]
        exact ⟨plainId_quiet plain_index_loop _, codeAny_builtin entry_index_loop (by
          rw [Around.under_plainId plain_index_loop _]
          exact ih (i + 1) k h2 A R _ ⟨hl, e2, by rw [show i + 1 + k = i + (k + 1) by omega]; exact h⟩)⟩
theorem remove_loopH (l : Addr) (us : List Value) (n : Nat) (x : Value) (hz : us.length ≤ sizeLine) : ∀ (r : List Value) (i j : Nat), us.drop i = r →
    MeetsIn prog w (Builtin.«list.remove.loop» ⟨[.ref l, x, rawInt (i : Int)], []⟩)
      (fun A R s => s.heap.get? l = some { cls := .type "list", dict := none, data := .seq us.toArray n, slots := #[] } ∧ Hit prog w A.in1 s x r (some j) ∧
        R (.ok (.ret .none)) { s with heap := s.heap.update l (Obj.mapSeq fun xs => xs.eraseIdxIfInBounds (i + j)) }) := by
  intro r
  induction r with
  | nil =>
    intro i j hr A R s h
    obtain ⟨hl, he, h⟩ := h
    cases he
  | cons u r ih =>
    intro i j hr A R s h
    obtain ⟨hp, g, d, tk, os⟩ := s; obtain ⟨hl, he, h⟩ := h
    obtain ⟨h1, h2, h3⟩ := drop_cons hr
    have hc : ((i : Int) + 1) = ((i + 1 : Nat) : Int) := by push_cast; rfl
    wp_walk using wpAny_loadPart' hl
    rw [h1]
    generalize hj : some j = oj at he
    cases he with
    | here e1 =>
      cases hj
      refine wpAny_bind (e1 _ _ ?_)
      have hs1 : us.toArray.size ≤ sizeLine := by simpa using hz
      have hz' : (us.toArray.eraseIdxIfInBounds i).size ≤ sizeLine + 1 := Nat.le_trans (size_erased us.toArray _) (Nat.le_succ_of_le hs1)
      wp_walk using (wpAny_updateSeq hl rfl (hz := hs1) (_hz' := hz')), wpAny_loadPart' hl
      simpa using h
    | @later _ _ o e1 e2 =>
      cases o with
      | none => cases hj
      | some k =>
        have hk : j = k + 1 := by simpa using hj
        subst hk
        refine wpAny_bind (e1 _ _ ?_)
        wp_walk
        rw [hc]
        exact ⟨plainId_quiet plain_remove_loop _, codeAny_builtin entry_remove_loop (by
          rw [Around.under_plainId plain_remove_loop _]
          exact ih (i + 1) k h2 A R _ ⟨hl, e2, by rw [show i + 1 + k = i + (k + 1) by omega]; exact h⟩)⟩
theorem list_removeH (l : Addr) (us : List Value) (n : Nat) (x : Value) (hz : us.length ≤ sizeLine) (j : Nat) :
    MeetsIn prog w (Builtin.«list.remove» ⟨[.ref l, x], []⟩)
      (fun A R s => s.heap.get? l = some { cls := .type "list", dict := none, data := .seq us.toArray n, slots := #[] } ∧ Hit prog w A.in1 s x us (some j) ∧
        R (.ok (.ret .none)) { s with heap := s.heap.update l (Obj.mapSeq fun xs => xs.eraseIdxIfInBounds j) }) := by
  intro A R s h
  obtain ⟨hp, g, d, tk, os⟩ := s; obtain ⟨hl, he, h⟩ := h
  wp_walk using wpAny_loadPart' hl
  exact ⟨plainId_quiet plain_remove_loop _, codeAny_builtin entry_remove_loop (by
    rw [Around.under_plainId plain_remove_loop _]
    exact remove_loopH l us n x hz us 0 j rfl A R _ ⟨hl, he, by rw [Nat.zero_add]; exact h⟩)⟩
theorem list_indexH (l : Addr) (us : List Value) (n : Nat) (dd : Option Addr) (sl : Array (Option Value)) (x : Value) (hz : us.length ≤ sizeLine) (j : Nat) :
    MeetsIn prog w (Builtin.«list.index» ⟨[.ref l, x], []⟩)
      (fun A R s => s.heap.get? l = some { cls := .type "list", dict := dd, data := .seq us.toArray n, slots := sl } ∧ Hit prog w A.in1 s x us (some j) ∧
        R (.ok (.ret (.int j s.toks))) { s with toks := s.toks + 1 }) := by
  intro A R s h
  obtain ⟨hp, g, d, tk, os⟩ := s; obtain ⟨hl, he, h⟩ := h
  have f1 := AutoSeq1.idx_int
  wp_walk using wpAny_loadPart' hl
  have a1 : ((fun i : Int => if i < 0 then max 0 (i + (us.toArray.size : Int)) else i) ((none : Option Int).getD 0)) = ((0 : Nat) : Int) := by simp
  have a2 : ((fun i : Int => if i < 0 then max 0 (i + (us.toArray.size : Int)) else i) ((none : Option Int).getD (2 ^ 63 - 1))) = 2 ^ 63 - 1 := by simp
  rw [a1, a2]
  have hup : (us.length : Int) ≤ 2 ^ 63 - 1 := by rw [sizeLine_eq] at hz; omega
  exact ⟨plainId_quiet plain_index_loop _, codeAny_builtin entry_index_loop (by
    rw [Around.under_plainId plain_index_loop _]
    exact index_loopH l us n dd sl x hup us 0 j rfl A R _ ⟨hl, he, by rw [Nat.zero_add]; exact h⟩)⟩
/-- the place of the first hit, by numbers -/
theorem Hit.at {A : Around} {s : Shared} {x : Value} : ∀ {us : List Value} {j : Nat}, Hit prog w A s x us (some j) → ∃ h : j < us.length, PySem.SeqAt.EqIn prog w A s us[j] x true ∧ ∀ m (hm : m < us.length), m < j → PySem.SeqAt.EqIn prog w A s us[m] x false := by
  intro us
  induction us with
  | nil => intro j h; cases h
  | cons u r ih =>
    intro j h
    generalize hj : some j = oj at h
    cases h with
    | here e1 => cases hj; exact ⟨Nat.succ_pos _, e1, fun m _ h => absurd h (Nat.not_lt_zero _)⟩
    | @later _ _ o e1 e2 =>
      cases o with
      | none => cases hj
      | some k =>
        have hk : j = k + 1 := by simpa using hj
        subst hk
        obtain ⟨h1, h2, h3⟩ := ih e2
        refine ⟨Nat.succ_lt_succ h1, h2, fun m hm hlt => ?_⟩
        cases m with
        | zero => exact e1
        | succ m => exact h3 m (Nat.lt_of_succ_lt_succ hm) (Nat.lt_of_succ_lt_succ hlt)
theorem tuple_indexH (l : Addr) (us : List Value) (n : Nat) (dd : Option Addr) (sl : Array (Option Value)) (x : Value) (j : Nat) :
    MeetsIn prog w (Builtin.«tuple.index» ⟨[.ref l, x], []⟩)
      (fun A R s => s.heap.get? l = some { cls := .type "tuple", dict := dd, data := .seq us.toArray n, slots := sl } ∧ Hit prog w A.in1 s x us (some j) ∧
        R (.ok (.ret (.int j s.toks))) { s with toks := s.toks + 1 }) := by
  refine MeetsIn.of_wp fun A R s h => ?_
  obtain ⟨hp, g, d, tk, os⟩ := s; obtain ⟨hl, he, h⟩ := h
  obtain ⟨hj, e1, e2⟩ := he.at
  have f1 := AutoSeq1.idx_int
  wp_walk using wpAny_loadPart' hl, wpAny_forIn_span _ _ _ (fun i st s' => st.1 = none ∧ s' = ⟨hp, g, d, tk, os⟩ ∧ i ≤ j) _
  case turn =>
    rintro i st s' hai hib ⟨hb, rfl, hij⟩
    have hlt : i < us.length := by simp at hib; omega
    rw [Array.getElem?_eq_getElem (by simpa using hlt)]
    rcases Nat.lt_or_ge i j with h1 | h1
    · refine wpAny_bind (e2 i hlt h1 _ _ ?_)
      wp_walk
      exact ⟨rfl, rfl, h1⟩
    · have e1' : i = j := by omega
      subst e1'
      refine wpAny_bind (e1 _ _ ?_)
      wp_walk
      exact ⟨_, rfl, h⟩
  case fin =>
    rintro st s' ⟨_, _, hm⟩
    exfalso
    have : us.toArray.size = us.length := by simp
    have := Nat.le_max_right (0) (min (us.toArray.size) us.toArray.size)
    omega
  case h => exact ⟨rfl, rfl, Nat.zero_le _⟩
end
end Z

set_option Elab.async false
set_option linter.all false
set_option maxRecDepth 100000
set_option maxHeartbeats 2000000
/-! ZX0: an exception class of the program whose __init__ says super().__init__('..') and keeps its argument. -/
namespace Z
open PySem PySem.Spec PyProof.Rows L2 PySem.W
abbrev veI : String := "ValueError.__init__"
section
variable {X : Cx} {pins : List (Addr × Obj)} {σ : L2.St} {H : Hp} {s : Shared} {a C u : Addr} {A : Around} {E : Value → Shared → Prop}
/-- the bound __init__ of the base called -/
theorem call_mw {us : List Value} {Q : Value → Shared → Prop} (T : OexC X.K C) (I : Inv X pins σ H s) (e : H a = some (exo a C none)) (hu : s.heap.get? u = some (kxs_mw veI a)) (hl : us.length ≤ sizeLine) (h : ∀ s', Inv X pins σ H s' → Q .none s') :
    wpAny (model X.prog X.w) A (call (.ref u) us) Q E s := by
  obtain ⟨nm, q, N, bs, bm, sn, sub, ab, col, dd, k0, k1, k2, k3, k5, hC, hbm⟩ := T.cls
  obtain ⟨t1, ho⟩ := exo_at I.hok e
  obtain ⟨hp, g, d, t, os⟩ := s
  refine wpAny_call (codeAny_of_tree ?_)
  show wpAny _ A.in1 (callAny (.ref u) ⟨us, []⟩) _ _ _
  simp only [callAny]
  refine wpAny_bind (wpAny_load hu ?_)
  simp only [kxs_mw, show (Value.type "method-wrapper" == Value.type "method" || Value.type "method-wrapper" == Value.type "builtin_function_or_method" || Value.type "method-wrapper" == Value.type "method-wrapper") = true by decide, if_true]
  refine KFB.if_so (by decide) ?_
  refine wpAny_bind (check_bound_init F.excBase_ValueError.toExcCallFacts (I.kIn _ _ hC) ho rfl ?_)
  refine wpAny_bind (wpAny_pure (wpAny_pure ?_))
  refine ⟨plainId_quiet F.excBase_ValueError.init.plain _, codeAny_builtin F.excBase_ValueError.initEntry ?_⟩
  refine exc_init_tree (cls := .ref C) (t0 := t1) (dv := none) (c2 := .none) (c3 := .none) (b4 := .bool false) ho hl fun h' k hx _ => ?_
  have J := I.write (t' := t) (x := a) (e := a) (o := exo a C none) (by rw [e]; exact True.intro) (.inl rfl) k ⟨_, hx⟩ (exo_ok hx)
  have eu : upd H a (exo a C none) = H := by
    funext b
    by_cases hb : b = a
    · rw [hb, upd_same, e]
    · rw [upd_ne hb]
  rw [eu] at J
  exact h _ J
end
/-- the names of such an __init__ -/
structure InitS (ps : List Str) (sc : Scope) : Prop where
  kind : sc.kind = .function
  co : sc.isCoroutine = false
  gen : sc.isGenerator = false
  nd : ps.Nodup
  par : ∀ x ∈ ps, sc.names.lookup x = some .local
  nocell : ∀ y ∈ sc.names, y.2 ≠ .cell
  free : ∀ y ∈ sc.names, y.2 = .free → y.1 = ("__class__" : Str)
  cls : sc.names.lookup ("__class__" : Str) = some .free
  sup : sc.names.lookup ("super" : Str) = some .globalImplicit
abbrev fnI (qual : Str) (params : Arguments) (body : List Stmt) (scope : Scope) (cc : Addr) (dV kV doc pm : Value) (an : Option Addr) (cdv ct : Value) : FuncData :=
  { fnOf "__init__" qual params body scope dV kV doc pm an cdv ct with closure := [(("__class__" : Str), cc)] }
abbrev envI (qual : Str) (scope : Scope) (cc L f : Addr) (cdv : Value) : Env := envX qual scope L f cdv [(("__class__" : Str), cc)]
/-- its context -/
def ixOf (P : Program) (w : World) (K : PySem.W.Frag) (mg : Str → Option Value) (base : Heap) (N : List Str) (qual : Str) (scope : Scope) (cc f : Addr) (cd : Value) (A : Around) (outer : List Env) (s : Shared) (H : Hp) : Cx where
  prog := P
  w := w
  K := K
  mg := mg
  base := base
  A := A.deeper (envI qual scope cc s.heap.objs.size f cd)
  N := N
  s_0 := s
  H_0 := H
  env := envI qual scope cc s.heap.objs.size f cd
  outer := outer
  stack := envI qual scope cc s.heap.objs.size f cd :: outer
  ex := []
  calm := true
  fn := fun _ => false
  pn := []
  xe := fun _ _ => False
theorem ix_start {P : Program} {w : World} {K : PySem.W.Frag} {mg : Str → Option Value} {base : Heap} {ps : List Str} {qual : Str} {scope : Scope} {cc f C : Addr} {cd : Value} {A : Around} {outer : List Env} {s : Shared} {H : Hp} {us : List Value} {vs : List V} {h₀ : Heap} {tk : Nat}
    (S : InitS ps scope) (hd : A.handled = none) (e0 : Env0 P w K mg base A outer s H) (hl : vs.length = ps.length) (r : Vals vs us) (hns : h₀.Ns s.heap.objs.size fun x => (ps.zip us).reverse.lookup x) (hk : ∀ b o, s.heap.get? b = some o → h₀.get? b = some o)
    (hcc : ∃ o, base.get? cc = some o ∧ o.data = .cell (some (.ref C))) :
    Inv (ixOf P w K mg base ps qual scope cc f cd A outer s H) [] (L2.start ps vs) H { s with heap := h₀, toks := tk } := by
  obtain ⟨occ, hocc, hdcc⟩ := hcc
  have noA : ∀ b : Addr, b ∉ (ixOf P w K mg base ps qual scope cc f cd A outer s H).ex := fun b z => absurd (show b ∈ ([] : List Addr) from z) (by simp)
  have only : ∀ {y : Str} {c : Addr}, (ixOf P w K mg base ps qual scope cc f cd A outer s H).env.cells.lookup y = some c → y = ("__class__" : Str) ∧ c = cc := fun {y c} h => by
    have h : List.lookup y [(("__class__" : Str), cc)] = some c := h
    simp only [List.lookup] at h
    split at h
    · rename_i q
      cases h
      exact ⟨by simpa using q, rfl⟩
    · cases h
  refine ⟨⟨e0.mod, S.kind, rfl, rfl, Nat.le_refl _, fun y z c h1 h2 => (only h1).1.trans (only h2).1.symm, fun y hy => ?_, fun y c h => (by cases (show false = true from h)), fun _ => hd, Around.frames_deeper e0.frames, .inr ⟨rfl, rfl⟩, fun b z => absurd z (noA b), e0.bs, e0.bsz, fun b _ _ => noA b, fun b z => absurd z (noA b), e0.funs, e0.frf⟩,
    rfl, e0.bare, Un.kept hk, ⟨_, hns, fun i y v h1 h2 h3 => ?_⟩, fun y c h => ?_, e0.hok.fresh (Nat.le_refl _), fun y c h => ?_, fun p hp => absurd (show p ∈ ([] : List (Addr × Obj)) from hp) (by simp), e0.hok.kept hk, ?_⟩
  · have hy : scope.names.lookup y = some .cell ∨ scope.names.lookup y = some .free := hy
    rcases hy with hy | hy
    · exact absurd rfl (S.nocell _ (PySem.mem_of_lookup hy))
    · have := S.free _ (PySem.mem_of_lookup hy) rfl
      have this : y = ("__class__" : Str) := this
      subst this
      exact ⟨cc, by show List.lookup _ [(("__class__" : Str), cc)] = some cc; simp [List.lookup]⟩
  · have hi : i < vs.length := by
      have := (List.getElem?_eq_some_iff.mp (show ps[i]? = some y from h1)).1
      omega
    have ha : vs[i]? = some v := by
      unfold L2.start at h2
      rw [List.getElem?_append_left (by simpa using hi), List.getElem?_map] at h2
      cases e : vs[i]? with
      | none => rw [e] at h2; cases h2
      | some a => rw [e] at h2; cases h2; rfl
    obtain ⟨u, hu, rv⟩ := r.get ha
    have hp : ps[i]? = some y := h1
    refine ⟨u, rv, .inl ⟨S.par y (List.mem_of_getElem? hp), ?_⟩⟩
    have look : ∀ (l : List (Str × Value)), (l.map (·.1)).Nodup → (y, u) ∈ l → l.lookup y = some u := by
      intro l
      induction l with
      | nil => intro _ h; cases h
      | cons p l ih =>
        intro nd hm
        obtain ⟨z, w⟩ := p
        rw [List.map_cons, List.nodup_cons] at nd
        rcases List.mem_cons.mp hm with q | q
        · cases q; simp [List.lookup]
        · have hne : (y == z) = false := by
            simp only [beq_eq_false_iff_ne, ne_eq]
            intro e
            exact nd.1 (List.mem_map.mpr ⟨_, q, e⟩)
          simp only [List.lookup, hne]
          exact ih nd.2 q
    refine look _ ?_ ?_
    · rw [List.map_reverse]
      have : (ps.zip us).map (·.1) = ps := by
        rw [List.map_fst_zip]
        rw [← r.length, hl]
        exact Nat.le_refl _
      rw [this]
      exact List.pairwise_reverse.mpr (S.nd.imp fun h => Ne.symm h)
    · rw [List.mem_reverse]
      exact List.mem_of_getElem? (i := i) (by rw [List.getElem?_zip_eq_some]; exact ⟨hp, hu⟩)
  · obtain ⟨rfl, rfl⟩ := only h
    exact ⟨_, _, hk _ _ (e0.bs _ _ hocc).1, hdcc⟩
  · obtain ⟨rfl, rfl⟩ := only h
    exact (e0.bs _ _ hocc).2
  · unfold L2.start
    show _ = ps.length
    rw [List.length_append, List.length_map, List.length_replicate]
    omega
/-- what such an __init__ promises -/
def spI (C : Addr) (fld : Str) : Sp := fun vs H Q _ => ∃ a y, vs = [.ref a, y] ∧ H a = some (exo a C none) ∧ ∀ d, H d = none → d ≠ a → Q .non (upd (upd H d (exd d [(fld, y)])) a (exo a C (some d)))
theorem super_call {env : Env} {p0 p1 p2 p3 p4 : Pos} {msg : Str} {j : Nat} (hline : (p2.endLine == p4.line) = true) : eval (.Call (.Attribute (.Call (.Name "super" p0) [] [] p1) "__init__" p2) [.Constant (.str msg) j p3] [] p4) env = (do
      let ov ← attributeBase (.Call (.Name "super" p0) [] [] p1) "__init__" env (eval (.Call (.Name "super" p0) [] [] p1) env)
      standAt p2.atName
      let (f, first) ← holding [ov] (getMethod ov "__init__" (do return (← importBound (.Call (.Name "super" p0) [] [] p1) env).getD true))
      callWith p4 f first (backTo p4 (starEach [.Constant (.str msg) j p3] env)) []) := by
  rw [arm_eval_Call]
  unfold methodCall methodCallPos
  simp only [hline, Bool.or_true, if_true]
  rfl
theorem fn_init {CX : CXT} {P : Program} {w : World} {K : PySem.W.Frag} {mg : Str → Option Value} {base : Heap} {k : Nat} {f C cc cA : Addr} {qual msg fld self x file : Str} {tf : Tok} {params : Arguments} {scope : Scope} {dV kV doc pm ct oc : Value} {an od : Option Addr} {osl : Array (Option Value)} {oA : Obj} {vsA : Array Value} {ar : Arg} {j : Nat}
    {p0 p1 p2 p3 p4 p5 q0 q1 q2 q3 : Pos} (T : OexC K C)
    (lk : K.lookup f = some ⟨oc, od, .func (fnI qual params [.Expr (.Call (.Attribute (.Call (.Name "super" p0) [] [] p1) "__init__" p2) [.Constant (.str msg) j p3] [] p4) p5, .Assign [.Attribute (.Name self q0) fld q1] (.Name x q2) q3] scope cc dV kV doc pm an (.ref cA) ct), osl⟩)
    (hcd : codeIn K (.ref cA) qual = true) (hA : K.lookup cA = some oA) (hAd : oA.data = .fields vsA) (hAf : vsA[2]? = some (.str file tf)) (hfile : ((P.main.file : Str) == file) = true) (htop : (P.main.scope.names.lookup ("super" : Str)).isSome = false)
    (hself : (params.posonlyargs ++ params.args).head? = some ar) (har : ar.arg = self) (hcell : ∃ o, K.lookup cc = some o ∧ o.data = .cell (some (.ref C))) (hsup : mg "super" = none) (hsi : ks_superIn K C C "__init__" = some (some (.builtin veI)))
    (hB : subIn K (.ref C) (.type "ValueError") = some true) (hCC : subIn K (.ref C) (.ref C) = some true) (hop : nsIn K cStatics "thirdparty.any" = some none) (hno : findIn K (.ref C) fld = some none) (S : InitS [self, x] scope) (hline : (p2.endLine == p4.line) = true) (hdb : ∀ z ∈ [self, x], (z == ("__debug__" : Str)) = false ∧ (z == ("__classdict__" : Str)) = false) :
    FnOk P w K mg base CX (k + 1) f (fnI qual params [.Expr (.Call (.Attribute (.Call (.Name "super" p0) [] [] p1) "__init__" p2) [.Constant (.str msg) j p3] [] p4) p5, .Assign [.Attribute (.Name self q0) fld q1] (.Name x q2) q3] scope cc dV kV doc pm an (.ref cA) ct) [self, x] (spI C fld) := by
  refine ⟨fun vs H Q E ⟨a, y, e, _⟩ => by rw [e]; rfl, fun A outer s H args us vs Q E hr e0 hb r hsp => ?_⟩
  obtain ⟨a, y, rfl, ea, hq⟩ := hsp
  have KX : K.In s.heap := e0.mod.kin.keeps fun b o e => (e0.bs b o e).1
  have lim : s.heap.NoLimit := e0.mod.nolimit.keeps fun b o e => (e0.bs b o e).1
  cases r with
  | cons ra rr =>
    cases rr with
    | cons ry rn =>
      cases rn
      rename_i u0 u1
      obtain rfl : u0 = Value.ref a := ra
      refine ks_codeAny_call_defAt hr.depth (KX _ _ lk) rfl lim (PySem.W.codeRec_of KX hcd) rfl hb S.nocell (fun z hz => S.par _ (List.of_mem_zip hz).1) (fun h₀ hns kp => ?_) S.co S.gen S.kind
      have I0 : Inv (ixOf P w K mg base [self, x] qual scope cc f (.ref cA) A outer s H) [] (L2.start [self, x] [.ref a, y]) H { s with heap := h₀, toks := s.toks + ([self, x].zip [Value.ref a, u1]).length } :=
        ix_start S hr.hd e0 rfl (.cons rfl (.cons ry .nil)) hns kp (let ⟨o, h1, h2⟩ := hcell; ⟨o, e0.mod.kin _ _ h1, h2⟩)
      show PySem.wpAt _ _ _ (execs _ (envI qual scope cc s.heap.objs.size f (.ref cA))) _ _ _
      obtain ⟨nm, qq, N, bs, bm, sn, sub, ab, col, dd, k0, k1, k2, k3, k5, hC, hbm⟩ := T.cls
      have hcl : clsIn K C = some { name := nm, bases := bs, mro := .ref C :: bm, ns := N, qualname := qq, hasDict := true, slotNames := sn, subclasses := sub, abstract := ab, collection := col, hasDel := false } := by unfold clsIn; rw [hC] <;> rfl
      obtain ⟨occ, hcc1, hcc2⟩ := hcell
      generalize htk : s.toks + ([self, x].zip [Value.ref a, u1]).length = tk at I0 ⊢
      -- behind super().__init__(..)
      have rest : ∀ s1, Inv (ixOf P w K mg base [self, x] qual scope cc f (.ref cA) A outer s H) [] (L2.start [self, x] [.ref a, y]) H s1 →
          wpAny (model P w) (A.deeper (envI qual scope cc s.heap.objs.size f (.ref cA))) (execs [.Assign [.Attribute (.Name self q0) fld q1] (.Name x q2) q3] (envI qual scope cc s.heap.objs.size f (.ref cA))) (fun fl s' => CR CX outer P w H s Q E (.ok (.ret (match fl with | .ret v => v | _ => .none))) s') (fun _ _ => False) s1 := by
        intro s1 I1
        have hN0 : (ixOf P w K mg base [self, x] qual scope cc f (.ref cA) A outer s H).N[0]? = some self := rfl
        have hN1 : (ixOf P w K mg base [self, x] qual scope cc f (.ref cA) A outer s H).N[1]? = some x := rfl
        have d1 := hdb
        have ps := pss_one (ps_ost (X := ixOf P w K mg base [self, x] qual scope cc f (.ref cA) A outer s H) (f := fld) (p' := q1) (pos := q3) (pe_var (i := 0) (pos := q0) hN0 (.inl (S.par _ List.mem_cons_self)) (d1 _ List.mem_cons_self).1 (d1 _ List.mem_cons_self).2)
          (pe_var (i := 1) (pos := q2) hN1 (.inl (S.par _ (List.mem_cons_of_mem _ List.mem_cons_self))) (d1 _ (List.mem_cons_of_mem _ List.mem_cons_self)).1 (d1 _ (List.mem_cons_of_mem _ List.mem_cons_self)).2))
        refine wpAny_mono (ps.run [] s1 _ H { nx := fun _ H' => Q .non H', rt := fun _ _ => False } I1 ?_) (fun fl s' hs => ?_) fun _ _ z => z
        · exact ⟨y, rfl, .ref a, rfl, a, C, rfl, T, hno, .inl ⟨ea, fun dx n ne => hq dx n ne⟩⟩
        · cases fl with
          | next =>
            obtain ⟨σ', H', J, q⟩ := hs
            exact ⟨.non, H', J.os, J.bare, J.base, J.hok, rfl, q⟩
          | brk => obtain ⟨_, _, _, q⟩ := hs; exact q.elim
          | cont => obtain ⟨_, _, _, q⟩ := hs; exact q.elim
          | ret u => obtain ⟨_, _, _, _, _, q⟩ := hs; exact q.elim
      refine ks_wpAt_execs_cons (ks_wpAt_mono (Q := fun fl s1 => fl = .next ∧ Inv (ixOf P w K mg base [self, x] qual scope cc f (.ref cA) A outer s H) [] (L2.start [self, x] [.ref a, y]) H s1) (E := fun _ _ => False) ?_ (fun fl s1 h1 => ?_) fun _ _ z => z.elim)
      · refine ks_wpAt_Expr_any (ks_wpAt_MethodCall (ks_wpAt_super_base (f := f) (cc := cA) (of := ⟨oc, od, _, osl⟩) (oc := oA) (ar := ar) (vs := vsA) (file := file) (tf := tf) S.sup S.cls rfl rfl (I0.kIn _ _ lk) rfl hself rfl (I0.kIn _ _ hA) hAd hAf hfile htop ?_) (super_call hline)) (hi := by unfold interactive; simp [S.kind])
        obtain ⟨mb, hmb1, hmb2⟩ := I0.mod.blt
        -- super
        have hl0 : ∀ {Q : Value → Shared → Prop} {s1 : Shared} {E : Value → Shared → Prop}, (∀ b o, h₀.get? b = some o → s1.heap.get? b = some o) → Q (.type "super") s1 → wpAny (model P w) (A.deeper (envI qual scope cc s.heap.objs.size f (.ref cA))) (loadName (envI qual scope cc s.heap.objs.size f (.ref cA)) "super") Q E s1 := fun {Q s1 E} k q => by
          unfold loadName
          simp only [Env.blockKind, S.kind, show (envI qual scope cc s.heap.objs.size f (.ref cA)).kindOf "super" = some .globalImplicit from S.sup, ScopeKind.isAnnotationScope, Bool.false_and, Bool.false_eq_true, if_false]
          exact Calls.loadGlobal_builtin ((I0.mod.glob.keeps I0.bk).keeps k) hsup ((hmb1.keeps I0.bk).keeps k) ((hmb2 _ (by decide)).trans rfl) q
        refine hl0 (fun _ _ z => z) ⟨rfl, ?_⟩
        refine wpAny_loadName_free (c := cc) (v := .ref C) S.kind S.cls (by show List.lookup _ [(("__class__" : Str), cc)] = some cc; simp [List.lookup]) ⟨occ, I0.kIn _ _ hcc1, hcc2⟩ ?_
        rw [har]
        refine wpAny_loadName_local (v := .ref a) S.kind (S.par _ List.mem_cons_self) hns ?_ ?_
        · show List.lookup self [(x, u1), (self, Value.ref a)] = some (Value.ref a)
          have hne : (self == x) = false := by
            have := S.nd
            simp only [List.nodup_cons, List.mem_singleton] at this
            simpa using this.1
          simp [List.lookup, hne]
        have hCo := I0.kIn _ _ hC
        obtain ⟨t1, ho⟩ := exo_at I0.hok ea
        refine ks_wpAny_isType_cls hCo rfl ⟨rfl, ?_⟩
        refine ks_wpAny_call_super hCo rfl ho rfl (fun c z => by cases z) (looks_subIn I0.kIn hCC) fun h1 e1 k1' => ?_
        have I1 : Inv (ixOf P w K mg base [self, x] qual scope cc f (.ref cA) A outer s H) [] (L2.start [self, x] [.ref a, y]) H { s with heap := h1, toks := tk } := I0.kept (t' := tk) k1'
        have hI : InstAt h1 a ({ cls := .ref C, dict := none, data := .fields #[.ref t1, .none, .none, .none, .bool false, .none] } : Obj) C none := ⟨k1' _ _ ho, rfl, rfl, trivial⟩
        refine kxs_getMethod kxs_ValueError (C := C) (K := K) e1 (looks_opaque I1.kIn hop) (l₀ := .ref C :: bm) ?_ rfl I1.kIn ?_ (hI.type.andThen (looks_subIn I1.kIn hB)) (fun z => ?_) rfl ?_
        · exact fun A Q E s k q => wpAny_bind ((looks_clsIn I1.kIn hcl) A _ E s k (wpAny_pure q))
        · unfold ks_superIn at hsi
          rw [hcl] at hsi
          exact hsi
        · rw [z, hCo] at ho
          cases ho
        have I2 : Inv (ixOf P w K mg base [self, x] qual scope cc f (.ref cA) A outer s H) [] (L2.start [self, x] [.ref a, y]) H { s with heap := h1.push (kxs_mw veI a), toks := tk + 1 } := I1.kept (t' := tk + 1) fun b o e => Heap.get?_push_of_some _ e
        refine kxs_callWith (i := veI) (x := a) rfl (PySem.Calls.evalArgs_plain ?_)
        refine Calls.spliced_cons ?_
        refine Calls.Constant_str (k := j) (pos := p3) ?_
        have I3 : Inv (ixOf P w K mg base [self, x] qual scope cc f (.ref cA) A outer s H) [] (L2.start [self, x] [.ref a, y]) H { s with heap := h1.push (kxs_mw veI a), toks := tk + 1 + 1 } := I2.tok _
        refine Calls.spliced_nil ?_
        have hu : ({ s with heap := h1.push (kxs_mw veI a), toks := tk + 1 + 1 } : Shared).heap.get? h1.objs.size = some (kxs_mw veI a) := Heap.get?_push_size _ rfl
        refine ⟨hu, ?_⟩
        exact call_mw T I3 ea hu (by show 1 ≤ sizeLine; rw [sizeLine_eq]; omega) fun s4 I4 => ⟨rfl, I4⟩
      · obtain ⟨rfl, I1⟩ := h1
        refine PySem.wpAt_of_wpAny (wpAny_mono (rest s1 I1) (fun _ _ z => z) fun _ _ z => z.elim)
end Z

set_option Elab.async false
set_option linter.all false
/-! Z0: values, local heap, compiled syntax, the evaluator (plain Lean, nothing of the machine). -/
namespace Z

/-- a value: scalars, functions of the top, frozen tuples, lists, dicts; loc: a mutable object of the local heap -/
inductive PV where
  | non
  | bl (b : Bool)
  | int (i : Int)
  | str (s : List Nat)
  | tup (xs : List PV)
  | lst (xs : List PV)
  | dct (kvs : List (PV × PV))
  | loc (n : Nat)
  | fn (k : Nat)
  | exc (c : Nat) (fs : List PV)
  | clo (k : Nat) (vs : List PV)
  deriving Inhabited

/-- a mutable object -/
inductive Cell where
  | lst (xs : List PV)
  | dct (kvs : List (PV × PV))
  deriving Inhabited

/-- the local heap: the next number, the mutable objects, those that a walk has locked -/
structure LH where
  nxt : Nat
  cells : List (Nat × Cell)
  frz : List (Nat × Cell)
  deriving Inhabited

def LH.empty : LH := ⟨0, [], []⟩
def getC (n : Nat) : List (Nat × Cell) → Option Cell
  | [] => none
  | (m, c) :: r => if Nat.beq n m then some c else getC n r
def putC (n : Nat) (c : Cell) : List (Nat × Cell) → List (Nat × Cell)
  | [] => []
  | (m, d) :: r => if Nat.beq n m then (m, c) :: r else (m, d) :: putC n c r
def delC (n : Nat) : List (Nat × Cell) → List (Nat × Cell)
  | [] => []
  | (m, d) :: r => if Nat.beq n m then delC n r else (m, d) :: delC n r
/-- the first of that number is let go -/
def delF (n : Nat) : List (Nat × Cell) → List (Nat × Cell)
  | [] => []
  | (m, d) :: r => if Nat.beq n m then r else (m, d) :: delF n r
/-- to be read: live, or locked -/
def LH.get (S : LH) (n : Nat) : Option Cell := match getC n S.cells with
  | some c => some c
  | none => getC n S.frz
/-- to be written: live alone -/
def LH.live (S : LH) (n : Nat) : Option Cell := getC n S.cells
def LH.put (S : LH) (n : Nat) (c : Cell) : LH := ⟨S.nxt, putC n c S.cells, S.frz⟩
def LH.new (S : LH) (c : Cell) : LH := ⟨Nat.succ S.nxt, (S.nxt, c) :: S.cells, S.frz⟩
def LH.lock (S : LH) (n : Nat) (c : Cell) : LH := ⟨S.nxt, delC n S.cells, (n, c) :: S.frz⟩
def LH.unlock (S : LH) (n : Nat) (c : Cell) : LH := ⟨S.nxt, (n, c) :: S.cells, delF n S.frz⟩

inductive Out (α : Type) where
  | ok (a : α) (S : LH)
  | exn (c : Nat) (fs : List PV) (S : LH)

abbrev M (α : Type) := LH → Option (Out α)
@[inline] def M.pure {α : Type} (a : α) : M α := fun S => some (.ok a S)
@[inline] def M.bind {α β : Type} (m : M α) (f : α → M β) : M β := fun S =>
  match m S with
  | none => none
  | some (.exn c fs S1) => some (.exn c fs S1)
  | some (.ok a S1) => f a S1
def M.stuck {α : Type} : M α := fun _ => none
def M.lift {α : Type} : Option α → M α
  | none => fun _ => none
  | some a => fun S => some (.ok a S)
instance : Monad M where
  pure := M.pure
  bind := M.bind

/-! ### equality, order, hash-ability -/
def eqs : List Nat → List Nat → Bool
  | [], [] => true
  | a :: r, b :: t => if Nat.beq a b then eqs r t else false
  | _, _ => false
def lts : List Nat → List Nat → Bool
  | _, [] => false
  | [], _ :: _ => true
  | a :: r, b :: t => if Nat.blt a b then true else if Nat.beq a b then lts r t else false
def b2i : Bool → Int
  | true => 1
  | false => 0
mutual
/-- keys alike (of dicts, hashed things): no bool, list, dict -/
def eqk : PV → PV → Bool
  | .non, .non => true
  | .int i, .int j => decide (i = j)
  | .str s, .str t => eqs s t
  | .tup xs, .tup ys => eqks xs ys
  | _, _ => false
termination_by structural x => x
def eqks : List PV → List PV → Bool
  | [], [] => true
  | a :: r, b :: t => if eqk a b then eqks r t else false
  | _, _ => false
termination_by structural x => x
end
/-- may stand as a key: None, ints, texts, tuples of keys, n deep -/
def isKeyN : Nat → PV → Bool
  | 0, _ => false
  | n + 1, v => match v with
    | .non => true
    | .int _ => true
    | .str _ => true
    | .tup xs => xs.all (isKeyN n)
    | _ => false
def isKey (v : PV) : Bool := isKeyN 8 v
def isTup : PV → Bool
  | .tup _ => true
  | _ => false
/-- the key's sort is that of the dict's keys: tuples, or not -/
def sameSort (k : PV) : List (PV × PV) → Bool
  | [] => true
  | (a, _) :: _ => isTup a == isTup k
def keyFor (k : PV) (kvs : List (PV × PV)) : Bool := isKey k && sameSort k kvs
def lookK (k : PV) : List (PV × PV) → Option PV
  | [] => none
  | (a, v) :: r => if eqk a k then some v else lookK k r
/-- the kinds that == tells apart at once -/
def tagOf : PV → Nat
  | .non => 1
  | .bl _ => 2
  | .int _ => 2
  | .str _ => 3
  | .tup _ => 4
  | .lst _ => 5
  | .dct _ => 6
  | _ => 0
/-- == of unlike kinds -/
def eqTag (a b : PV) : Option Bool :=
  match tagOf a, tagOf b with
  | 0, _ => none
  | _, 0 => none
  | 6, _ => none
  | _, 6 => none
  | n, m => if Nat.beq n m then none else some false
/-! ### the compiled syntax -/
inductive BI where
  | len | all | any | sum | min | max | sorted | tuple | list | dict | str | int | repr | sortedset | lenset
  deriving DecidableEq, Inhabited
inductive MI where
  | append | extend | pop | get | index | remove | join | split | startswith | count | lstrip
  deriving DecidableEq, Inhabited
inductive Op where
  | add | sub | mul | fdiv | mod | pow
  deriving DecidableEq, Inhabited
inductive CO where
  | eq | ne | lt | le | gt | ge | isin | notin | isnone | isnotnone
  deriving DecidableEq, Inhabited
inductive Ty where
  | int | bool | str | tuple | list | dict
  deriving DecidableEq, Inhabited

mutual
inductive CE where
  | var (i : Nat)
  | cst (v : PV)
  | glb (g : Nat)
  | tup (es : List CE)
  | lst (mu : Bool) (es : List CE)
  | dct (mu : Bool) (ks vs : List CE)
  | star (e : CE)
  | bin (mu : Bool) (op : Op) (a b : CE)
  | neg (a : CE)
  | not (a : CE)
  | cmp (op : CO) (a b : CE)
  | cmp2 (op1 op2 : CO) (a b c : CE)
  | and (a b : CE)
  | or (a b : CE)
  | ite (c a b : CE)
  | idx (a i : CE)
  | slc (mu : Bool) (a : CE) (lo hi : Option CE)
  | rev (mu : Bool) (a : CE)
  | call (f : Nat) (es : List CE)
  | callv (i : Nat) (es : List CE)
  | blt (mu : Bool) (b : BI) (es : List CE)
  | isi (a : CE) (t : Ty)
  | meth (m : MI) (o : CE) (es : List CE)
  | sortk (mu : Bool) (a : CE) (fn : Bool) (k : Nat) (caps : List Nat)
  | lam (k : Nat) (caps : List Nat)
  | told (k : Nat) (e : CE)
  | lc (mu : Bool) (elt : CE) (gs : List CG) (own : List Nat)
  | dc (mu : Bool) (k v : CE) (gs : List CG) (own : List Nat)
  | fld (a : CE) (f : Nat)
/-- a clause of a comprehension -/
inductive CG where
  | mk (t : CT) (it : CI) (ifs : Option CE)
/-- what is walked -/
inductive CI where
  | val (e : CE)
  | range1 (a : CE)
  | range3 (a b c : CE)
  | zip2 (a b : CE)
  | zip3 (a b c : CE)
  | enum (a : CE)
  | items (a : CE)
  | values (a : CE)
inductive CT where
  | nm (i : Nat)
  | tup (ts : List CT)
  | sub (o i : CE)
end
inductive CS where
  | asg (t : CT) (e : CE)
  | par (ts : List CT) (es : List CE)
  | aug (i : Nat) (op : Op) (e : CE)
  | expr (e : CE)
  | ifs (c : CE) (a b : List CS)
  | for_ (t : CT) (it : CI) (b : List CS)
  | while_ (c : CE) (b : List CS)
  | ret (e : CE)
  | raise (c : Nat) (es : List CE)
  | try_ (b : List CS) (hs : List (List Nat × Nat × CE))
  | brk | cont | pass
instance : Inhabited CE := ⟨.var 0⟩
instance : Inhabited CS := ⟨.pass⟩

/-- a def of the top, or a lambda -/
structure CFn where
  np : Nat
  ns : Nat
  body : List CS
  deriving Inhabited
/-- the program: defs, lambdas, constants of the top -/
structure Prog where
  fns : List CFn
  lams : List (Nat × Nat × CE)
  glbs : List PV
  /-- defs that try the lambda that they get: how many names, the except clauses -/
  tolds : List (Nat × List (List Nat × Nat × CE))
  deriving Inhabited

/-! ### the evaluator -/
abbrev Loc := List (Option PV)
inductive Flow where
  | nx | bk | ct | rt (v : PV)
inductive OutS where
  | ok (f : Flow) (l : Loc) (S : LH)
  | exn (c : Nat) (fs : List PV) (l : Loc) (S : LH)

def nth {α : Type} : List α → Nat → Option α
  | [], _ => none
  | a :: _, 0 => some a
  | _ :: r, i + 1 => nth r i
def setL {α : Type} (v : α) : List α → Nat → List α
  | [], _ => []
  | _ :: r, 0 => v :: r
  | a :: r, i + 1 => a :: setL v r i
def getV (l : Loc) (i : Nat) : Option PV := match nth l i with
  | some (some v) => some v
  | _ => none
def wipeL (l : Loc) : List Nat → Loc
  | [] => l
  | i :: r => setL none (wipeL l r) i

/-- one level looked through -/
def top (S : LH) : PV → PV
  | .loc n => match S.get n with
    | some (.lst xs) => .lst xs
    | some (.dct kvs) => .dct kvs
    | none => .loc n
  | v => v
def mapO {α β : Type} (f : α → Option β) : List α → Option (List β)
  | [] => some []
  | a :: r => match f a with
    | none => none
    | some b => match mapO f r with
      | none => none
      | some bs => some (b :: bs)
mutual
/-- no mutable object, no closure within -/
def pureV : PV → Bool
  | .loc _ => false
  | .clo _ _ => false
  | .tup xs => pureVs xs
  | .lst xs => pureVs xs
  | .dct kvs => pureKs kvs
  | .exc _ xs => pureVs xs
  | _ => true
termination_by structural x => x
def pureVs : List PV → Bool
  | [] => true
  | a :: r => if pureV a then pureVs r else false
termination_by structural x => x
def pureKs : List (PV × PV) → Bool
  | [] => true
  | p :: r => if pureP p then pureKs r else false
termination_by structural x => x
def pureP : PV × PV → Bool
  | (_, v) => pureV v
termination_by structural x => x
end
/-- frozen, at all levels (n deep): what a pure call hands back -/
def frzV (S : LH) : Nat → PV → Option PV
  | 0, _ => none
  | n + 1, v => match v with
    | .loc a => match S.live a with
      | some (.lst xs) => match mapO (frzV S n) xs with
        | some ys => some (.lst ys)
        | none => none
      | some (.dct kvs) => match mapO (fun p : PV × PV => match frzV S n p.2 with
          | some w => some (p.1, w)
          | none => none) kvs with
        | some ys => some (.dct ys)
        | none => none
      | none => none
    | .tup xs => match mapO (frzV S n) xs with
      | some ys => some (.tup ys)
      | none => none
    | .lst xs => match mapO (frzV S n) xs with
      | some ys => some (.lst ys)
      | none => none
    | .dct kvs => match mapO (fun p : PV × PV => match frzV S n p.2 with
          | some w => some (p.1, w)
          | none => none) kvs with
      | some ys => some (.dct ys)
      | none => none
    | .clo _ _ => none
    | .exc _ _ => none
    | v => some v

/-! ### comparisons; S to look through the mutable objects -/
/-- all pairs alike, up to the first that isn't -/
def eqLs (f : PV → PV → Option Bool) : List PV → List PV → Option Bool
  | [], [] => some true
  | a :: r, b :: t => match f a b with
    | some true => eqLs f r t
    | some false => some false
    | none => none
  | _, _ => some false
def sameSorts : List (PV × PV) → List (PV × PV) → Bool
  | (a, _) :: _, (b, _) :: _ => isTup a == isTup b
  | _, _ => true
/-- each pair of the first has a like one in the second -/
def eqDs (f : PV → PV → Option Bool) (ls : List (PV × PV)) : List (PV × PV) → Option Bool
  | [] => some true
  | (k, v) :: r => match lookK k ls with
    | none => match eqDs f ls r with
      | some _ => some false
      | none => none
    | some u => match f v u with
      | some x => match eqDs f ls r with
        | some y => some (x && y)
        | none => none
      | none => none
/-- == of two values looked through; f: of their items -/
def eqT (f : PV → PV → Option Bool) (a b : PV) : Option Bool :=
  match a with
  | .non => match b with
    | .non => some true
    | b => eqTag .non b
  | .bl x => match b with
    | .bl y => some (x == y)
    | .int j => some (decide (b2i x = j))
    | b => eqTag (.bl x) b
  | .int i => match b with
    | .int j => some (decide (i = j))
    | .bl y => some (decide (i = b2i y))
    | b => eqTag (.int i) b
  | .str s => match b with
    | .str t => some (eqs s t)
    | b => eqTag (.str s) b
  | .tup xs => match b with
    | .tup ys => eqLs f xs ys
    | b => eqTag (.tup xs) b
  | .lst xs => match b with
    | .lst ys => if Nat.beq xs.length ys.length then eqLs f xs ys else some false
    | b => eqTag (.lst xs) b
  | .dct xs => match b with
    | .dct ys => if Nat.beq xs.length ys.length then (if sameSorts xs ys then eqDs f ys xs else none) else none
    | b => eqTag (.dct xs) b
  | _ => none
/-- == , n deep -/
def eqvN (S : LH) : Nat → PV → PV → Option Bool
  | 0, _, _ => none
  | n + 1, a, b => eqT (eqvN S n) (top S a) (top S b)
def eqv (S : LH) (a b : PV) : Option Bool := eqvN S 24 a b
/-- places alike, for < -/
def ltLs (S : LH) (f : PV → PV → Option Bool) : List PV → List PV → Option Bool
  | [], [] => some false
  | [], _ :: _ => some true
  | _ :: _, [] => some false
  | a :: r, b :: t => match eqv S a b with
    | some true => ltLs S f r t
    | some false => f a b
    | none => none
/-- a < b: ints, texts, tuples and lists of such -/
def ltvN (S : LH) : Nat → PV → PV → Option Bool
  | 0, _, _ => none
  | n + 1, a, b => match a with
    | .int i => match b with
      | .int j => some (decide (i < j))
      | _ => none
    | .str s => match b with
      | .str t => some (lts s t)
      | _ => none
    | .tup xs => match b with
      | .tup ys => ltLs S (ltvN S n) xs ys
      | _ => none
    | _ => none
def ltv (S : LH) (a b : PV) : Option Bool := ltvN S 24 a b
/-! ### operations -/
def okLen (n : Nat) : Bool := Nat.ble n 16777216
def mkL (mu : Bool) (xs : List PV) : M PV := fun S =>
  if okLen xs.length then (if mu then some (.ok (.loc S.nxt) (S.new (.lst xs))) else some (.ok (.lst xs) S)) else none
def mkD (mu : Bool) (kvs : List (PV × PV)) : M PV := fun S =>
  if okLen kvs.length then (if mu then some (.ok (.loc S.nxt) (S.new (.dct kvs))) else some (.ok (.dct kvs) S)) else none
def ret {α : Type} (a : α) : M α := fun S => some (.ok a S)
def truth : PV → Option Bool
  | .non => some false
  | .bl b => some b
  | .int i => some (!decide (i = 0))
  | _ => none
/-- an index, from behind too -/
def ix (i : Int) (n : Nat) : Option Nat :=
  if 0 ≤ i then (if i < n then some i.toNat else none) else (if 0 ≤ i + n then some (i + n).toNat else none)
def itemAt (t : PV) (i : PV) : Option PV :=
  match t with
  | .lst xs => match i with
    | .int k => match ix k xs.length with
      | some n => nth xs n
      | none => none
    | _ => none
  | .tup xs => match i with
    | .int k => match ix k xs.length with
      | some n => nth xs n
      | none => none
    | _ => none
  | .str xs => match i with
    | .int k => match ix k xs.length with
      | some n => match nth xs n with
        | some c => some (.str [c])
        | none => none
      | none => none
    | _ => none
  | .dct kvs => if keyFor i kvs then lookK i kvs else none
  | _ => none
def storeK (k v : PV) : List (PV × PV) → List (PV × PV)
  | [] => [(k, v)]
  | (a, u) :: r => if eqk a k then (a, v) :: r else (a, u) :: storeK k v r
def dropK (k : PV) : List (PV × PV) → List (PV × PV)
  | [] => []
  | (a, u) :: r => if eqk a k then r else (a, u) :: dropK k r
/-- bounds of a slice with step 1 -/
def clampI (n d : Nat) : Option Int → Nat
  | none => d
  | some i => if i < 0 then (i + n).toNat else min i.toNat n
def sliceL {α : Type} (lo hi : Option Int) (xs : List α) : List α :=
  (xs.drop (clampI xs.length 0 lo)).take (clampI xs.length xs.length hi - clampI xs.length 0 lo)
def memC (c : Nat) : List Nat → Bool
  | [] => false
  | a :: r => if Nat.beq a c then true else memC c r
def inSub (s : List Nat) : List Nat → Bool
  | [] => s.isEmpty
  | a :: r => (s.isPrefixOf (a :: r)) || inSub s r
/-- x in t, of a sequence -/
def isIn (S : LH) (x : PV) : List PV → Option Bool
  | [] => some false
  | a :: r => match eqv S a x with
    | some true => some true
    | some false => isIn S x r
    | none => none
def findIx (S : LH) (x : PV) : List PV → Nat → Option Nat
  | [], _ => none
  | a :: r, n => match eqv S a x with
    | some true => some n
    | some false => findIx S x r (Nat.succ n)
    | none => none
def remL (S : LH) (x : PV) : List PV → Option (List PV)
  | [] => none
  | a :: r => match eqv S a x with
    | some true => some r
    | some false => match remL S x r with
      | some t => some (a :: t)
      | none => none
    | none => none
/-- what can be put in order, n deep: None, truth values, numbers, texts, tuples of these -/
def dataN : Nat → PV → Bool
  | 0, _ => false
  | n + 1, v => match v with
    | .non => true
    | .bl _ => true
    | .int _ => true
    | .str _ => true
    | .tup xs => xs.all (dataN n)
    | _ => false
def dataV (v : PV) : Bool := dataN 12 v
/-- a sign of a key -/
inductive Tk where
  | n (i : Int)
  | s (t : List Nat)
mutual
/-- a value as a row of signs -/
def toks : PV → List Tk
  | .bl b => [.n (b2i b)]
  | .int i => [.n i]
  | .str x => [.s x]
  | .tup xs => toksAll xs
  | _ => []
termination_by structural x => x
def toksAll : List PV → List Tk
  | [] => [.n 0]
  | x :: xs => .n 1 :: (toks x ++ toksAll xs)
termination_by structural x => x
end
def tk1 (a b : Tk) : Bool :=
  match a with
  | .n i => match b with
    | .n j => decide (i < j)
    | .s _ => true
  | .s x => match b with
    | .n _ => false
    | .s y => lts x y
def tkLt : List Tk → List Tk → Bool
  | [], [] => false
  | [], _ :: _ => true
  | _ :: _, [] => false
  | a :: r, b :: t => if tk1 a b then true else if tk1 b a then false else tkLt r t
mutual
/-- the two can be compared, place by place -/
def alikeV : PV → PV → Bool
  | .non, .non => true
  | .bl _, .bl _ => true
  | .int _, .int _ => true
  | .str _, .str _ => true
  | .tup xs, .tup ys => alikeVs xs ys
  | _, _ => false
termination_by structural x => x
def alikeVs : List PV → List PV → Bool
  | [], _ => true
  | _ :: _, [] => true
  | x :: xs, y :: ys => if alikeV x y then alikeVs xs ys else false
termination_by structural x => x
end
def isTup1 : PV → Bool
  | .tup (_ :: _) => true
  | _ => false
def isAtom : PV → Bool
  | .bl _ => true
  | .int _ => true
  | .str _ => true
  | _ => false
/-- all can be put in order -/
def sortOkV (xs : List PV) : Bool := xs.all dataV && (xs.all isTup1 || xs.all isAtom) && xs.all fun a => xs.all fun b => alikeV a b
/-- a stable sort by keys: insertion from behind -/
def insT (k : List Tk) (v : PV) : List (List Tk × PV) → List (List Tk × PV)
  | [] => [(k, v)]
  | (a, u) :: r => if tkLt a k then (a, u) :: insT k v r else (k, v) :: (a, u) :: r
def sortT : List (List Tk × PV) → List (List Tk × PV)
  | [] => []
  | (k, v) :: r => insT k v (sortT r)
/-- values by their keys -/
def sortP (ks : List (PV × PV)) : Option (List PV) := if sortOkV (ks.map (·.1)) then some ((sortT (ks.map fun p => (toks p.1, p.2))).map (·.2)) else none
def isNone : PV → Bool
  | .non => true
  | _ => false
/-- the first least (greatest) -/
def bestOk (xs : List PV) : Bool := xs.all dataV && xs.all (fun v => !isNone v) && xs.all fun a => xs.all fun b => alikeV a b
def minT (m : PV) : List PV → PV
  | [] => m
  | a :: r => if tkLt (toks a) (toks m) then minT a r else minT m r
def maxT (m : PV) : List PV → PV
  | [] => m
  | a :: r => if tkLt (toks m) (toks a) then maxT a r else maxT m r
def sumL (n : Int) : List PV → Option Int
  | [] => some n
  | .int i :: r => sumL (n + i) r
  | _ => none
def allL : List PV → Option Bool
  | [] => some true
  | a :: r => match truth a with
    | some true => allL r
    | some false => some false
    | none => none
def anyL : List PV → Option Bool
  | [] => some false
  | a :: r => match truth a with
    | some false => anyL r
    | some true => some true
    | none => none
def itemsOf : PV → Option (List PV)
  | .lst xs => some xs
  | .tup xs => some xs
  | .str s => some (s.map fun c => .str [c])
  | .dct kvs => some (kvs.map (·.1))
  | _ => none
def seqOf : PV → Option (List PV)
  | .lst xs => some xs
  | .tup xs => some xs
  | _ => none
def pairsOf : List PV → Option (List (PV × PV))
  | [] => some []
  | .tup [k, v] :: r => match pairsOf r with
    | some t => some ((k, v) :: t)
    | none => none
  | _ => none
/-- pairs stored one after another -/
def storeAll : List (PV × PV) → List (PV × PV) → Option (List (PV × PV))
  | acc, [] => some acc
  | acc, (k, v) :: r => if keyFor k acc then storeAll (storeK k v acc) r else none
def catStr : List PV → Option (List (List Nat))
  | [] => some []
  | .str s :: r => match catStr r with
    | some t => some (s :: t)
    | none => none
  | _ => none
def joinS (sep : List Nat) : List (List Nat) → List Nat
  | [] => []
  | [a] => a
  | a :: r => a ++ sep ++ joinS sep r
/-- split by one sign -/
def splitS (c : Nat) : List Nat → List Nat → List (List Nat)
  | acc, [] => [acc.reverse]
  | acc, a :: r => if Nat.beq a c then acc.reverse :: splitS c [] r else splitS c (a :: acc) r
def digitsN (n : Nat) : List Nat := (Nat.toDigits 10 n).map Char.toNat
def intStr (i : Int) : List Nat := if i < 0 then 45 :: digitsN i.natAbs else digitsN i.natAbs
/-- repr, of plain values -/
def codes (s : String) : List Nat := s.toList.map Char.toNat
def plainSign (c : Nat) : Bool := Nat.ble 32 c && Nat.ble c 126 && !Nat.beq c 39 && !Nat.beq c 92
mutual
def reprV : PV → Option (List Nat)
  | .non => some (codes "None")
  | .bl true => some (codes "True")
  | .bl false => some (codes "False")
  | .int i => some (intStr i)
  | .str s => if s.all plainSign then some (39 :: s ++ [39]) else none
  | .tup [] => some (codes "()")
  | .tup [a] => match reprV a with
    | some t => some (40 :: t ++ codes ",)")
    | none => none
  | .tup (a :: b :: r) => match reprV a, reprVs (b :: r) with
    | some t, some u => some (40 :: t ++ u ++ codes ")")
    | _, _ => none
  | .lst [] => some (codes "[]")
  | .lst (a :: r) => match reprV a, reprVs r with
    | some t, some u => some (91 :: t ++ u ++ codes "]")
    | _, _ => none
  | .dct [] => some (codes "{}")
  | .dct (p :: r) => match reprP p, reprPs r with
    | some t, some u => some (123 :: t ++ u ++ codes "}")
    | _, _ => none
  | _ => none
termination_by structural x => x
def reprVs : List PV → Option (List Nat)
  | [] => some []
  | a :: r => match reprV a, reprVs r with
    | some t, some u => some (44 :: 32 :: t ++ u)
    | _, _ => none
termination_by structural x => x
def reprP : PV × PV → Option (List Nat)
  | (k, v) => match reprV k, reprV v with
    | some t, some u => some (t ++ 58 :: 32 :: u)
    | _, _ => none
termination_by structural x => x
def reprPs : List (PV × PV) → Option (List Nat)
  | [] => some []
  | p :: r => match reprP p, reprPs r with
    | some t, some u => some (44 :: 32 :: t ++ u)
    | _, _ => none
termination_by structural x => x
end
/-- bits of an int's size that a product asks -/
def mulOk (i j : Int) : Bool := (decide (i.natAbs < 18446744073709551616)) || (decide (j.natAbs < 18446744073709551616))
def repL {α : Type} (xs : List α) : Nat → List α
  | 0 => []
  | n + 1 => xs ++ repL xs n
def binOp (mu : Bool) (op : Op) (x y : PV) : M PV := fun S =>
  match op with
  | .add => match x with
    | .int i => match y with
      | .int j => some (.ok (.int (i + j)) S)
      | _ => none
    | .str s => match y with
      | .str t => if okLen (s.length + t.length) then some (.ok (.str (s ++ t)) S) else none
      | _ => none
    | .tup s => match y with
      | .tup t => if okLen (s.length + t.length) then some (.ok (.tup (s ++ t)) S) else none
      | _ => none
    | x => match top S x with
      | .lst s => match top S y with
        | .lst t => mkL mu (s ++ t) S
        | _ => none
      | _ => none
  | .sub => match x, y with
    | .int i, .int j => some (.ok (.int (i - j)) S)
    | _, _ => none
  | .mul => match y with
    | .int j => match x with
      | .int i => if mulOk i j then some (.ok (.int (i * j)) S) else none
      | x => match top S x with
        | .lst s => if 0 ≤ j ∧ j ≤ 1000000 then mkL mu (repL s j.toNat) S else none
        | _ => none
    | _ => none
  | .fdiv => match x, y with
    | .int i, .int j => if 0 < j ∧ Nat.log2 j.natAbs < 9000 then some (.ok (.int (i / j)) S) else none
    | _, _ => none
  | .mod => match x, y with
    | .int i, .int j => if 0 < j then some (.ok (.int (i % j)) S) else none
    | _, _ => none
  | .pow => match x, y with
    | .int i, .int j => if 0 ≤ j ∧ j ≤ 1000 ∧ i.natAbs < 18446744073709551616 then some (.ok (.int (i ^ j.toNat)) S) else none
    | _, _ => none
def isNon : PV → Bool
  | .non => true
  | _ => false
def notO : Option Bool → Option Bool
  | some c => some (!c)
  | none => none
/-- x in y -/
def inB (S : LH) (x y : PV) : Option Bool :=
  match top S y with
  | .str t => match x with
    | .str [c] => some (memC c t)
    | _ => none
  | .dct kvs => if keyFor x kvs then some (match lookK x kvs with | some _ => true | none => false) else none
  | .lst ys => isIn S x ys
  | .tup ys => isIn S x ys
  | _ => none
def intsB (f : Int → Int → Bool) (x y : PV) : Option Bool :=
  match x with
  | .int i => match y with
    | .int j => some (f i j)
    | _ => none
  | _ => none
/-- a comparison's answer -/
def cmpB (op : CO) (S : LH) (x y : PV) : Option Bool :=
  match op with
  | .isnone => if isNon y then some (isNon x) else none
  | .isnotnone => if isNon y then some (!isNon x) else none
  | .eq => eqv S x y
  | .ne => notO (eqv S x y)
  | .lt => ltv S x y
  | .gt => intsB (fun i j => decide (j < i)) x y
  | .le => intsB (fun i j => decide (i ≤ j)) x y
  | .ge => intsB (fun i j => decide (j ≤ i)) x y
  | .isin => inB S x y
  | .notin => notO (inB S x y)
def cmpOp (op : CO) (x y : PV) : M Bool := fun S => match cmpB op S x y with
  | some c => some (.ok c S)
  | none => none
def sliceOp (mu : Bool) (x : PV) (lo hi : Option Int) : M PV := fun S => match top S x with
  | .lst xs => mkL mu (sliceL lo hi xs) S
  | .tup xs => some (.ok (.tup (sliceL lo hi xs)) S)
  | .str xs => some (.ok (.str (sliceL lo hi xs)) S)
  | _ => none
/-- x[::-1] -/
def revOp (mu : Bool) (x : PV) : M PV := fun S => match top S x with
  | .lst xs => mkL mu xs.reverse S
  | .tup xs => some (.ok (.tup xs.reverse) S)
  | _ => none
/-- of one argument, looked through: a value -/
def oneV (f : LH → PV → Option PV) (vs : List PV) : M PV := fun S => match vs with
  | [x] => match f S (top S x) with
    | some v => some (.ok v S)
    | none => none
  | _ => none
/-- of one argument: a new list -/
def oneL' (mu : Bool) (f : LH → PV → Option (List PV)) (vs : List PV) : M PV := fun S => match vs with
  | [x] => match f S (top S x) with
    | some xs => mkL mu xs S
    | none => none
  | _ => none
def oneD' (mu : Bool) (f : LH → PV → Option (List (PV × PV))) (vs : List PV) : M PV := fun S => match vs with
  | [x] => match f S (top S x) with
    | some xs => mkD mu xs S
    | none => none
  | _ => none
def fLen (_ : LH) (x : PV) : Option PV := match x with
  | .str s => some (.int s.length)
  | .lst xs => some (.int xs.length)
  | .tup xs => some (.int xs.length)
  | .dct kvs => some (.int kvs.length)
  | _ => none
/-- truth values alone -/
def boolsL : List PV → Option (List Bool)
  | [] => some []
  | .bl b :: r => match boolsL r with
    | some t => some (b :: t)
    | none => none
  | _ => none
def fAll (_ : LH) (x : PV) : Option PV := match x with
  | .lst xs => match boolsL xs with
    | some bs => some (.bl (bs.all id))
    | none => none
  | _ => none
def fAny (_ : LH) (x : PV) : Option PV := match x with
  | .lst xs => match boolsL xs with
    | some bs => some (.bl (bs.any id))
    | none => none
  | _ => none
def fSum (_ : LH) (x : PV) : Option PV := match x with
  | .lst xs => match sumL 0 xs with
    | some c => some (.int c)
    | none => none
  | _ => none
def fMin (_ : LH) (x : PV) : Option PV := match seqOf x with
  | some (a :: r) => if bestOk (a :: r) then some (minT a r) else none
  | _ => none
def fMax (_ : LH) (x : PV) : Option PV := match seqOf x with
  | some (a :: r) => if bestOk (a :: r) then some (maxT a r) else none
  | _ => none
def fTuple (_ : LH) (x : PV) : Option PV := match seqOf x with
  | some xs => some (.tup xs)
  | none => none
def fStr (_ : LH) (x : PV) : Option PV := match x with
  | .int i => if decide (i.natAbs.log2 < 1920) then some (.str (intStr i)) else none
  | _ => none
def fInt (_ : LH) (x : PV) : Option PV := match x with
  | .int i => some (.int i)
  | .bl b => some (.int (b2i b))
  | _ => none
/-- lists, tuples, a dict's keys -/
def collOf : PV → Option (List PV)
  | .lst xs => some xs
  | .tup xs => some xs
  | .dct kvs => some (kvs.map (·.1))
  | _ => none
def fSorted (_ : LH) (x : PV) : Option (List PV) := match collOf x with
  | some xs => sortP (xs.map fun v => (v, v))
  | none => none
def fSortedSet (_ : LH) (x : PV) : Option (List PV) := match itemsOf x with
  | some xs => match storeAll [] (xs.map fun v => (v, v)) with
    | some kvs => sortP (kvs.map fun p => (p.1, p.1))
    | none => none
  | none => none
def fLenSet (_ : LH) (x : PV) : Option PV := match itemsOf x with
  | some xs => match storeAll [] (xs.map fun v => (v, v)) with
    | some kvs => some (.int kvs.length)
    | none => none
  | none => none
def fList (_ : LH) (x : PV) : Option (List PV) := seqOf x
def fDict (_ : LH) (x : PV) : Option (List (PV × PV)) := match x with
  | .lst xs => match pairsOf xs with
    | some kvs => storeAll [] kvs
    | none => none
  | .tup xs => match pairsOf xs with
    | some kvs => storeAll [] kvs
    | none => none
  | _ => none
/-- repr, of scalars -/
def fRepr (_ : LH) (x : PV) : Option PV := match x with
  | .non => some (.str (codes "None"))
  | .bl true => some (.str (codes "True"))
  | .bl false => some (.str (codes "False"))
  | .int i => if decide (i.natAbs.log2 < 1920) then some (.str (intStr i)) else none
  | .str s => if s.all plainSign && okLen (s.length + 2) then some (.str (39 :: s ++ [39])) else none
  | _ => none
def bltOp (mu : Bool) (b : BI) (vs : List PV) : M PV := match b with
  | .len => oneV fLen vs
  | .all => oneV fAll vs
  | .any => oneV fAny vs
  | .sum => oneV fSum vs
  | .min => oneV fMin vs
  | .max => oneV fMax vs
  | .tuple => oneV fTuple vs
  | .str => oneV fStr vs
  | .int => oneV fInt vs
  | .repr => oneV fRepr vs
  | .sorted => oneL' mu fSorted vs
  | .sortedset => oneL' mu fSortedSet vs
  | .lenset => oneV fLenSet vs
  | .list => oneL' mu fList vs
  | .dict => oneD' mu fDict vs
def mAppend (o : PV) (vs : List PV) : M PV := fun S => match o with
  | .loc n => match vs with
    | [x] => match S.live n with
      | some (.lst xs) => if okLen (xs.length + 1) then some (.ok .non (S.put n (.lst (xs ++ [x])))) else none
      | _ => none
    | _ => none
  | _ => none
def mGet (o : PV) (vs : List PV) : M PV := fun S => match top S o with
  | .dct kvs => match vs with
    | [k] => if keyFor k kvs then some (.ok ((lookK k kvs).getD .non) S) else none
    | [k, d] => if keyFor k kvs then some (.ok ((lookK k kvs).getD d) S) else none
    | _ => none
  | _ => none
def mIndex (o : PV) (vs : List PV) : M PV := fun S => match vs with
  | [x] => match seqOf (top S o) with
    | some xs => match findIx S x xs 0 with
      | some n => some (.ok (.int n) S)
      | none => none
    | none => none
  | _ => none
def mRemove (o : PV) (vs : List PV) : M PV := fun S => match o with
  | .loc n => match vs with
    | [x] => match S.live n with
      | some (.lst xs) => match findIx S x xs 0 with
        | some j => some (.ok .non (S.put n (.lst (xs.eraseIdx j))))
        | none => none
      | _ => none
    | _ => none
  | _ => none
def mJoin (o : PV) (vs : List PV) : M PV := fun S => match o with
  | .str sep => match vs with
    | [x] => match seqOf (top S x) with
      | some xs => match catStr xs with
        | some ts => if okLen ((ts.map List.length).sum + ts.length * sep.length) then some (.ok (.str (joinS sep ts)) S) else none
        | none => none
      | none => none
    | _ => none
  | _ => none
def methOp (m : MI) (o : PV) (vs : List PV) : M PV := match m with
  | .append => mAppend o vs
  | .get => mGet o vs
  | .index => mIndex o vs
  | .remove => mRemove o vs
  | .join => mJoin o vs
  | _ => fun _ => none
def storeAt (o i v : PV) : M Unit := fun S =>
  match o with
  | .loc n => match S.live n with
    | some (.lst xs) => match i with
      | .int k => match ix k xs.length with
        | some j => some (.ok () (S.put n (.lst (setL v xs j))))
        | none => none
      | _ => none
    | some (.dct kvs) => if keyFor i kvs && okLen (kvs.length + 1) then some (.ok () (S.put n (.dct (storeK i v kvs)))) else none
    | none => none
  | _ => none
def hasTy (v : PV) (t : Ty) : Option Bool :=
  match v, t with
  | .int _, .int => some true
  | .bl _, .int => some true
  | .bl _, .bool => some true
  | .str _, .str => some true
  | .tup _, .tuple => some true
  | .lst _, .list => some true
  | .dct _, .dict => some true
  | .loc _, _ => none
  | .exc _ _, _ => none
  | .fn _, _ => none
  | .clo _ _, _ => none
  | _, _ => some false

/-! ### the evaluator's step: sub-runs by R -/
structure Rc where
  E : CE → Loc → LH → Option (Out PV)
  S : CS → Loc → LH → Option OutS
  F : Nat → List PV → LH → Option (Out PV)
  L : Nat → List PV → List PV → LH → Option (Out PV)

def orO {α β : Type} (x : Option (Out α)) (f : α → LH → Option (Out β)) : Option (Out β) := match x with
  | some (.ok a S) => f a S
  | some (.exn c fs S) => some (.exn c fs S)
  | none => none
/-- a value as a test -/
def testM (m : Loc → LH → Option (Out PV)) (l : Loc) (S : LH) : Option (Out Bool) := orO (m l S) fun v S1 => match truth v with
  | some c => some (.ok c S1)
  | none => none
def evEs (R : Rc) : List CE → Loc → LH → Option (Out (List PV))
  | [], _, S => some (.ok [] S)
  | e :: r, l, S => match e with
    | .star e => orO (R.E e l S) fun v S1 => match seqOf (top S1 v) with
      | some xs => orO (evEs R r l S1) fun ys S2 => some (.ok (xs ++ ys) S2)
      | none => none
    | e => orO (R.E e l S) fun v S1 => orO (evEs R r l S1) fun ys S2 => some (.ok (v :: ys) S2)
/-- a bound that may be left out -/
def evO (R : Rc) : Option CE → Loc → LH → Option (Out (Option Int))
  | none, _, S => some (.ok none S)
  | some e, l, S => orO (R.E e l S) fun v S1 => match v with
    | .int i => some (.ok (some i) S1)
    | _ => none
/-- keys and values, pair by pair -/
def evKs (R : Rc) : List CE → List CE → Loc → LH → Option (Out (List (PV × PV)))
  | [], [], _, S => some (.ok [] S)
  | k :: ks, v :: vs, l, S => orO (R.E k l S) fun a S1 => orO (R.E v l S1) fun b S2 => orO (evKs R ks vs l S2) fun r S3 => some (.ok ((a, b) :: r) S3)
  | _, _, _, _ => none
mutual
/-- a target gets a value -/
def asgT (R : Rc) : CT → PV → Loc → LH → Option (Loc × LH)
  | .nm i, v, l, S => some (setL (some v) l i, S)
  | .tup ts, v, l, S => match seqOf (top S v) with
    | some xs => asgTs R ts xs l S
    | none => none
  | .sub o i, v, l, S => match R.E o l S with
    | some (.ok ov S1) => match R.E i l S1 with
      | some (.ok iv S2) => match storeAt ov iv v S2 with
        | some (.ok _ S3) => some (l, S3)
        | _ => none
      | _ => none
    | _ => none
termination_by structural x => x
def asgTs (R : Rc) : List CT → List PV → Loc → LH → Option (Loc × LH)
  | [], [], l, S => some (l, S)
  | t :: ts, v :: vs, l, S => match asgT R t v l S with
    | some (l1, S1) => asgTs R ts vs l1 S1
    | none => none
  | _, _, _, _ => none
termination_by structural x => x
end
/-- what is walked: the items, the objects that are locked meanwhile, with what they hold -/
def lockV (S : LH) : PV → LH × List (Nat × Cell)
  | .loc n => match S.live n with
    | some c => (S.lock n c, [(n, c)])
    | none => (S, [])
  | _ => (S, [])
def unlockL : List (Nat × Cell) → LH → LH
  | [], S => S
  | (n, c) :: r, S => unlockL r (S.unlock n c)
def rangeL (a st : Int) : Nat → List PV
  | 0 => []
  | n + 1 => .int a :: rangeL (a + st) st n
def zipL : List PV → List PV → List PV
  | a :: r, b :: t => .tup [a, b] :: zipL r t
  | _, _ => []
def zip3L : List PV → List PV → List PV → List PV
  | a :: r, b :: t, c :: u => .tup [a, b, c] :: zip3L r t u
  | _, _, _ => []
def enumL : Int → List PV → List PV
  | _, [] => []
  | n, a :: r => .tup [.int n, a] :: enumL (n + 1) r
structure Src where
  its : List PV
  S : LH
  lk : List (Nat × Cell)
/-- two lists, or two tuples -/
def zipSrc (x y : PV) (S2 : LH) : Option (Out Src) :=
  let p := lockV S2 x
  let q := lockV p.1 y
  match top S2 x with
  | .lst xs => match top S2 y with
    | .lst ys => some (.ok ⟨zipL xs ys, q.1, q.2 ++ p.2⟩ q.1)
    | _ => none
  | .tup xs => match top S2 y with
    | .tup ys => some (.ok ⟨zipL xs ys, q.1, q.2 ++ p.2⟩ q.1)
    | _ => none
  | _ => none
/-- a walk's beginning -/
def srcOf (R : Rc) : CI → Loc → LH → Option (Out Src)
  | .val e, l, S => orO (R.E e l S) fun v S1 => match itemsOf (top S1 v) with
    | some xs => let p := lockV S1 v; some (.ok ⟨xs, p.1, p.2⟩ p.1)
    | none => none
  | .range1 a, l, S => orO (R.E a l S) fun v S1 => match v with
    | .int n => if decide (-1000000 < n ∧ n < 1000000) then some (.ok ⟨rangeL 0 1 n.toNat, S1, []⟩ S1) else none
    | _ => none
  | .range3 a b c, l, S => orO (R.E a l S) fun x S1 => orO (R.E b l S1) fun y S2 => orO (R.E c l S2) fun z S3 => match x with
    | .int x => match y with
      | .int y => match z with
        | .int z =>
          if decide (-1000000 < x ∧ x < 1000000 ∧ -1000000 < y ∧ y < 1000000) then
            (if decide (z = 1) then some (.ok ⟨rangeL x 1 (y - x).toNat, S3, []⟩ S3)
             else if decide (z = -1) then some (.ok ⟨rangeL x (-1) (x - y).toNat, S3, []⟩ S3) else none) else none
        | _ => none
      | _ => none
    | _ => none
  | .zip2 a b, l, S => orO (R.E a l S) fun x S1 => orO (R.E b l S1) fun y S2 => zipSrc x y S2
  | .zip3 a b c, l, S => orO (R.E a l S) fun x S1 => orO (R.E b l S1) fun y S2 => orO (R.E c l S2) fun z S3 => match itemsOf (top S3 x) with
    | some xs => match itemsOf (top S3 y) with
      | some ys => match itemsOf (top S3 z) with
        | some zs =>
          let p := lockV S3 x
          let q := lockV p.1 y
          let r := lockV q.1 z
          some (.ok ⟨zip3L xs ys zs, r.1, r.2 ++ (q.2 ++ p.2)⟩ r.1)
        | none => none
      | none => none
    | none => none
  | .enum a, l, S => orO (R.E a l S) fun x S1 => match itemsOf (top S1 x) with
    | some xs => let p := lockV S1 x; some (.ok ⟨enumL 0 xs, p.1, p.2⟩ p.1)
    | none => none
  | .items a, l, S => orO (R.E a l S) fun x S1 => match top S1 x with
    | .dct kvs => let p := lockV S1 x; some (.ok ⟨kvs.map fun q => .tup [q.1, q.2], p.1, p.2⟩ p.1)
    | _ => none
  | .values a, l, S => orO (R.E a l S) fun x S1 => match top S1 x with
    | .dct kvs => let p := lockV S1 x; some (.ok ⟨kvs.map (·.2), p.1, p.2⟩ p.1)
    | _ => none
def testO (R : Rc) : Option CE → Loc → LH → Option (Bool × LH)
  | none, _, S => some (true, S)
  | some e, l, S => match testM (R.E e) l S with
    | some (.ok c S1) => some (c, S1)
    | _ => none
/-- a clause's turns -/
def loopG {α : Type} (R : Rc) (f : Loc → α → LH → Option (α × LH)) (t : CT) (ifs : Option CE) (l : Loc) : List PV → α → LH → Option (α × LH)
  | [], acc, S => some (acc, S)
  | v :: r, acc, S => match asgT R t v l S with
    | some (l1, S1) => match testO R ifs l1 S1 with
      | some (true, S2) => match f l1 acc S2 with
        | some (acc1, S3) => loopG R f t ifs l r acc1 S3
        | none => none
      | some (false, S2) => loopG R f t ifs l r acc S2
      | none => none
    | none => none
def evGs {α : Type} (R : Rc) (f : Loc → α → LH → Option (α × LH)) : List CG → Loc → α → LH → Option (α × LH)
  | [], l, acc, S => f l acc S
  | .mk t it ifs :: gs, l, acc, S => match srcOf R it l S with
    | some (.ok s _) => match loopG R (evGs R f gs) t ifs l s.its acc s.S with
      | some (acc1, S2) => some (acc1, unlockL s.lk S2)
      | none => none
    | _ => none
/-- a comprehension: the first thing walked stands outside -/
def evComp {α : Type} (R : Rc) (f : Loc → α → LH → Option (α × LH)) (own : List Nat) : List CG → Loc → α → LH → Option (Out α)
  | [], _, _, _ => none
  | .mk t it ifs :: gs, l, acc, S => match srcOf R it l S with
    | some (.ok s _) => match loopG R (evGs R f gs) t ifs (wipeL l own) s.its acc s.S with
      | some (acc1, S2) => some (.ok acc1 (unlockL s.lk S2))
      | none => none
    | some (.exn c fs S1) => some (.exn c fs S1)
    | none => none
/-- what an except suite hands back: of the error's fields -/
def evH (i : Nat) (fs : List PV) : CE → Option PV
  | .cst v => some v
  | .fld (.var j) f => if Nat.beq i j then nth fs f else none
  | .tup es => match evHs i fs es with
    | some vs => some (.tup vs)
    | none => none
  | _ => none
where evHs (i : Nat) (fs : List PV) : List CE → Option (List PV)
  | [] => some []
  | .cst v :: r => match evHs i fs r with
    | some t => some (v :: t)
    | none => none
  | .fld (.var j) f :: r => if Nat.beq i j then (match nth fs f with
      | some v => match evHs i fs r with
        | some t => some (v :: t)
        | none => none
      | none => none) else none
  | _ => none
def capsOf : List Nat → Loc → Option (List PV)
  | [], _ => some []
  | i :: r, l => match getV l i with
    | some v => match capsOf r l with
      | some t => some (v :: t)
      | none => none
    | none => none
/-- a sort by a lambda, a def -/
def keysBy (f : PV → LH → Option (Out PV)) : List PV → LH → Option (List (PV × PV) × LH)
  | [], S => some ([], S)
  | v :: r, S => match f v S with
    | some (.ok kv S1) => match keysBy f r S1 with
      | some (t, S2) => some ((kv, v) :: t, S2)
      | none => none
    | _ => none
def keyF (R : Rc) (fn : Bool) (k : Nat) (cs : List PV) (v : PV) (S : LH) : Option (Out PV) := match fn with
  | true => R.F k [v] S
  | false => R.L k cs [v] S
abbrev Ev := Loc → LH → Option (Out PV)
abbrev Evs := Loc → LH → Option (Out (List PV))
def eVar (i : Nat) : Ev := fun l S => match getV l i with
  | some v => some (.ok v S)
  | none => none
def eCst (v : PV) : Ev := fun _ S => some (.ok v S)
def eGlb (P : Prog) (g : Nat) : Ev := fun _ S => match nth P.glbs g with
  | some v => some (.ok v S)
  | none => none
def eTup (m : Evs) : Ev := fun l S => orO (m l S) fun vs S1 => if okLen vs.length then some (.ok (.tup vs) S1) else none
def eLst (mu : Bool) (m : Evs) : Ev := fun l S => orO (m l S) fun vs S1 => mkL mu vs S1
def eDct (mu : Bool) (m : Loc → LH → Option (Out (List (PV × PV)))) : Ev := fun l S => orO (m l S) fun kvs S1 => match storeAll [] kvs with
  | some r => mkD mu r S1
  | none => none
def eBin (mu : Bool) (op : Op) (a b : Ev) : Ev := fun l S => orO (a l S) fun x S1 => orO (b l S1) fun y S2 => binOp mu op x y S2
def eNeg (a : Ev) : Ev := fun l S => orO (a l S) fun x S1 => match x with
  | .int i => some (.ok (.int (-i)) S1)
  | _ => none
def eNot (a : Ev) : Ev := fun l S => orO (a l S) fun x S1 => match x with
  | .bl c => some (.ok (.bl (!c)) S1)
  | _ => none
def eCmp (op : CO) (a b : Ev) : Ev := fun l S => orO (a l S) fun x S1 => orO (b l S1) fun y S2 => match cmpB op S2 x y with
  | some c => some (.ok (.bl c) S2)
  | none => none
def eCmp2 (op1 op2 : CO) (a b c : Ev) : Ev := fun l S => orO (a l S) fun x S1 => orO (b l S1) fun y S2 => match cmpB op1 S2 x y with
  | some true => orO (c l S2) fun z S3 => match cmpB op2 S3 y z with
    | some d => some (.ok (.bl d) S3)
    | none => none
  | some false => some (.ok (.bl false) S2)
  | none => none
def eAnd (a b : Ev) : Ev := fun l S => orO (a l S) fun x S1 => match x with
  | .bl true => b l S1
  | .bl false => some (.ok (.bl false) S1)
  | _ => none
def eOr (a b : Ev) : Ev := fun l S => orO (a l S) fun x S1 => match x with
  | .bl true => some (.ok (.bl true) S1)
  | .bl false => b l S1
  | _ => none
def eIte (c a b : Ev) : Ev := fun l S => orO (testM c l S) fun k S1 => match k with
  | true => a l S1
  | false => b l S1
def eIdx (a i : Ev) : Ev := fun l S => orO (a l S) fun x S1 => orO (i l S1) fun y S2 => match itemAt (top S2 x) y with
  | some v => some (.ok v S2)
  | none => none
def eSlc (mu : Bool) (a : Ev) (lo hi : Loc → LH → Option (Out (Option Int))) : Ev := fun l S => orO (a l S) fun x S1 => orO (lo l S1) fun p S2 => orO (hi l S2) fun q S3 => sliceOp mu x p q S3
def eRev (mu : Bool) (a : Ev) : Ev := fun l S => orO (a l S) fun x S1 => revOp mu x S1
def eCall (f : List PV → LH → Option (Out PV)) (m : Evs) : Ev := fun l S => orO (m l S) fun vs S1 => f vs S1
def eCallv (R : Rc) (i : Nat) (m : Evs) : Ev := fun l S => match getV l i with
  | some (.fn f) => orO (m l S) fun vs S1 => R.F f vs S1
  | some (.clo k cs) => orO (m l S) fun vs S1 => R.L k cs vs S1
  | _ => none
def eBlt (mu : Bool) (b : BI) (m : Evs) : Ev := fun l S => orO (m l S) fun vs S1 => bltOp mu b vs S1
def eIsi (a : Ev) (t : Ty) : Ev := fun l S => orO (a l S) fun x S1 => match hasTy (top S1 x) t with
  | some c => some (.ok (.bl c) S1)
  | none => none
/-- the kinds that have the method -/
def methTag (m : MI) (t : Nat) : Bool := match m with
  | .append => Nat.beq t 5
  | .extend => Nat.beq t 5
  | .remove => Nat.beq t 5
  | .pop => if Nat.beq t 5 then true else Nat.beq t 6
  | .get => Nat.beq t 6
  | .index => if Nat.beq t 5 then true else Nat.beq t 4
  | .join => Nat.beq t 3
  | .split => Nat.beq t 3
  | .startswith => Nat.beq t 3
  | .count => Nat.beq t 3
  | .lstrip => Nat.beq t 3
def eMeth (mt : MI) (o : Ev) (m : Evs) : Ev := fun l S => orO (o l S) fun x S1 => if methTag mt (tagOf (top S1 x)) then orO (m l S1) fun vs S2 => if Nat.beq (tagOf (top S1 x)) (tagOf (top S2 x)) then methOp mt x vs S2 else none else none
/-- sorted, its keys told by f -/
def eSortk (mu : Bool) (a : Ev) (caps : List Nat) (f : List PV → PV → LH → Option (Out PV)) : Ev := fun l S => orO (a l S) fun x S1 => match capsOf caps l with
  | some cs => match collOf (top S1 x) with
    | some xs => match keysBy (f cs) xs S1 with
      | some (ks, S2) => match sortP ks with
        | some ys => mkL mu ys S2
        | none => none
      | none => none
    | none => none
  | none => none
def eLam (k : Nat) (caps : List Nat) : Ev := fun l S => match capsOf caps l with
  | some vs => some (.ok (.clo k vs) S)
  | none => none
def memN (n : Nat) : List Nat → Bool
  | [] => false
  | a :: r => if Nat.beq a n then true else memN n r
/-- the first clause that takes the class -/
def clauseOf (c : Nat) : List (List Nat × Nat × CE) → Option (Nat × CE)
  | [] => none
  | (cs, i, e) :: r => if memN c cs then some (i, e) else clauseOf c r
/-- a lambda's run, tried -/
def toldR (ns : Nat) (hs : List (List Nat × Nat × CE)) : Option (Out PV) → Option (Out PV)
  | some (.ok _ S1) => some (.ok .non S1)
  | some (.exn c fs S1) => match clauseOf c hs with
    | some (i, e) => match (if Nat.blt i ns then evH i fs e else none) with
      | some v => some (.ok v S1)
      | none => none
    | none => none
  | none => none
/-- two levels below, its value let go -/
def eLow (R : Rc) (e : CE) : Ev := fun l S => match R.S (.expr e) l S with
  | some (.ok .nx _ S1) => some (.ok .non S1)
  | some (.exn c fs _ S1) => some (.exn c fs S1)
  | _ => none
def eTold (P : Prog) (k : Nat) (m : Ev) : Ev := fun l S => match nth P.tolds k with
  | some (ns, hs) => toldR ns hs (m l S)
  | none => none
/-- a turn's item, put ahead of the others -/
def oneL (e : Ev) : Loc → List PV → LH → Option (List PV × LH) := fun l1 acc S1 => match e l1 S1 with
  | some (.ok v S2) => some (v :: acc, S2)
  | _ => none
def oneD (k v : Ev) : Loc → List (PV × PV) → LH → Option (List (PV × PV) × LH) := fun l1 acc S1 => match k l1 S1 with
  | some (.ok kv S2) => match v l1 S2 with
    | some (.ok vv S3) => if keyFor kv acc then some (storeK kv vv acc, S3) else none
    | _ => none
  | _ => none
def stepE (P : Prog) (R : Rc) : CE → Ev
  | .var i => eVar i
  | .cst v => eCst v
  | .glb g => eGlb P g
  | .tup es => eTup (evEs R es)
  | .lst mu es => eLst mu (evEs R es)
  | .dct mu ks vs => eDct mu (evKs R ks vs)
  | .star _ => fun _ _ => none
  | .bin mu op a b => eBin mu op (R.E a) (R.E b)
  | .neg a => eNeg (R.E a)
  | .not a => eNot (R.E a)
  | .cmp op a b => eCmp op (R.E a) (R.E b)
  | .cmp2 op1 op2 a b c => eCmp2 op1 op2 (R.E a) (R.E b) (R.E c)
  | .and a b => eAnd (R.E a) (R.E b)
  | .or a b => eOr (R.E a) (R.E b)
  | .ite c a b => eIte (R.E c) (R.E a) (R.E b)
  | .idx a i => eIdx (R.E a) (R.E i)
  | .slc mu a lo hi => eSlc mu (R.E a) (evO R lo) (evO R hi)
  | .rev mu a => eRev mu (R.E a)
  | .call f es => eCall (R.F f) (evEs R es)
  | .callv i es => eCallv R i (evEs R es)
  | .blt mu b es => eBlt mu b (evEs R es)
  | .isi a t => eIsi (R.E a) t
  | .meth m o es => eMeth m (R.E o) (evEs R es)
  | .sortk mu a fn k caps => eSortk mu (R.E a) caps (keyF R fn k)
  | .lam k caps => eLam k caps
  | .told k e => eTold P k (eLow R e)
  | .lc mu elt gs own => fun l S => orO (evComp R (oneL (R.E elt)) own gs l [] S) fun acc S1 => mkL mu acc.reverse S1
  | .dc mu k v gs own => fun l S => orO (evComp R (oneD (R.E k) (R.E v)) own gs l [] S) fun acc S1 => mkD mu acc S1
  | .fld _ _ => fun _ _ => none

def toS {α : Type} (l : Loc) (x : Option (Out α)) (f : α → LH → Option OutS) : Option OutS := match x with
  | some (.ok v S) => f v S
  | some (.exn c fs S) => some (.exn c fs l S)
  | none => none
def evSs (R : Rc) : List CS → Loc → LH → Option OutS
  | [], l, S => some (.ok .nx l S)
  | s :: r, l, S => match R.S s l S with
    | some (.ok .nx l1 S1) => evSs R r l1 S1
    | x => x
/-- the turns of a for -/
def forL (R : Rc) (t : CT) (b : List CS) : List PV → Loc → LH → Option OutS
  | [], l, S => some (.ok .nx l S)
  | v :: r, l, S => match asgT R t v l S with
    | some (l1, S1) => match evSs R b l1 S1 with
      | some (.ok .nx l2 S2) => forL R t b r l2 S2
      | some (.ok .ct l2 S2) => forL R t b r l2 S2
      | some (.ok .bk l2 S2) => some (.ok .nx l2 S2)
      | x => x
    | none => none
def whileL (R : Rc) (c : CE) (b : List CS) : Nat → Loc → LH → Option OutS
  | 0, _, _ => none
  | n + 1, l, S => toS l (testM (R.E c) l S) fun k S1 => match k with
    | true => match evSs R b l S1 with
      | some (.ok .nx l2 S2) => whileL R c b n l2 S2
      | some (.ok .ct l2 S2) => whileL R c b n l2 S2
      | some (.ok .bk l2 S2) => some (.ok .nx l2 S2)
      | y => y
    | false => some (.ok .nx l S1)
def unlockS (lk : List (Nat × Cell)) : Option OutS → Option OutS
  | some (.ok f l S) => some (.ok f l (unlockL lk S))
  | some (.exn c fs l S) => some (.exn c fs l (unlockL lk S))
  | none => none
/-- several targets, several values: the values first -/
def parT (R : Rc) : List CT → List PV → Loc → LH → Option (Loc × LH)
  | [], [], l, S => some (l, S)
  | t :: ts, v :: vs, l, S => match asgT R t v l S with
    | some (l1, S1) => parT R ts vs l1 S1
    | none => none
  | _, _, _, _ => none
abbrev Sv := Loc → LH → Option OutS
def sAsg (R : Rc) (t : CT) (e : Ev) : Sv := fun l S => toS l (e l S) fun v S1 => match asgT R t v l S1 with
  | some (l1, S2) => some (.ok .nx l1 S2)
  | none => none
def sPar (R : Rc) (ts : List CT) (m : Evs) : Sv := fun l S => toS l (m l S) fun vs S1 => match parT R ts vs l S1 with
  | some (l1, S2) => some (.ok .nx l1 S2)
  | none => none
def sAug (i : Nat) (op : Op) (e : Ev) : Sv := fun l S => match getV l i with
  | some x => toS l (e l S) fun y S1 => match x with
    | .loc _ => none
    | x => match binOp false op x y S1 with
      | some (.ok z S2) => some (.ok .nx (setL (some z) l i) S2)
      | _ => none
  | none => none
def sExpr (e : Ev) : Sv := fun l S => toS l (e l S) fun _ S1 => some (.ok .nx l S1)
def sIf (c : Ev) (a b : Sv) : Sv := fun l S => toS l (testM c l S) fun k S1 => match k with
  | true => a l S1
  | false => b l S1
def sFor (R : Rc) (t : CT) (it : CI) (b : List CS) : Sv := fun l S => toS l (srcOf R it l S) fun s _ => unlockS s.lk (forL R t b s.its l s.S)
def sRet (e : Ev) : Sv := fun l S => toS l (e l S) fun v S1 => some (.ok (.rt v) l S1)
def sRaise (c : Nat) (m : Evs) : Sv := fun l S => toS l (m l S) fun vs S1 => some (.exn c vs l S1)
def sTry (b : Sv) (hs : List (List Nat × Nat × CE)) : Sv := fun l S => match b l S with
  | some (.exn c fs l1 S1) => match clauseOf c hs with
    | some (i, e) => match (if Nat.blt i l1.length then evH i fs e else none) with
      | some v => some (.ok (.rt v) l1 S1)
      | _ => none
    | none => some (.exn c fs l1 S1)
  | x => x
def stepS (_P : Prog) (R : Rc) : CS → Sv
  | .asg t e => sAsg R t (R.E e)
  | .par ts es => sPar R ts (evEs R es)
  | .aug i op e => sAug i op (R.E e)
  | .expr e => sExpr (R.E e)
  | .ifs c a b => sIf (R.E c) (evSs R a) (evSs R b)
  | .for_ t it b => sFor R t it b
  | .while_ c b => whileL R c b 100000
  | .ret e => sRet (R.E e)
  | .raise c es => sRaise c (evEs R es)
  | .try_ b hs => sTry (evSs R b) hs
  | .brk => fun l S => some (.ok .bk l S)
  | .cont => fun l S => some (.ok .ct l S)
  | .pass => fun l S => some (.ok .nx l S)
def startL (n : Nat) (vs : List PV) : Loc := vs.map some ++ List.replicate (n - vs.length) none
def retOf : Option OutS → Option (Out PV)
  | some (.ok (.rt v) _ S) => some (.ok v S)
  | some (.ok .nx _ S) => some (.ok .non S)
  | some (.exn c fs _ S) => some (.exn c fs S)
  | _ => none
/-- a call: where all that goes in is frozen, what comes out is -/
def stepF (P : Prog) (R : Rc) (f : Nat) (vs : List PV) (S : LH) : Option (Out PV) :=
  match nth P.fns f with
  | none => none
  | some fn =>
    if Nat.beq vs.length fn.np then
      (if pureVs vs then
        match retOf (evSs R fn.body (startL fn.ns vs) LH.empty) with
        | some (.ok v S1) => match (if pureV v then some v else frzV S1 12 v) with
          | some w => some (.ok w S)
          | none => none
        | some (.exn c fs S1) => match mapO (fun v => if pureV v then some v else frzV S1 12 v) fs with
          | some ws => some (.exn c ws S)
          | none => none
        | none => none
      else retOf (evSs R fn.body (startL fn.ns vs) S))
    else none
def stepL (P : Prog) (R : Rc) (k : Nat) (cs vs : List PV) (S : LH) : Option (Out PV) :=
  match nth P.lams k with
  | none => none
  | some (np, ns, e) => if Nat.beq vs.length np then R.E e (vs.map some ++ cs.map some ++ List.replicate (ns - vs.length - cs.length) none) S else none
def step (P : Prog) (R : Rc) : Rc := ⟨stepE P R, stepS P R, stepF P R, stepL P R⟩
def Rc.none : Rc := ⟨fun _ _ _ => .none, fun _ _ _ => .none, fun _ _ _ => .none, fun _ _ _ _ => .none⟩
def run (P : Prog) : Nat → Rc
  | 0 => Rc.none
  | n + 1 => step P (run P n)
end Z

set_option Elab.async false
set_option linter.all false
set_option maxRecDepth 100000
set_option maxHeartbeats 2000000
/-! Z1: what a compiled value is in the heap; the states; a run's reading. -/
namespace Z
open PySem PySem.Spec PyProof.Rows L2

/-- the top: the program, the world, the written part, where the defs stand -/
structure Top where
  P : Program
  w : World
  K : PySem.W.Frag
  /-- the defs -/
  fa : Nat → Addr
  /-- the classes of errors, the fields' names -/
  ca : Nat → Addr
  fl : Nat → List Str
  nc : Nat
  /-- the tables of code objects of the defs that make lambdas, the lambdas' names -/
  tabs : List (Addr × Str)
abbrev Rho := Nat → Option Addr
abbrev strV (s : List Nat) : Str := ⟨s.toArray⟩
def okS (s : List Nat) : Prop := s.length ≤ 16777216 ∧ ∀ c ∈ s, c < 1114112
/-- the key as the library's -/
def nkN : Nat → PV → NestedKey
  | 0, _ => .none
  | n + 1, v => match v with
    | .int i => .num i
    | .str s => .text (strV s)
    | .tup xs => .tup (xs.map (nkN n))
    | _ => .none
def nk (v : PV) : NestedKey := nkN 8 v
/-- a dict, its entries exactly -/
def DX (a : Addr) (es : List DictEntry) (ep : Nat) : HO := .ext fun h => (a == sysModules) = false ∧ ∃ o, h.get? a = some o ∧ o.ExactDict ∧ o.data = .dict es.toArray ep
/-- keys of one sort, none twice -/
structure DOk (kvs : List (PV × PV)) : Prop where
  key : ∀ p ∈ kvs, isKey p.1 = true
  sort : ∀ p ∈ kvs, ∀ q ∈ kvs, isTup p.1 = isTup q.1
  nd : kvs.Pairwise fun p q => eqk p.1 q.1 = false
  len : kvs.length ≤ 16777216

/-- a tuple, known to have no dict of its own -/
def TupF (K : PySem.W.Frag) (F : Hp) (a : Addr) (ys : List V) : Prop := SqT K F a ys ∧ ∃ o : Obj, o.dict = none ∧ (F a = some (.frz o (.tup ys)) ∨ K.lookup a = some o)
/-- a new tuple -/
abbrev tupO (us : List Value) (ys : List V) : HO := .frz { cls := .type "tuple", data := .seq us.toArray } (.tup ys)
section
variable (T : Top)
mutual
/-- the value is v: F what is frozen, ρ where the mutable objects stand -/
inductive Rep (F : Hp) (ρ : Rho) : PV → V → Prop
  | non : Rep F ρ .non .non
  | bl (b : Bool) : Rep F ρ (.bl b) (.bl b)
  | int (i : Int) : Rep F ρ (.int i) (.int i)
  | str (s : List Nat) (h : okS s) : Rep F ρ (.str s) (.str (strV s))
  | tup {a : Addr} {ys : List V} {xs : List PV} (h : TupF T.K F a ys) (r : Reps F ρ xs ys) : Rep F ρ (.tup xs) (.ref a)
  | lst {a : Addr} {ys : List V} {xs : List PV} (h : F a = some (.lst ys)) (r : Reps F ρ xs ys) : Rep F ρ (.lst xs) (.ref a)
  | dct {a : Addr} {es : List DictEntry} {ep : Nat} {kvs : List (PV × PV)} (h : F a = some (DX a es ep)) (ok : DOk kvs) (r : RepD F ρ kvs es) : Rep F ρ (.dct kvs) (.ref a)
  | loc {n : Nat} {a : Addr} (h : ρ n = some a) : Rep F ρ (.loc n) (.ref a)
  | fn (k : Nat) : Rep F ρ (.fn k) (.ref (T.fa k))
inductive Reps (F : Hp) (ρ : Rho) : List PV → List V → Prop
  | nil : Reps F ρ [] []
  | cons {x : PV} {y : V} {xs : List PV} {ys : List V} (h : Rep F ρ x y) (r : Reps F ρ xs ys) : Reps F ρ (x :: xs) (y :: ys)
inductive RepD (F : Hp) (ρ : Rho) : List (PV × PV) → List DictEntry → Prop
  | nil : RepD F ρ [] []
  | cons {k v : PV} {x y : V} {e : DictEntry} {kvs : List (PV × PV)} {es : List DictEntry} (hk : Rep F ρ k x) (rk : RelV x e.key) (hh : e.hash = (nk k).hash T.w) (hv : Rep F ρ v y) (rv : RelV y e.val) (r : RepD F ρ kvs es) :
    RepD F ρ ((k, v) :: kvs) (e :: es)
end

structure Ext (F : Hp) (ρ : Rho) (F' : Hp) (ρ' : Rho) : Prop where
  f : ∀ a o, F a = some o → F' a = some o
  r : ∀ n a, ρ n = some a → ρ' n = some a
theorem Ext.refl {F : Hp} {ρ : Rho} : Ext F ρ F ρ := ⟨fun _ _ h => h, fun _ _ h => h⟩
theorem Ext.trans {F F1 F2 : Hp} {ρ ρ1 ρ2 : Rho} (a : Ext F ρ F1 ρ1) (b : Ext F1 ρ1 F2 ρ2) : Ext F ρ F2 ρ2 := ⟨fun _ _ h => b.f _ _ (a.f _ _ h), fun _ _ h => b.r _ _ (a.r _ _ h)⟩
variable {T}
theorem sqT_mono {K : PySem.W.Frag} {F F' : Hp} {a : Addr} {ys : List V} (e : ∀ a o, F a = some o → F' a = some o) (h : SqT K F a ys) : SqT K F' a ys := by
  rcases h with (h | ⟨o, h⟩) | h
  · exact .inl (.inl (e _ _ h))
  · exact .inl (.inr ⟨o, e _ _ h⟩)
  · exact .inr h
theorem tupF_mono {K : PySem.W.Frag} {F F' : Hp} {a : Addr} {ys : List V} (e : ∀ a o, F a = some o → F' a = some o) (h : TupF K F a ys) : TupF K F' a ys :=
  ⟨sqT_mono e h.1, let ⟨o, h1, h2⟩ := h.2; ⟨o, h1, h2.imp (e _ _) id⟩⟩
theorem tupF_new {K : PySem.W.Frag} {F : Hp} {a : Addr} {us : List Value} {ys : List V} (h : F a = some (tupO us ys)) : TupF K F a ys := ⟨.inl (.inr ⟨_, h⟩), _, rfl, .inl h⟩
mutual
theorem Rep.ext {F F' : Hp} {ρ ρ' : Rho} (e : Ext F ρ F' ρ') : ∀ {v : PV} {x : V}, Rep T F ρ v x → Rep T F' ρ' v x
  | _, _, .non => .non
  | _, _, .bl b => .bl b
  | _, _, .int i => .int i
  | _, _, .str s h => .str s h
  | _, _, .tup h r => .tup (tupF_mono e.f h) (Reps.ext e r)
  | _, _, .lst h r => .lst (e.f _ _ h) (Reps.ext e r)
  | _, _, .dct h ok r => .dct (e.f _ _ h) ok (RepD.ext e r)
  | _, _, .loc h => .loc (e.r _ _ h)
  | _, _, .fn k => .fn k
theorem Reps.ext {F F' : Hp} {ρ ρ' : Rho} (e : Ext F ρ F' ρ') : ∀ {v : List PV} {x : List V}, Reps T F ρ v x → Reps T F' ρ' v x
  | _, _, .nil => .nil
  | _, _, .cons h r => .cons (Rep.ext e h) (Reps.ext e r)
theorem RepD.ext {F F' : Hp} {ρ ρ' : Rho} (e : Ext F ρ F' ρ') : ∀ {v : List (PV × PV)} {x : List DictEntry}, RepD T F ρ v x → RepD T F' ρ' v x
  | _, _, .nil => .nil
  | _, _, .cons hk rk hh hv rv r => .cons (Rep.ext e hk) rk hh (Rep.ext e hv) rv (RepD.ext e r)
end

/-! ### states -/
variable (T) in
/-- a mutable object's content -/
def CRep (F : Hp) (ρ : Rho) : Cell → Addr → HO → Prop
  | .lst xs, _, o => ∃ ys, o = .lst ys ∧ Reps T F ρ xs ys
  | .dct kvs, a, o => ∃ es ep, o = DX a es ep ∧ DOk kvs ∧ RepD T F ρ kvs es
theorem CRep.ext {F F' : Hp} {ρ ρ' : Rho} (e : Ext F ρ F' ρ') {c : Cell} {a : Addr} {o : HO} (h : CRep T F ρ c a o) : CRep T F' ρ' c a o := by
  cases c with
  | lst xs => obtain ⟨ys, h1, h2⟩ := h; exact ⟨ys, h1, h2.ext e⟩
  | dct kvs => obtain ⟨es, ep, h1, h2, h3⟩ := h; exact ⟨es, ep, h1, h2, h3.ext e⟩
variable (T) in
/-- the tables of code objects -/
def TbOk (F G H : Hp) : Prop := ∀ p ∈ T.tabs, ∃ ps, H p.1 = some (.tbl ps) ∧ F p.1 = none ∧ G p.1 = none ∧ PySem.TriplesOk ps.toList ∧ ∀ (pos : Pos) (cv : Value), PySem.codeAmong pos ps.toList = some cv → ∃ c, cv = .ref c ∧ F c = some (LamX.CodeO c p.2)
theorem TbOk.to {F G H F' G' H' : Hp} (t : TbOk T F G H) (hH : ∀ p ps, H p = some (.tbl ps) → F p = none → G p = none → H' p = H p) (hF : ∀ a o, F a = some o → F' a = some o) (hF' : ∀ p ps, H p = some (.tbl ps) → F p = none → G p = none → F' p = none)
    (hG : ∀ p ps, H p = some (.tbl ps) → F p = none → G p = none → G' p = none) : TbOk T F' G' H' := fun p hp => by
  obtain ⟨ps, h1, h2, h3, h4, h5⟩ := t p hp
  exact ⟨ps, (hH _ _ h1 h2 h3).trans h1, hF' _ _ h1 h2 h3, hG _ _ h1 h2 h3, h4, fun pos cv hc => let ⟨c, e1, e2⟩ := h5 pos cv hc; ⟨c, e1, hF _ _ e2⟩⟩
theorem CRep.no_tbl {F : Hp} {ρ : Rho} {c : Cell} {a : Addr} {o : HO} (h : CRep T F ρ c a o) (ps : Array Value) : o ≠ .tbl ps := by
  cases c with
  | lst xs => obtain ⟨ys, rfl, _⟩ := h; intro z; cases z
  | dct kvs => obtain ⟨es, ep, rfl, _⟩ := h; intro z; cases z
variable (T) in
/-- the heap's part of a state: F frozen, G guarded by those around -/
structure RH (F G : Hp) (ρ : Rho) (S : LH) (H : Hp) : Prop where
  f : ∀ a o, F a = some o → H a = some o
  g : ∀ a o, G a = some o → H a = some o
  fg : ∀ a o, F a = some o → G a = none
  c : ∀ n c, getC n S.cells = some c → ∃ a o, ρ n = some a ∧ F a = none ∧ G a = none ∧ H a = some o ∧ CRep T F ρ c a o
  z : ∀ n c, getC n S.cells = none → getC n S.frz = some c → ∃ a o, ρ n = some a ∧ G a = some o ∧ CRep T F ρ c a o
  inj : ∀ n m a, ρ n = some a → ρ m = some a → n = m
  dom : ∀ n a, ρ n = some a → (∃ c, getC n S.cells = some c) ∨ ∃ c, getC n S.frz = some c
  nx : ∀ n, S.nxt ≤ n → ρ n = none
  tb : TbOk T F G H
variable (T) in
/-- the names' values -/
structure RL (F : Hp) (ρ : Rho) (l : Loc) (σ : L2.St) : Prop where
  v : ∀ i v, nth l i = some (some v) → ∃ x, σ[i]? = some (some x) ∧ Rep T F ρ v x
  len : l.length = σ.length
theorem RL.ext {F F' : Hp} {ρ ρ' : Rho} (e : Ext F ρ F' ρ') {l : Loc} {σ : L2.St} (h : RL T F ρ l σ) : RL T F' ρ' l σ :=
  ⟨fun i v q => let ⟨x, h1, h2⟩ := h.v i v q; ⟨x, h1, h2.ext e⟩, h.len⟩
variable (T) in
/-- an error: its class, its own dict -/
def XRep (F : Hp) (ρ : Rho) (c : Nat) (fs : List PV) (cls : Value) (d : Option Addr) : Prop :=
  c < T.nc ∧ cls = .ref (T.ca c) ∧ ∃ d0 ys, d = some d0 ∧ Reps T F ρ fs ys ∧ F d0 = some (.xd ((T.fl c).zip ys))
variable (T) in
/-- what follows a run: Rel, how the result is read -/
def AfterG {α β : Type} (Rel : Hp → Rho → α → β → Prop) (W : WX) (F G : Hp) (ρ : Rho) (σ : L2.St) (o : Out α) (Q : β → Hp → Prop) : Prop :=
  match o with
  | .ok v S' => ∀ F' ρ' x H', Ext F ρ F' ρ' → RH T F' G ρ' S' H' → Rel F' ρ' v x → Q x H'
  | .exn c fs S' => ∀ F' ρ' cls d H', Ext F ρ F' ρ' → RH T F' G ρ' S' H' → XRep T F' ρ' c fs cls d → W cls d σ H'
variable (T) in
/-- the reading of what m evaluates -/
def TZg {α β : Type} (Rel : Hp → Rho → α → β → Prop) (W : WX) (m : Loc → LH → Option (Out α)) : L2.St → Hp → (β → Hp → Prop) → Prop := fun σ H Q =>
  ∃ F G ρ l S o, RL T F ρ l σ ∧ RH T F G ρ S H ∧ m l S = some o ∧ AfterG T Rel W F G ρ σ o Q
variable (T) in
abbrev After (W : WX) (F G : Hp) (ρ : Rho) (σ : L2.St) (o : Out PV) (Q : VK) : Prop := AfterG T (Rep T) W F G ρ σ o Q
variable (T) in
/-- the reading of an expression that m evaluates -/
abbrev TZ (W : WX) (m : Loc → LH → Option (Out PV)) : TE := TZg T (Rep T) W m
variable (T) in
/-- .. of a list of arguments -/
abbrev TZs (W : WX) (m : Loc → LH → Option (Out (List PV))) : TA := TZg T (Reps T) W m
/-- a truth value read -/
def RelB (_ : Hp) (_ : Rho) (a b : Bool) : Prop := b = a
variable (T) in
/-- .. of a test -/
abbrev TZt (W : WX) (m : Loc → LH → Option (Out Bool)) : TT := TZg T RelB W m
theorem AfterG.later {α β : Type} {Rel : Hp → Rho → α → β → Prop} {W : WX} {F G F1 : Hp} {ρ ρ1 : Rho} {σ : L2.St} {o : Out α} {Q : β → Hp → Prop} (e : Ext F ρ F1 ρ1) (h : AfterG T Rel W F G ρ σ o Q) : AfterG T Rel W F1 G ρ1 σ o Q := by
  cases o with
  | ok v S' => exact fun F' ρ' x H' e' => h F' ρ' x H' (e.trans e')
  | exn c fs S' => exact fun F' ρ' cls d H' e' => h F' ρ' cls d H' (e.trans e')
theorem PE.imp {X : Cx} {e : Expr} {t t' : TE} (h : PE X e t) (i : ∀ σ H Q, t' σ H Q → t σ H Q) : PE X e t' := ⟨fun pins s σ H Q I q => h.run pins s σ H Q I (i _ _ _ q)⟩
theorem PA.imp {X : Cx} {e : List Expr} {t t' : TA} (h : PA X e t) (i : ∀ σ H Q, t' σ H Q → t σ H Q) : PA X e t' := ⟨fun pos pins s σ H Q I q => h.run pos pins s σ H Q I (i _ _ _ q)⟩
theorem PT.imp {X : Cx} {e : Expr} {t t' : TT} (h : PT X e t) (i : ∀ σ H Q, t' σ H Q → t σ H Q) : PT X e t' := ⟨fun pins s σ H Q I q => h.run pins s σ H Q I (i _ _ _ q)⟩
theorem OpR.imp {X : Cx} {f : Value → Value → Sem Value} {r r' : R2} (h : OpR X f r) (i : ∀ x y H Q, r' x y H Q → r x y H Q) : OpR X f r' := fun pins s σ H x y v u Q I rx ry q => h pins s σ H x y v u Q I rx ry (i _ _ _ _ q)

/-- a run goes on -/
theorem tz_ok {α β γ δ : Type} {Rel : Hp → Rho → α → β → Prop} {Rel2 : Hp → Rho → γ → δ → Prop} {W : WX} {m : Loc → LH → Option (Out α)} {σ : L2.St} {H : Hp} {Q : β → Hp → Prop} {F G : Hp} {ρ : Rho} {l : Loc} {S : LH}
    (rl : RL T F ρ l σ) (rh : RH T F G ρ S H) {f : α → LH → Option (Out γ)} {o : Out γ} (e : orO (m l S) f = some o) {Q2 : δ → Hp → Prop} (h : AfterG T Rel2 W F G ρ σ o Q2)
    (k : ∀ v S1 F1 ρ1 x H1, f v S1 = some o → Ext F ρ F1 ρ1 → RL T F1 ρ1 l σ → RH T F1 G ρ1 S1 H1 → Rel F1 ρ1 v x → AfterG T Rel2 W F1 G ρ1 σ o Q2 → Q x H1) : TZg T Rel W m σ H Q := by
  cases hm : m l S with
  | none => rw [hm] at e; simp [orO] at e
  | some o1 =>
    rw [hm] at e
    refine ⟨F, G, ρ, l, S, o1, rl, rh, hm, ?_⟩
    cases o1 with
    | ok v S1 => exact fun F1 ρ1 x H1 e1 rh1 r1 => k v S1 F1 ρ1 x H1 e e1 (rl.ext e1) rh1 r1 (h.later e1)
    | exn c fs S1 =>
      have : o = .exn c fs S1 := by simpa [orO] using e.symm
      subst this
      exact h
/-! ### new objects -/
theorem rh_new {F G : Hp} {ρ : Rho} {S : LH} {H : Hp} (r : RH T F G ρ S H) {p : Addr} (hp : H p = none) {o : HO} : RH T (upd F p o) G ρ S (upd H p o) := by
  have fp : F p = none := by cases q : F p with | none => rfl | some u => rw [r.f _ _ q] at hp; cases hp
  have gp : G p = none := by cases q : G p with | none => rfl | some u => rw [r.g _ _ q] at hp; cases hp
  have ex : Ext F ρ (upd F p o) ρ := ⟨fun a u e => by rw [upd_ne (ne_of_none e fp)]; exact e, fun _ _ h => h⟩
  refine ⟨fun a u e => ?_, fun a u e => ?_, fun a u e => ?_, fun n c e => ?_, fun n c e1 e2 => ?_, r.inj, r.dom, r.nx, r.tb.to (fun q ps e1 _ _ => upd_ne (fun z => by rw [z, hp] at e1; cases e1)) ex.f (fun q ps e1 e2 _ => by rw [upd_ne (fun z => by rw [z, hp] at e1; cases e1)]; exact e2) (fun _ _ _ _ e3 => e3)⟩
  · by_cases h : a = p
    · subst h; rw [upd_same] at e ⊢; exact e
    · rw [upd_ne h] at e ⊢; exact r.f _ _ e
  · rw [upd_ne (ne_of_none e gp)]; exact r.g _ _ e
  · by_cases h : a = p
    · subst h; exact gp
    · rw [upd_ne h] at e; exact r.fg _ _ e
  · obtain ⟨a, u, h1, h2, h3, h4, h5⟩ := r.c n c e
    have : a ≠ p := ne_of_none h4 hp
    exact ⟨a, u, h1, by rw [upd_ne this]; exact h2, h3, by rw [upd_ne this]; exact h4, h5.ext ex⟩
  · obtain ⟨a, u, h1, h2, h3⟩ := r.z n c e1 e2
    exact ⟨a, u, h1, h2, h3.ext ex⟩
theorem ext_new {F : Hp} {ρ : Rho} {p : Addr} {o : HO} (fp : F p = none) : Ext F ρ (upd F p o) ρ := ⟨fun a u e => by rw [upd_ne (ne_of_none e fp)]; exact e, fun _ _ h => h⟩
theorem RH.fnone {F G : Hp} {ρ : Rho} {S : LH} {H : Hp} (r : RH T F G ρ S H) {p : Addr} (hp : H p = none) : F p = none := by
  cases q : F p with | none => rfl | some u => rw [r.f _ _ q] at hp; cases hp
theorem RH.at_ {F G : Hp} {ρ : Rho} {S : LH} {H : Hp} (r : RH T F G ρ S H) (n : Nat) (a : Addr) (h : ρ n = some a) : ∃ o, H a = some o := by
  cases hc : getC n S.cells with
  | some c =>
    obtain ⟨b, o, h1, _, _, h4, _⟩ := r.c n c hc
    rw [h] at h1; cases h1
    exact ⟨o, h4⟩
  | none =>
    rcases r.dom n a h with ⟨c, z⟩ | ⟨c, z⟩
    · rw [hc] at z; cases z
    · obtain ⟨b, o, h1, h2, _⟩ := r.z n c hc z
      rw [h] at h1; cases h1
      exact ⟨o, r.g _ _ h2⟩
theorem RH.gnone {F G : Hp} {ρ : Rho} {S : LH} {H : Hp} (r : RH T F G ρ S H) {p : Addr} (hp : H p = none) : G p = none := by
  cases q : G p with | none => rfl | some u => rw [r.g _ _ q] at hp; cases hp
def setR (ρ : Rho) (n : Nat) (p : Addr) : Rho := fun m => if m = n then some p else ρ m
theorem getC_cons {n m : Nat} {c : Cell} {l : List (Nat × Cell)} : getC n ((m, c) :: l) = if n = m then some c else getC n l := by
  by_cases h : n = m
  · subst h
    rw [if_pos rfl]
    show (if Nat.beq n n = true then some c else getC n l) = some c
    rw [if_pos (Nat.beq_refl n)]
  · rw [if_neg h]
    show (if Nat.beq n m = true then some c else getC n l) = getC n l
    rw [if_neg (fun q => h (Nat.eq_of_beq_eq_true q))]
theorem rh_cell {F G : Hp} {ρ : Rho} {S : LH} {H : Hp} (r : RH T F G ρ S H) {p : Addr} (hp : H p = none) {o : HO} {c : Cell} (hc : CRep T F ρ c p o) :
    RH T F G (setR ρ S.nxt p) (S.new c) (upd H p o) ∧ Ext F ρ F (setR ρ S.nxt p) := by
  have fp := r.fnone hp
  have gp := r.gnone hp
  have ex : Ext F ρ F (setR ρ S.nxt p) := ⟨fun _ _ h => h, fun n a e => by
    unfold setR
    rw [if_neg (fun q => by rw [q, r.nx _ (Nat.le_refl _)] at e; cases e)]
    exact e⟩
  have nocell : ∀ n c, getC n S.cells = some c → n ≠ S.nxt := fun n c e q => by
    obtain ⟨a, _, h, _⟩ := r.c n c e
    rw [q, r.nx _ (Nat.le_refl _)] at h
    cases h
  refine ⟨⟨fun a u e => ?_, fun a u e => ?_, r.fg, fun n d e => ?_, fun n d e1 e2 => ?_, fun n m a h1 h2 => ?_, fun n a h1 => ?_, fun n hn => ?_, r.tb.to (fun q ps e1 _ _ => upd_ne (fun z => by rw [z, hp] at e1; cases e1)) (fun _ _ z => z) (fun _ _ _ e2 _ => e2) (fun _ _ _ _ e3 => e3)⟩, ex⟩
  · rw [upd_ne (ne_of_none e fp)]; exact r.f _ _ e
  · rw [upd_ne (ne_of_none e gp)]; exact r.g _ _ e
  · have e' : getC n ((S.nxt, c) :: S.cells) = some d := e
    rw [getC_cons] at e'
    by_cases h : n = S.nxt
    · rw [if_pos h] at e'
      cases e'
      exact ⟨p, o, by unfold setR; rw [if_pos h], fp, gp, upd_same, hc.ext ex⟩
    · rw [if_neg h] at e'
      obtain ⟨a, u, h1, h2, h3, h4, h5⟩ := r.c n d e'
      have : a ≠ p := ne_of_none h4 hp
      exact ⟨a, u, by unfold setR; rw [if_neg h]; exact h1, h2, h3, by rw [upd_ne this]; exact h4, h5.ext ex⟩
  · have e' : getC n ((S.nxt, c) :: S.cells) = none := e1
    rw [getC_cons] at e'
    by_cases h : n = S.nxt
    · rw [if_pos h] at e'; cases e'
    · rw [if_neg h] at e'
      obtain ⟨a, u, h1, h2, h3⟩ := r.z n d e' e2
      exact ⟨a, u, by unfold setR; rw [if_neg h]; exact h1, h2, h3.ext ex⟩
  · have there : ∀ k, ρ k ≠ some p := fun k z => by
      obtain ⟨v, hv⟩ := r.at_ k p z
      rw [hv] at hp; cases hp
    unfold setR at h1 h2
    by_cases hn : n = S.nxt
    · by_cases hm : m = S.nxt
      · rw [hn, hm]
      · rw [if_pos hn] at h1
        rw [if_neg hm] at h2
        cases h1
        exact absurd h2 (there m)
    · rw [if_neg hn] at h1
      by_cases hm : m = S.nxt
      · rw [if_pos hm] at h2
        cases h2
        exact absurd h1 (there n)
      · rw [if_neg hm] at h2
        exact r.inj n m a h1 h2
  · unfold setR at h1
    by_cases hn : n = S.nxt
    · exact .inl ⟨c, by show getC n ((S.nxt, c) :: S.cells) = some c; rw [getC_cons, if_pos hn]⟩
    · rw [if_neg hn] at h1
      rcases r.dom n a h1 with ⟨d, z⟩ | ⟨d, z⟩
      · exact .inl ⟨d, by show getC n ((S.nxt, c) :: S.cells) = some d; rw [getC_cons, if_neg hn]; exact z⟩
      · exact .inr ⟨d, z⟩
  · have hn' : Nat.succ S.nxt ≤ n := hn
    unfold setR
    rw [if_neg (by omega)]
    exact r.nx n (by omega)
/-- a new list: frozen, or mutable -/
theorem mkL_ok {W : WX} {F G : Hp} {ρ : Rho} {S : LH} {H : Hp} {σ : L2.St} {mu : Bool} {xs : List PV} {ys : List V} {o : Out PV} {Q : VK} (rh : RH T F G ρ S H) (r : Reps T F ρ xs ys)
    (e : mkL mu xs S = some o) (h : After T W F G ρ σ o Q) {p : Addr} (hp : H p = none) : Q (.ref p) (upd H p (.lst ys)) := by
  unfold mkL at e
  split at e
  · cases mu with
    | true =>
      have e' : o = .ok (.loc S.nxt) (S.new (.lst xs)) := by simpa using e.symm
      subst e'
      obtain ⟨h1, h2⟩ := rh_cell (c := .lst xs) (o := .lst ys) rh hp ⟨ys, rfl, r⟩
      exact h F _ _ _ h2 h1 (.loc (by unfold setR; rw [if_pos rfl]))
    | false =>
      have e' : o = .ok (.lst xs) S := by simpa using e.symm
      subst e'
      have ex := ext_new (ρ := ρ) (p := p) (o := .lst ys) (rh.fnone hp)
      exact h _ ρ _ _ ex (rh_new rh hp) (.lst upd_same (r.ext ex))
  · cases e
theorem mkL_len {mu : Bool} {xs : List PV} {S : LH} {o : Out PV} (e : mkL mu xs S = some o) : xs.length ≤ sizeLine := by
  unfold mkL at e
  split at e
  · rename_i h
    rw [sizeLine_eq]
    exact Nat.le_of_ble_eq_true h
  · cases e
theorem Reps.length {F : Hp} {ρ : Rho} : ∀ {xs : List PV} {ys : List V}, Reps T F ρ xs ys → xs.length = ys.length
  | _, _, .nil => rfl
  | _, _, .cons _ r => by simp [Reps.length r]
theorem Reps.append {F : Hp} {ρ : Rho} : ∀ {xs xs' : List PV} {ys ys' : List V}, Reps T F ρ xs ys → Reps T F ρ xs' ys' → Reps T F ρ (xs ++ xs') (ys ++ ys')
  | _, _, _, _, .nil, h => h
  | _, _, _, _, .cons h r, h' => .cons h (Reps.append r h')
end
end Z

set_option Elab.async false
set_option linter.all false
set_option maxRecDepth 100000
set_option maxHeartbeats 2000000
/-! Z2: operators. -/
namespace Z
open PySem PySem.Spec PyProof.Rows L2
section
variable {T : Top}
variable (T) in
/-- an operation on two values: what it reads -/
def R2Z (f : PV → PV → LH → Option (Out PV)) : R2 := fun x y H Q =>
  ∃ F G ρ S a b o, RH T F G ρ S H ∧ Rep T F ρ a x ∧ Rep T F ρ b y ∧ f a b S = some o ∧ After T (fun _ _ _ _ => False) F G ρ [] o Q
/-- two values, then the operation -/
theorem pe_bin2 {X : Cx} {W : WX} {op : Operator} {a b : Expr} {pos : Pos} {ma mb : Loc → LH → Option (Out PV)} {f : PV → PV → LH → Option (Out PV)} (ho : OpR X (binaryOp op) (R2Z T f))
    (hx : ∀ x y S c fs S', f x y S ≠ some (.exn c fs S')) (ha : PE X a (TZ T W ma)) (hb : PE X b (TZ T W mb)) :
    PE X (.BinOp a op b pos) (TZ T W fun l S => orO (ma l S) fun x S1 => orO (mb l S1) fun y S2 => f x y S2) := by
  refine PE.imp (pe_op ho ha hb) fun σ H Q h => ?_
  obtain ⟨F, G, ρ, l, S, o, rl, rh, e, h⟩ := h
  refine tz_ok rl rh e h fun v S1 F1 ρ1 x H1 e1 ex1 rl1 rh1 r1 h1 => ?_
  refine tz_ok rl1 rh1 e1 h1 fun u S2 F2 ρ2 y H2 e2 ex2 rl2 rh2 r2 h2 => ?_
  refine ⟨F2, G, ρ2, S2, v, u, o, rh2, r1.ext ex2, r2, e2, ?_⟩
  cases o with
  | ok v S' => exact h2
  | exn c fs S' => exact absurd e2 (hx _ _ _ _ _ _)
/-- a value that ends at a scalar -/
theorem After.val {W : WX} {F G : Hp} {ρ : Rho} {σ : L2.St} {v : PV} {S : LH} {Q : VK} {x : V} {H : Hp} (h : After T W F G ρ σ (.ok v S) Q) (rh : RH T F G ρ S H) (r : Rep T F ρ v x) : Q x H := h F ρ x H Ext.refl rh r
theorem okS_append {s t : List Nat} (h1 : okS s) (h2 : okS t) (h : s.length + t.length ≤ 16777216) : okS (s ++ t) := by
  refine ⟨by simpa using h, fun c hc => ?_⟩
  rcases List.mem_append.mp hc with q | q
  · exact h1.2 c q
  · exact h2.2 c q
theorem strV_append (s t : List Nat) : strV s ++ strV t = strV (s ++ t) := by
  show (⟨s.toArray ++ t.toArray⟩ : Str) = ⟨(s ++ t).toArray⟩
  simp
theorem strV_length (s : List Nat) : (strV s).length = s.length := by
  show s.toArray.size = s.length
  simp
/-- where a list is read -/
theorem top_lst {F G : Hp} {ρ : Rho} {S : LH} {H : Hp} {v : PV} {x : V} {xs : List PV} (rh : RH T F G ρ S H) (r : Rep T F ρ v x) (e : top S v = .lst xs) :
    ∃ a ys, x = .ref a ∧ H a = some (.lst ys) ∧ Reps T F ρ xs ys := by
  cases r with
  | lst h r =>
    have e' : PV.lst _ = PV.lst xs := e
    cases e'
    exact ⟨_, _, rfl, rh.f _ _ h, r⟩
  | @loc n a h =>
    have e' : (match S.get n with
      | some (.lst xs) => PV.lst xs
      | some (.dct kvs) => .dct kvs
      | none => .loc n) = .lst xs := e
    unfold LH.get at e'
    cases hc : getC n S.cells with
    | some c =>
      rw [hc] at e'
      obtain ⟨b, o, h1, _, _, h4, h5⟩ := rh.c n c hc
      rw [h] at h1; cases h1
      cases c with
      | lst zs =>
        have : zs = xs := by simpa using e'
        subst this
        obtain ⟨ys, h6, h7⟩ := h5
        subst h6
        exact ⟨_, ys, rfl, h4, h7⟩
      | dct zs => simp at e'
    | none =>
      rw [hc] at e'
      cases hz : getC n S.frz with
      | none => rw [hz] at e'; simp at e'
      | some c =>
        rw [hz] at e'
        obtain ⟨b, o, h1, h2, h3⟩ := rh.z n c hc hz
        rw [h] at h1; cases h1
        cases c with
        | lst zs =>
          have : zs = xs := by simpa using e'
          subst this
          obtain ⟨ys, h6, h7⟩ := h3
          subst h6
          exact ⟨_, ys, rfl, rh.g _ _ h2, h7⟩
        | dct zs => simp at e'
  | tup h r => exact absurd (show PV.tup _ = PV.lst xs from e) (by simp)
  | dct h ok r => exact absurd (show PV.dct _ = PV.lst xs from e) (by simp)
  | non => exact absurd (show PV.non = PV.lst xs from e) (by simp)
  | bl b => exact absurd (show PV.bl _ = PV.lst xs from e) (by simp)
  | int b => exact absurd (show PV.int _ = PV.lst xs from e) (by simp)
  | str s h => exact absurd (show PV.str _ = PV.lst xs from e) (by simp)
  | fn k => exact absurd (show PV.fn _ = PV.lst xs from e) (by simp)
theorem rep_int {F : Hp} {ρ : Rho} {i : Int} {x : V} (r : Rep T F ρ (.int i) x) : x = .int i := by cases r; rfl
theorem rep_str {F : Hp} {ρ : Rho} {s : List Nat} {x : V} (r : Rep T F ρ (.str s) x) : x = .str (strV s) ∧ okS s := by cases r with | str s h => exact ⟨rfl, h⟩
theorem rep_tup {F : Hp} {ρ : Rho} {xs : List PV} {x : V} (r : Rep T F ρ (.tup xs) x) : ∃ a ys, x = .ref a ∧ TupF T.K F a ys ∧ Reps T F ρ xs ys := by cases r with | tup h r => exact ⟨_, _, rfl, h, r⟩
theorem rep_bl {F : Hp} {ρ : Rho} {b : Bool} {x : V} (r : Rep T F ρ (.bl b) x) : x = .bl b := by cases r; rfl
theorem rep_non {F : Hp} {ρ : Rho} {x : V} (r : Rep T F ρ .non x) : x = .non := by cases r; rfl
theorem reps_nil {F : Hp} {ρ : Rho} {ys : List V} (r : Reps T F ρ [] ys) : ys = [] := by cases r; rfl
/-- a new tuple is laid, and known -/
theorem laid_tup {X : Cx} {pins : List (Addr × Obj)} {σ : L2.St} {H : Hp} {s : Shared} {Q : VK} {us : List Value} {ys : List V} {h' : Heap} {t' : Nat} (I : Inv X pins σ H s) (kp : ∀ b o, s.heap.get? b = some o → h'.get? b = some o) (r : Vals ys us) (hz : ys.length ≤ sizeLine)
    (q : ∀ p, H p = none → Q (.ref p) (upd H p (tupO us ys))) : EP X pins σ Q (.ref h'.objs.size) { s with heap := h'.push { cls := .type "tuple", data := .seq us.toArray }, toks := t' } := by
  have J : Inv X pins σ H { s with heap := h' } := I.kept (t' := s.toks) kp
  have ge : (h'.push { cls := .type "tuple", data := .seq us.toArray }).get? h'.objs.size = some ({ cls := .type "tuple", data := .seq us.toArray } : Obj) := Heap.get?_push_size _ rfl
  exact ⟨.ref h'.objs.size, _, J.laid (t' := t') (o := tupO us ys) (fun b o e => Heap.get?_push_of_some _ e) (Nat.le_refl _) ⟨ge, hz, us, r, _, ge, rfl, _, rfl⟩, rfl, q _ (J.hok.fresh (Nat.le_refl _))⟩
def rCatF (K : PySem.W.Frag) : R2 := fun x y H Q => ∃ a b xs ys, x = .ref a ∧ y = .ref b ∧ SqT K H a xs ∧ SqT K H b ys ∧ xs.length + ys.length ≤ sizeLine ∧
  (xs = [] → Q (.ref b) H) ∧ (xs ≠ [] → ys = [] → Q (.ref a) H) ∧ (xs ≠ [] → ys ≠ [] → ∀ us p, H p = none → Q (.ref p) (upd H p (tupO us (xs ++ ys))))
theorem op_catF {X : Cx} : OpR X (binaryOp .Add) (rCatF X.K) := by
  intro pins s σ H x y v u Q I rx ry ⟨a, b, xs, ys, ex, ey, ha, hb, hz, q0, q1, q2⟩
  subst ex ey
  cases rx; cases ry
  obtain ⟨its, r1, p1, _⟩ := I.tuple ha
  obtain ⟨its2, r2, p2, _⟩ := I.tuple hb
  by_cases hx : xs = []
  · subst hx
    cases r1
    exact cat_tup0 p1 p2 ⟨.ref b, H, I, rfl, q0 rfl⟩
  · refine HT.cat_tup p1 p2 (fun z => hx (r1.nil_iff.mp z)) (fun z => ⟨.ref a, H, I, rfl, q1 hx (r2.nil_iff.mp z)⟩) (fun z => ?_) (by rw [← r1.length, ← r2.length]; exact hz)
    exact laid_tup (t' := s.toks) I (fun _ _ e => e) (r1.append r2) (by rw [List.length_append]; exact hz) (q2 hx (fun w => z (r2.nil_iff.mpr w)) _)
/-- + -/
theorem op_addZ {X : Cx} (hK : X.K = T.K) (mu : Bool) : OpR X (binaryOp .Add) (R2Z T (binOp mu .add)) := by
  refine OpR.imp (op_add.or (op_add_str.or (op_catF.or op_cat))) fun x y H Q h => ?_
  obtain ⟨F, G, ρ, S, a, b, o, rh, ra, rb, e, h⟩ := h
  have lists : ∀ s t, top S a = .lst s → top S b = .lst t → mkL mu (s ++ t) S = some o → rCat x y H Q := fun s t e1 e2 e3 => by
    obtain ⟨p, ps, rfl, hp, rp⟩ := top_lst rh ra e1
    obtain ⟨q, qs, rfl, hq, rq⟩ := top_lst rh rb e2
    refine ⟨p, q, ps, qs, rfl, rfl, hp, hq, ?_, fun d hd => ?_⟩
    · have := mkL_len e3
      rw [List.length_append, rp.length, rq.length] at this
      exact this
    · exact mkL_ok rh (rp.append rq) e3 h hd
  cases a with
  | int i =>
    cases b with
    | int j =>
      have e' : o = .ok (.int (i + j)) S := by simpa [binOp] using e.symm
      subst e'
      exact .inl ⟨i, j, rep_int ra, rep_int rb, h.val rh (.int _)⟩
    | _ => simp [binOp] at e
  | str s =>
    cases b with
    | str t =>
      simp only [binOp] at e
      split at e
      · rename_i hz
        have e' : o = .ok (.str (s ++ t)) S := by simpa using e.symm
        subst e'
        obtain ⟨rfl, h1⟩ := rep_str ra
        obtain ⟨rfl, h2⟩ := rep_str rb
        have hz' : s.length + t.length ≤ 16777216 := Nat.le_of_ble_eq_true hz
        refine .inr (.inl ⟨_, _, rfl, rfl, by rw [strV_length, strV_length, sizeLine_eq]; exact hz', ?_⟩)
        rw [strV_append]
        exact h.val rh (.str _ (okS_append h1 h2 hz'))
      · cases e
    | _ => simp [binOp] at e
  | tup s =>
    cases b with
    | tup t =>
      simp only [binOp] at e
      split at e
      · rename_i hz
        have e' : o = .ok (.tup (s ++ t)) S := by simpa using e.symm
        subst e'
        obtain ⟨p, ps, rfl, hp, rp⟩ := rep_tup ra
        obtain ⟨q, qs, rfl, hq, rq⟩ := rep_tup rb
        have hz' : s.length + t.length ≤ 16777216 := Nat.le_of_ble_eq_true hz
        refine .inr (.inr (.inl ⟨p, q, ps, qs, rfl, rfl, ?_, ?_, ?_, fun hs => ?_, fun hs ht => ?_, fun _ _ us d hd => ?_⟩))
        · rw [hK]; exact sqT_mono rh.f hp.1
        · rw [hK]; exact sqT_mono rh.f hq.1
        · rw [← rp.length, ← rq.length, sizeLine_eq]; exact hz'
        · subst hs
          cases rp
          exact h.val rh (.tup hq rq)
        · subst ht
          cases rq
          refine h.val rh ?_
          rw [List.append_nil]
          exact .tup hp rp
        · have ex := ext_new (ρ := ρ) (p := d) (o := tupO us (ps ++ qs)) (rh.fnone hd)
          exact h _ ρ _ _ ex (rh_new rh hd) (.tup (tupF_new upd_same) ((rp.append rq).ext ex))
      · cases e
    | _ => simp [binOp] at e
  | _ =>
    refine .inr (.inr (.inr ?_))
    simp only [binOp] at e
    split at e
    · rename_i s e1
      split at e
      · rename_i t e2
        exact lists s t e1 e2 e
      · cases e
    · cases e

theorem repL_flat {α : Type} (xs : List α) : ∀ n, repL xs n = (List.replicate n xs).flatten
  | 0 => rfl
  | n + 1 => by show xs ++ repL xs n = _; rw [repL_flat xs n, List.replicate_succ, List.flatten_cons]
theorem Reps.rep {F : Hp} {ρ : Rho} {xs : List PV} {ys : List V} (r : Reps T F ρ xs ys) : ∀ n, Reps T F ρ (repL xs n) (repL ys n)
  | 0 => .nil
  | n + 1 => r.append (Reps.rep r n)
theorem repL_length {α : Type} (xs : List α) : ∀ n, (repL xs n).length = xs.length * n
  | 0 => rfl
  | n + 1 => by show (xs ++ repL xs n).length = _; rw [List.length_append, repL_length xs n, Nat.mul_succ]; omega
/-- - -/
theorem op_subZ {X : Cx} (mu : Bool) : OpR X (binaryOp .Sub) (R2Z T (binOp mu .sub)) := by
  refine OpR.imp op_sub fun x y H Q h => ?_
  obtain ⟨F, G, ρ, S, a, b, o, rh, ra, rb, e, h⟩ := h
  cases a <;> cases b <;> first
    | (simp [binOp] at e; done)
    | skip
  rename_i i j
  have e' : o = .ok (.int (i - j)) S := by simpa [binOp] using e.symm
  subst e'
  exact ⟨i, j, rep_int ra, rep_int rb, h.val rh (.int _)⟩
theorem op_fdivZ {X : Cx} (mu : Bool) : OpR X (binaryOp .FloorDiv) (R2Z T (binOp mu .fdiv)) := by
  refine OpR.imp op_fdivW fun x y H Q h => ?_
  obtain ⟨F, G, ρ, S, a, b, o, rh, ra, rb, e, h⟩ := h
  cases a <;> cases b <;> first
    | (simp [binOp] at e; done)
    | skip
  rename_i i j
  simp only [binOp] at e
  split at e
  · rename_i hc
    have e' : o = .ok (.int (i / j)) S := by simpa using e.symm
    subst e'
    exact ⟨i, j, rep_int ra, rep_int rb, hc, h.val rh (.int _)⟩
  · cases e
theorem op_modZ {X : Cx} (mu : Bool) : OpR X (binaryOp .Mod) (R2Z T (binOp mu .mod)) := by
  refine OpR.imp op_mod fun x y H Q h => ?_
  obtain ⟨F, G, ρ, S, a, b, o, rh, ra, rb, e, h⟩ := h
  cases a <;> cases b <;> first
    | (simp [binOp] at e; done)
    | skip
  rename_i i j
  simp only [binOp] at e
  split at e
  · rename_i hc
    have e' : o = .ok (.int (i % j)) S := by simpa using e.symm
    subst e'
    exact ⟨i, j, rep_int ra, rep_int rb, hc, h.val rh (.int _)⟩
  · cases e
theorem op_powZ {X : Cx} (mu : Bool) : OpR X (binaryOp .Pow) (R2Z T (binOp mu .pow)) := by
  refine OpR.imp op_pow fun x y H Q h => ?_
  obtain ⟨F, G, ρ, S, a, b, o, rh, ra, rb, e, h⟩ := h
  cases a <;> cases b <;> first
    | (simp [binOp] at e; done)
    | skip
  rename_i i j
  simp only [binOp] at e
  split at e
  · rename_i hc
    have e' : o = .ok (.int (i ^ j.toNat)) S := by simpa using e.symm
    subst e'
    exact ⟨i, j, rep_int ra, rep_int rb, ⟨hc.1, by omega, hc.2.2⟩, h.val rh (.int _)⟩
  · cases e
/-- * -/
theorem op_mulZ {X : Cx} (hK : X.K = T.K) (mu : Bool) : OpR X (binaryOp .Mult) (R2Z T (binOp mu .mul)) := by
  refine OpR.imp (op_mul.or op_rep) fun x y H Q h => ?_
  obtain ⟨F, G, ρ, S, a, b, o, rh, ra, rb, e, h⟩ := h
  cases b with
  | int j =>
    cases rep_int rb
    have lists : ∀ s, top S a = .lst s → (if 0 ≤ j ∧ j ≤ 1000000 then mkL mu (repL s j.toNat) S else none) = some o → rRep x (.int j) H Q := fun s e1 e3 => by
      split at e3
      · rename_i hj
        obtain ⟨p, ps, rfl, hp, rp⟩ := top_lst rh ra e1
        refine ⟨p, j, ps, rfl, rfl, hp, by omega, by omega, ?_, fun d hd => ?_⟩
        · have := mkL_len e3
          rw [repL_length, rp.length] at this
          exact this
        · rw [← repL_flat]
          exact mkL_ok rh (rp.rep _) e3 h hd
      · cases e3
    cases a with
    | int i =>
      simp only [binOp] at e
      split at e
      · rename_i hm
        have e' : o = .ok (.int (i * j)) S := by simpa using e.symm
        subst e'
        refine .inl ⟨i, j, rep_int ra, rfl, ?_, h.val rh (.int _)⟩
        unfold mulOk at hm
        simp only [Bool.or_eq_true, decide_eq_true_eq] at hm
        unfold CMul
        rcases hm with hm | hm
        · exact .inl (by omega)
        · exact .inr (by omega)
      · cases e
    | _ =>
      refine .inr ?_
      simp only [binOp] at e
      split at e
      · rename_i s e1
        exact lists s e1 e
      · cases e
  | _ => simp [binOp] at e
/-- no operator raises -/
theorem binOp_exn {mu : Bool} {op : Op} {x y : PV} {S : LH} {c : Nat} {fs : List PV} {S' : LH} : binOp mu op x y S ≠ some (.exn c fs S') := by
  intro e
  have nl : ∀ xs, mkL mu xs S ≠ some (.exn c fs S') := fun xs q => by
    unfold mkL at q
    split at q
    · split at q <;> cases q
    · cases q
  unfold binOp at e
  repeat' (split at e)
  all_goals first
    | (cases e; done)
    | exact nl _ e
def opOf : Op → Operator
  | .add => .Add | .sub => .Sub | .mul => .Mult | .fdiv => .FloorDiv | .mod => .Mod | .pow => .Pow
theorem op_binZ {X : Cx} (hK : X.K = T.K) (mu : Bool) (op : Op) : OpR X (binaryOp (opOf op)) (R2Z T (binOp mu op)) := by
  cases op with
  | add => exact op_addZ hK mu
  | sub => exact op_subZ mu
  | mul => exact op_mulZ hK mu
  | fdiv => exact op_fdivZ mu
  | mod => exact op_modZ mu
  | pow => exact op_powZ mu
theorem pe_binZ {X : Cx} {W : WX} (hK : X.K = T.K) {mu : Bool} {op : Op} {a b : Expr} {pos : Pos} {ma mb : Loc → LH → Option (Out PV)} (ha : PE X a (TZ T W ma)) (hb : PE X b (TZ T W mb)) :
    PE X (.BinOp a (opOf op) b pos) (TZ T W fun l S => orO (ma l S) fun x S1 => orO (mb l S1) fun y S2 => binOp mu op x y S2) :=
  pe_bin2 (op_binZ hK mu op) (fun _ _ _ _ _ _ => binOp_exn) ha hb
end
end Z

set_option Elab.async false
set_option linter.all false
set_option maxRecDepth 100000
set_option maxHeartbeats 2000000
/-! Z3: ==. -/
namespace Z
open PySem PySem.Spec PyProof.Rows L2
/-- u == v answers b -/
def RcIn (P : Program) (w : World) (A : Around) (s : Shared) (u v : Value) (b : Bool) : Prop :=
  ∀ (E : Value → Shared → Prop) (Q : Value → Shared → Prop), Q (.bool b) s → wpAny (model P w) A (compareOp .Eq u v) Q E s
theorem RcIn.of {P : Program} {w : World} {A : Around} {s : Shared} {u v : Value} {b : Bool} (h : SeqAt.RcAt A s u v b) : RcIn P w A s u v b := fun E Q q => h P w E Q q
abbrev EqIn := PySem.SeqAt.EqIn
theorem eqs_eq : ∀ s t : List Nat, eqs s t = decide (s = t)
  | [], [] => rfl
  | [], _ :: _ => rfl
  | _ :: _, [] => rfl
  | a :: r, b :: t => by
    show (if Nat.beq a b = true then eqs r t else false) = _
    by_cases h : a = b
    · subst h
      rw [if_pos (Nat.beq_refl a), eqs_eq r t]
      simp
    · rw [if_neg (fun q => h (Nat.eq_of_beq_eq_true q))]
      simp [h]
theorem strV_beq (s t : List Nat) : (strV s == strV t) = eqs s t := by
  rw [eqs_eq]
  rw [Bool.eq_iff_iff]
  simp
section
variable {T : Top} {X : Cx} {pins : List (Addr × Obj)} {σ : L2.St} {H : Hp} {s : Shared}
/-- a value read at its top: what stands there -/
inductive Top1 (T : Top) (F : Hp) (ρ : Rho) (H : Hp) : PV → V → Prop
  | non : Top1 T F ρ H .non .non
  | bl (b : Bool) : Top1 T F ρ H (.bl b) (.bl b)
  | int (i : Int) : Top1 T F ρ H (.int i) (.int i)
  | str (s : List Nat) (h : okS s) : Top1 T F ρ H (.str s) (.str (strV s))
  | tup {a : Addr} {ys : List V} {xs : List PV} (h : TupF T.K H a ys) (r : Reps T F ρ xs ys) : Top1 T F ρ H (.tup xs) (.ref a)
  | lst {a : Addr} {ys : List V} {xs : List PV} (h : H a = some (.lst ys)) (r : Reps T F ρ xs ys) : Top1 T F ρ H (.lst xs) (.ref a)
  | dct {a : Addr} {es : List DictEntry} {ep : Nat} {kvs : List (PV × PV)} (h : H a = some (DX a es ep)) (ok : DOk kvs) (r : RepD T F ρ kvs es) : Top1 T F ρ H (.dct kvs) (.ref a)
  | fn (k : Nat) : Top1 T F ρ H (.fn k) (.ref (T.fa k))
  | loc {n : Nat} {a : Addr} : Top1 T F ρ H (.loc n) (.ref a)
theorem top1 {F G : Hp} {ρ : Rho} {S : LH} {v : PV} {x : V} (rh : RH T F G ρ S H) (r : Rep T F ρ v x) : Top1 T F ρ H (top S v) x := by
  cases r with
  | non => exact .non
  | bl b => exact .bl b
  | int i => exact .int i
  | str s h => exact .str s h
  | tup h r => exact .tup (tupF_mono rh.f h) r
  | lst h r => exact .lst (rh.f _ _ h) r
  | dct h ok r => exact .dct (rh.f _ _ h) ok r
  | fn k => exact .fn k
  | @loc n a h =>
    show Top1 T F ρ H (match S.get n with
      | some (.lst xs) => PV.lst xs
      | some (.dct kvs) => .dct kvs
      | none => .loc n) (.ref a)
    unfold LH.get
    cases hc : getC n S.cells with
    | some c =>
      obtain ⟨b, o, h1, _, _, h4, h5⟩ := rh.c n c hc
      rw [h] at h1; cases h1
      cases c with
      | lst zs =>
        obtain ⟨ys, h6, h7⟩ := h5
        subst h6
        exact .lst h4 h7
      | dct zs =>
        obtain ⟨es, ep, h6, h7, h8⟩ := h5
        subst h6
        exact .dct h4 h7 h8
    | none =>
      cases hz : getC n S.frz with
      | none => exact .loc
      | some c =>
        obtain ⟨b, o, h1, h2, h3⟩ := rh.z n c hc hz
        rw [h] at h1; cases h1
        cases c with
        | lst zs =>
          obtain ⟨ys, h6, h7⟩ := h3
          subst h6
          exact .lst (rh.g _ _ h2) h7
        | dct zs =>
          obtain ⟨es, ep, h6, h7, h8⟩ := h3
          subst h6
          exact .dct (rh.g _ _ h2) h7 h8
/-- the machine's dict -/
theorem dx_at {P : Program} {w : World} {h : Heap} {a : Addr} {es : List DictEntry} {ep : Nat} (hok : HOk P w H h) (e : H a = some (DX a es ep)) :
    (a == sysModules) = false ∧ ∃ o, h.get? a = some o ∧ o.ExactDict ∧ o.data = .dict es.toArray ep := by
  have x := hok a _ e
  exact x.1

/-! ### keys -/
def lf : PV → PySem.Leaf
  | .int i => .num i
  | .str s => .text (strV s)
  | _ => .none
theorem isKeyN_tup {n : Nat} {xs : List PV} : isKeyN (n + 1) (.tup xs) = xs.all (isKeyN n) := rfl
theorem lf_key {k : PV} (h : isKey k = true) (t : isTup k = false) : (lf k).key = nk k := by
  cases k <;> first
    | rfl
    | (exact absurd (show false = true from h) Bool.false_ne_true)
    | (exact absurd (show true = false from t) (by decide))
theorem leaf_is {F : Hp} {ρ : Rho} {k : PV} {x : V} {u : Value} (h : isKey k = true) (t : isTup k = false) (r : Rep T F ρ k x) (ru : RelV x u) : PySem.Leaf.isOf (lf k) u = true := by
  cases r with
  | non => cases ru; rfl
  | int i =>
    obtain ⟨t, rfl⟩ := ru
    show decide (i = i) = true
    simp
  | str s _ =>
    obtain ⟨t, rfl⟩ := ru
    show Value.isStrOf (strV s) (.str (strV s) t) = true
    simp [Value.isStrOf]
  | tup _ _ => exact absurd (show true = false from t) (by decide)
  | bl b => exact absurd (show false = true from h) Bool.false_ne_true
  | lst _ _ => exact absurd (show false = true from h) Bool.false_ne_true
  | dct _ _ _ => exact absurd (show false = true from h) Bool.false_ne_true
  | loc _ => exact absurd (show false = true from h) Bool.false_ne_true
  | fn k => exact absurd (show false = true from h) Bool.false_ne_true
theorem nested_all {F : Hp} {ρ : Rho} {h : Heap} {f : PV → PySem.NestedKey} : ∀ {ks : List PV} {xs : List V} {us : List Value}, (∀ k ∈ ks, ∀ x u, Rep T F ρ k x → RelV x u → PySem.NestedIs h (f k) u) → Reps T F ρ ks xs → Vals xs us → PySem.NestedAll h (ks.map f) us
  | [], xs, us, hf, r, rv => by cases r; cases rv; exact .nil
  | k :: ks, xs, us, hf, r, rv => by
    cases r with
    | cons r rr =>
      cases rv with
      | cons ru rv => exact .cons (hf _ List.mem_cons_self _ _ r ru) (nested_all (fun k hk => hf k (List.mem_cons_of_mem _ hk)) rr rv)
theorem nested_of {F : Hp} {ρ : Rho} (I : Inv X pins σ H s) (hK : X.K = T.K) (hF : ∀ a o, F a = some o → H a = some o) : ∀ (n : Nat) (k : PV) (x : V) (u : Value), isKeyN n k = true → Rep T F ρ k x → RelV x u → PySem.NestedIs s.heap (nkN n k) u
  | 0, k, _, _, h, _, _ => absurd (show false = true from h) Bool.false_ne_true
  | n + 1, k, x, u, h, r, ru => by
    cases r with
    | non => cases ru; exact .none
    | int i => obtain ⟨t, rfl⟩ := ru; exact .int _ _
    | str s _ => obtain ⟨t, rfl⟩ := ru; exact .text _ _
    | @tup a ys xs hq r =>
      cases ru
      obtain ⟨its, rv, ⟨ob, ho, hc, m, hd⟩, _⟩ := I.tuple (by rw [hK]; exact sqT_mono hF hq.1)
      refine .tup ho hc hd ?_
      have hk : ∀ k ∈ xs, isKeyN n k = true := by
        have h' : xs.all (isKeyN n) = true := h
        simpa using h'
      exact nested_all (fun k hm x u => nested_of I hK hF n k x u (hk k hm)) r (by simpa using rv)
    | bl b => exact absurd (show false = true from h) Bool.false_ne_true
    | lst _ _ => exact absurd (show false = true from h) Bool.false_ne_true
    | dct _ _ _ => exact absurd (show false = true from h) Bool.false_ne_true
    | loc _ => exact absurd (show false = true from h) Bool.false_ne_true
    | fn k => exact absurd (show false = true from h) Bool.false_ne_true
theorem nk_depth : ∀ (n : Nat) (k : PV), (nkN n k).depth ≤ n
  | 0, k => by simp [nkN, NestedKey.depth]
  | n + 1, k => by
    cases k with
    | tup xs =>
      have all : ∀ (l : List PV), NestedKey.depthAll (l.map (nkN n)) ≤ n := fun l => by
        induction l with
        | nil => simp [NestedKey.depthAll]
        | cons a r ih =>
          show NestedKey.depthAll (nkN n a :: r.map (nkN n)) ≤ n
          rw [NestedKey.depthAll]
          exact Nat.max_le.mpr ⟨nk_depth n a, ih⟩
      show NestedKey.depth (.tup (xs.map (nkN n))) ≤ n + 1
      rw [NestedKey.depth]
      exact Nat.succ_le_succ (all xs)
    | _ => simp [nkN, NestedKey.depth]
theorem strV_inj {s t : List Nat} (h : strV s = strV t) : s = t := by
  have := congrArg (fun x : Str => x.cps.toList) h
  simpa using this
/-- keys are one exactly if their library keys are -/
theorem eqk_nk : ∀ (n : Nat) (a b : PV), isKeyN n a = true → isKeyN n b = true → eqk a b = decide (nkN n a = nkN n b)
  | 0, a, _, h, _ => absurd (show false = true from h) Bool.false_ne_true
  | n + 1, a, b, ha, hb => by
    have all : ∀ (xs ys : List PV), (∀ k ∈ xs, isKeyN n k = true) → (∀ k ∈ ys, isKeyN n k = true) → eqks xs ys = decide (xs.map (nkN n) = ys.map (nkN n)) := fun xs => by
      induction xs with
      | nil => intro ys _ _; cases ys <;> simp [eqks]
      | cons x r ih =>
        intro ys h1 h2
        cases ys with
        | nil => simp [eqks]
        | cons y t =>
          rw [eqks, eqk_nk n x y (h1 x List.mem_cons_self) (h2 y List.mem_cons_self), ih t (fun k hk => h1 k (List.mem_cons_of_mem _ hk)) (fun k hk => h2 k (List.mem_cons_of_mem _ hk))]
          by_cases q : nkN n x = nkN n y <;> simp [q]
    cases a <;> cases b <;> first
      | (exact absurd (show false = true from ha) Bool.false_ne_true)
      | (exact absurd (show false = true from hb) Bool.false_ne_true)
      | (simp [eqk, nkN]; done)
      | skip
    · rename_i s t
      rw [eqk, eqs_eq]
      by_cases q : s = t
      · subst q; simp
      · rw [decide_eq_false q, decide_eq_false]
        intro e
        have e' : NestedKey.text (strV s) = .text (strV t) := e
        injection e' with e'
        exact q (strV_inj e')
    · rename_i xs ys
      have h1 : ∀ k ∈ xs, isKeyN n k = true := by
        have h' : xs.all (isKeyN n) = true := ha
        simpa using h'
      have h2 : ∀ k ∈ ys, isKeyN n k = true := by
        have h' : ys.all (isKeyN n) = true := hb
        simpa using h'
      rw [eqk, all xs ys h1 h2]
      show _ = decide (NestedKey.tup (xs.map (nkN n)) = .tup (ys.map (nkN n)))
      by_cases q : xs.map (nkN n) = ys.map (nkN n)
      · rw [q]; simp
      · rw [decide_eq_false q, decide_eq_false]
        intro e
        injection e with e
        exact q e
theorem eqk_key {a b : PV} (ha : isKey a = true) (hb : isKey b = true) : eqk a b = decide (nk a = nk b) := eqk_nk 8 a b ha hb
/-- the dict as the library's: keys carried by value -/
def leafKvs : List (PV × PV) → List DictEntry → List (PySem.Leaf × Value)
  | p :: r, e :: t => (lf p.1, e.val) :: leafKvs r t
  | _, _ => []
def refOf : Value → Addr
  | .ref a => a
  | _ => 0
def tupKvs : List (PV × PV) → List DictEntry → List (PySem.NestedKey × Addr × Value)
  | p :: r, e :: t => (nk p.1, refOf e.key, e.val) :: tupKvs r t
  | _, _ => []
theorem RepD.length {F : Hp} {ρ : Rho} : ∀ {kvs : List (PV × PV)} {es : List DictEntry}, RepD T F ρ kvs es → kvs.length = es.length
  | _, _, .nil => rfl
  | _, _, .cons _ _ _ _ _ r => by simp [RepD.length r]
theorem leafKvs_keys {F : Hp} {ρ : Rho} : ∀ {kvs : List (PV × PV)} {es : List DictEntry}, RepD T F ρ kvs es → (leafKvs kvs es).map (·.1) = kvs.map fun p => lf p.1
  | _, _, .nil => rfl
  | _, _, .cons _ _ _ _ _ r => by simp [leafKvs, leafKvs_keys r]
theorem leafKvs_length {F : Hp} {ρ : Rho} {kvs : List (PV × PV)} {es : List DictEntry} (r : RepD T F ρ kvs es) : (leafKvs kvs es).length = kvs.length := by
  have := congrArg List.length (leafKvs_keys r)
  simpa using this
theorem tupKvs_keys {F : Hp} {ρ : Rho} : ∀ {kvs : List (PV × PV)} {es : List DictEntry}, RepD T F ρ kvs es → (tupKvs kvs es).map (·.1) = kvs.map fun p => nk p.1
  | _, _, .nil => rfl
  | _, _, .cons _ _ _ _ _ r => by simp [tupKvs, tupKvs_keys r]
/-- all keys are carried by value -/
def leafD (kvs : List (PV × PV)) : Prop := ∀ p ∈ kvs, isTup p.1 = false
def tupD (kvs : List (PV × PV)) : Prop := ∀ p ∈ kvs, isTup p.1 = true
theorem DOk.sorts {kvs : List (PV × PV)} (d : DOk kvs) : leafD kvs ∨ tupD kvs := by
  cases kvs with
  | nil => exact .inl fun p hp => absurd hp (by simp)
  | cons q r =>
    cases h : isTup q.1 with
    | false => exact .inl fun p hp => by rw [← d.sort q List.mem_cons_self p hp]; exact h
    | true => exact .inr fun p hp => by rw [← d.sort q List.mem_cons_self p hp]; exact h
theorem nodup_lf {kvs : List (PV × PV)} (d : DOk kvs) (l : leafD kvs) : (kvs.map fun p => lf p.1).Nodup := by
  rw [List.nodup_iff_pairwise_ne, List.pairwise_map]
  refine d.nd.imp_of_mem fun {p q} hp hq h e => ?_
  rw [eqk_key (d.key p hp) (d.key q hq), ← lf_key (d.key p hp) (l p hp), ← lf_key (d.key q hq) (l q hq), e] at h
  simp at h
theorem nodup_nk {kvs : List (PV × PV)} (d : DOk kvs) : (kvs.map fun p => nk p.1).Nodup := by
  rw [List.nodup_iff_pairwise_ne, List.pairwise_map]
  refine d.nd.imp_of_mem fun {p q} hp hq h e => ?_
  rw [eqk_key (d.key p hp) (d.key q hq), e] at h
  simp at h
theorem leaf_pairs {F : Hp} {ρ : Rho} {P : Program} : ∀ {kvs : List (PV × PV)} {es : List DictEntry}, RepD T F ρ kvs es → (∀ p ∈ kvs, isKey p.1 = true) → leafD kvs →
    Pairs (PySem.leafKind P T.w) es (leafKvs kvs es) ∧ ∀ e ∈ es, ∃ k, (PySem.leafKind P T.w).is k e.key = true ∧ e.hash = (PySem.leafKind P T.w).hash k
  | _, _, .nil, _, _ => ⟨.nil, fun e he => absurd he (by simp)⟩
  | _, _, .cons (k := k) hk rk hh hv rv r, hkey, l => by
    have k1 := hkey _ List.mem_cons_self
    have k2 := l _ List.mem_cons_self
    have hi := leaf_is k1 k2 hk rk
    obtain ⟨q1, q2⟩ := leaf_pairs (P := P) r (fun p hp => hkey p (List.mem_cons_of_mem _ hp)) (fun p hp => l p (List.mem_cons_of_mem _ hp))
    refine ⟨.cons hi rfl q1, fun e he => ?_⟩
    rcases List.mem_cons.mp he with rfl | he
    · refine ⟨lf k, hi, ?_⟩
      rw [hh, ← lf_key k1 k2]
      rfl
    · exact q2 e he
/-- a dict of leaf keys -/
theorem dictOf_leaf {F : Hp} {ρ : Rho} (I : Inv X pins σ H s) (hw : X.w = T.w) {a : Addr} {es : List DictEntry} {ep : Nat} {kvs : List (PV × PV)} (h : H a = some (DX a es ep)) (d : DOk kvs) (l : leafD kvs) (r : RepD T F ρ kvs es) :
    s.heap.DictOf (PySem.leafKind X.prog X.w) a (leafKvs kvs es) := by
  obtain ⟨_, o, ho, hx, hd⟩ := dx_at I.hok h
  obtain ⟨q1, q2⟩ := leaf_pairs (P := X.prog) r d.key l
  rw [hw]
  refine ⟨o, _, ep, ho, hx, hd, fun e he => q2 e (by simpa using he), by simpa using q1, ?_⟩
  rw [leafKvs_keys r]
  exact nodup_lf d l
theorem rep_ref_of_tup {F : Hp} {ρ : Rho} {k : PV} {x : V} {u : Value} (t : isTup k = true) (r : Rep T F ρ k x) (ru : RelV x u) : ∃ a, x = .ref a ∧ u = .ref a := by
  cases r with
  | tup h r => cases ru; exact ⟨_, rfl, rfl⟩
  | _ => exact absurd (show false = true from t) Bool.false_ne_true
theorem tup_entries {F : Hp} {ρ : Rho} {P : Program} : ∀ {kvs : List (PV × PV)} {es : List DictEntry}, RepD T F ρ kvs es → tupD kvs → es = (tupKvs kvs es).map (entryOfKey (PySem.nestedKind P T.w))
  | _, _, .nil, _ => rfl
  | _, _, .cons (k := k) (e := e) hk rk hh hv rv r, l => by
    obtain ⟨a, rfl, ha⟩ := rep_ref_of_tup (l _ List.mem_cons_self) hk rk
    have q := tup_entries (P := P) r fun p hp => l p (List.mem_cons_of_mem _ hp)
    show e :: _ = (⟨(nk k).hash T.w, .ref (refOf e.key), e.val⟩ : DictEntry) :: _
    rw [← q]
    congr 1
    obtain ⟨eh, ek, ev⟩ := e
    simp only at ha hh
    subst ha hh
    rfl
theorem tup_is {F : Hp} {ρ : Rho} (I : Inv X pins σ H s) (hK : X.K = T.K) (hF : ∀ a o, F a = some o → H a = some o) : ∀ {kvs : List (PV × PV)} {es : List DictEntry}, RepD T F ρ kvs es → (∀ p ∈ kvs, isKey p.1 = true) → tupD kvs →
    ∀ x ∈ tupKvs kvs es, (PySem.nestedKind X.prog X.w).is s.heap x.1 x.2.1
  | _, _, .nil, _, _ => fun x hx => absurd hx (by simp [tupKvs])
  | _, _, .cons (k := k) (e := e) hk rk hh hv rv r, hkey, l => fun x hx => by
    obtain ⟨a, rfl, ha⟩ := rep_ref_of_tup (l _ List.mem_cons_self) hk rk
    rcases List.mem_cons.mp hx with rfl | hx
    · show PySem.NestedIs s.heap (nk k) (.ref (refOf e.key)) ∧ (nk k).depth ≤ 8
      rw [ha]
      exact ⟨nested_of I hK hF 8 k _ _ (hkey _ List.mem_cons_self) hk rfl, nk_depth 8 k⟩
    · exact tup_is I hK hF r (fun p hp => hkey p (List.mem_cons_of_mem _ hp)) (fun p hp => l p (List.mem_cons_of_mem _ hp)) x hx
/-- a dict of tuples as keys -/
theorem dictOf_tup {F : Hp} {ρ : Rho} (I : Inv X pins σ H s) (hK : X.K = T.K) (hw : X.w = T.w) (hF : ∀ a o, F a = some o → H a = some o) {a : Addr} {es : List DictEntry} {ep : Nat} {kvs : List (PV × PV)} (h : H a = some (DX a es ep)) (d : DOk kvs) (l : tupD kvs) (r : RepD T F ρ kvs es) :
    s.heap.DictOfH (PySem.nestedKind X.prog X.w) a (tupKvs kvs es) := by
  obtain ⟨_, o, ho, hx, hd⟩ := dx_at I.hok h
  refine ⟨o, _, ep, ho, hx, hd, ?_, tup_is I hK hF r d.key l, ?_⟩
  · rw [hw]
    simpa using tup_entries (P := X.prog) r l
  · rw [tupKvs_keys r]
    exact nodup_nk d
end
end Z

set_option Elab.async false
set_option linter.all false
set_option maxRecDepth 100000
set_option maxHeartbeats 2000000
/-! Z7: dicts written. -/
namespace Z
open PySem PySem.Spec PyProof.Rows L2
def boolV : Value → Bool
  | .bool _ => true
  | _ => false
/-- None, ints, texts as keys; no truth values -/
def leafK (P : Program) (w : World) : PySem.KeyKind P w PySem.Leaf where
  is := fun k v => PySem.Leaf.isOf k v && !boolV v
  hash := (PySem.leafKind P w).hash
  inj := fun v a b ha hb => (PySem.leafKind P w).inj v a b (Bool.and_eq_true _ _ ▸ ha).1 (Bool.and_eq_true _ _ ▸ hb).1
  byValue := fun k v h => (PySem.leafKind P w).byValue k v (Bool.and_eq_true _ _ ▸ h).1
  pyHash := fun hv h => (PySem.leafKind P w).pyHash (Bool.and_eq_true _ _ ▸ hv).1 h
  eqBool := fun hu hv h => (PySem.leafKind P w).eqBool (Bool.and_eq_true _ _ ▸ hu).1 (Bool.and_eq_true _ _ ▸ hv).1 h
  «strs» := fun k x t v h => by
    have q := (PySem.leafKind P w).strs k x t v (Bool.and_eq_true _ _ ▸ h).1
    have q' : PySem.Leaf.isOf k v = _ := q
    show (PySem.Leaf.isOf k v && !boolV v) = _
    rw [q']
    cases v <;> simp [boolV, Value.isStr]
section
variable {T : Top} {X : Cx} {pins : List (Addr × Obj)} {σ : L2.St} {H : Hp} {s : Shared}
theorem leafK_is {P : Program} {w : World} {F : Hp} {ρ : Rho} {k : PV} {x : V} {u : Value} (h : isKey k = true) (t : isTup k = false) (r : Rep T F ρ k x) (ru : RelV x u) : (leafK P w).is (lf k) u = true := by
  show (PySem.Leaf.isOf (lf k) u && !boolV u) = true
  rw [leaf_is h t r ru]
  cases r with
  | bl b => exact absurd (show false = true from h) Bool.false_ne_true
  | non => cases ru; rfl
  | int i => obtain ⟨t, rfl⟩ := ru; rfl
  | str s h => obtain ⟨t, rfl⟩ := ru; rfl
  | _ => cases ru; rfl
theorem leafK_back {P : Program} {w : World} {F : Hp} {ρ : Rho} {k : PV} {x : V} {u : Value} (h : isKey k = true) (t : isTup k = false) (r : Rep T F ρ k x) (e : (leafK P w).is (lf k) u = true) : ∃ x, Rep T F ρ k x ∧ RelV x u := by
  have e' : (PySem.Leaf.isOf (lf k) u && !boolV u) = true := e
  rw [Bool.and_eq_true] at e'
  obtain ⟨e1, e2⟩ := e'
  cases r with
  | non =>
    cases u <;> first
      | exact ⟨_, .non, rfl⟩
      | exact absurd e1 Bool.false_ne_true
  | int i =>
    cases u with
    | int j tk =>
      have : j = i := of_decide_eq_true e1
      subst this
      exact ⟨_, .int _, tk, rfl⟩
    | bool b => exact absurd e2 (by simp [boolV])
    | _ => exact absurd e1 Bool.false_ne_true
  | str s hs =>
    obtain ⟨t, rfl⟩ := Value.isStrOf_shape (show Value.isStrOf (strV s) u = true from e1)
    exact ⟨_, .str s hs, t, rfl⟩
  | bl b => exact absurd (show false = true from h) Bool.false_ne_true
  | tup _ _ => exact absurd (show true = false from t) (by simp)
  | _ => exact absurd (show false = true from h) Bool.false_ne_true
variable (T) in
/-- leaf keys and values, as the library pairs them -/
def LKs (F : Hp) (ρ : Rho) : List (PV × PV) → List (PySem.Leaf × Value) → Prop :=
  Paired fun p q => lf p.1 = q.1 ∧ (isKey p.1 = true ∧ isTup p.1 = false ∧ ∃ x, Rep T F ρ p.1 x) ∧ ∃ y, Rep T F ρ p.2 y ∧ RelV y q.2
variable (T) in
/-- tuples as keys -/
def KHs (F : Hp) (ρ : Rho) : List (PV × PV) → List (PySem.NestedKey × Addr × Value) → Prop :=
  Paired fun p q => nk p.1 = q.1 ∧ (isKey p.1 = true ∧ isTup p.1 = true ∧ Rep T F ρ p.1 (.ref q.2.1)) ∧ ∃ y, Rep T F ρ p.2 y ∧ RelV y q.2.2
theorem lks_of {F : Hp} {ρ : Rho} : ∀ {kvs : List (PV × PV)} {es : List DictEntry}, RepD T F ρ kvs es → (∀ p ∈ kvs, isKey p.1 = true) → leafD kvs → LKs T F ρ kvs (leafKvs kvs es)
  | _, _, .nil, _, _ => .nil
  | _, _, .cons hk rk hh hv rv r, hkey, l => .cons ⟨rfl, ⟨hkey _ List.mem_cons_self, l _ List.mem_cons_self, _, hk⟩, _, hv, rv⟩ (lks_of r (fun p hp => hkey p (List.mem_cons_of_mem _ hp)) fun p hp => l p (List.mem_cons_of_mem _ hp))
theorem khs_of {F : Hp} {ρ : Rho} : ∀ {kvs : List (PV × PV)} {es : List DictEntry}, RepD T F ρ kvs es → (∀ p ∈ kvs, isKey p.1 = true) → tupD kvs → KHs T F ρ kvs (tupKvs kvs es)
  | _, _, .nil, _, _ => .nil
  | _, _, .cons hk rk hh hv rv r, hkey, l => by
    obtain ⟨a, rfl, ha⟩ := rep_ref_of_tup (l _ List.mem_cons_self) hk rk
    refine .cons ⟨rfl, ⟨hkey _ List.mem_cons_self, l _ List.mem_cons_self, ?_⟩, _, hv, rv⟩ (khs_of r (fun p hp => hkey p (List.mem_cons_of_mem _ hp)) fun p hp => l p (List.mem_cons_of_mem _ hp))
    show Rep T F ρ _ (.ref (refOf _))
    rw [ha]
    exact hk
theorem lks_back {P : Program} {F : Hp} {ρ : Rho} : ∀ {kvs : List (PV × PV)} {kl : List (PySem.Leaf × Value)} {es : List DictEntry}, LKs T F ρ kvs kl → Pairs (leafK P T.w) es kl → (∀ e ∈ es, ∃ k, (leafK P T.w).is k e.key = true ∧ e.hash = (leafK P T.w).hash k) → RepD T F ρ kvs es
  | _, _, _, .nil, .nil, _ => .nil
  | (k, v) :: _, (l, u) :: _, e :: es, .cons ⟨h1, ⟨h2, h3, x0, h4⟩, y, h5, h6⟩ r, .cons hp1 hp2 ps, hk => by
    have h1' : lf k = l := h1
    subst h1'
    obtain ⟨x, r1, r2⟩ := leafK_back h2 h3 h4 hp1
    refine .cons r1 r2 ?_ h5 (by rw [hp2]; exact h6) (lks_back r ps fun e he => hk e (List.mem_cons_of_mem _ he))
    obtain ⟨k', i', hh⟩ := hk e List.mem_cons_self
    have : k' = lf k := (leafK P T.w).inj _ _ _ i' hp1
    rw [hh, this, ← lf_key h2 h3]
    rfl
theorem khs_back {P : Program} {F : Hp} {ρ : Rho} : ∀ {kvs : List (PV × PV)} {xs : List (PySem.NestedKey × Addr × Value)}, KHs T F ρ kvs xs → RepD T F ρ kvs (xs.map (entryOfKey (PySem.nestedKind P T.w)))
  | _, _, .nil => .nil
  | _, _, .cons ⟨h1, ⟨h2, h3, h4⟩, y, h5, h6⟩ r => .cons h4 rfl (by rw [h1]; rfl) h5 h6 (khs_back r)
theorem lf_eqk {a k : PV} (ha : isKey a = true) (ta : isTup a = false) (hk : isKey k = true) (tk : isTup k = false) : eqk a k = decide (lf a = lf k) := by
  rw [eqk_key ha hk, ← lf_key ha ta, ← lf_key hk tk]
  by_cases q : lf a = lf k
  · rw [q]; simp
  · rw [decide_eq_false q, decide_eq_false fun z => q (PySem.Leaf.key_inj z)]
theorem map_id_of {α : Type} {f : α → α} : ∀ {l : List α}, (∀ a ∈ l, f a = a) → l.map f = l
  | [], _ => rfl
  | a :: r, h => by rw [List.map_cons, h a List.mem_cons_self, map_id_of fun b hb => h b (List.mem_cons_of_mem _ hb)]
theorem lks_store {F : Hp} {ρ : Rho} {k v : PV} {x y : V} {u : Value} (hk : isKey k = true) (tk : isTup k = false) (rk : Rep T F ρ k x) (rv : Rep T F ρ v y) (ru : RelV y u) :
    ∀ {kvs : List (PV × PV)} {kl : List (PySem.Leaf × Value)}, LKs T F ρ kvs kl → (kl.map (·.1)).Nodup → LKs T F ρ (storeK k v kvs) (stored kl (lf k) u)
  | _, _, .nil, _ => .cons ⟨rfl, ⟨hk, tk, _, rk⟩, _, rv, ru⟩ .nil
  | (a, w) :: r, (l, z) :: kl, .cons ⟨h1, ⟨h2, h3, h4⟩, h5⟩ rr, hn => by
    have h1' : lf a = l := h1
    subst h1'
    rw [List.map_cons, List.nodup_cons] at hn
    have ih := lks_store hk tk rk rv ru rr hn.2
    unfold storeK
    rw [lf_eqk h2 h3 hk tk]
    by_cases q : lf a = lf k
    · rw [if_pos (decide_eq_true q)]
      have : stored ((lf a, z) :: kl) (lf k) u = (lf a, u) :: kl := by
        unfold stored
        rw [if_pos (by simp [q])]
        rw [List.map_cons, if_pos q]
        congr 1
        refine map_id_of fun p hp => ?_
        rw [if_neg]
        intro e
        exact hn.1 (List.mem_map.mpr ⟨p, hp, by rw [e, q]⟩)
      rw [this]
      exact .cons ⟨rfl, ⟨h2, h3, h4⟩, _, rv, ru⟩ rr
    · rw [if_neg (by simpa using q)]
      have : stored ((lf a, z) :: kl) (lf k) u = (lf a, z) :: stored kl (lf k) u := by
        unfold stored
        rw [List.any_cons]
        simp only [q, decide_false, Bool.false_or]
        split
        · rw [List.map_cons, if_neg q]
        · rfl
      rw [this]
      exact .cons ⟨rfl, ⟨h2, h3, h4⟩, h5⟩ ih
theorem khs_store {F : Hp} {ρ : Rho} {k v : PV} {a : Addr} {y : V} {u : Value} (hk : isKey k = true) (tk : isTup k = true) (rk : Rep T F ρ k (.ref a)) (rv : Rep T F ρ v y) (ru : RelV y u) :
    ∀ {kvs : List (PV × PV)} {xs : List (PySem.NestedKey × Addr × Value)}, KHs T F ρ kvs xs → (xs.map (·.1)).Nodup → KHs T F ρ (storeK k v kvs) (storedH xs (nk k) a u)
  | _, _, .nil, _ => .cons ⟨rfl, ⟨hk, tk, rk⟩, _, rv, ru⟩ .nil
  | (b, w) :: r, (l, c, z) :: xs, .cons ⟨h1, ⟨h2, h3, h4⟩, h5⟩ rr, hn => by
    have h1' : nk b = l := h1
    subst h1'
    rw [List.map_cons, List.nodup_cons] at hn
    have ih := khs_store hk tk rk rv ru rr hn.2
    unfold storeK
    rw [eqk_key h2 hk]
    by_cases q : nk b = nk k
    · rw [if_pos (decide_eq_true q)]
      have : storedH ((nk b, c, z) :: xs) (nk k) a u = (nk b, c, u) :: xs := by
        unfold storedH
        rw [if_pos (by simp [atKey, List.find?_cons, q])]
        rw [List.map_cons]
        unfold putAt
        rw [if_pos q]
        congr 1
        refine map_id_of fun p hp => ?_
        rw [if_neg]
        intro e
        exact hn.1 (List.mem_map.mpr ⟨p, hp, by rw [e, q]⟩)
      rw [this]
      exact .cons ⟨rfl, ⟨h2, h3, h4⟩, _, rv, ru⟩ rr
    · rw [if_neg (by simpa using q)]
      have : storedH ((nk b, c, z) :: xs) (nk k) a u = (nk b, c, z) :: storedH xs (nk k) a u := by
        unfold storedH
        have e : atKey ((nk b, c, z) :: xs) (nk k) = atKey xs (nk k) := by simp [atKey, List.find?_cons, q]
        rw [e]
        split
        · rw [List.map_cons]
          congr 1
          unfold putAt
          rw [if_neg q]
        · rfl
      rw [this]
      exact .cons ⟨rfl, ⟨h2, h3, h4⟩, h5⟩ ih
/-! ### DOk behind a write -/
theorem storeK_mem {k v : PV} : ∀ {kvs : List (PV × PV)} {p : PV × PV}, p ∈ storeK k v kvs → p.1 = k ∨ ∃ q ∈ kvs, q.1 = p.1
  | [], p, h => by
    have : p = (k, v) := by simpa [storeK] using h
    exact .inl (by rw [this])
  | (a, u) :: r, p, h => by
    unfold storeK at h
    split at h
    · rcases List.mem_cons.mp h with e | h
      · exact .inr ⟨_, List.mem_cons_self, by rw [e]⟩
      · exact .inr ⟨p, List.mem_cons_of_mem _ h, rfl⟩
    · rcases List.mem_cons.mp h with e | h
      · exact .inr ⟨_, List.mem_cons_self, by rw [e]⟩
      · rcases storeK_mem h with z | ⟨q, h1, h2⟩
        · exact .inl z
        · exact .inr ⟨q, List.mem_cons_of_mem _ h1, h2⟩
theorem storeK_length {k v : PV} : ∀ {kvs : List (PV × PV)}, (storeK k v kvs).length ≤ kvs.length + 1
  | [] => by simp [storeK]
  | (a, u) :: r => by
    unfold storeK
    split
    · simp
    · have := storeK_length (k := k) (v := v) (kvs := r)
      simp only [List.length_cons]
      omega
theorem storeK_nd {k v : PV} (hk : isKey k = true) : ∀ {kvs : List (PV × PV)}, (∀ p ∈ kvs, isKey p.1 = true) → (kvs.Pairwise fun p q => eqk p.1 q.1 = false) → (storeK k v kvs).Pairwise fun p q => eqk p.1 q.1 = false
  | [], _, _ => by simp [storeK]
  | (a, u) :: r, hkey, h => by
    rw [List.pairwise_cons] at h
    have ka : isKey a = true := hkey _ List.mem_cons_self
    unfold storeK
    split
    · rw [List.pairwise_cons]
      exact ⟨fun q hq => h.1 q hq, h.2⟩
    · rename_i hne
      rw [List.pairwise_cons]
      refine ⟨fun q hq => ?_, storeK_nd hk (fun p hp => hkey p (List.mem_cons_of_mem _ hp)) h.2⟩
      rcases storeK_mem hq with e | ⟨q', h1, h2⟩
      · show eqk a q.1 = false
        rw [e]
        simpa using hne
      · show eqk a q.1 = false
        rw [← h2]
        exact h.1 q' h1
theorem DOk.store {k v : PV} {kvs : List (PV × PV)} (d : DOk kvs) (h : keyFor k kvs = true) (hl : kvs.length + 1 ≤ 16777216) : DOk (storeK k v kvs) := by
  unfold keyFor at h
  rw [Bool.and_eq_true] at h
  have hs : ∀ q ∈ kvs, isTup q.1 = isTup k := fun q hq => by
    cases kvs with
    | nil => cases hq
    | cons p r =>
      have z : (isTup p.1 == isTup k) = true := h.2
      rw [beq_iff_eq] at z
      rw [← z]
      exact (d.sort p List.mem_cons_self q hq).symm
  have hs' : ∀ p ∈ storeK k v kvs, isTup p.1 = isTup k := fun p hp => by
    rcases storeK_mem hp with e | ⟨q, h1, h2⟩
    · rw [e]
    · rw [← h2]; exact hs q h1
  refine ⟨fun p hp => ?_, fun p hp q hq => (hs' p hp).trans (hs' q hq).symm, storeK_nd h.1 d.key d.nd, Nat.le_trans storeK_length hl⟩
  rcases storeK_mem hp with e | ⟨q, h1, h2⟩
  · rw [e]; exact h.1
  · rw [← h2]; exact d.key q h1
theorem DOk.nil : DOk [] := ⟨fun p hp => (by cases hp), fun p hp => (by cases hp), List.Pairwise.nil, by simp⟩
/-! ### the write -/
theorem keyFor_sort {k : PV} {kvs : List (PV × PV)} (d : DOk kvs) (h : keyFor k kvs = true) : isKey k = true ∧ ((isTup k = false ∧ leafD kvs) ∨ (isTup k = true ∧ tupD kvs)) := by
  unfold keyFor at h
  rw [Bool.and_eq_true] at h
  refine ⟨h.1, ?_⟩
  cases kvs with
  | nil =>
    cases hk : isTup k
    · exact .inl ⟨rfl, fun p hp => by cases hp⟩
    · exact .inr ⟨rfl, fun p hp => by cases hp⟩
  | cons p r =>
    have hs : (isTup p.1 == isTup k) = true := h.2
    rw [beq_iff_eq] at hs
    cases hk : isTup k
    · exact .inl ⟨rfl, fun q hq => by rw [← d.sort p List.mem_cons_self q hq, hs, hk]⟩
    · exact .inr ⟨rfl, fun q hq => by rw [← d.sort p List.mem_cons_self q hq, hs, hk]⟩
theorem dictOf_leafK {F : Hp} {ρ : Rho} {P : Program} {h : Heap} {a : Addr} {es : List DictEntry} {ep : Nat} {kvs : List (PV × PV)} {o : Obj} (ho : h.get? a = some o) (hx : o.ExactDict) (hd : o.data = .dict es.toArray ep) (d : DOk kvs) (l : leafD kvs) (r : RepD T F ρ kvs es) :
    h.DictOf (leafK P T.w) a (leafKvs kvs es) := by
  have all : ∀ {kvs : List (PV × PV)} {es : List DictEntry}, RepD T F ρ kvs es → (∀ p ∈ kvs, isKey p.1 = true) → leafD kvs →
      Pairs (leafK P T.w) es (leafKvs kvs es) ∧ ∀ e ∈ es, ∃ k, (leafK P T.w).is k e.key = true ∧ e.hash = (leafK P T.w).hash k := by
    intro kvs
    induction kvs with
    | nil => intro es r _ _; cases r; exact ⟨.nil, fun e he => absurd he (by simp)⟩
    | cons p kvs ih =>
      intro es r hkey l
      cases r with
      | cons hk rk hh hv rv r =>
        have k1 := hkey _ List.mem_cons_self
        have k2 := l _ List.mem_cons_self
        have hi := leafK_is (P := P) (w := T.w) k1 k2 hk rk
        obtain ⟨q1, q2⟩ := ih r (fun p hp => hkey p (List.mem_cons_of_mem _ hp)) (fun p hp => l p (List.mem_cons_of_mem _ hp))
        refine ⟨.cons hi rfl q1, fun e he => ?_⟩
        rcases List.mem_cons.mp he with rfl | he
        · refine ⟨_, hi, ?_⟩
          rw [hh, ← lf_key k1 k2]
          rfl
        · exact q2 e he
  obtain ⟨q1, q2⟩ := all r d.key l
  refine ⟨o, _, ep, ho, hx, hd, fun e he => q2 e (by simpa using he), by simpa using q1, ?_⟩
  rw [leafKvs_keys r]
  exact nodup_lf d l
/-- the key k gets the value v -/
theorem d_setH {s0 : Shared} {F : Hp} {ρ : Rho} {A : Around} {E : Value → Shared → Prop} {Q : Unit → Shared → Prop} {d : Addr} {es : List DictEntry} {ep : Nat} {kvs : List (PV × PV)} {k v : PV} {x y : V} {u uv : Value}
    (I : Inv X pins σ H s0) (hh : s.heap = s0.heap) (hK : X.K = T.K) (hw : X.w = T.w) (hF : ∀ a o, F a = some o → H a = some o) (hu : A.units + 16 < cLine) (hd : H d = some (DX d es ep)) (ok : DOk kvs) (r : RepD T F ρ kvs es)
    (kf : keyFor k kvs = true) (rk : Rep T F ρ k x) (ru : RelV x u) (rv : Rep T F ρ v y) (ruv : RelV y uv) (hl : kvs.length ≤ sizeLine)
    (q : ∀ h' tk es' ep', (∀ tk', Inv X pins σ (upd H d (DX d es' ep')) { s0 with heap := h', toks := tk' }) → Heap.SameBut d s.heap h' → RepD T F ρ (storeK k v kvs) es' → Q () { s with heap := h', toks := tk }) :
    wpAny (model X.prog X.w) A (dictSet d u uv) Q E s := by
  obtain ⟨hsys, o, ho, hx, hdat⟩ := dx_at I.hok hd
  rw [← hh] at ho
  obtain ⟨k1, k2⟩ := keyFor_sort ok kf
  have fin : ∀ h' tk es' ep' o', h'.get? d = some o' → o'.ExactDict → o'.data = .dict es' ep' → Heap.SameBut d s.heap h' → RepD T F ρ (storeK k v kvs) es'.toList → Q () { s with heap := h', toks := tk } := fun h' tk es' ep' o' e1 e2 e3 sb r' => by
    refine q h' tk es'.toList ep' (fun tk' => ?_) sb r'
    refine I.write (t' := tk') (x := d) (e := d) (by rw [hd]; exact True.intro) (.inl rfl) (fun b u hb e => (sb.2 b hb).trans (by rw [hh]; exact e)) ⟨o', e1⟩ ?_
    refine ⟨⟨hsys, o', e1, e2, by simpa using e3⟩, ⟨o', e1⟩, fun h1 h2 p st => ?_⟩
    obtain ⟨p1, p2, p3, p4⟩ := p
    exact ⟨p1, p2, st _ p3, p4⟩
  rcases k2 with ⟨kt, kl⟩ | ⟨kt, kl⟩
  · have dm := dictOf_leafK (P := X.prog) ho hx hdat ok kl r
    rw [← hw] at dm
    refine wpAny_dictSet_pairs (leafK_is k1 kt rk ru) dm (fun h' dm' sb => ?_) (by rw [leafKvs_length r]; exact hl)
    obtain ⟨o', es', ep', e1, e2, e3, e4, e5, e6⟩ := dm'
    refine fin h' _ es' ep' o' e1 e2 e3 sb ?_
    rw [hw] at e4 e5
    exact lks_back (P := X.prog) (lks_store k1 kt rk rv ruv (lks_of r ok.key kl) (by rw [leafKvs_keys r]; exact nodup_lf ok kl)) e5 fun e he => e4 e (by simpa using he)
  · obtain ⟨al, rfl, rfl⟩ := rep_ref_of_tup kt rk ru
    have dm := dictOf_tup I hK hw hF hd ok kl r
    rw [← hh] at dm
    have hkey : (PySem.nestedKind X.prog X.w).is s.heap (nk k) al := ⟨by rw [hh]; exact nested_of I hK hF 8 k _ _ k1 rk rfl, nk_depth 8 k⟩
    have hlen : (tupKvs kvs es).length ≤ sizeLine := by
      have := congrArg List.length (tupKvs_keys (T := T) (F := F) (ρ := ρ) r)
      simp only [List.length_map] at this
      omega
    refine wpAny_dictSet_heap (show (PySem.nestedKind X.prog X.w).room A from by show A.units + 8 < cLine; omega) hkey dm (fun h' dm' sb => ?_) hlen
    obtain ⟨o', es', ep', e1, e2, e3, e4, e5, e6⟩ := dm'
    refine fin h' _ es' ep' o' e1 e2 e3 sb ?_
    rw [e4, hw]
    exact khs_back (P := X.prog) (khs_store k1 kt rk rv ruv (khs_of r ok.key kl) (by rw [tupKvs_keys r]; exact nodup_nk ok))
/-- the key k gets the value v -/
theorem d_set {F : Hp} {ρ : Rho} {A : Around} {E : Value → Shared → Prop} {Q : Unit → Shared → Prop} {d : Addr} {es : List DictEntry} {ep : Nat} {kvs : List (PV × PV)} {k v : PV} {x y : V} {u uv : Value}
    (I : Inv X pins σ H s) (hK : X.K = T.K) (hw : X.w = T.w) (hF : ∀ a o, F a = some o → H a = some o) (hu : A.units + 16 < cLine) (hd : H d = some (DX d es ep)) (ok : DOk kvs) (r : RepD T F ρ kvs es)
    (kf : keyFor k kvs = true) (rk : Rep T F ρ k x) (ru : RelV x u) (rv : Rep T F ρ v y) (ruv : RelV y uv) (hl : kvs.length ≤ sizeLine)
    (q : ∀ h' tk es' ep', Inv X pins σ (upd H d (DX d es' ep')) { s with heap := h', toks := tk } → RepD T F ρ (storeK k v kvs) es' → Q () { s with heap := h', toks := tk }) :
    wpAny (model X.prog X.w) A (dictSet d u uv) Q E s :=
  d_setH I rfl hK hw hF hu hd ok r kf rk ru rv ruv hl fun h' tk es' ep' I' _ r' => q h' tk es' ep' (I' tk) r'
end
end Z

set_option Elab.async false
set_option linter.all false
set_option maxRecDepth 100000
set_option maxHeartbeats 4000000
/-! Z4: == of values of any depth. -/
namespace Z
open PySem PySem.Spec PyProof.Rows L2
/-- u != v answers the contrary of b -/
def RcNeIn (P : Program) (w : World) (A : Around) (s : Shared) (u v : Value) (b : Bool) : Prop :=
  ∀ (E : Value → Shared → Prop) (Q : Value → Shared → Prop), Q (.bool (!b)) s → wpAny (model P w) A (compareOp .NotEq u v) Q E s
theorem RcNeIn.of {P : Program} {w : World} {A : Around} {s : Shared} {u v : Value} {b : Bool} (h : SeqAt.RcNeAt A s u v (!b)) : RcNeIn P w A s u v b := fun E Q q => h P w E Q q
section
variable {T : Top} {X : Cx} {pins : List (Addr × Obj)} {σ : L2.St} {H : Hp} {s : Shared}
/-- d == e, keys tuples (after keq_samePairsIn) -/
theorem samePairsH {K : Type} [DecidableEq K] {prog : Program} {w : World} {knd : HeapKind prog w K} {A : Around} {E : Value → Shared → Prop} {s : Shared} {nm : String} {a b : Addr} {xa xb : List (K × Addr × Value)} {r : Bool} {Q : Bool → Shared → Prop}
    (ha : (a == sysModules) = false) (hb : (b == sysModules) = false) (hr : knd.room A)
    (da : s.heap.DictOfH knd a xa) (db : s.heap.DictOfH knd b xb) (hits : xa.length = xb.length → PySem.W.KeqHitsIn prog w A s (pairsH xb) (pairsH xa) r) (h : Q (xa.length == xb.length && r) s) :
    wpAny (model prog w) A (Builtin.Dict.samePairs nm a b) Q E s := by
  obtain ⟨oa, es, ep, hoa, _, hda, hea, hia, _⟩ := da
  obtain ⟨ob, es', ep', hob, _, hdb, heb, hib, hnb⟩ := id db
  have hla : xa.length = es.size := by rw [← Array.length_toList, hea, List.length_map]
  have hlb : xb.length = es'.size := by rw [← Array.length_toList, heb, List.length_map]
  rw [hla, hlb] at h
  unfold Builtin.Dict.samePairs Builtin.Dict.showsAll
  rw [if_neg (show ¬ (a == sysModules) = true by rw [ha]; exact Bool.false_ne_true), if_neg (show ¬ (b == sysModules) = true by rw [hb]; exact Bool.false_ne_true)]
  refine wpAny_bind (wpAny_pure (wpAny_bind (wpAny_pure ?_)))
  refine wpAny_bind (wpAny_dictEntries hoa hda ?_)
  dsimp only
  refine wpAny_bind (wpAny_dictEntries hob hdb ?_)
  by_cases hsz : es.size = es'.size
  case neg =>
    rw [if_pos (by simpa using hsz)]
    have hbf : (es.size == es'.size) = false := by simpa using hsz
    rw [hbf, Bool.false_and] at h
    exact wpAny_bind (wpAny_rule (wpAny_pure h))
  case pos =>
    have h' : Q r s := by simpa [hsz] using h
    have hits' := hits (by rw [hla, hlb]; exact hsz)
    rw [if_neg (by rw [hsz]; simp)]
    refine wpAny_bind (wpAny_dictEpoch hoa hda ?_)
    refine wpAny_bind ?_
    rw [Std.Legacy.Range.forIn_eq_forIn_range']
    simp only [Std.Legacy.Range.size, Nat.sub_zero, Nat.add_sub_cancel, Nat.div_one]
    refine wpAny_forIn_list _
      (fun rest q s' => s' = s ∧ q = (none, ()) ∧ ∃ i, rest = List.range' i (es.size - i) ∧ i ≤ es.size ∧ PySem.W.KeqHitsIn prog w A s (pairsH xb) (pairsH (xa.drop i)) r)
      _ ?_ ?_ _ _ ⟨rfl, rfl, 0, by simp, Nat.zero_le _, by simpa using hits'⟩
    · rintro x rest q s' ⟨rfl, rfl, i, hr', hi, hpre⟩
      have hlt : i < es.size := by
        rcases Nat.lt_or_ge i es.size with h | h
        · exact h
        · rw [Nat.sub_eq_zero_of_le h] at hr'; simp at hr'
      obtain ⟨rfl, hrest⟩ : x = i ∧ rest = List.range' (i + 1) (es.size - (i + 1)) := by
        have e : es.size - i = (es.size - (i + 1)) + 1 := by omega
        rw [e, List.range'_succ] at hr'
        injection hr' with h1 h2
        exact ⟨h1, h2⟩
      refine wpAny_bind (wpAny_dictEntries hoa hda ?_)
      rw [Array.getElem?_eq_getElem hlt]
      have hlt' : x < xa.length := by rw [hla]; exact hlt
      obtain ⟨k, p, v, hkv⟩ : ∃ k p v, xa[x] = (k, p, v) := ⟨_, _, _, rfl⟩
      have hdrop : xa.drop x = (k, p, v) :: xa.drop (x + 1) := by rw [← hkv]; exact List.drop_eq_getElem_cons hlt'
      have hent : es[x] = ⟨knd.hash k, .ref p, v⟩ := by
        have q1 := entry_at hea x
        rw [Array.getElem?_eq_getElem hlt, List.getElem?_eq_getElem hlt', hkv] at q1
        simpa [entryOfKey] using q1
      have hkey : knd.is s'.heap k p := by
        have := hia (k, p, v) (by rw [← hkv]; exact List.getElem_mem hlt')
        exact this
      rw [hdrop] at hpre
      rw [hent]
      show wpAny _ _ (holding [.ref p, v] _ >>= _) _ _ _
      have hpre' : PySem.W.KeqHitsIn prog w A s' (pairsH xb) ((k, v) :: pairsH (xa.drop (x + 1))) r := hpre
      have at_of : ∀ (j : Nat) (q : Addr × Value), xb[j]? = some (k, q) → valueAt (pairsH xb) k = some q.2 := fun j q hj => by
        have hm : (k, q.2) ∈ pairsH xb := List.mem_map.mpr ⟨(k, q), List.mem_of_getElem? hj, rfl⟩
        have hn : ((pairsH xb).map (·.1)).Nodup := by
          unfold pairsH
          rw [List.map_map]
          exact hnb
        exact valueAt_of_mem hn hm
      have at_none : (∀ (j : Nat) (q : Addr × Value), xb[j]? ≠ some (k, q)) → valueAt (pairsH xb) k = none := fun hno => by
        unfold valueAt
        rw [List.find?_eq_none.mpr, Option.map_none]
        intro kv hkv
        obtain ⟨x, hx, rfl⟩ := List.mem_map.mp hkv
        obtain ⟨j, hj⟩ := List.getElem?_of_mem hx
        intro hq
        have hq' : x.1 = k := by simpa using hq
        obtain ⟨x1, x2⟩ := x
        simp only at hq'
        subst hq'
        exact hno j x2 hj
      refine wpAny_bind (wpAny_holding (wpAny_bind (wpAny_dictFind_heap hr hkey hob hdb heb hib hnb (fun hno => ?_) (fun j q hj => ?_))))
      · have hn := at_none hno
        rcases hpre'.inv with ⟨_, er⟩ | ⟨y, _, _, hy, _⟩
        · rw [er] at h'
          refine wpAny_pure ?_
          show wpAny _ _ (if (!false) = true then _ else _) _ _ _
          rw [if_pos (by decide)]
          exact wpAny_pure (wpAny_pure h')
        · rw [hn] at hy; exact nomatch hy
      · have hv' := at_of j q hj
        have hent' : es'[j]? = some ⟨knd.hash k, .ref q.1, q.2⟩ := by
          rw [entry_at heb j, hj]
          rfl
        refine wpAny_bind (wpAny_dictEntries hob hdb ?_)
        rw [hent']
        rcases hpre'.inv with ⟨hn, _⟩ | ⟨y, e, b', hy, he, hrr, er⟩
        · rw [hv'] at hn; exact nomatch hn
        · have ey : q.2 = y := Option.some.inj (hv'.symm.trans hy)
          rw [← ey] at he
          refine wpAny_holding (he _ _ ?_)
          cases e with
          | false =>
            rw [er, Bool.false_and] at h'
            show wpAny _ _ (if (!false) = true then _ else _) _ _ _
            rw [if_pos (by decide)]
            exact wpAny_pure (wpAny_pure h')
          | true =>
            rw [Bool.true_and] at er
            rw [← er] at hrr
            show wpAny _ _ (if (!true) = true then _ else _) _ _ _
            rw [if_neg (by decide)]
            refine wpAny_bind (wpAny_dictEpoch hoa hda ?_)
            rw [if_neg (by simp)]
            exact wpAny_pure ⟨rfl, rfl, x + 1, hrest, hlt, hrr⟩
    · rintro q s' ⟨rfl, rfl, i, hr', hi, hpre⟩
      have hin : i = es.size := by
        rcases Nat.lt_or_ge i es.size with h | h
        · have e : es.size - i = (es.size - (i + 1)) + 1 := by omega
          rw [e, List.range'_succ] at hr'; exact nomatch hr'
        · exact Nat.le_antisymm hi h
      refine wpAny_pure ?_
      rw [hin, ← hla, List.drop_length] at hpre
      cases hpre
      exact h'
theorem eqInH {K : Type} [DecidableEq K] {prog : Program} {w : World} {knd : HeapKind prog w K} {A : Around} {E : Value → Shared → Prop} {s : Shared} {a b : Addr} {xa xb : List (K × Addr × Value)} {r : Bool} {Q : Value → Shared → Prop}
    (ha : (a == sysModules) = false) (hb : (b == sysModules) = false) (hr : knd.room A.in1)
    (da : s.heap.DictOfH knd a xa) (db : s.heap.DictOfH knd b xb) (hu : A.units < cLine) (hits : xa.length = xb.length → PySem.W.KeqHitsIn prog w A.in1 s (pairsH xb) (pairsH xa) r) (h : Q (.bool (xa.length == xb.length && r)) s) :
    wpAny (model prog w) A (compareOp .Eq (.ref a) (.ref b)) Q E s := by
  have ta : s.TypeIs (.ref a) "dict" := by obtain ⟨o, _, _, ho, hc, _⟩ := da; exact ⟨o, ho, hc.1⟩
  have tb : s.TypeIs (.ref b) "dict" := by obtain ⟨o, _, _, ho, hc, _⟩ := db; exact ⟨o, ho, hc.1⟩
  refine wpAny_richCompare_same_room (op := .Eq) ta tb PySem.F.slot_dict_eq (wpAny_call_entry PySem.F.slot_dict_eq ta PySem.F.entry_dict_eq ?_ (PySem.F.args_dict_eq_2 _ _)) hu
  show wpAny _ _ (Builtin.Dict.dictSlotArgs "__eq__" ⟨[.ref a, .ref b], []⟩ >>= _) _ _ s
  refine wpAny_bind ?_
  unfold Builtin.Dict.dictSlotArgs
  refine wpAny_bind (wpAny_notOrdered_dict ta ?_)
  show wpAny _ _ (pure (Value.ref a, Value.ref b)) _ _ s
  refine wpAny_pure ?_
  refine wpAny_bind (wpAny_isInstance (T := "dict") tb PySem.F.sub_dict_dict ?_)
  simp only [Bool.not_true, Bool.false_eq_true, if_false]
  refine wpAny_bind (wpAny_pure (wpAny_bind (wpAny_pure ?_)))
  refine wpAny_bind (samePairsH ha hb hr da db hits ?_)
  refine wpAny_pure ⟨_, rfl, ?_, ?_⟩
  · exact fun x => nomatch x
  · simpa using h

theorem neInH {K : Type} [DecidableEq K] {prog : Program} {w : World} {knd : HeapKind prog w K} {A : Around} {E : Value → Shared → Prop} {s : Shared} {a b : Addr} {xa xb : List (K × Addr × Value)} {r : Bool} {Q : Value → Shared → Prop}
    (ha : (a == sysModules) = false) (hb : (b == sysModules) = false) (hr : knd.room A.in1)
    (da : s.heap.DictOfH knd a xa) (db : s.heap.DictOfH knd b xb) (hu : A.units < cLine) (hits : xa.length = xb.length → PySem.W.KeqHitsIn prog w A.in1 s (pairsH xb) (pairsH xa) r) (h : Q (.bool (!(xa.length == xb.length && r))) s) :
    wpAny (model prog w) A (compareOp .NotEq (.ref a) (.ref b)) Q E s := by
  have ta : s.TypeIs (.ref a) "dict" := by obtain ⟨o, _, _, ho, hc, _⟩ := da; exact ⟨o, ho, hc.1⟩
  have tb : s.TypeIs (.ref b) "dict" := by obtain ⟨o, _, _, ho, hc, _⟩ := db; exact ⟨o, ho, hc.1⟩
  refine wpAny_richCompare_same_room (op := .NotEq) ta tb PySem.F.slot_dict_ne (wpAny_call_entry PySem.F.slot_dict_ne ta PySem.F.entry_dict_ne ?_ (PySem.F.args_dict_ne_2 _ _)) hu
  show wpAny _ _ (Builtin.Dict.dictSlotArgs "__ne__" ⟨[.ref a, .ref b], []⟩ >>= _) _ _ s
  refine wpAny_bind ?_
  unfold Builtin.Dict.dictSlotArgs
  refine wpAny_bind (wpAny_notOrdered_dict ta ?_)
  show wpAny _ _ (pure (Value.ref a, Value.ref b)) _ _ s
  refine wpAny_pure ?_
  refine wpAny_bind (wpAny_isInstance (T := "dict") tb PySem.F.sub_dict_dict ?_)
  simp only [Bool.not_true, Bool.false_eq_true, if_false]
  refine wpAny_bind (wpAny_pure (wpAny_bind (wpAny_pure ?_)))
  refine wpAny_bind (samePairsH ha hb hr da db hits ?_)
  refine wpAny_pure ⟨_, rfl, ?_, ?_⟩
  · exact fun x => nomatch x
  · simpa using h

theorem neIn_leaf {K : Type} [DecidableEq K] {prog : Program} {w : World} {knd : KeyKind prog w K} {A : Around} {E : Value → Shared → Prop} {s : Shared} {a b : Addr} {ka kb : List (K × Value)} {r : Bool} {Q : Value → Shared → Prop}
    (ha : (a == sysModules) = false) (hb : (b == sysModules) = false)
    (da : s.heap.DictOf knd a ka) (db : s.heap.DictOf knd b kb) (hu : A.units < cLine) (hits : ka.length = kb.length → PySem.W.KeqHitsIn prog w A.in1 s kb ka r) (h : Q (.bool (!(ka.length == kb.length && r))) s) :
    wpAny (model prog w) A (compareOp .NotEq (.ref a) (.ref b)) Q E s := by
  have ta := da.typeIs
  have tb := db.typeIs
  refine wpAny_richCompare_same_room (op := .NotEq) ta tb PySem.F.slot_dict_ne (wpAny_call_entry PySem.F.slot_dict_ne ta PySem.F.entry_dict_ne ?_ (PySem.F.args_dict_ne_2 _ _)) hu
  show wpAny _ _ (Builtin.Dict.dictSlotArgs "__ne__" ⟨[.ref a, .ref b], []⟩ >>= _) _ _ s
  refine wpAny_bind ?_
  unfold Builtin.Dict.dictSlotArgs
  refine wpAny_bind (wpAny_notOrdered_dict ta ?_)
  show wpAny _ _ (pure (Value.ref a, Value.ref b)) _ _ s
  refine wpAny_pure ?_
  refine wpAny_bind (wpAny_isInstance (T := "dict") tb PySem.F.sub_dict_dict ?_)
  simp only [Bool.not_true, Bool.false_eq_true, if_false]
  refine wpAny_bind (wpAny_pure (wpAny_bind (wpAny_pure ?_)))
  refine wpAny_bind (PySem.W.keq_samePairsIn ha hb da db hits ?_)
  refine wpAny_pure ⟨_, rfl, ?_, ?_⟩
  · exact fun x => nomatch x
  · simpa using h

theorem vals_get {xs : List V} {us : List Value} (r : Vals xs us) {j : Nat} (h : j < xs.length) (h' : j < us.length) : RelV xs[j] us[j] := by
  obtain ⟨u, e1, e2⟩ := Vals.get r (List.getElem?_eq_getElem h)
  rw [List.getElem?_eq_getElem h'] at e1
  cases e1
  exact e2
theorem reps_get {F : Hp} {ρ : Rho} : ∀ {xs : List PV} {ys : List V}, Reps T F ρ xs ys → ∀ {j : Nat} (h : j < xs.length) (h' : j < ys.length), Rep T F ρ xs[j] ys[j]
  | _, _, .nil, j, h, _ => absurd h (by simp)
  | _, _, .cons r _, 0, _, _ => r
  | _, _, .cons _ r, j + 1, h, h' => reps_get r (by simpa using h) (by simpa using h')
/-- the first pair that differs, as eqLs finds it -/
theorem diff_of {F : Hp} {ρ : Rho} {P : Program} {w : World} {A : Around} {f : PV → PV → Option Bool}
    (hf : ∀ a b c x y u v, f a b = some c → Rep T F ρ a x → Rep T F ρ b y → RelV x u → RelV y v → EqIn P w A s u v c) :
    ∀ {xs ys : List PV} {ps qs : List V} {us vs : List Value} {c : Bool}, eqLs f xs ys = some c → Reps T F ρ xs ps → Reps T F ρ ys qs → Vals ps us → Vals qs vs → ∃ d, Diff P w A s us vs d ∧ c = (d.isNone && us.length == vs.length)
  | [], [], _, _, _, _, c, h, .nil, .nil, .nil, .nil => ⟨none, .left, by simpa [eqLs] using h.symm⟩
  | [], _ :: _, _, _, _, _, c, h, .nil, .cons _ _, .nil, .cons _ _ => ⟨none, .left, by simpa [eqLs] using h.symm⟩
  | _ :: _, [], _, _, _, _, c, h, .cons _ _, .nil, .cons _ _, .nil => ⟨none, .right, by simpa [eqLs] using h.symm⟩
  | a :: r, b :: t, _, _, _, _, c, h, .cons r1 rr1, .cons r2 rr2, .cons v1 vv1, .cons v2 vv2 => by
    rw [eqLs] at h
    split at h
    · rename_i h1
      obtain ⟨d, hd, hc⟩ := diff_of hf h rr1 rr2 vv1 vv2
      exact ⟨d, .eq (hf _ _ _ _ _ _ _ h1 r1 r2 v1 v2) hd, by simpa using hc⟩
    · rename_i h1
      exact ⟨some _, .ne (hf _ _ _ _ _ _ _ h1 r1 r2 v1 v2), by simpa using h.symm⟩
    · cases h
theorem lookK_some {k : PV} : ∀ {kvs : List (PV × PV)} {v : PV}, lookK k kvs = some v → ∃ a, (a, v) ∈ kvs ∧ eqk a k = true
  | [], v, h => by simp [lookK] at h
  | (a, u) :: r, v, h => by
    rw [lookK] at h
    split at h
    · rename_i q
      cases h
      exact ⟨a, List.mem_cons_self, q⟩
    · obtain ⟨b, h1, h2⟩ := lookK_some h
      exact ⟨b, List.mem_cons_of_mem _ h1, h2⟩
theorem lookK_none {k : PV} : ∀ {kvs : List (PV × PV)}, lookK k kvs = none → ∀ p ∈ kvs, eqk p.1 k = false
  | [], h, p, hp => absurd hp (by simp)
  | (a, u) :: r, h, p, hp => by
    rw [lookK] at h
    split at h
    · cases h
    · rename_i q
      rcases List.mem_cons.mp hp with rfl | hp
      · simpa using q
      · exact lookK_none h p hp
/-- the library's look-up is ours: leaf keys -/
theorem look_leaf {F : Hp} {ρ : Rho} {k : PV} (hk : isKey k = true) (ht : isTup k = false) : ∀ {kvs : List (PV × PV)} {es : List DictEntry}, RepD T F ρ kvs es → (∀ p ∈ kvs, isKey p.1 = true) → leafD kvs →
    (lookK k kvs = none ∧ valueAt (leafKvs kvs es) (lf k) = none) ∨ ∃ v y u, lookK k kvs = some v ∧ valueAt (leafKvs kvs es) (lf k) = some u ∧ Rep T F ρ v y ∧ RelV y u
  | _, _, .nil, _, _ => .inl ⟨rfl, rfl⟩
  | _, _, .cons (k := a) (v := v) (e := e) h1 h2 h3 h4 h5 r, hkey, hl => by
    have k1 := hkey _ List.mem_cons_self
    have t1 := hl _ List.mem_cons_self
    have eq : eqk a k = decide (lf a = lf k) := by
      rw [eqk_key k1 hk, ← lf_key k1 t1, ← lf_key hk ht]
      by_cases q : lf a = lf k
      · rw [q]; simp
      · rw [decide_eq_false q, decide_eq_false fun z => q (PySem.Leaf.key_inj z)]
    show (lookK k ((a, v) :: _) = none ∧ valueAt ((lf a, e.val) :: leafKvs _ _) (lf k) = none) ∨ ∃ v' y u, lookK k ((a, v) :: _) = some v' ∧ valueAt ((lf a, e.val) :: leafKvs _ _) (lf k) = some u ∧ _ ∧ _
    rw [lookK, eq]
    unfold valueAt
    rw [List.find?_cons]
    by_cases q : lf a = lf k
    · simp only [q, decide_true, if_true]
      exact .inr ⟨v, _, e.val, rfl, rfl, h4, h5⟩
    · simp only [q, decide_false]
      exact look_leaf hk ht r (fun p hp => hkey p (List.mem_cons_of_mem _ hp)) fun p hp => hl p (List.mem_cons_of_mem _ hp)
/-- .. tuples as keys -/
theorem look_tup {F : Hp} {ρ : Rho} {k : PV} (hk : isKey k = true) : ∀ {kvs : List (PV × PV)} {es : List DictEntry}, RepD T F ρ kvs es → (∀ p ∈ kvs, isKey p.1 = true) →
    (lookK k kvs = none ∧ valueAt (pairsH (tupKvs kvs es)) (nk k) = none) ∨ ∃ v y u, lookK k kvs = some v ∧ valueAt (pairsH (tupKvs kvs es)) (nk k) = some u ∧ Rep T F ρ v y ∧ RelV y u
  | _, _, .nil, _ => .inl ⟨rfl, rfl⟩
  | _, _, .cons (k := a) (v := v) (e := e) h1 h2 h3 h4 h5 r, hkey => by
    have k1 := hkey _ List.mem_cons_self
    have eq : eqk a k = decide (nk a = nk k) := eqk_key k1 hk
    show (lookK k ((a, v) :: _) = none ∧ valueAt ((nk a, e.val) :: pairsH (tupKvs _ _)) (nk k) = none) ∨ ∃ v' y u, lookK k ((a, v) :: _) = some v' ∧ valueAt ((nk a, e.val) :: pairsH (tupKvs _ _)) (nk k) = some u ∧ _ ∧ _
    rw [lookK, eq]
    unfold valueAt
    rw [List.find?_cons]
    by_cases q : nk a = nk k
    · simp only [q, decide_true, if_true]
      exact .inr ⟨v, _, e.val, rfl, rfl, h4, h5⟩
    · simp only [q, decide_false]
      exact look_tup hk r fun p hp => hkey p (List.mem_cons_of_mem _ hp)

/-- dicts: each pair looked up -/
theorem eqDs_leaf {F : Hp} {ρ : Rho} {P : Program} {w : World} {A : Around} {f : PV → PV → Option Bool} {ls : List (PV × PV)} {fs : List DictEntry} (rl : RepD T F ρ ls fs) (kl : ∀ p ∈ ls, isKey p.1 = true) (ll : leafD ls)
    (hf : ∀ a b c x y u v, f a b = some c → Rep T F ρ a x → Rep T F ρ b y → RelV x u → RelV y v → EqIn P w A s u v c) :
    ∀ {ks : List (PV × PV)} {es : List DictEntry} {c : Bool}, RepD T F ρ ks es → (∀ p ∈ ks, isKey p.1 = true) → leafD ks → eqDs f ls ks = some c → PySem.W.KeqHitsIn P w A s (leafKvs ls fs) (leafKvs ks es) c
  | _, _, c, .nil, _, _, h => by
    have : c = true := by simpa [eqDs] using h.symm
    subst this
    exact .nil
  | _, _, c, .cons (k := a) (v := v) (e := e) h1 h2 h3 h4 h5 r, kk, lk, h => by
    have k1 := kk _ List.mem_cons_self
    have t1 := lk _ List.mem_cons_self
    rw [eqDs] at h
    rcases look_leaf k1 t1 rl kl ll with ⟨e1, e2⟩ | ⟨v', y', u', e1, e2, r1, r2⟩
    · rw [e1] at h
      simp only at h
      split at h
      · have : c = false := by simpa using h.symm
        subst this
        exact .miss e2
      · cases h
    · rw [e1] at h
      simp only at h
      split at h
      · rename_i x hx
        split at h
        · rename_i y hy
          have : c = (x && y) := by simpa using h.symm
          subst this
          exact .hit e2 (hf _ _ _ _ _ _ _ hx h4 r1 h5 r2) (eqDs_leaf rl kl ll hf r (fun p hp => kk p (List.mem_cons_of_mem _ hp)) (fun p hp => lk p (List.mem_cons_of_mem _ hp)) hy)
        · cases h
      · cases h
theorem eqDs_tup {F : Hp} {ρ : Rho} {P : Program} {w : World} {A : Around} {f : PV → PV → Option Bool} {ls : List (PV × PV)} {fs : List DictEntry} (rl : RepD T F ρ ls fs) (kl : ∀ p ∈ ls, isKey p.1 = true)
    (hf : ∀ a b c x y u v, f a b = some c → Rep T F ρ a x → Rep T F ρ b y → RelV x u → RelV y v → EqIn P w A s u v c) :
    ∀ {ks : List (PV × PV)} {es : List DictEntry} {c : Bool}, RepD T F ρ ks es → (∀ p ∈ ks, isKey p.1 = true) → eqDs f ls ks = some c → PySem.W.KeqHitsIn P w A s (pairsH (tupKvs ls fs)) (pairsH (tupKvs ks es)) c
  | _, _, c, .nil, _, h => by
    have : c = true := by simpa [eqDs] using h.symm
    subst this
    exact .nil
  | _, _, c, .cons (k := a) (v := v) (e := e) h1 h2 h3 h4 h5 r, kk, h => by
    have k1 := kk _ List.mem_cons_self
    rw [eqDs] at h
    rcases look_tup k1 rl kl with ⟨e1, e2⟩ | ⟨v', y', u', e1, e2, r1, r2⟩
    · rw [e1] at h
      simp only at h
      split at h
      · have : c = false := by simpa using h.symm
        subst this
        exact .miss e2
      · cases h
    · rw [e1] at h
      simp only at h
      split at h
      · rename_i x hx
        split at h
        · rename_i y hy
          have : c = (x && y) := by simpa using h.symm
          subst this
          exact .hit e2 (hf _ _ _ _ _ _ _ hx h4 r1 h5 r2) (eqDs_tup rl kl hf r (fun p hp => kk p (List.mem_cons_of_mem _ hp)) hy)
        · cases h
      · cases h
theorem same_sort {ks ls : List (PV × PV)} (dk : DOk ks) (dl : DOk ls) (h : sameSorts ks ls = true) (hl : ks.length = ls.length) : (leafD ks ∧ leafD ls) ∨ (tupD ks ∧ tupD ls) := by
  cases ks with
  | nil =>
    cases ls with
    | nil => exact .inl ⟨fun p hp => absurd hp (by simp), fun p hp => absurd hp (by simp)⟩
    | cons b t => cases hl
  | cons a r =>
    cases ls with
    | nil => cases hl
    | cons b t =>
      have e : isTup a.1 = isTup b.1 := by
        have h' : (isTup a.1 == isTup b.1) = true := h
        exact beq_iff_eq.mp h'
      cases q : isTup a.1 with
      | false => exact .inl ⟨fun p hp => by rw [← dk.sort a List.mem_cons_self p hp]; exact q, fun p hp => by rw [← dl.sort b List.mem_cons_self p hp, ← e]; exact q⟩
      | true => exact .inr ⟨fun p hp => by rw [← dk.sort a List.mem_cons_self p hp]; exact q, fun p hp => by rw [← dl.sort b List.mem_cons_self p hp, ← e]; exact q⟩
theorem vals_size {ys : List V} {its : List Value} (r : Vals ys its) : its.toArray.size = ys.length := by rw [List.size_toArray]; exact r.length.symm
/-- one turn of == : values looked through -/
theorem eqT_rc {F : Hp} {ρ : Rho} (I : Inv X pins σ H s) (hK : X.K = T.K) (hw : X.w = T.w) (hF : ∀ a o, F a = some o → H a = some o) {f : PV → PV → Option Bool} {A : Around} (hu : A.units + 16 < cLine)
    (hf : ∀ a b c x y u v, f a b = some c → Rep T F ρ a x → Rep T F ρ b y → RelV x u → RelV y v → EqIn X.prog X.w A.in1 s u v c) {a b : PV} {x y : V} {u v : Value} {c : Bool}
    (ta : Top1 T F ρ H a x) (tb : Top1 T F ρ H b y) (ru : RelV x u) (rv : RelV y v) (e : eqT f a b = some c) : RcIn X.prog X.w A s u v c := by
  have hu0 : A.units < cLine := by omega
  cases ta with
  | non =>
    cases ru
    cases tb with
    | non =>
      cases rv
      rw [show c = true from by simpa [eqT] using e.symm]; exact .of .none_none
    | bl b2 =>
      cases rv
      rw [show c = false from (by simpa [eqT, eqTag, tagOf] using e.symm)]; exact .of (.none_bool _)
    | int i2 =>
      obtain ⟨t2, rfl⟩ := rv
      rw [show c = false from (by simpa [eqT, eqTag, tagOf] using e.symm)]; exact .of (.none_int _ _)
    | str s2 h2 =>
      obtain ⟨t2, rfl⟩ := rv
      rw [show c = false from (by simpa [eqT, eqTag, tagOf] using e.symm)]; exact .of (.none_str _ _)
    | tup h2 r2 =>
      cases rv; obtain ⟨its2, v2, q2, z2⟩ := I.tuple (hK ▸ h2.1)
      rw [show c = false from (by simpa [eqT, eqTag, tagOf] using e.symm)]; exact .of (.none_tuple q2 hu0)
    | lst h2 r2 =>
      cases rv; obtain ⟨its2, v2, q2, z2⟩ := I.list (SqL.of h2)
      rw [show c = false from (by simpa [eqT, eqTag, tagOf] using e.symm)]; exact .of (.none_list q2.isList hu0)
    | _ => simp [eqT, eqTag, tagOf] at e
  | bl b1 =>
    cases ru
    cases tb with
    | non =>
      cases rv
      rw [show c = false from (by simpa [eqT, eqTag, tagOf] using e.symm)]; exact .of (.bool_none _)
    | bl b2 =>
      cases rv
      rw [show c = (b1 == b2) from by simpa [eqT] using e.symm]; exact .of (.bool_bool _ _)
    | int i2 =>
      obtain ⟨t2, rfl⟩ := rv
      have e1 : decide (b2i b1 = i2) = c := by simpa [eqT] using e
      have e2 : c = ((if b1 = true then 1 else 0) == i2) := by rw [← e1, Bool.beq_eq_decide_eq]; cases b1 <;> rfl
      rw [e2]; exact .of (.bool_int _ _ _)
    | str s2 h2 =>
      obtain ⟨t2, rfl⟩ := rv
      rw [show c = false from (by simpa [eqT, eqTag, tagOf] using e.symm)]; exact .of (.bool_str _ _ _)
    | tup h2 r2 =>
      cases rv; obtain ⟨its2, v2, q2, z2⟩ := I.tuple (hK ▸ h2.1)
      rw [show c = false from (by simpa [eqT, eqTag, tagOf] using e.symm)]; exact .of (.bool_tuple _ q2 hu0)
    | lst h2 r2 =>
      cases rv; obtain ⟨its2, v2, q2, z2⟩ := I.list (SqL.of h2)
      rw [show c = false from (by simpa [eqT, eqTag, tagOf] using e.symm)]; exact .of (.bool_list _ q2.isList hu0)
    | _ => simp [eqT, eqTag, tagOf] at e
  | int i1 =>
    obtain ⟨t1, rfl⟩ := ru
    cases tb with
    | non =>
      cases rv
      rw [show c = false from (by simpa [eqT, eqTag, tagOf] using e.symm)]; exact .of (.int_none _ _)
    | bl b2 =>
      cases rv
      have e1 : decide (i1 = b2i b2) = c := by simpa [eqT] using e
      have e2 : c = (i1 == (if b2 = true then 1 else 0)) := by rw [← e1, Bool.beq_eq_decide_eq]; cases b2 <;> rfl
      rw [e2]; exact .of (.int_bool _ _ _)
    | int i2 =>
      obtain ⟨t2, rfl⟩ := rv
      have e1 : decide (i1 = i2) = c := by simpa [eqT] using e
      have e2 : c = (i1 == i2) := by rw [← e1, Bool.beq_eq_decide_eq]
      rw [e2]; exact .of (.int_int _ _ _ _)
    | str s2 h2 =>
      obtain ⟨t2, rfl⟩ := rv
      rw [show c = false from (by simpa [eqT, eqTag, tagOf] using e.symm)]; exact .of (.int_str _ _ _ _)
    | tup h2 r2 =>
      cases rv; obtain ⟨its2, v2, q2, z2⟩ := I.tuple (hK ▸ h2.1)
      rw [show c = false from (by simpa [eqT, eqTag, tagOf] using e.symm)]; exact .of (.int_tuple _ _ q2 hu0)
    | lst h2 r2 =>
      cases rv; obtain ⟨its2, v2, q2, z2⟩ := I.list (SqL.of h2)
      rw [show c = false from (by simpa [eqT, eqTag, tagOf] using e.symm)]; exact .of (.int_list _ _ q2.isList hu0)
    | _ => simp [eqT, eqTag, tagOf] at e
  | str s1 h1 =>
    obtain ⟨t1, rfl⟩ := ru
    cases tb with
    | non =>
      cases rv
      rw [show c = false from (by simpa [eqT, eqTag, tagOf] using e.symm)]; exact .of (.str_none _ _)
    | bl b2 =>
      cases rv
      rw [show c = false from (by simpa [eqT, eqTag, tagOf] using e.symm)]; exact .of (.str_bool _ _ _)
    | int i2 =>
      obtain ⟨t2, rfl⟩ := rv
      rw [show c = false from (by simpa [eqT, eqTag, tagOf] using e.symm)]; exact .of (.str_int _ _ _ _)
    | str s2 h2 =>
      obtain ⟨t2, rfl⟩ := rv
      rw [show c = (strV s1 == strV s2) from by rw [strV_beq]; simpa [eqT] using e.symm]; exact .of (.str_str _ _ _ _)
    | tup h2 r2 =>
      cases rv; obtain ⟨its2, v2, q2, z2⟩ := I.tuple (hK ▸ h2.1)
      rw [show c = false from (by simpa [eqT, eqTag, tagOf] using e.symm)]; exact .of (.str_tuple _ _ q2 hu0)
    | lst h2 r2 =>
      cases rv; obtain ⟨its2, v2, q2, z2⟩ := I.list (SqL.of h2)
      rw [show c = false from (by simpa [eqT, eqTag, tagOf] using e.symm)]; exact .of (.str_list _ _ q2.isList hu0)
    | _ => simp [eqT, eqTag, tagOf] at e
  | tup h1 r1 =>
    cases ru; obtain ⟨its1, v1, q1, z1⟩ := I.tuple (hK ▸ h1.1)
    cases tb with
    | non =>
      cases rv
      rw [show c = false from (by simpa [eqT, eqTag, tagOf] using e.symm)]; exact .of (.tuple_none q1 hu0)
    | bl b2 =>
      cases rv
      rw [show c = false from (by simpa [eqT, eqTag, tagOf] using e.symm)]; exact .of (.tuple_bool _ q1 hu0)
    | int i2 =>
      obtain ⟨t2, rfl⟩ := rv
      rw [show c = false from (by simpa [eqT, eqTag, tagOf] using e.symm)]; exact .of (.tuple_int _ _ q1 hu0)
    | str s2 h2 =>
      obtain ⟨t2, rfl⟩ := rv
      rw [show c = false from (by simpa [eqT, eqTag, tagOf] using e.symm)]; exact .of (.tuple_str _ _ q1 hu0)
    | tup h2 r2 =>
      cases rv; obtain ⟨its2, v2, q2, z2⟩ := I.tuple (hK ▸ h2.1)
      have e' : eqLs f _ _ = some c := e
      obtain ⟨d, hd, hc⟩ := diff_of hf e' r1 r2 v1 v2
      refine fun E Q hq => rc_tuplesEq q1 q2 hu0 hd ?_
      rw [← hc]
      exact hq
    | lst h2 r2 =>
      cases rv; obtain ⟨its2, v2, q2, z2⟩ := I.list (SqL.of h2)
      rw [show c = false from (by simpa [eqT, eqTag, tagOf] using e.symm)]; exact .of (.tuple_list q1 q2.isList hu0)
    | _ => simp [eqT, eqTag, tagOf] at e
  | lst h1 r1 =>
    cases ru; obtain ⟨its1, v1, q1, z1⟩ := I.list (SqL.of h1)
    cases tb with
    | non =>
      cases rv
      rw [show c = false from (by simpa [eqT, eqTag, tagOf] using e.symm)]; exact .of (.list_none q1.isList hu0)
    | bl b2 =>
      cases rv
      rw [show c = false from (by simpa [eqT, eqTag, tagOf] using e.symm)]; exact .of (.list_bool _ q1.isList hu0)
    | int i2 =>
      obtain ⟨t2, rfl⟩ := rv
      rw [show c = false from (by simpa [eqT, eqTag, tagOf] using e.symm)]; exact .of (.list_int _ _ q1.isList hu0)
    | str s2 h2 =>
      obtain ⟨t2, rfl⟩ := rv
      rw [show c = false from (by simpa [eqT, eqTag, tagOf] using e.symm)]; exact .of (.list_str _ _ q1.isList hu0)
    | tup h2 r2 =>
      cases rv; obtain ⟨its2, v2, q2, z2⟩ := I.tuple (hK ▸ h2.1)
      rw [show c = false from (by simpa [eqT, eqTag, tagOf] using e.symm)]; exact .of (.list_tuple q1.isList q2 hu0)
    | lst h2 r2 =>
      cases rv; obtain ⟨its2, v2, q2, z2⟩ := I.list (SqL.of h2)
      have l1 := r1.length
      have l2 := r2.length
      have s1 := v1.length
      have s2 := v2.length
      simp only [eqT] at e
      split at e
      · rename_i hl
        have hl' := Nat.eq_of_beq_eq_true hl
        obtain ⟨d, hd, hc⟩ := diff_of hf e r1 r2 v1 v2
        refine fun E Q hq => rc_listsEq q1.isList q2.isList (by omega) hu0 hd ?_
        rw [show its1.length = its2.length by omega] at hc
        simp only [beq_self_eq_true, Bool.and_true] at hc
        rw [← hc]
        exact hq
      · rename_i hl
        have : c = false := by simpa using e.symm
        subst this
        refine .of (.lists_lengths q1.isList q2.isList ?_ hu0)
        simp only [List.size_toArray, bne_iff_ne, ne_eq]
        intro q
        exact hl (by rw [show _ = _ from l1.trans (s1.trans (q.trans (s2.symm.trans l2.symm)))]; exact Nat.beq_refl _)
    | _ => simp [eqT, eqTag, tagOf] at e
  | @dct p1 es1 ep1 ks1 h1 d1 r1 =>
    cases ru
    cases tb with
    | @dct p2 es2 ep2 ks2 h2 d2 r2 =>
      cases rv
      simp only [eqT] at e
      split at e
      · rename_i hl
        have hl' := Nat.eq_of_beq_eq_true hl
        split at e
        · rename_i hs
          have g1 := (dx_at I.hok h1).1
          have g2 := (dx_at I.hok h2).1
          rcases same_sort d1 d2 hs hl' with ⟨a1, a2⟩ | ⟨a1, a2⟩
          · refine fun E Q hq => PySem.W.keq_eqIn (r := c) g1 g2 (dictOf_leaf I hw h1 d1 a1 r1) (dictOf_leaf I hw h2 d2 a2 r2) hu0 (fun _ => eqDs_leaf r2 d2.key a2 hf r1 d1.key a1 e) ?_
            rw [leafKvs_length r1, leafKvs_length r2, hl']
            simpa using hq
          · have len : ∀ {kvs : List (PV × PV)} {es : List DictEntry}, RepD T F ρ kvs es → (tupKvs kvs es).length = kvs.length := fun r => by
              have := congrArg List.length (tupKvs_keys r)
              simpa using this
            refine fun E Q hq => eqInH (r := c) g1 g2 (by show A.units + 1 + 8 < cLine; omega) (dictOf_tup I hK hw hF h1 d1 a1 r1) (dictOf_tup I hK hw hF h2 d2 a2 r2) hu0 (fun _ => eqDs_tup r2 d2.key hf r1 d1.key e) ?_
            rw [len r1, len r2, hl']
            simpa using hq
        · cases e
      · cases e
    | _ => simp [eqT, eqTag, tagOf] at e
  | _ => simp [eqT] at e

/-- one turn of != : values looked through -/
theorem neT_rc {F : Hp} {ρ : Rho} (I : Inv X pins σ H s) (hK : X.K = T.K) (hw : X.w = T.w) (hF : ∀ a o, F a = some o → H a = some o) {f : PV → PV → Option Bool} {A : Around} (hu : A.units + 16 < cLine)
    (hf : ∀ a b c x y u v, f a b = some c → Rep T F ρ a x → Rep T F ρ b y → RelV x u → RelV y v → EqIn X.prog X.w A.in1 s u v c) {a b : PV} {x y : V} {u v : Value} {c : Bool}
    (ta : Top1 T F ρ H a x) (tb : Top1 T F ρ H b y) (ru : RelV x u) (rv : RelV y v) (e : eqT f a b = some c) : RcNeIn X.prog X.w A s u v c := by
  have hu0 : A.units < cLine := by omega
  cases ta with
  | non =>
    cases ru
    cases tb with
    | non =>
      cases rv
      rw [show c = true from by simpa [eqT] using e.symm]; exact .of .none_none
    | bl b2 =>
      cases rv
      rw [show c = false from (by simpa [eqT, eqTag, tagOf] using e.symm)]; exact .of (.none_bool _)
    | int i2 =>
      obtain ⟨t2, rfl⟩ := rv
      rw [show c = false from (by simpa [eqT, eqTag, tagOf] using e.symm)]; exact .of (.none_int _ _)
    | str s2 h2 =>
      obtain ⟨t2, rfl⟩ := rv
      rw [show c = false from (by simpa [eqT, eqTag, tagOf] using e.symm)]; exact .of (.none_str _ _)
    | tup h2 r2 =>
      cases rv; obtain ⟨its2, v2, q2, z2⟩ := I.tuple (hK ▸ h2.1)
      rw [show c = false from (by simpa [eqT, eqTag, tagOf] using e.symm)]; exact .of (.none_tuple q2 hu0)
    | lst h2 r2 =>
      cases rv; obtain ⟨its2, v2, q2, z2⟩ := I.list (SqL.of h2)
      rw [show c = false from (by simpa [eqT, eqTag, tagOf] using e.symm)]; exact .of (.none_list q2.isList hu0)
    | _ => simp [eqT, eqTag, tagOf] at e
  | bl b1 =>
    cases ru
    cases tb with
    | non =>
      cases rv
      rw [show c = false from (by simpa [eqT, eqTag, tagOf] using e.symm)]; exact .of (.bool_none _)
    | bl b2 =>
      cases rv
      rw [show c = (b1 == b2) from by simpa [eqT] using e.symm]; exact .of (.bool_bool _ _)
    | int i2 =>
      obtain ⟨t2, rfl⟩ := rv
      have e1 : decide (b2i b1 = i2) = c := by simpa [eqT] using e
      have e2 : c = ((if b1 = true then 1 else 0) == i2) := by rw [← e1, Bool.beq_eq_decide_eq]; cases b1 <;> rfl
      rw [e2]; exact .of (.bool_int _ _ _)
    | str s2 h2 =>
      obtain ⟨t2, rfl⟩ := rv
      rw [show c = false from (by simpa [eqT, eqTag, tagOf] using e.symm)]; exact .of (.bool_str _ _ _)
    | tup h2 r2 =>
      cases rv; obtain ⟨its2, v2, q2, z2⟩ := I.tuple (hK ▸ h2.1)
      rw [show c = false from (by simpa [eqT, eqTag, tagOf] using e.symm)]; exact .of (.bool_tuple _ q2 hu0)
    | lst h2 r2 =>
      cases rv; obtain ⟨its2, v2, q2, z2⟩ := I.list (SqL.of h2)
      rw [show c = false from (by simpa [eqT, eqTag, tagOf] using e.symm)]; exact .of (.bool_list _ q2.isList hu0)
    | _ => simp [eqT, eqTag, tagOf] at e
  | int i1 =>
    obtain ⟨t1, rfl⟩ := ru
    cases tb with
    | non =>
      cases rv
      rw [show c = false from (by simpa [eqT, eqTag, tagOf] using e.symm)]; exact .of (.int_none _ _)
    | bl b2 =>
      cases rv
      have e1 : decide (i1 = b2i b2) = c := by simpa [eqT] using e
      have e2 : c = (i1 == (if b2 = true then 1 else 0)) := by rw [← e1, Bool.beq_eq_decide_eq]; cases b2 <;> rfl
      rw [e2]; exact .of (.int_bool _ _ _)
    | int i2 =>
      obtain ⟨t2, rfl⟩ := rv
      have e1 : decide (i1 = i2) = c := by simpa [eqT] using e
      have e2 : c = (i1 == i2) := by rw [← e1, Bool.beq_eq_decide_eq]
      rw [e2]; exact .of (.int_int _ _ _ _)
    | str s2 h2 =>
      obtain ⟨t2, rfl⟩ := rv
      rw [show c = false from (by simpa [eqT, eqTag, tagOf] using e.symm)]; exact .of (.int_str _ _ _ _)
    | tup h2 r2 =>
      cases rv; obtain ⟨its2, v2, q2, z2⟩ := I.tuple (hK ▸ h2.1)
      rw [show c = false from (by simpa [eqT, eqTag, tagOf] using e.symm)]; exact .of (.int_tuple _ _ q2 hu0)
    | lst h2 r2 =>
      cases rv; obtain ⟨its2, v2, q2, z2⟩ := I.list (SqL.of h2)
      rw [show c = false from (by simpa [eqT, eqTag, tagOf] using e.symm)]; exact .of (.int_list _ _ q2.isList hu0)
    | _ => simp [eqT, eqTag, tagOf] at e
  | str s1 h1 =>
    obtain ⟨t1, rfl⟩ := ru
    cases tb with
    | non =>
      cases rv
      rw [show c = false from (by simpa [eqT, eqTag, tagOf] using e.symm)]; exact .of (.str_none _ _)
    | bl b2 =>
      cases rv
      rw [show c = false from (by simpa [eqT, eqTag, tagOf] using e.symm)]; exact .of (.str_bool _ _ _)
    | int i2 =>
      obtain ⟨t2, rfl⟩ := rv
      rw [show c = false from (by simpa [eqT, eqTag, tagOf] using e.symm)]; exact .of (.str_int _ _ _ _)
    | str s2 h2 =>
      obtain ⟨t2, rfl⟩ := rv
      rw [show c = (strV s1 == strV s2) from by rw [strV_beq]; simpa [eqT] using e.symm]; exact .of (.str_str _ _ _ _)
    | tup h2 r2 =>
      cases rv; obtain ⟨its2, v2, q2, z2⟩ := I.tuple (hK ▸ h2.1)
      rw [show c = false from (by simpa [eqT, eqTag, tagOf] using e.symm)]; exact .of (.str_tuple _ _ q2 hu0)
    | lst h2 r2 =>
      cases rv; obtain ⟨its2, v2, q2, z2⟩ := I.list (SqL.of h2)
      rw [show c = false from (by simpa [eqT, eqTag, tagOf] using e.symm)]; exact .of (.str_list _ _ q2.isList hu0)
    | _ => simp [eqT, eqTag, tagOf] at e
  | tup h1 r1 =>
    cases ru; obtain ⟨its1, v1, q1, z1⟩ := I.tuple (hK ▸ h1.1)
    cases tb with
    | non =>
      cases rv
      rw [show c = false from (by simpa [eqT, eqTag, tagOf] using e.symm)]; exact .of (.tuple_none q1 hu0)
    | bl b2 =>
      cases rv
      rw [show c = false from (by simpa [eqT, eqTag, tagOf] using e.symm)]; exact .of (.tuple_bool _ q1 hu0)
    | int i2 =>
      obtain ⟨t2, rfl⟩ := rv
      rw [show c = false from (by simpa [eqT, eqTag, tagOf] using e.symm)]; exact .of (.tuple_int _ _ q1 hu0)
    | str s2 h2 =>
      obtain ⟨t2, rfl⟩ := rv
      rw [show c = false from (by simpa [eqT, eqTag, tagOf] using e.symm)]; exact .of (.tuple_str _ _ q1 hu0)
    | tup h2 r2 =>
      cases rv; obtain ⟨its2, v2, q2, z2⟩ := I.tuple (hK ▸ h2.1)
      have e' : eqLs f _ _ = some c := e
      obtain ⟨d, hd, hc⟩ := diff_of hf e' r1 r2 v1 v2
      refine fun E Q hq => rc_tuplesNe q1 q2 hu0 hd ?_
      rw [show (d.isSome || its1.length != its2.length) = !c by rw [hc]; cases d <;> simp [bne]]
      exact hq
    | lst h2 r2 =>
      cases rv; obtain ⟨its2, v2, q2, z2⟩ := I.list (SqL.of h2)
      rw [show c = false from (by simpa [eqT, eqTag, tagOf] using e.symm)]; exact .of (.tuple_list q1 q2.isList hu0)
    | _ => simp [eqT, eqTag, tagOf] at e
  | lst h1 r1 =>
    cases ru; obtain ⟨its1, v1, q1, z1⟩ := I.list (SqL.of h1)
    cases tb with
    | non =>
      cases rv
      rw [show c = false from (by simpa [eqT, eqTag, tagOf] using e.symm)]; exact .of (.list_none q1.isList hu0)
    | bl b2 =>
      cases rv
      rw [show c = false from (by simpa [eqT, eqTag, tagOf] using e.symm)]; exact .of (.list_bool _ q1.isList hu0)
    | int i2 =>
      obtain ⟨t2, rfl⟩ := rv
      rw [show c = false from (by simpa [eqT, eqTag, tagOf] using e.symm)]; exact .of (.list_int _ _ q1.isList hu0)
    | str s2 h2 =>
      obtain ⟨t2, rfl⟩ := rv
      rw [show c = false from (by simpa [eqT, eqTag, tagOf] using e.symm)]; exact .of (.list_str _ _ q1.isList hu0)
    | tup h2 r2 =>
      cases rv; obtain ⟨its2, v2, q2, z2⟩ := I.tuple (hK ▸ h2.1)
      rw [show c = false from (by simpa [eqT, eqTag, tagOf] using e.symm)]; exact .of (.list_tuple q1.isList q2 hu0)
    | lst h2 r2 =>
      cases rv; obtain ⟨its2, v2, q2, z2⟩ := I.list (SqL.of h2)
      have l1 := r1.length
      have l2 := r2.length
      have s1 := v1.length
      have s2 := v2.length
      simp only [eqT] at e
      split at e
      · rename_i hl
        have hl' := Nat.eq_of_beq_eq_true hl
        obtain ⟨d, hd, hc⟩ := diff_of hf e r1 r2 v1 v2
        refine fun E Q hq => rc_listsNe q1.isList q2.isList (by omega) hu0 hd ?_
        rw [show its1.length = its2.length by omega] at hc
        simp only [beq_self_eq_true, Bool.and_true] at hc
        rw [show d.isSome = !c by rw [hc]; cases d <;> rfl]
        exact hq
      · rename_i hl
        have : c = false := by simpa using e.symm
        subst this
        refine .of (.lists_lengths q1.isList q2.isList ?_ hu0)
        simp only [List.size_toArray, bne_iff_ne, ne_eq]
        intro q
        exact hl (by rw [show _ = _ from l1.trans (s1.trans (q.trans (s2.symm.trans l2.symm)))]; exact Nat.beq_refl _)
    | _ => simp [eqT, eqTag, tagOf] at e
  | @dct p1 es1 ep1 ks1 h1 d1 r1 =>
    cases ru
    cases tb with
    | @dct p2 es2 ep2 ks2 h2 d2 r2 =>
      cases rv
      simp only [eqT] at e
      split at e
      · rename_i hl
        have hl' := Nat.eq_of_beq_eq_true hl
        split at e
        · rename_i hs
          have g1 := (dx_at I.hok h1).1
          have g2 := (dx_at I.hok h2).1
          rcases same_sort d1 d2 hs hl' with ⟨a1, a2⟩ | ⟨a1, a2⟩
          · refine fun E Q hq => neIn_leaf (r := c) g1 g2 (dictOf_leaf I hw h1 d1 a1 r1) (dictOf_leaf I hw h2 d2 a2 r2) hu0 (fun _ => eqDs_leaf r2 d2.key a2 hf r1 d1.key a1 e) ?_
            rw [leafKvs_length r1, leafKvs_length r2, hl']
            simpa using hq
          · have len : ∀ {kvs : List (PV × PV)} {es : List DictEntry}, RepD T F ρ kvs es → (tupKvs kvs es).length = kvs.length := fun r => by
              have := congrArg List.length (tupKvs_keys r)
              simpa using this
            refine fun E Q hq => neInH (r := c) g1 g2 (by show A.units + 1 + 8 < cLine; omega) (dictOf_tup I hK hw hF h1 d1 a1 r1) (dictOf_tup I hK hw hF h2 d2 a2 r2) hu0 (fun _ => eqDs_tup r2 d2.key hf r1 d1.key e) ?_
            rw [len r1, len r2, hl']
            simpa using hq
        · cases e
      · cases e
    | _ => simp [eqT, eqTag, tagOf] at e
  | _ => simp [eqT] at e

theorem lookK_mem {k k' v' : PV} (hk : isKey k = true) : ∀ {ls : List (PV × PV)}, (∀ p ∈ ls, isKey p.1 = true) → (ls.Pairwise fun p q => eqk p.1 q.1 = false) → (k', v') ∈ ls → nk k' = nk k → lookK k ls = some v'
  | [], _, _, hm, _ => absurd hm (by simp)
  | (a, u) :: r, hkey, nd, hm, e => by
    have ka := hkey _ List.mem_cons_self
    rw [lookK, eqk_key ka hk]
    rcases List.mem_cons.mp hm with q | hm
    · cases q
      rw [decide_eq_true e, if_pos rfl]
    · have h1 := (List.pairwise_cons.mp nd).1 _ hm
      rw [eqk_key ka (hkey _ (List.mem_cons_of_mem _ hm))] at h1
      have h2 : nk a ≠ nk k' := of_decide_eq_false h1
      rw [decide_eq_false (by rw [← e]; exact h2), if_neg (by decide)]
      exact lookK_mem hk (fun p hp => hkey p (List.mem_cons_of_mem _ hp)) (List.pairwise_cons.mp nd).2 hm e
theorem eqDs_same {F : Hp} {ρ : Rho} (I : Inv X pins σ H s) (hK : X.K = T.K) (hF : ∀ a o, F a = some o → H a = some o) {f : PV → PV → Option Bool} (hf : ∀ a b c x, f a b = some c → Rep T F ρ a x → Rep T F ρ b x → c = true) {ls : List (PV × PV)} (dl : DOk ls) :
    ∀ {ks qs : List (PV × PV)} {es : List DictEntry} {c : Bool}, RepD T F ρ ks es → RepD T F ρ qs es → (∀ p ∈ ks, isKey p.1 = true) → (∀ p ∈ qs, p ∈ ls) → eqDs f ls ks = some c → c = true
  | _, _, _, c, .nil, .nil, _, _, h => by simpa [eqDs] using h.symm
  | _, _, _, c, .cons (k := a) (v := v) h1 h2 h3 h4 h5 r, .cons (k := a') (v := v') g1 g2 g3 g4 g5 r', hk, hq, h => by
    have ka := hk _ List.mem_cons_self
    have m' := hq _ List.mem_cons_self
    have ka' := dl.key _ m'
    have ek : nk a' = nk a := NestedIs.inj _ _ _ (nested_of I hK hF 8 a' _ _ ka' g1 g2) (nested_of I hK hF 8 a _ _ ka h1 h2)
    have lk := lookK_mem ka dl.key dl.nd m' ek
    rw [eqDs, lk] at h
    simp only at h
    split at h
    · rename_i x hx
      split at h
      · rename_i y hy
        have hc : c = (x && y) := by simpa using h.symm
        have exy := h5.inj g5
        subst exy
        rw [hc, hf _ _ _ _ hx h4 g4, eqDs_same I hK hF hf dl r r' (fun p hp => hk p (List.mem_cons_of_mem _ hp)) (fun p hp => hq p (List.mem_cons_of_mem _ hp)) hy]
        rfl
      · cases h
    · cases h
theorem eqLs_same {F : Hp} {ρ : Rho} {f : PV → PV → Option Bool} (hf : ∀ a b c x, f a b = some c → Rep T F ρ a x → Rep T F ρ b x → c = true) : ∀ {xs zs : List PV} {ys : List V} {c : Bool}, eqLs f xs zs = some c → Reps T F ρ xs ys → Reps T F ρ zs ys → c = true
  | [], [], _, c, h, .nil, .nil => by simpa [eqLs] using h.symm
  | [], _ :: _, _, c, h, p, q => by cases p; cases q
  | _ :: _, [], _, c, h, p, q => by cases q; cases p
  | a :: r, b :: t, _, c, h, .cons p1 q1, .cons p2 q2 => by
    rw [eqLs] at h
    split at h
    · exact eqLs_same hf h q1 q2
    · rename_i h1
      exact absurd (hf _ _ _ _ h1 p1 p2) (by decide)
    · cases h
/-- one and the same value is equal to itself -/
theorem eqN_same {F G : Hp} {ρ : Rho} {S : LH} (I : Inv X pins σ H s) (hK : X.K = T.K) (rh : RH T F G ρ S H) : ∀ (n : Nat) (a b : PV) (c : Bool) (x : V), eqvN S n a b = some c → Rep T F ρ a x → Rep T F ρ b x → c = true
  | 0, a, b, c, x, e, _, _ => by cases e
  | n + 1, a, b, c, x, e, ra, rb => by
    have hf := eqN_same I hK rh n
    have e' : eqT (eqvN S n) (top S a) (top S b) = some c := e
    have ta := top1 rh ra
    have tb := top1 rh rb
    generalize top S a = a' at e' ta
    generalize top S b = b' at e' tb
    have lists : ∀ {xs zs : List PV} {ys : List V}, Reps T F ρ xs ys → Reps T F ρ zs ys → eqLs (eqvN S n) xs zs = some c → c = true := fun r1 r2 h => eqLs_same hf h r1 r2
    cases ta with
    | non => cases tb; simpa [eqT] using e'.symm
    | bl b1 => cases tb; simpa [eqT] using e'.symm
    | int i => cases tb; simpa [eqT] using e'.symm
    | str s1 h1 =>
      generalize hz : V.str (strV s1) = z at tb
      cases tb with
      | str s2 h2 =>
        have : s1 = s2 := strV_inj (by injection hz)
        subst this
        have q : some (eqs s1 s1) = some c := e'
        rw [eqs_eq] at q
        simpa using q.symm
      | _ => cases hz
    | tup h1 r1 =>
      cases tb with
      | tup h2 r2 =>
        have := I.tuple_inj (hK ▸ h1.1) (hK ▸ h2.1)
        subst this
        exact lists r1 r2 e'
      | lst h2 r2 =>
        obtain ⟨_, _, ⟨o, ho, hc, _⟩, _⟩ := I.tuple (hK ▸ h1.1)
        obtain ⟨_, _, ⟨o', _, ho', hc', _⟩, _⟩ := I.list (SqL.of h2)
        rw [ho] at ho'
        cases ho'
        rw [hc] at hc'
        exact absurd hc' (by decide)
      | _ => simp [eqT, eqTag, tagOf] at e'
    | lst h1 r1 =>
      cases tb with
      | lst h2 r2 =>
        rw [h1] at h2
        cases h2
        simp only [eqT] at e'
        split at e'
        · exact lists r1 r2 e'
        · rename_i hl
          exact absurd (by rw [r1.length, r2.length]; exact Nat.beq_refl _) hl
      | tup h2 r2 =>
        obtain ⟨_, _, ⟨o, ho, hc, _⟩, _⟩ := I.tuple (hK ▸ h2.1)
        obtain ⟨_, _, ⟨o', _, ho', hc', _⟩, _⟩ := I.list (SqL.of h1)
        rw [ho] at ho'
        cases ho'
        rw [hc] at hc'
        exact absurd hc' (by decide)
      | _ => simp [eqT, eqTag, tagOf] at e'
    | @dct p es ep ks h1 d1 r1 =>
      cases tb with
      | @dct _ es' ep' ls h2 d2 r2 =>
        obtain ⟨_, o, ho, _, hd⟩ := dx_at I.hok h1
        obtain ⟨_, o', ho', _, hd'⟩ := dx_at I.hok h2
        rw [ho] at ho'
        cases ho'
        rw [hd] at hd'
        injection hd' with q1 _
        have q2 : es = es' := by simpa using q1
        subst q2
        simp only [eqT] at e'
        split at e'
        · split at e'
          · exact eqDs_same I hK rh.f hf d2 r1 r2 d1.key (fun _ h => h) e'
          · cases e'
        · cases e'
      | _ => simp [eqT, eqTag, tagOf] at e'
    | fn k => simp [eqT] at e'
    | loc => simp [eqT] at e'
theorem rep_nofloat {F : Hp} {ρ : Rho} {a : PV} {x : V} {u : Value} (ra : Rep T F ρ a x) (ru : RelV x u) : ∀ b t, u ≠ .float b t := fun b t q => by
  subst q
  cases ra with
  | int i => obtain ⟨_, h⟩ := ru; cases h
  | str s _ => obtain ⟨_, h⟩ := ru; cases h
  | _ => cases ru
theorem eqIn_of_rc {P : Program} {w : World} {A : Around} {u v : Value} {c : Bool} (hf : ∀ b t, u ≠ .float b t) (hne : u ≠ v) (h : RcIn P w A s u v c) : EqIn P w A s u v c := fun E Q hq => by
  unfold eqBool
  refine wpAny_holding ?_
  refine wpAny_ite_split (fun hab => absurd (eq_of_beq hab) hne) (fun _ => ?_)
  cases u with
  | float b t => exact absurd rfl (hf b t)
  | _ => cases v <;> exact wpAny_bind (h E _ (wpAny_truthy_bool hq))
/-- == answers as eqvN does -/
theorem eqN_rc {F G : Hp} {ρ : Rho} {S : LH} (I : Inv X pins σ H s) (hK : X.K = T.K) (hw : X.w = T.w) (rh : RH T F G ρ S H) : ∀ (n : Nat) (A : Around), A.units + n + 16 < cLine → ∀ (a b : PV) (c : Bool) (x y : V) (u v : Value), eqvN S n a b = some c →
    Rep T F ρ a x → Rep T F ρ b y → RelV x u → RelV y v → RcIn X.prog X.w A s u v c
  | 0, A, _, a, b, c, x, y, u, v, e, _, _, _, _ => by cases e
  | n + 1, A, hu, a, b, c, x, y, u, v, e, ra, rb, ru, rv => by
    refine eqT_rc I hK hw rh.f (f := eqvN S n) (by omega) (fun a b c x y u v e ra rb ru rv => ?_) (top1 rh ra) (top1 rh rb) ru rv e
    by_cases q : u = v
    · subst q
      have := ru.inj rv
      subst this
      rw [eqN_same I hK rh n a b c x e ra rb]
      exact (PySem.SeqAt.EqAt.same u).inModel _ _
    · exact eqIn_of_rc (rep_nofloat ra ru) q (eqN_rc I hK hw rh n A.in1 (by show A.units + 1 + n + 16 < cLine; omega) a b c x y u v e ra rb ru rv)
theorem eqN_in {F G : Hp} {ρ : Rho} {S : LH} (I : Inv X pins σ H s) (hK : X.K = T.K) (hw : X.w = T.w) (rh : RH T F G ρ S H) {n : Nat} {A : Around} (hu : A.units + n + 16 < cLine) {a b : PV} {c : Bool} {x y : V} {u v : Value} (e : eqvN S n a b = some c)
    (ra : Rep T F ρ a x) (rb : Rep T F ρ b y) (ru : RelV x u) (rv : RelV y v) : EqIn X.prog X.w A s u v c := by
  by_cases q : u = v
  · subst q
    have := ru.inj rv
    subst this
    rw [eqN_same I hK rh n a b c x e ra rb]
    exact (PySem.SeqAt.EqAt.same u).inModel _ _
  · exact eqIn_of_rc (rep_nofloat ra ru) q (eqN_rc I hK hw rh n A hu a b c x y u v e ra rb ru rv)
/-- != answers the contrary -/
theorem neN_rc {F G : Hp} {ρ : Rho} {S : LH} (I : Inv X pins σ H s) (hK : X.K = T.K) (hw : X.w = T.w) (rh : RH T F G ρ S H) {n : Nat} {A : Around} (hu : A.units + n + 17 < cLine) {a b : PV} {c : Bool} {x y : V} {u v : Value} (e : eqvN S n a b = some c)
    (ra : Rep T F ρ a x) (rb : Rep T F ρ b y) (ru : RelV x u) (rv : RelV y v) : RcNeIn X.prog X.w A s u v c := by
  cases n with
  | zero => cases e
  | succ n => exact neT_rc I hK hw rh.f (f := eqvN S n) (by omega) (fun a b c x y u v e ra rb ru rv => eqN_in I hK hw rh (by show A.units + 1 + n + 16 < cLine; omega) e ra rb ru rv) (top1 rh ra) (top1 rh rb) ru rv e
end
end Z

set_option Elab.async false
set_option linter.all false
set_option maxRecDepth 100000
set_option maxHeartbeats 2000000
/-! Z5: comparisons. -/
namespace Z
open PySem PySem.Spec PyProof.Rows L2
section
variable {T : Top} {X : Cx} {pins : List (Addr × Obj)} {σ : L2.St} {H : Hp} {s : Shared}
theorem lts_lt : ∀ s t : List Nat, lts s t = decide (s < t)
  | [], [] => by simp [lts]
  | _ :: _, [] => by simp [lts]
  | [], _ :: _ => by simp [lts]
  | a :: r, b :: t => by
    unfold lts
    by_cases h : a < b
    · rw [if_pos (by simp only [Nat.blt_eq]; exact h)]
      exact (decide_eq_true (List.cons_lt_cons_iff.mpr (.inl h))).symm
    · rw [if_neg (by simp only [Nat.blt_eq]; exact h)]
      by_cases e : a = b
      · subst e
        rw [if_pos (Nat.beq_refl a), lts_lt r t]
        simp [List.cons_lt_cons_iff]
      · rw [if_neg (fun q => e (Nat.eq_of_beq_eq_true q))]
        refine (decide_eq_false fun q => ?_).symm
        rcases List.cons_lt_cons_iff.mp q with z | z
        · exact h z
        · exact e z.1
/-- the first pair that differs, for < -/
theorem diff_lt {F : Hp} {ρ : Rho} {P : Program} {w : World} {A : Around} {S : LH} {f : PV → PV → Option Bool}
    (hf : ∀ a b c x y u v, eqv S a b = some c → Rep T F ρ a x → Rep T F ρ b y → RelV x u → RelV y v → EqIn P w A s u v c)
    (hg : ∀ a b c x y u v, f a b = some c → Rep T F ρ a x → Rep T F ρ b y → RelV x u → RelV y v → ∀ (E : Value → Shared → Prop) (Q : Value → Shared → Prop), Q (.bool c) s → wpAny (model P w) A (richCompare .Lt u v) Q E s) :
    ∀ {xs ys : List PV} {ps qs : List V} {us vs : List Value} {c : Bool}, ltLs S f xs ys = some c → Reps T F ρ xs ps → Reps T F ρ ys qs → Vals ps us → Vals qs vs →
      ∃ d k, Diff P w A s us vs d ∧ (∀ p, d = some p → ∀ (E : Value → Shared → Prop) (Q : Value → Shared → Prop), Q (.bool k) s → wpAny (model P w) A (richCompare .Lt p.1 p.2) Q E s) ∧ c = (if d.isSome = true then k else decide (us.length < vs.length))
  | [], [], _, _, _, _, c, h, .nil, .nil, .nil, .nil => ⟨none, true, .left, fun p q => (by cases q), by simpa [ltLs] using h.symm⟩
  | [], _ :: _, _, _, _, _, c, h, .nil, .cons _ _, .nil, .cons _ _ => ⟨none, true, .left, fun p q => (by cases q), by simpa [ltLs] using h.symm⟩
  | _ :: _, [], _, _, _, _, c, h, .cons _ _, .nil, .cons _ _, .nil => ⟨none, true, .right, fun p q => (by cases q), by simpa [ltLs] using h.symm⟩
  | a :: r, b :: t, _, _, _, _, c, h, .cons r1 rr1, .cons r2 rr2, .cons v1 vv1, .cons v2 vv2 => by
    rw [ltLs] at h
    split at h
    · rename_i h1
      obtain ⟨d, k, hd, hk, hc⟩ := diff_lt hf hg h rr1 rr2 vv1 vv2
      exact ⟨d, k, .eq (hf _ _ _ _ _ _ _ h1 r1 r2 v1 v2) hd, hk, by simpa using hc⟩
    · rename_i h1
      exact ⟨some _, c, .ne (hf _ _ _ _ _ _ _ h1 r1 r2 v1 v2), fun p q => by cases q; exact hg _ _ _ _ _ _ _ h r1 r2 v1 v2, by simp⟩
    · cases h
theorem ltN_rc {F G : Hp} {ρ : Rho} {S : LH} (I : Inv X pins σ H s) (hK : X.K = T.K) (hw : X.w = T.w) (rh : RH T F G ρ S H) : ∀ (n : Nat) (A : Around), A.units + n + 48 < cLine → ∀ (a b : PV) (c : Bool) (x y : V) (u v : Value), ltvN S n a b = some c →
    Rep T F ρ a x → Rep T F ρ b y → RelV x u → RelV y v → ∀ (E : Value → Shared → Prop) (Q : Value → Shared → Prop), Q (.bool c) s → wpAny (model X.prog X.w) A (compareOp .Lt u v) Q E s
  | 0, A, _, a, b, c, x, y, u, v, e, _, _, _, _ => by cases e
  | n + 1, A, hu, a, b, c, x, y, u, v, e, ra, rb, ru, rv => fun E Q hq => by
    unfold ltvN at e
    cases a with
    | int i =>
      cases b with
      | int j =>
        cases rep_int ra; cases rep_int rb
        obtain ⟨t, rfl⟩ := ru
        obtain ⟨t', rfl⟩ := rv
        have : c = decide (i < j) := by simpa using e.symm
        subst this
        exact lt_int hq
      | _ => simp at e
    | str p =>
      cases b with
      | str q =>
        obtain ⟨rfl, _⟩ := rep_str ra
        obtain ⟨rfl, _⟩ := rep_str rb
        obtain ⟨t, rfl⟩ := ru
        obtain ⟨t', rfl⟩ := rv
        have : c = lts p q := by simpa using e.symm
        subst this
        rw [lts_lt] at hq
        refine lt_str ?_
        simpa using hq
      | _ => simp at e
    | tup xs =>
      cases b with
      | tup ys =>
        obtain ⟨la, ps, rfl, h1, r1⟩ := rep_tup ra
        obtain ⟨lb, qs, rfl, h2, r2⟩ := rep_tup rb
        cases ru; cases rv
        obtain ⟨us, w1, l1, z1⟩ := I.tuple (hK ▸ sqT_mono rh.f h1.1 : SqT X.K H la ps)
        obtain ⟨vs, w2, l2, z2⟩ := I.tuple (hK ▸ sqT_mono rh.f h2.1 : SqT X.K H lb qs)
        have e' : ltLs S (ltvN S n) xs ys = some c := e
        obtain ⟨d, k, hd, hk, hc⟩ := diff_lt (P := X.prog) (w := X.w) (A := A.in1) (s := s) (fun a b c x y u v e ra rb ru rv => eqN_in I hK hw rh (by show A.units + 1 + 24 + 16 < cLine; omega) e ra rb ru rv)
          (fun a b c x y u v e ra rb ru rv => ltN_rc I hK hw rh n A.in1 (by show A.units + 1 + n + 48 < cLine; omega) a b c x y u v e ra rb ru rv) e' r1 r2 w1 w2
        rw [hc] at hq
        refine rc_tuplesLt l1 l2 (by omega) hd hk hq
      | _ => simp at e
    | _ => simp at e
/-! ### in -/
theorem hit_of {F : Hp} {ρ : Rho} {P : Program} {w : World} {A : Around} {S : LH} {x : PV} {ux : Value}
    (hf : ∀ a c y u, eqv S a x = some c → Rep T F ρ a y → RelV y u → EqIn P w A s u ux c) :
    ∀ {ys : List PV} {qs : List V} {vs : List Value} {c : Bool}, isIn S x ys = some c → Reps T F ρ ys qs → Vals qs vs → ∃ o, Hit P w A s ux vs o ∧ c = o.isSome
  | [], _, _, c, h, .nil, .nil => ⟨none, .nil, by simpa [isIn] using h.symm⟩
  | a :: r, _, _, c, h, .cons r1 rr, .cons v1 vv => by
    rw [isIn] at h
    split at h
    · rename_i h1
      exact ⟨some 0, .here (hf _ _ _ _ h1 r1 v1), by simpa using h.symm⟩
    · rename_i h1
      obtain ⟨o, ho, hc⟩ := hit_of hf h rr vv
      exact ⟨o.map (· + 1), .later (hf _ _ _ _ h1 r1 v1) ho, by simpa using hc⟩
    · cases h
theorem memC_mem (c : Nat) : ∀ l, memC c l = decide (c ∈ l)
  | [] => by simp [memC]
  | a :: r => by
    unfold memC
    by_cases e : a = c
    · subst e
      rw [if_pos (Nat.beq_refl a)]
      simp
    · rw [if_neg (fun q => e (Nat.eq_of_beq_eq_true q)), memC_mem c r]
      have : ¬ c = a := fun q => e q.symm
      simp [this]
/-- where the value is sought in a list, a tuple -/
theorem in_listZ {A : Around} {l : Addr} {us : List Value} {x : Value} {o : Option Nat} {Q E : Value → Shared → Prop} (hl : s.heap.IsList l us.toArray) (h : Hit X.prog X.w A.in1 s x us o) (q : Q (.bool o.isSome) s) :
    wpAny (model X.prog X.w) A (compareOp .In x (.ref l)) Q E s := by
  obtain ⟨⟨cls, dd, data, sl⟩, ho, hc, n, hd⟩ := id hl
  simp only at hc hd
  subst hc hd
  show wpAny _ A (do return .bool (← contains (.ref l) x)) Q E s
  exact wpAny_bind (wpAny_contains_slot ⟨_, ho, rfl⟩ F.slot_list_contains (call_meetsIn F.slot_list_contains ⟨_, ho, rfl⟩ F.entry_list_contains (F.args_list_contains_2 _ _) (list_containsH l us n dd sl x o) ⟨ho, h, wpAny_truthy_bool (wpAny_pure q)⟩))
theorem notIn_listZ {A : Around} {l : Addr} {us : List Value} {x : Value} {o : Option Nat} {Q E : Value → Shared → Prop} (hl : s.heap.IsList l us.toArray) (h : Hit X.prog X.w A.in1 s x us o) (q : Q (.bool (!o.isSome)) s) :
    wpAny (model X.prog X.w) A (compareOp .NotIn x (.ref l)) Q E s := by
  obtain ⟨⟨cls, dd, data, sl⟩, ho, hc, n, hd⟩ := id hl
  simp only at hc hd
  subst hc hd
  show wpAny _ A (do return .bool (!(← contains (.ref l) x))) Q E s
  exact wpAny_bind (wpAny_contains_slot ⟨_, ho, rfl⟩ F.slot_list_contains (call_meetsIn F.slot_list_contains ⟨_, ho, rfl⟩ F.entry_list_contains (F.args_list_contains_2 _ _) (list_containsH l us n dd sl x o) ⟨ho, h, wpAny_truthy_bool (wpAny_pure q)⟩))
theorem in_tupleZ {A : Around} {l : Addr} {us : List Value} {x : Value} {o : Option Nat} {Q E : Value → Shared → Prop} (hl : s.heap.IsTuple l us.toArray) (h : Hit X.prog X.w A.in1 s x us o) (q : Q (.bool o.isSome) s) :
    wpAny (model X.prog X.w) A (compareOp .In x (.ref l)) Q E s := by
  obtain ⟨⟨cls, dd, data, sl⟩, ho, hc, n, hd⟩ := id hl
  simp only at hc hd
  subst hc hd
  show wpAny _ A (do return .bool (← contains (.ref l) x)) Q E s
  exact wpAny_bind (wpAny_contains_slot ⟨_, ho, rfl⟩ F.slot_tuple_contains (call_meetsIn F.slot_tuple_contains ⟨_, ho, rfl⟩ F.entry_tuple_contains (F.args_tuple_contains_2 _ _) (tuple_containsH l us n dd sl x o) ⟨ho, h, wpAny_truthy_bool (wpAny_pure q)⟩))
theorem notIn_tupleZ {A : Around} {l : Addr} {us : List Value} {x : Value} {o : Option Nat} {Q E : Value → Shared → Prop} (hl : s.heap.IsTuple l us.toArray) (h : Hit X.prog X.w A.in1 s x us o) (q : Q (.bool (!o.isSome)) s) :
    wpAny (model X.prog X.w) A (compareOp .NotIn x (.ref l)) Q E s := by
  obtain ⟨⟨cls, dd, data, sl⟩, ho, hc, n, hd⟩ := id hl
  simp only at hc hd
  subst hc hd
  show wpAny _ A (do return .bool (!(← contains (.ref l) x))) Q E s
  exact wpAny_bind (wpAny_contains_slot ⟨_, ho, rfl⟩ F.slot_tuple_contains (call_meetsIn F.slot_tuple_contains ⟨_, ho, rfl⟩ F.entry_tuple_contains (F.args_tuple_contains_2 _ _) (tuple_containsH l us n dd sl x o) ⟨ho, h, wpAny_truthy_bool (wpAny_pure q)⟩))
/-! ### all comparisons -/
variable (T) in
def rCmp (op : CO) : R2 := fun x y H Q => ∃ F G ρ S a b c, RH T F G ρ S H ∧ Rep T F ρ a x ∧ Rep T F ρ b y ∧ cmpB op S a b = some c ∧ Q (.bl c) H
def coOf : CO → CmpOp
  | .eq => .Eq | .ne => .NotEq | .lt => .Lt | .le => .LtE | .gt => .Gt | .ge => .GtE | .isin => .In | .notin => .NotIn | .isnone => .Is | .isnotnone => .IsNot
theorem notO_some {o : Option Bool} {c : Bool} (h : notO o = some c) : o = some (!c) := by
  cases o with
  | none => cases h
  | some d => unfold notO at h; cases h; simp
theorem rep_isNon {F : Hp} {ρ : Rho} {a : PV} {x : V} (r : Rep T F ρ a x) : decide (x = .non) = isNon a := by
  cases r <;> simp [isNon]
/-- in: the answer -/
theorem in_ok (hK : X.K = T.K) (hw : X.w = T.w) (hu : X.A.units + 64 < cLine) {F G : Hp} {ρ : Rho} {S : LH} {a b : PV} {c : Bool} {x y : V} {u v : Value} {Q : Bool → Shared → Prop} (I : Inv X pins σ H s) (rh : RH T F G ρ S H)
    (ra : Rep T F ρ a x) (rb : Rep T F ρ b y) (ru : RelV x u) (rv : RelV y v) (e : inB S a b = some c) (q : ∀ t, Q c { s with toks := t }) :
    ∀ E, wpAny (model X.prog X.w) X.A (compareOp .In u v) (fun r s' => ∃ k, r = .bool k ∧ Q k s') E s ∧ wpAny (model X.prog X.w) X.A (compareOp .NotIn u v) (fun r s' => ∃ k, r = .bool (!k) ∧ Q k s') E s := fun E => by
  unfold inB at e
  have t1 := top1 rh rb
  generalize top S b = tb at t1 e
  have hf : ∀ a' c y' u', eqv S a' a = some c → Rep T F ρ a' y' → RelV y' u' → EqIn X.prog X.w X.A.in1 s u' u c := fun a' c y' u' e r' w => eqN_in I hK hw rh (by show X.A.units + 1 + 24 + 16 < cLine; omega) e r' ra w ru
  cases t1 with
  | str t ht =>
    cases a with
    | str p =>
      match p, e with
      | [d], e =>
        obtain ⟨rfl, _⟩ := rep_str ra
        obtain ⟨t1, rfl⟩ := ru
        obtain ⟨t2, rfl⟩ := rv
        have hc : c = memC d t := by simpa using e.symm
        have hf : (!(Builtin.Str.occurrences (strV t) (strV [d]) 0 (strV t).length 1).isEmpty) = c := by
          rw [hc, memC_mem]
          exact StrLaws.found_one (strV t) d
        exact ⟨in_str ⟨_, rfl, by rw [hf]; exact q s.toks⟩, notIn_str ⟨_, rfl, by rw [hf]; exact q s.toks⟩⟩
    | _ => simp at e
  | @dct _ es ep kvs h ok r =>
    simp only at e
    split at e
    · rename_i hk
      obtain ⟨k1, k2⟩ := keyFor_sort ok hk
      cases rv
      have hd := (dx_at I.hok h).1
      rcases k2 with ⟨kt, kl⟩ | ⟨kt, kl⟩
      · have hm := (dictOf_leaf I hw h ok kl r).mapOf
        have hl := look_leaf k1 kt r ok.key kl
        have hc : (valueAt (leafKvs kvs es) (lf a)).isSome = c := by
          rcases hl with ⟨h1, h2⟩ | ⟨v1, _, _, h1, h2, _⟩
          · rw [h1] at e; rw [h2]; simpa using e
          · rw [h1] at e; rw [h2]; simpa using e
        exact ⟨wpAny_in_of (leaf_is k1 kt ra ru) hd hm ⟨_, rfl, by rw [hc]; exact q _⟩, wpAny_notIn_of (leaf_is k1 kt ra ru) hd hm ⟨_, rfl, by rw [hc]; exact q _⟩⟩
      · obtain ⟨al, rfl, rfl⟩ := rep_ref_of_tup kt ra ru
        have hm : s.heap.DictKeyed (PySem.nestedKind X.prog X.w) _ _ := ⟨_, dictOf_tup I hK hw rh.f h ok kl r, rfl⟩
        have hkey : (PySem.nestedKind X.prog X.w).is s.heap (nk a) al := ⟨nested_of I hK rh.f 8 a _ _ k1 ra rfl, nk_depth 8 a⟩
        have hr : (PySem.nestedKind X.prog X.w).room X.A.in1 := by show X.A.units + 1 + 8 < cLine; omega
        have hl := look_tup (T := T) k1 r ok.key
        have hc : (valueAt (pairsH (tupKvs kvs es)) (nk a)).isSome = c := by
          rcases hl with ⟨h1, h2⟩ | ⟨v1, _, _, h1, h2, _⟩
          · rw [h1] at e; rw [h2]; simpa using e
          · rw [h1] at e; rw [h2]; simpa using e
        exact ⟨in_keyed hr hkey hd hm ⟨_, rfl, by rw [hc]; exact q _⟩, notIn_keyed hr hkey hd hm ⟨_, rfl, by rw [hc]; exact q _⟩⟩
    · cases e
  | lst h r =>
    cases rv
    obtain ⟨us, w1, ⟨o, n, l1, l2, _, l3⟩, z1⟩ := I.list (SqL.of (K := X.K) h)
    obtain ⟨ho, hh, hc⟩ := hit_of hf (show isIn S a _ = some c from e) r w1
    subst hc
    exact ⟨in_listZ ⟨o, l1, l2, n, l3⟩ hh ⟨_, rfl, q _⟩, notIn_listZ ⟨o, l1, l2, n, l3⟩ hh ⟨_, rfl, q _⟩⟩
  | tup h r =>
    cases rv
    obtain ⟨us, w1, l1, z1⟩ := I.tuple (hK ▸ h.1 : SqT X.K H _ _)
    obtain ⟨ho, hh, hc⟩ := hit_of hf (show isIn S a _ = some c from e) r w1
    subst hc
    exact ⟨in_tupleZ l1 hh ⟨_, rfl, q _⟩, notIn_tupleZ l1 hh ⟨_, rfl, q _⟩⟩
  | _ => simp at e
theorem op_cmpZ (hK : X.K = T.K) (hw : X.w = T.w) (hu : X.A.units + 96 < cLine) (op : CO) : OpR X (compareOp (coOf op)) (rCmp T op) := by
  intro pins s σ H x y v u Q I rx ry h
  obtain ⟨F, G, ρ, S, a, b, c, rh, ra, rb, e, q⟩ := h
  have fin : ∀ k t, k = c → EP X pins σ Q (.bool k) { s with toks := t } := fun k t z => ⟨.bl c, H, I.tok t, by rw [z]; rfl, q⟩
  have hints : ∀ (f : Int → Int → Bool), intsB f a b = some c → ∃ i j t t', v = .int i t ∧ u = .int j t' ∧ f i j = c := fun f hf => by
    cases a with
    | int i =>
      cases b with
      | int j =>
        cases rep_int ra; cases rep_int rb
        obtain ⟨t, rfl⟩ := rx
        obtain ⟨t', rfl⟩ := ry
        exact ⟨i, j, t, t', rfl, rfl, by simpa [intsB] using hf⟩
      | _ => simp [intsB] at hf
    | _ => simp [intsB] at hf
  cases op with
  | eq => exact eqN_rc I hK hw rh 24 X.A (by omega) a b c x y v u e ra rb rx ry _ _ (fin c s.toks rfl)
  | ne => exact neN_rc I hK hw rh (n := 24) (by omega) (notO_some e) ra rb rx ry _ _ (by simpa using fin c s.toks rfl)
  | lt => exact ltN_rc I hK hw rh 24 X.A (by omega) a b c x y v u e ra rb rx ry _ _ (fin c s.toks rfl)
  | le =>
    obtain ⟨i, j, t, t', rfl, rfl, hc⟩ := hints _ e
    exact le_int (fin _ s.toks hc)
  | gt =>
    obtain ⟨i, j, t, t', rfl, rfl, hc⟩ := hints _ e
    exact gt_int (fin _ s.toks hc)
  | ge =>
    obtain ⟨i, j, t, t', rfl, rfl, hc⟩ := hints _ e
    exact ge_int (fin _ s.toks hc)
  | isin =>
    refine wpAny_mono (in_ok (Q := fun k s' => EP X pins σ Q (.bool k) s') hK hw (by omega) I rh ra rb rx ry e (fun t => fin _ t rfl) _).1 (fun r s' h => ?_) fun _ _ z => z
    obtain ⟨k, rfl, h⟩ := h
    exact h
  | notin =>
    refine wpAny_mono (in_ok (Q := fun k s' => EP X pins σ Q (.bool (!k)) s') hK hw (by omega) I rh ra rb rx ry (notO_some e) (fun t => fin _ t (by simp)) _).2 (fun r s' h => ?_) fun _ _ z => z
    obtain ⟨k, rfl, h⟩ := h
    exact h
  | isnone =>
    have e' : (if isNon b = true then some (isNon a) else none) = some c := e
    split at e'
    · rename_i hb
      cases b <;> simp [isNon] at hb
      cases rep_non rb
      have hc : isNon a = c := by simpa using e'
      exact op_isN pins s σ H x .non v u Q I rx ry ⟨rfl, by rw [rep_isNon ra, hc]; exact q⟩
    · cases e'
  | isnotnone =>
    have e' : (if isNon b = true then some (!isNon a) else none) = some c := e
    split at e'
    · rename_i hb
      cases b <;> simp [isNon] at hb
      cases rep_non rb
      have hc : (!isNon a) = c := by simpa using e'
      exact op_notN pins s σ H x .non v u Q I rx ry ⟨rfl, by rw [rep_isNon ra, hc]; exact q⟩
    · cases e'
end
end Z

set_option Elab.async false
set_option linter.all false
set_option maxRecDepth 100000
set_option maxHeartbeats 2000000
/-! Z6: expressions: names, constants, operators, tests, lists of arguments, tuples, lists, places, slices. -/
namespace Z
open PySem PySem.Spec PyProof.Rows L2
/-- an expression whose truth is asked as that of its value -/
def plainT : Expr → Bool
  | .UnaryOp .Not _ _ => false
  | .BoolOp _ _ _ => false
  | .IfExp _ _ _ _ => false
  | .Compare _ _ _ _ => false
  | _ => true
theorem plainT_is {e : Expr} {env : Env} (h : plainT e = true) : ∀ whole, isTrue e env whole = (do let v ← whole; standAt e.pos; holding [v] (truthy v)) := by
  intro whole
  cases e with
  | UnaryOp op a pos => cases op <;> first | rfl | (cases h)
  | BoolOp op a pos => cases h
  | IfExp a b c pos => cases h
  | Compare a b c pos => cases h
  | _ => rfl
def isBop : Expr → Bool
  | .BoolOp _ _ _ => true
  | _ => false
def noStar : Expr → Bool
  | .Starred _ _ => false
  | _ => true
theorem starEach_plain {e : Expr} {es : List Expr} {env : Env} (h : noStar e = true) : starEach (e :: es) env = (false, eval e env) :: starEach es env := by
  cases e <;> first | rfl | (cases h)
def noStars (es : List Expr) : Bool := es.all noStar
theorem backTo_plain {pos : Pos} {env : Env} : ∀ {es : List Expr}, noStars es = true → (backTo pos (starEach es env)).any (·.1) = false
  | [], _ => rfl
  | e :: r, h => by
    unfold noStars at h
    rw [List.all_cons, Bool.and_eq_true] at h
    rw [starEach_plain h.1]
    show (false || (backTo pos (starEach r env)).any (·.1)) = false
    rw [backTo_plain (es := r) h.2]
    rfl
variable (T : Top) (X : Cx) (W : WX) in
/-- an expression: its value, its truth -/
structure PZ (e : Expr) (m : Loc → LH → Option (Out PV)) : Prop where
  v : PE X e (TZ T W m)
  t : PT X e (TZt T W (testM m))
  w : isBop e = true → PW X e (TZt T W (testM m))
section
variable {T : Top} {X : Cx} {W : WX} {e a b c : Expr} {es : List Expr} {pos : Pos} {m ma mb mc : Ev}
theorem orO_assoc {α β γ : Type} (x : Option (Out α)) (f : α → LH → Option (Out β)) (g : β → LH → Option (Out γ)) : orO (orO x f) g = orO x fun a S => orO (f a S) g := by
  cases x with
  | none => rfl
  | some o => cases o <;> rfl
/-- the truth of a value -/
theorem truth_ok {F G : Hp} {ρ : Rho} {S : LH} {H : Hp} {K : PySem.W.Frag} {v : PV} {x : V} {k : Bool} (e : truth v = some k) (r : Rep T F ρ v x) : TruV K x H k := by
  cases r with
  | non => cases e; rfl
  | bl b => cases e; rfl
  | int i =>
    have e' : (!decide (i = 0)) = k := by simpa [truth] using e
    subst e'
    show (!decide (i = 0)) = (i != 0)
    rw [bne, Bool.beq_eq_decide_eq]
  | _ => cases e
theorem PZ.plain (h : PE X e (TZ T W m)) (hp : plainT e = true) : PZ T X W e m := by
  refine ⟨h, ?_, fun hb => ?_⟩
  · refine PT.imp (pt_truth h (plainT_is hp)) fun σ H Q q => ?_
    obtain ⟨F, G, ρ, l, S, o, rl, rh, e, q⟩ := q
    refine tz_ok rl rh e q fun v S1 F1 ρ1 x H1 e1 ex1 rl1 rh1 r1 h1 => ?_
    split at e1
    · rename_i k hk
      cases e1
      exact ⟨k, truth_ok (G := G) (S := S1) hk r1, h1 F1 ρ1 k H1 Ext.refl rh1 rfl⟩
    · cases e1
  · cases e <;> simp [isBop] at hb
    simp [plainT] at hp
theorem nth_get {α : Type} : ∀ {l : List α} {i : Nat}, nth l i = l[i]?
  | [], _ => by simp [nth]
  | _ :: _, 0 => by simp [nth]
  | _ :: r, i + 1 => by simp [nth, nth_get (l := r)]
/-! ### names, constants -/
theorem pe_varZ {i : Nat} {x : Str} (hN : X.N[i]? = some x) (hv : Vis X.env.scope x) (hd : (x == ("__debug__" : Str)) = false) (hcd : (x == ("__classdict__" : Str)) = false) :
    PE X (.Name x pos) (TZ T W (eVar i)) := by
  refine PE.imp (pe_var hN hv hd hcd) fun σ H Q q => ?_
  obtain ⟨F, G, ρ, l, S, o, rl, rh, e, q⟩ := q
  have e' : (match getV l i with | some v => some (Out.ok v S) | none => none) = some o := e
  unfold getV at e'
  split at e'
  · rename_i v hv
    cases e'
    split at hv
    · rename_i u hu
      cases hv
      obtain ⟨x, h1, h2⟩ := rl.v i v hu
      exact ⟨x, h1, q _ _ _ _ Ext.refl rh h2⟩
    · cases hv
  · cases e'
/-- a constant: scalars -/
def cstB (v : PV) (c : Const) : Bool := match v with
  | .int i => match c with
    | .int j => decide (i = j)
    | _ => false
  | .bl k => match c with
    | .bool j => k == j
    | _ => false
  | .non => match c with
    | .none => true
    | _ => false
  | .str s => match c with
    | .str x => decide (strV s = x) && Nat.ble s.length 16777216 && s.all (fun c => Nat.blt c 1114112)
    | _ => false
  | _ => false
theorem pe_cstZ {v : PV} {cc : Const} {j : Nat} (h : cstB v cc = true) : PE X (.Constant cc j pos) (TZ T W (eCst v)) := by
  have fin : ∀ {x : V}, (∀ F ρ, Rep T F ρ v x) → ∀ σ H Q, TZ T W (eCst v) σ H Q → tC x σ H Q := fun {x} hr σ H Q q => by
    obtain ⟨F, G, ρ, l, S, o, rl, rh, e, q⟩ := q
    cases (show some (Out.ok v S) = some o from e)
    exact q _ _ _ _ Ext.refl rh (hr _ _)
  cases v with
  | int i =>
    cases cc <;> simp [cstB] at h
    subst h
    exact PE.imp pe_int (fin fun _ _ => .int _)
  | bl k =>
    cases cc <;> simp [cstB] at h
    subst h
    exact PE.imp pe_bl (fin fun _ _ => .bl _)
  | non =>
    cases cc <;> simp [cstB] at h
    exact PE.imp pe_non (fin fun _ _ => .non)
  | str s =>
    cases cc <;> simp [cstB] at h
    obtain ⟨⟨h1, h2⟩, h3⟩ := h
    subst h1
    exact PE.imp pe_str (fin fun _ _ => .str s ⟨h2, fun c hc => h3 c hc⟩)
  | _ => simp [cstB] at h
/-- a constant of the top -/
theorem pe_glbZ {g : Nat} {x : Str} {v : PV} {y : V} {u : Value} {P : Prog} (hg : Gl X x) (hm : X.mg x = some u) (r : RelV y u) (hr : ∀ F ρ, Rep T F ρ v y) (hn : nth P.glbs g = some v) (hd : (x == ("__debug__" : Str)) = false) :
    PE X (.Name x pos) (TZ T W (eGlb P g)) := by
  refine PE.imp (pe_glob hg hm r hd) fun σ H Q q => ?_
  obtain ⟨F, G, ρ, l, S, o, rl, rh, e, q⟩ := q
  have e' : (match nth P.glbs g with | some v => some (Out.ok v S) | none => none) = some o := e
  rw [hn] at e'
  cases e'
  exact q _ _ _ _ Ext.refl rh (hr _ _)
/-! ### operators -/
theorem pe_negZ (h : PE X a (TZ T W ma)) : PE X (.UnaryOp .USub a pos) (TZ T W (eNeg ma)) := by
  refine PE.imp (pe_un un_neg h) fun σ H Q q => ?_
  obtain ⟨F, G, ρ, l, S, o, rl, rh, e, q⟩ := q
  refine tz_ok rl rh e q fun v S1 F1 ρ1 x H1 e1 ex1 rl1 rh1 r1 h1 => ?_
  cases v <;> simp at e1
  subst e1
  exact ⟨_, rep_int r1, h1 _ _ _ _ Ext.refl rh1 (.int _)⟩
theorem pe_cmpZ (hK : X.K = T.K) (hw : X.w = T.w) (hu : X.A.units + 96 < cLine) (op : CO) (ha : PE X a (TZ T W ma)) (hb : PE X b (TZ T W mb)) (hm : behindInMarks (coOf op) b = false) :
    PE X (.Compare a [coOf op] [b] pos) (TZ T W (eCmp op ma mb)) := by
  refine PE.imp (pe_cmpR (op_cmpZ hK hw hu op) ha hb hm) fun σ H Q q => ?_
  obtain ⟨F, G, ρ, l, S, o, rl, rh, e, q⟩ := q
  refine tz_ok rl rh e q fun v S1 F1 ρ1 x H1 e1 ex1 rl1 rh1 r1 h1 => ?_
  refine tz_ok rl1 rh1 e1 h1 fun u S2 F2 ρ2 y H2 e2 ex2 rl2 rh2 r2 h2 => ?_
  split at e2
  · rename_i k hk
    cases e2
    exact ⟨F2, G, ρ2, S2, v, u, k, rh2, r1.ext ex2, r2, hk, h2 _ _ _ _ Ext.refl rh2 (.bl _)⟩
  · cases e2
theorem pt_cmpZ (hK : X.K = T.K) (hw : X.w = T.w) (hu : X.A.units + 96 < cLine) (op : CO) (ha : PE X a (TZ T W ma)) (hb : PE X b (TZ T W mb)) (hm : behindInMarks (coOf op) b = false) :
    PT X (.Compare a [coOf op] [b] pos) (TZt T W (testM (eCmp op ma mb))) := by
  refine PT.imp (pt_cmpR (op_cmpZ hK hw hu op) ha hb hm) fun σ H Q q => ?_
  obtain ⟨F, G, ρ, l, S, o, rl, rh, e, q⟩ := q
  have e' : orO (ma l S) (fun x S1 => orO (mb l S1) fun y S2 => match cmpB op S2 x y with
    | some c => some (Out.ok c S2)
    | none => none) = some o := by
    rw [← e]
    unfold testM eCmp
    rw [orO_assoc]
    congr 1
    funext x S1
    rw [orO_assoc]
    congr 1
    funext y S2
    cases cmpB op S2 x y <;> rfl
  refine tz_ok rl rh e' q fun v S1 F1 ρ1 x H1 e1 ex1 rl1 rh1 r1 h1 => ?_
  refine tz_ok rl1 rh1 e1 h1 fun u S2 F2 ρ2 y H2 e2 ex2 rl2 rh2 r2 h2 => ?_
  split at e2
  · rename_i k hk
    cases e2
    exact ⟨F2, G, ρ2, S2, v, u, k, rh2, r1.ext ex2, r2, hk, k, rfl, h2 F2 ρ2 k H2 Ext.refl rh2 rfl⟩
  · cases e2
theorem pe_chainZ (hK : X.K = T.K) (hw : X.w = T.w) (hu : X.A.units + 96 < cLine) (op op' : CO) (ha : PE X a (TZ T W ma)) (hb : PE X b (TZ T W mb)) (hc : PE X c (TZ T W mc))
    (hm : lastMarks [coOf op, coOf op'] [b, c] = false) : PE X (.Compare a [coOf op, coOf op'] [b, c] pos) (TZ T W (eCmp2 op op' ma mb mc)) := by
  refine PE.imp (pe_chain (op_cmpZ hK hw hu op) (op_cmpZ hK hw hu op') ha hb hc hm) fun σ H Q q => ?_
  obtain ⟨F, G, ρ, l, S, o, rl, rh, e, q⟩ := q
  refine tz_ok rl rh e q fun v S1 F1 ρ1 x H1 e1 ex1 rl1 rh1 r1 h1 => ?_
  refine tz_ok rl1 rh1 e1 h1 fun u S2 F2 ρ2 y H2 e2 ex2 rl2 rh2 r2 h2 => ?_
  split at e2
  · rename_i hk
    refine ⟨F2, G, ρ2, S2, v, u, true, rh2, r1.ext ex2, r2, hk, true, rfl, ?_⟩
    rw [if_pos rfl]
    refine tz_ok rl2 rh2 e2 h2 fun w' S3 F3 ρ3 z H3 e3 ex3 rl3 rh3 r3 h3 => ?_
    split at e3
    · rename_i d hd
      cases e3
      exact ⟨F3, G, ρ3, S3, u, w', d, rh3, r2.ext ex3, r3, hd, h3 _ _ _ _ Ext.refl rh3 (.bl _)⟩
    · cases e3
  · rename_i hk
    cases e2
    refine ⟨F2, G, ρ2, S2, v, u, false, rh2, r1.ext ex2, r2, hk, false, rfl, ?_⟩
    rw [if_neg Bool.false_ne_true]
    exact h2 _ _ _ _ Ext.refl rh2 (.bl _)
  · cases e2
theorem pt_chainZ (hK : X.K = T.K) (hw : X.w = T.w) (hu : X.A.units + 96 < cLine) (op op' : CO) (ha : PE X a (TZ T W ma)) (hb : PE X b (TZ T W mb)) (hc : PE X c (TZ T W mc))
    (hm : lastMarks [coOf op, coOf op'] [b, c] = false) : PT X (.Compare a [coOf op, coOf op'] [b, c] pos) (TZt T W (testM (eCmp2 op op' ma mb mc))) := by
  refine PT.imp (pt_chain (op_cmpZ hK hw hu op) (op_cmpZ hK hw hu op') ha hb hc hm) fun σ H Q q => ?_
  obtain ⟨F, G, ρ, l, S, o, rl, rh, e, q⟩ := q
  unfold testM eCmp2 at e
  rw [orO_assoc] at e
  refine tz_ok rl rh e q fun v S1 F1 ρ1 x H1 e1 ex1 rl1 rh1 r1 h1 => ?_
  rw [orO_assoc] at e1
  refine tz_ok rl1 rh1 e1 h1 fun u S2 F2 ρ2 y H2 e2 ex2 rl2 rh2 r2 h2 => ?_
  split at e2
  · rename_i hk
    refine ⟨F2, G, ρ2, S2, v, u, true, rh2, r1.ext ex2, r2, hk, true, rfl, ?_⟩
    rw [if_pos rfl]
    rw [orO_assoc] at e2
    refine tz_ok rl2 rh2 e2 h2 fun w' S3 F3 ρ3 z H3 e3 ex3 rl3 rh3 r3 h3 => ?_
    split at e3
    · rename_i d hd
      have e3' : o = .ok d S3 := by simpa [orO, truth] using e3.symm
      subst e3'
      exact ⟨F3, G, ρ3, S3, u, w', d, rh3, r2.ext ex3, r3, hd, d, rfl, h3 F3 ρ3 d H3 Ext.refl rh3 rfl⟩
    · cases e3
  · rename_i hk
    have e2' : o = .ok false S2 := by simpa [orO, truth] using e2.symm
    subst e2'
    refine ⟨F2, G, ρ2, S2, v, u, false, rh2, r1.ext ex2, r2, hk, false, rfl, ?_⟩
    rw [if_neg Bool.false_ne_true]
    exact ⟨false, rfl, h2 F2 ρ2 false H2 Ext.refl rh2 rfl⟩
  · cases e2
/-! ### not, and, or, if -/
theorem pz_not (h : PZ T X W a ma) : PZ T X W (.UnaryOp .Not a pos) (eNot ma) := by
  refine ⟨PE.imp (pe_not h.v) fun σ H Q q => ?_, PT.imp (pt_not h.t) fun σ H Q q => ?_, fun hb => by cases hb⟩
  · obtain ⟨F, G, ρ, l, S, o, rl, rh, e, q⟩ := q
    refine tz_ok rl rh e q fun v S1 F1 ρ1 x H1 e1 ex1 rl1 rh1 r1 h1 => ?_
    cases v <;> simp at e1
    subst e1
    exact ⟨_, rep_bl r1, h1 _ _ _ _ Ext.refl rh1 (.bl _)⟩
  · obtain ⟨F, G, ρ, l, S, o, rl, rh, e, q⟩ := q
    have e' : orO (testM ma l S) (fun k S1 => some (.ok (!k) S1)) = some o := by
      unfold testM eNot at e
      unfold testM
      rw [orO_assoc] at e ⊢
      cases hm : ma l S with
      | none => rw [hm] at e; cases e
      | some o1 =>
        rw [hm] at e
        cases o1 with
        | exn => exact e
        | ok v S1 =>
          cases v <;> simp [orO, truth] at e ⊢
          exact e
    refine tz_ok rl rh e' q fun v S1 F1 ρ1 x H1 e1 ex1 rl1 rh1 r1 h1 => ?_
    cases e1
    exact h1 F1 ρ1 _ H1 Ext.refl rh1 (by rw [r1]; rfl)
theorem pz_one {op : BoolOp} (h : PZ T X W a m) : PZ T X W (.BoolOp op [a] pos) m := by
  cases op with
  | And => exact ⟨pe_one h.v, (pw_and1 h.t).pt, fun _ => pw_and1 h.t⟩
  | Or => exact ⟨pe_one h.v, (pw_or1 h.t).pt, fun _ => pw_or1 h.t⟩
theorem pz_and (h : PZ T X W a ma) (h2 : PZ T X W (.BoolOp .And (b :: es) pos) mb) : PZ T X W (.BoolOp .And (a :: b :: es) pos) (eAnd ma mb) := by
  have hw : PW X (.BoolOp .And (a :: b :: es) pos) (TZt T W (testM (eAnd ma mb))) := by
    refine ⟨fun whole pins s σ H Q I q => (pw_and h.t (h2.w rfl)).run whole pins s σ H Q I ?_⟩
    obtain ⟨F, G, ρ, l, S, o, rl, rh, e, q⟩ := q
    have e' : orO (testM ma l S) (fun k S1 => if k = true then testM mb l S1 else some (.ok false S1)) = some o := by
      unfold testM eAnd at e
      unfold testM
      rw [orO_assoc] at e ⊢
      cases hm : ma l S with
      | none => rw [hm] at e; cases e
      | some o1 =>
        rw [hm] at e
        cases o1 with
        | exn => exact e
        | ok v S1 =>
          cases v with
          | bl k => cases k <;> simpa [orO, truth] using e
          | _ => simp [orO] at e
    refine tz_ok rl rh e' q fun k S1 F1 ρ1 x H1 e1 ex1 rl1 rh1 r1 h1 => ?_
    have r1' : x = k := r1
    subst r1'
    cases x with
    | true => exact ⟨F1, G, ρ1, l, S1, o, rl1, rh1, by simpa using e1, h1⟩
    | false =>
      have : o = .ok false S1 := by simpa using e1.symm
      subst this
      exact h1 F1 ρ1 _ H1 Ext.refl rh1 rfl
  refine ⟨PE.imp (pe_and h.v h2.v) fun σ H Q q => ?_, hw.pt, fun _ => hw⟩
  obtain ⟨F, G, ρ, l, S, o, rl, rh, e, q⟩ := q
  refine tz_ok rl rh e q fun v S1 F1 ρ1 x H1 e1 ex1 rl1 rh1 r1 h1 => ?_
  cases v with
  | bl k =>
    refine ⟨k, rep_bl r1, ?_⟩
    cases k with
    | true => exact ⟨F1, G, ρ1, l, S1, o, rl1, rh1, e1, h1⟩
    | false =>
      cases e1
      exact h1 _ _ _ _ Ext.refl rh1 (.bl _)
  | _ => cases e1
theorem pz_or (h : PZ T X W a ma) (h2 : PZ T X W (.BoolOp .Or (b :: es) pos) mb) : PZ T X W (.BoolOp .Or (a :: b :: es) pos) (eOr ma mb) := by
  have hw : PW X (.BoolOp .Or (a :: b :: es) pos) (TZt T W (testM (eOr ma mb))) := by
    refine ⟨fun whole pins s σ H Q I q => (pw_or h.t (h2.w rfl)).run whole pins s σ H Q I ?_⟩
    obtain ⟨F, G, ρ, l, S, o, rl, rh, e, q⟩ := q
    have e' : orO (testM ma l S) (fun k S1 => if k = true then some (.ok true S1) else testM mb l S1) = some o := by
      unfold testM eOr at e
      unfold testM
      rw [orO_assoc] at e ⊢
      cases hm : ma l S with
      | none => rw [hm] at e; cases e
      | some o1 =>
        rw [hm] at e
        cases o1 with
        | exn => exact e
        | ok v S1 =>
          cases v with
          | bl k => cases k <;> simpa [orO, truth] using e
          | _ => simp [orO] at e
    refine tz_ok rl rh e' q fun k S1 F1 ρ1 x H1 e1 ex1 rl1 rh1 r1 h1 => ?_
    have r1' : x = k := r1
    subst r1'
    cases x with
    | false => exact ⟨F1, G, ρ1, l, S1, o, rl1, rh1, by simpa using e1, h1⟩
    | true =>
      have : o = .ok true S1 := by simpa using e1.symm
      subst this
      exact h1 F1 ρ1 _ H1 Ext.refl rh1 rfl
  refine ⟨PE.imp (pe_or h.v h2.v) fun σ H Q q => ?_, hw.pt, fun _ => hw⟩
  obtain ⟨F, G, ρ, l, S, o, rl, rh, e, q⟩ := q
  refine tz_ok rl rh e q fun v S1 F1 ρ1 x H1 e1 ex1 rl1 rh1 r1 h1 => ?_
  cases v with
  | bl k =>
    refine ⟨k, rep_bl r1, ?_⟩
    cases k with
    | false => exact ⟨F1, G, ρ1, l, S1, o, rl1, rh1, e1, h1⟩
    | true =>
      cases e1
      exact h1 _ _ _ _ Ext.refl rh1 (.bl _)
  | _ => cases e1
theorem pt_ifExp {tA ta tb : TT} (hc : PT X c tA) (ha : PT X a ta) (hb : PT X b tb) : PT X (.IfExp c a b pos) (fun σ H Q => tA σ H fun k H1 => if k = true then ta σ H1 Q else tb σ H1 Q) := by
  refine ⟨fun pins s σ H Q I h => ?_⟩
  show wpAny _ _ (do if ← isTrue c X.env (eval c X.env) then isTrue a X.env (eval a X.env) else isTrue b X.env (eval b X.env)) _ _ _
  refine wpAny_bind (thn (hc.run pins s σ H _ I h) fun k s1 ⟨H1, I1, q1⟩ => ?_)
  cases k with
  | true => exact ha.run pins s1 σ H1 Q I1 (by simpa using q1)
  | false => exact hb.run pins s1 σ H1 Q I1 (by simpa using q1)
theorem pz_ite (hc : PZ T X W c mc) (ha : PZ T X W a ma) (hb : PZ T X W b mb) : PZ T X W (.IfExp c a b pos) (eIte mc ma mb) := by
  refine ⟨PE.imp (pe_ifExp hc.t ha.v hb.v) fun σ H Q q => ?_, PT.imp (pt_ifExp hc.t ha.t hb.t) fun σ H Q q => ?_, fun hb => by cases hb⟩
  · obtain ⟨F, G, ρ, l, S, o, rl, rh, e, q⟩ := q
    refine tz_ok rl rh e q fun v S1 F1 ρ1 x H1 e1 ex1 rl1 rh1 r1 h1 => ?_
    have r1' : x = v := r1
    subst r1'
    cases x with
    | true => exact ⟨F1, G, ρ1, l, S1, o, rl1, rh1, e1, h1⟩
    | false => exact ⟨F1, G, ρ1, l, S1, o, rl1, rh1, e1, h1⟩
  · obtain ⟨F, G, ρ, l, S, o, rl, rh, e, q⟩ := q
    unfold testM eIte at e
    rw [orO_assoc] at e
    refine tz_ok rl rh e q fun v S1 F1 ρ1 x H1 e1 ex1 rl1 rh1 r1 h1 => ?_
    have r1' : x = v := r1
    subst r1'
    cases x with
    | true => exact ⟨F1, G, ρ1, l, S1, o, rl1, rh1, e1, h1⟩
    | false => exact ⟨F1, G, ρ1, l, S1, o, rl1, rh1, e1, h1⟩
end
end Z

set_option Elab.async false
set_option linter.all false
set_option maxRecDepth 100000
set_option maxHeartbeats 2000000
/-! Z8: lists of arguments, tuples, lists, dicts written out; places, slices. -/
namespace Z
open PySem PySem.Spec PyProof.Rows L2
section
variable {T : Top} {X : Cx} {W : WX} {e a b c : Expr} {es : List Expr} {pos : Pos} {m ma mb mc : Ev}
/-! ### lists of arguments -/
def isStarC : CE → Bool
  | .star _ => true
  | _ => false
theorem evEs_cons {R : Rc} {c : CE} {cs : List CE} (h : isStarC c = false) (l : Loc) (S : LH) : evEs R (c :: cs) l S = orO (R.E c l S) fun v S1 => orO (evEs R cs l S1) fun ys S2 => some (.ok (v :: ys) S2) := by
  cases c <;> first | rfl | (cases h)
theorem pa_nilZ {R : Rc} : PA X [] (TZs T W (evEs R [])) := by
  refine PA.imp pa_nil fun σ H Q q => ?_
  obtain ⟨F, G, ρ, l, S, o, rl, rh, e, q⟩ := q
  cases (show some (Out.ok [] S) = some o from e)
  exact q _ _ _ _ Ext.refl rh .nil
theorem pa_consZ {R : Rc} {c : CE} {cs : List CE} (hn : noStar e = true) (hc : isStarC c = false) (h : PE X e (TZ T W (R.E c))) (hr : PA X es (TZs T W (evEs R cs))) : PA X (e :: es) (TZs T W (evEs R (c :: cs))) := by
  refine PA.imp (pa_cons h hr (starEach_plain hn)) fun σ H Q q => ?_
  obtain ⟨F, G, ρ, l, S, o, rl, rh, e, q⟩ := q
  rw [evEs_cons hc] at e
  refine tz_ok rl rh e q fun v S1 F1 ρ1 x H1 e1 ex1 rl1 rh1 r1 h1 => ?_
  refine tz_ok rl1 rh1 e1 h1 fun vs S2 F2 ρ2 ys H2 e2 ex2 rl2 rh2 r2 h2 => ?_
  cases e2
  exact h2 _ _ _ _ Ext.refl rh2 (.cons (r1.ext ex2) r2)
theorem seq_of {F G : Hp} {ρ : Rho} {S : LH} {H : Hp} {v : PV} {x : V} {xs : List PV} (hK : X.K = T.K) (rh : RH T F G ρ S H) (r : Rep T F ρ v x) (e : seqOf (top S v) = some xs) : ∃ a ys, x = .ref a ∧ (SqT X.K H a ys ∨ SqL X.K H a ys) ∧ Reps T F ρ xs ys := by
  have t := top1 rh r
  generalize top S v = tv at t e
  cases t with
  | lst h r => cases e; exact ⟨_, _, rfl, .inr (.inl (.inl h)), r⟩
  | tup h r => cases e; exact ⟨_, _, rfl, .inl (by rw [hK]; exact h.1), r⟩
  | _ => cases e
theorem pa_starZ {R : Rc} {c : CE} {cs : List CE} {p : Pos} (hK : X.K = T.K) (h : PE X e (TZ T W (R.E c))) (hr : PA X es (TZs T W (evEs R cs))) : PA X (.Starred e p :: es) (TZs T W (evEs R (.star c :: cs))) := by
  refine PA.imp (StX.pa_star h hr) fun σ H Q q => ?_
  obtain ⟨F, G, ρ, l, S, o, rl, rh, e, q⟩ := q
  refine tz_ok rl rh e q fun v S1 F1 ρ1 x H1 e1 ex1 rl1 rh1 r1 h1 => ?_
  split at e1
  · rename_i xs hx
    obtain ⟨a, ys, rfl, hs, r2⟩ := seq_of hK rh1 r1 hx
    refine ⟨a, ys, rfl, hs, ?_⟩
    refine tz_ok rl1 rh1 e1 h1 fun vs S2 F2 ρ2 zs H2 e3 ex2 rl2 rh2 r3 h2 => ?_
    cases e3
    exact h2 _ _ _ _ Ext.refl rh2 ((r2.ext ex2).append r3)
  · cases e1
/-! ### tuples, lists -/
theorem pe_tupF {t : TA} {x1 : Nat} (h : PA X es t) : PE X (.Tuple es x1 pos) (fun σ H Q => t σ H fun xs H1 => xs.length ≤ sizeLine ∧ ∀ us p, H1 p = none → Q (.ref p) (upd H1 p (tupO us xs))) := by
  refine ⟨fun pins s σ H Q I hq => ?_⟩
  refine wpAny_Tuple_spliced (thn (h.run pos pins s σ H _ I hq) fun us s1 ⟨xs, H1, I1, r, z, q⟩ => ⟨by rw [← r.length]; exact z, ?_⟩)
  exact laid_tup (t' := s1.toks) I1 (fun _ _ e => e) r z (q us)
theorem okLen_le {n : Nat} (h : okLen n = true) : n ≤ sizeLine := by
  rw [sizeLine_eq]
  exact Nat.le_of_ble_eq_true h
/-- a new frozen tuple -/
theorem new_tup {F G : Hp} {ρ : Rho} {S : LH} {H : Hp} {σ : L2.St} {xs : List PV} {ys : List V} {us : List Value} {Q : VK} (rh : RH T F G ρ S H) (r : Reps T F ρ xs ys) (h : After T W F G ρ σ (.ok (.tup xs) S) Q) {p : Addr} (hp : H p = none) : Q (.ref p) (upd H p (tupO us ys)) := by
  have ex := ext_new (ρ := ρ) (p := p) (o := tupO us ys) (rh.fnone hp)
  exact h _ ρ _ _ ex (rh_new rh hp) (.tup (tupF_new upd_same) (r.ext ex))
theorem pe_tupZ {x1 : Nat} {ms : Evs} (h : PA X es (TZs T W ms)) : PE X (.Tuple es x1 pos) (TZ T W (eTup ms)) := by
  refine PE.imp (pe_tupF h) fun σ H Q q => ?_
  obtain ⟨F, G, ρ, l, S, o, rl, rh, e, q⟩ := q
  refine tz_ok rl rh e q fun vs S1 F1 ρ1 xs H1 e1 ex1 rl1 rh1 r1 h1 => ?_
  split at e1
  · rename_i hl
    cases e1
    exact ⟨by rw [← r1.length]; exact okLen_le hl, fun us p hp => new_tup rh1 r1 h1 hp⟩
  · cases e1
theorem pe_lstZ {mu : Bool} {ms : Evs} (h : PA X es (TZs T W ms)) : PE X (.List es pos) (TZ T W (eLst mu ms)) := by
  refine PE.imp (pe_lst h) fun σ H Q q => ?_
  obtain ⟨F, G, ρ, l, S, o, rl, rh, e, q⟩ := q
  refine tz_ok rl rh e q fun vs S1 F1 ρ1 xs H1 e1 ex1 rl1 rh1 r1 h1 => ?_
  exact ⟨by rw [← r1.length]; exact mkL_len e1, fun p hp => mkL_ok rh1 r1 e1 h1 hp⟩
/-! ### places -/
theorem PlainIx.of (h : ∀ a b st p, e ≠ .Slice a b st p) : PlainIx e := fun o i => by
  cases e <;> first
    | rfl
    | exact absurd rfl (h _ _ _ _)
theorem ix_atI {α : Type} {xs : List α} {k : Int} {n : Nat} {v : α} (h : ix k xs.length = some n) (h2 : nth xs n = some v) : atI xs k = some v := by
  rw [nth_get] at h2
  unfold atI ixN
  unfold ix at h
  split at h
  · rename_i h0
    rw [if_pos h0]
    split at h
    · rename_i h1
      rw [if_pos h1]
      cases h
      exact h2
    · cases h
  · rename_i h0
    rw [if_neg h0]
    split at h
    · rename_i h1
      rw [if_pos (by omega)]
      cases h
      exact h2
    · cases h
theorem reps_nth {F : Hp} {ρ : Rho} {n : Nat} {v : PV} : ∀ {xs : List PV} {ys : List V} {n : Nat}, Reps T F ρ xs ys → nth xs n = some v → ∃ y, nth ys n = some y ∧ Rep T F ρ v y
  | _, _, n, .nil, h => by cases n <;> cases h
  | _, _, 0, .cons r _, h => by cases h; exact ⟨_, rfl, r⟩
  | _, _, n + 1, .cons _ r, h => by
    obtain ⟨y, h1, h2⟩ := reps_nth (n := n) r (show nth _ n = some v from h)
    exact ⟨y, h1, h2⟩
/-- a dict's item -/
def rIxZ (T : Top) : R2 := fun x y H Q => ∃ F G ρ S k kvs a es ep v, RH T F G ρ S H ∧ Rep T F ρ k y ∧ x = .ref a ∧ H a = some (DX a es ep) ∧ DOk kvs ∧ RepD T F ρ kvs es ∧ keyFor k kvs = true ∧ lookK k kvs = some v ∧ ∀ z, Rep T F ρ v z → Q z H
theorem d_get {F : Hp} {ρ : Rho} {A : Around} {E Q : Value → Shared → Prop} {pins : List (Addr × Obj)} {σ : L2.St} {H : Hp} {s : Shared} {d : Addr} {es : List DictEntry} {ep : Nat} {kvs : List (PV × PV)} {k v : PV} {x : V} {u : Value}
    (I : Inv X pins σ H s) (hK : X.K = T.K) (hw : X.w = T.w) (hF : ∀ a o, F a = some o → H a = some o) (hu : A.units + 16 < cLine) (hd : H d = some (DX d es ep)) (ok : DOk kvs) (r : RepD T F ρ kvs es)
    (kf : keyFor k kvs = true) (rk : Rep T F ρ k x) (ru : RelV x u) (hv : lookK k kvs = some v) (q : ∀ z w tk, Rep T F ρ v z → RelV z w → Q w { s with toks := tk }) :
    wpAny (model X.prog X.w) A (getItem (.ref d) u) Q E s := by
  obtain ⟨k1, k2⟩ := Z.keyFor_sort ok kf
  rcases k2 with ⟨kt, kl⟩ | ⟨kt, kl⟩
  · have hm := (dictOf_leaf I hw hd ok kl r).mapOf
    rcases look_leaf k1 kt r ok.key kl with ⟨h1, _⟩ | ⟨v1, y1, u1, h1, h2, h3, h4⟩
    · rw [h1] at hv; cases hv
    · rw [h1] at hv; cases hv
      exact wpAny_getItem_of (leaf_is k1 kt rk ru) hm h2 (q _ _ _ h3 h4)
  · obtain ⟨al, rfl, rfl⟩ := rep_ref_of_tup kt rk ru
    have hm : s.heap.DictKeyed (PySem.nestedKind X.prog X.w) d (pairsH (tupKvs kvs es)) := ⟨_, dictOf_tup I hK hw hF hd ok kl r, rfl⟩
    have hkey : (PySem.nestedKind X.prog X.w).is s.heap (nk k) al := ⟨nested_of I hK hF 8 k _ _ k1 rk rfl, nk_depth 8 k⟩
    have hr : (PySem.nestedKind X.prog X.w).room A.in1 := by show A.units + 1 + 8 < cLine; omega
    rcases look_tup (T := T) k1 r ok.key with ⟨h1, _⟩ | ⟨v1, y1, u1, h1, h2, h3, h4⟩
    · rw [h1] at hv; cases hv
    · rw [h1] at hv; cases hv
      exact getItem_keyed hr hkey hm h2 (q _ _ _ h3 h4)
theorem ix_dctZ (hK : X.K = T.K) (hw : X.w = T.w) (hu : X.A.units + 16 < cLine) : IxR X (rIxZ T) := by
  intro value slice pins s σ H x y v u Q I rx ry ⟨F, G, ρ, S, k, kvs, a, es, ep, w, rh, rk, ex, hd, ok, r, kf, hv, q⟩ hs
  subst ex
  cases rx
  obtain ⟨_, o, ho, hx, _⟩ := dx_at I.hok hd
  refine tail_any (T := "dict") ⟨o, ho, hx.1⟩ slot_dict_getitem.lookup ?_ hs
  exact d_get I hK hw rh.f hu hd ok r kf rk ry hv fun z w tk r1 r2 => ⟨z, H, I.tok _, r2, q z r1⟩
/-- a[i] -/
theorem pe_ixZ (hK : X.K = T.K) (hw : X.w = T.w) (hu : X.A.units + 16 < cLine) (ha : PE X a (TZ T W ma)) (hb : PE X b (TZ T W mb)) (hs : PlainIx b) : PE X (.Subscript a b pos) (TZ T W (eIdx ma mb)) := by
  refine PE.imp (pe_ix (ix_list.or (ix_tup.or (ix_str.or (ix_dctZ hK hw hu)))) ha hb hs) fun σ H Q q => ?_
  obtain ⟨F, G, ρ, l, S, o, rl, rh, e, q⟩ := q
  refine tz_ok rl rh e q fun v S1 F1 ρ1 x H1 e1 ex1 rl1 rh1 r1 h1 => ?_
  refine tz_ok rl1 rh1 e1 h1 fun u S2 F2 ρ2 y H2 e2 ex2 rl2 rh2 r2 h2 => ?_
  split at e2
  · rename_i w hw'
    cases e2
    have fin : ∀ z, Rep T F2 ρ2 w z → Q z H2 := fun z r => h2 _ _ _ _ Ext.refl rh2 r
    have t := top1 rh2 (r1.ext ex2)
    generalize top S2 v = tv at t hw'
    have seqs : ∀ {xs : List PV} {ys : List V}, Reps T F2 ρ2 xs ys → itemAt (.lst xs) u = some w → ∃ i z, y = .int i ∧ atI ys i = some z ∧ Q z H2 := fun {xs ys} r e => by
      cases u with
      | int k =>
        simp only [itemAt] at e
        split at e
        · rename_i n hn
          obtain ⟨z, h3, h4⟩ := reps_nth (n := n) (v := w) r e
          exact ⟨k, z, rep_int r2, ix_atI (by rw [← r.length]; exact hn) h3, fin z h4⟩
        · cases e
      | _ => cases e
    cases t with
    | lst h r =>
      obtain ⟨i, z, h3, h4, h5⟩ := seqs r hw'
      exact .inl ⟨_, _, i, z, rfl, h3, .inl (.inl h), h4, h5⟩
    | tup h r =>
      obtain ⟨i, z, h3, h4, h5⟩ := seqs r hw'
      exact .inr (.inl ⟨_, _, i, z, rfl, h3, by rw [hK]; exact h.1, h4, h5⟩)
    | str p hp =>
      cases u with
      | int k =>
        simp only [itemAt] at hw'
        split at hw'
        · rename_i n hn
          split at hw'
          · rename_i d hd
            cases hw'
            refine .inr (.inr (.inl ⟨strV p, k, d, rfl, rep_int r2, by rw [strV_length, sizeLine_eq]; exact hp.1, ?_, ?_⟩))
            · refine ix_atI (xs := (strV p).cps.toList) (n := n) ?_ ?_
              · simpa using hn
              · simpa using hd
            · refine fin _ (.str [d] ⟨by simp, fun c hc => ?_⟩)
              have : c = d := by simpa using hc
              subst this
              rw [nth_get] at hd
              exact hp.2 c (List.mem_of_getElem? hd)
          · cases hw'
        · cases hw'
      | _ => cases hw'
    | dct h ok r =>
      simp only [itemAt] at hw'
      split at hw'
      · rename_i kf
        exact .inr (.inr (.inr ⟨F2, G, ρ2, S2, u, _, _, _, _, w, rh2, r2, rfl, h, ok, r, kf, hw', fin⟩))
      · cases hw'
    | _ => cases hw'
  · cases e2
/-! ### slices -/
theorem clamp_eq {n d : Nat} {o : Option Int} : clampI n d o = HT.sIx n d o := by cases o <;> rfl
theorem Reps.drop {F : Hp} {ρ : Rho} : ∀ {xs : List PV} {ys : List V} (n : Nat), Reps T F ρ xs ys → Reps T F ρ (xs.drop n) (ys.drop n)
  | _, _, 0, r => r
  | _, _, n + 1, .nil => .nil
  | _, _, n + 1, .cons _ r => Reps.drop n r
theorem Reps.take {F : Hp} {ρ : Rho} : ∀ {xs : List PV} {ys : List V} (n : Nat), Reps T F ρ xs ys → Reps T F ρ (xs.take n) (ys.take n)
  | _, _, 0, _ => .nil
  | _, _, n + 1, .nil => .nil
  | _, _, n + 1, .cons h r => .cons h (Reps.take n r)
theorem slice_reps {F : Hp} {ρ : Rho} {xs : List PV} {ys : List V} {lo hi : Option Int} (r : Reps T F ρ xs ys) : Reps T F ρ (sliceL lo hi xs) (cutV ys lo hi) := by
  unfold sliceL cutV
  rw [clamp_eq, clamp_eq, r.length]
  exact (r.drop _).take _
/-- a bound's reading -/
def RelO1 (_ : Hp) (_ : Rho) (a b : Option Int) : Prop := b = a
theorem po_noneZ {R : Rc} : PO X none (TZg T RelO1 W (evO R none)) := by
  refine ⟨fun pins s σ H Q I q => (po_none (X := X)).run pins s σ H Q I ?_⟩
  obtain ⟨F, G, ρ, l, S, o, rl, rh, e, q⟩ := q
  cases (show some (Out.ok none S) = some o from e)
  exact q _ _ _ _ Ext.refl rh rfl
theorem po_someZ {R : Rc} {c : CE} (h : PE X e (TZ T W (R.E c))) : PO X (some e) (TZg T RelO1 W (evO R (some c))) := by
  refine ⟨fun pins s σ H Q I q => (po_some h).run pins s σ H Q I ?_⟩
  obtain ⟨F, G, ρ, l, S, o, rl, rh, e, q⟩ := q
  refine tz_ok rl rh e q fun v S1 F1 ρ1 x H1 e1 ex1 rl1 rh1 r1 h1 => ?_
  cases v with
  | int i =>
    cases e1
    exact ⟨i, rep_int r1, h1 _ _ _ _ Ext.refl rh1 rfl⟩
  | _ => cases e1
/-- t[lo:hi]: the whole, or a new one, known -/
def rSlF (K : PySem.W.Frag) : V → Option Int → Option Int → Hp → VK → Prop := fun x lo hi H Q => ∃ a xs, x = .ref a ∧ SqT K H a xs ∧
  (HT.sIx xs.length 0 lo = 0 ∧ HT.sIx xs.length xs.length hi = xs.length → Q (.ref a) H) ∧ (¬ (HT.sIx xs.length 0 lo = 0 ∧ HT.sIx xs.length xs.length hi = xs.length) → ∀ us p, H p = none → Q (.ref p) (upd H p (tupO us (cutV xs lo hi))))
theorem sl_tupF : SlR X (rSlF X.K) := by
  intro pins s σ H x v vl vu lo hi sl Q I rx hs pl pu ⟨a, xs, ex, hx, q1, q2⟩
  subst ex
  cases rx
  obtain ⟨its, r, ht, hz⟩ := I.tuple hx
  have hlen : its.toArray.size = xs.length := by rw [List.size_toArray]; exact r.length.symm
  refine ⟨"tuple", _, PyProof.Rows.slot_tuple_getitem.lookup, ht.typeIs, ?_⟩
  by_cases hw : HT.sIx xs.length 0 lo = 0 ∧ HT.sIx xs.length xs.length hi = xs.length
  · exact getItem_tuple_whole ht hs pl pu (by rw [hlen]; exact hw) ⟨.ref a, H, I, rfl, q1 hw⟩
  · refine HT.getItem_tuple_cut ht hs pl pu (by rw [hlen]; exact hw) ?_ (by rw [hlen]; exact hz)
    rw [hlen]
    exact laid_tup (t' := s.toks) (us := (its.drop (HT.sIx xs.length 0 lo)).take (HT.sIx xs.length xs.length hi - HT.sIx xs.length 0 lo)) (ys := cutV xs lo hi) I (fun _ _ e => e)
      ((r.drop (HT.sIx xs.length 0 lo)).take (HT.sIx xs.length xs.length hi - HT.sIx xs.length 0 lo)) (Nat.le_trans (cutV_length xs lo hi) hz) (q2 hw _)
theorem whole_slice {α : Type} {xs : List α} {lo hi : Option Int} (h : HT.sIx xs.length 0 lo = 0 ∧ HT.sIx xs.length xs.length hi = xs.length) : sliceL lo hi xs = xs := by
  unfold sliceL
  rw [clamp_eq, clamp_eq, h.1, h.2]
  simp
theorem pe_slcZ {mu : Bool} {lo hi : Option Expr} {p2 : Pos} {ml mh : Loc → LH → Option (Out (Option Int))} (hK : X.K = T.K) (ha : PE X a (TZ T W ma)) (hl : PO X lo (TZg T RelO1 W ml)) (hh : PO X hi (TZg T RelO1 W mh)) :
    PE X (.Subscript a (.Slice lo hi none p2) pos) (TZ T W (eSlc mu ma ml mh)) := by
  refine PE.imp (pe_slice (sl_list.or (sl_tupF.or sl_str)) ha hl hh) fun σ H Q q => ?_
  obtain ⟨F, G, ρ, l, S, o, rl, rh, e, q⟩ := q
  refine tz_ok rl rh e q fun v S1 F1 ρ1 x H1 e1 ex1 rl1 rh1 r1 h1 => ?_
  refine tz_ok rl1 rh1 e1 h1 fun i S2 F2 ρ2 y H2 e2 ex2 rl2 rh2 r2 h2 => ?_
  refine tz_ok rl2 rh2 e2 h2 fun j S3 F3 ρ3 z H3 e3 ex3 rl3 rh3 r3 h3 => ?_
  have r2' : y = i := r2
  have r3' : z = j := r3
  subst r2' r3'
  have t := top1 rh3 ((r1.ext ex2).ext ex3)
  unfold sliceOp at e3
  generalize htv : top S3 v = tv at t e3
  cases t with
  | lst h r =>
    exact .inl ⟨_, _, rfl, .inl (.inl h), fun p hp => mkL_ok rh3 (slice_reps r) e3 h3 hp⟩
  | @tup a ys xs h r =>
    cases e3
    refine .inr (.inl ⟨a, ys, rfl, by rw [hK]; exact h.1, fun hw => ?_, fun _ us p hp => new_tup rh3 (slice_reps r) h3 hp⟩)
    rw [← r.length] at hw
    rw [whole_slice hw] at h3
    refine h3 _ _ _ _ Ext.refl rh3 ?_
    have ht : v = .tup xs := by
      cases v with
      | loc n =>
        cases hg : S3.get n with
        | none => simp [top, hg] at htv
        | some c => cases c <;> simp [top, hg] at htv
      | _ => exact htv
    subst ht
    exact (r1.ext ex2).ext ex3
  | str p hp =>
    cases e3
    refine .inr (.inr ⟨strV p, rfl, by rw [strV_length, sizeLine_eq]; exact hp.1, ?_⟩)
    have e : cutS (strV p) y z = strV (sliceL y z p) := by
      unfold sliceL
      rw [clamp_eq, clamp_eq]
      have hc : (strV p).cps.toList = p := by simp
      show (⟨(((strV p).cps.toList.drop (HT.sIx (strV p).length 0 y)).take (HT.sIx (strV p).length (strV p).length z - HT.sIx (strV p).length 0 y)).toArray⟩ : Str) = _
      rw [strV_length, hc]
    rw [e]
    refine h3 _ _ _ _ Ext.refl rh3 (.str _ ⟨?_, fun c hc => hp.2 c ?_⟩)
    · unfold sliceL
      rw [List.length_take, List.length_drop]
      have := hp.1
      omega
    · unfold sliceL at hc
      exact List.mem_of_mem_drop (List.mem_of_mem_take hc)
  | _ => cases e3
end
end Z

set_option Elab.async false
set_option linter.all false
set_option maxRecDepth 100000
set_option maxHeartbeats 2000000
/-! ZR: x[::-1]. -/
namespace Z
open PySem PySem.Spec PyProof.Rows L2
section
variable {prog : Program} {w : World} {A : Around} {E : Value → Shared → Prop} {s : Shared}
theorem sliceApplied_rev {sl : Addr} {vs : Value} {n : Nat} {Q : Int × Int × Nat → Shared → Prop} (hs : s.heap.IsSliceOf sl .none .none vs) (ps : IsPart vs (some (-1)))
    (h : Q ((n : Int) - 1, -1, n) s) : wpAny (model prog w) A (Builtin.Slice.sliceApplied (.ref sl) (pure (n : Int))) Q E s := by
  obtain ⟨os, hos, hcs, hds⟩ := id hs
  unfold Builtin.Slice.sliceApplied Builtin.Slice.sliceFields
  refine wpAny_bind (wpAny_bind (wpAny_field hos hds (x := .none) rfl (wpAny_bind (wpAny_field hos hds (x := .none) rfl (wpAny_bind (wpAny_field hos hds (x := vs) rfl (wpAny_pure ?_)))))))
  refine wpAny_bind (HT.slicePart_ ps ?_)
  show wpAny _ _ (if ((-1 : Int) == 0) = true then _ else _) _ _ s
  rw [if_neg (by decide)]
  refine wpAny_bind (slicePart_none (wpAny_bind (slicePart_none (wpAny_bind (wpAny_pure ?_)))))
  have e1 : Builtin.Slice.sliceAdjust none none (-1) (n : Int) = ((n : Int) - 1, -1) := rfl
  have e2 : Builtin.Slice.slicePlaces ((n : Int) - 1) (-1) (-1) = n := by
    unfold Builtin.Slice.slicePlaces
    have h1 : ¬ ((-1 : Int) > 0) := by decide
    simp only [h1, if_false]
    by_cases q : (n : Int) - 1 > -1
    · rw [if_pos q, show (- -1 : Int) = 1 by decide, Int.ediv_one]
      omega
    · rw [if_neg q]
      omega
  show wpAny _ _ (match Builtin.Slice.sliceAdjust none none (-1) (n : Int) with | (lo, hi) => pure (lo, (-1 : Int), Builtin.Slice.slicePlaces lo hi (-1))) _ _ s
  rw [e1]
  show wpAny _ _ (pure ((n : Int) - 1, (-1 : Int), Builtin.Slice.slicePlaces ((n : Int) - 1) (-1) (-1))) _ _ s
  rw [e2]
  exact wpAny_pure h
theorem filterMap_of {α β : Type} {f g : α → Option β} : ∀ {l : List α}, (∀ a ∈ l, f a = g a) → l.filterMap f = l.filterMap g
  | [], _ => rfl
  | a :: r, h => by
    rw [List.filterMap_cons, List.filterMap_cons, h a List.mem_cons_self, filterMap_of fun b hb => h b (List.mem_cons_of_mem _ hb)]
theorem rev_pick (xs : List Value) : ((List.range xs.toArray.size).filterMap fun (m : Nat) => xs.toArray[((xs.toArray.size : Int) - 1 + (m : Int) * (-1)).toNat]?) = xs.reverse := by
  have e : ∀ m ∈ List.range xs.toArray.size, (fun (m : Nat) => xs.toArray[((xs.toArray.size : Int) - 1 + (m : Int) * (-1)).toNat]?) m = (fun m => xs.toArray[m]?) (xs.toArray.size - 1 - m) := fun m hm => by
    have := List.mem_range.mp hm
    show xs.toArray[_]? = xs.toArray[_]?
    congr 1
    omega
  rw [filterMap_of e]
  have h2 : (List.range xs.toArray.size).filterMap (fun m => (fun m => xs.toArray[m]?) (xs.toArray.size - 1 - m)) = ((List.range xs.toArray.size).map (fun k => xs.toArray.size - 1 - k)).filterMap (fun m => xs.toArray[m]?) := by
    rw [List.filterMap_map]
    rfl
  rw [h2, PySem.W.krv_range, List.filterMap_reverse, PySem.W.krv_all]
theorem getItem_tuple_rev {t sl : Addr} {xs : List Value} {vs : Value} {Q : Value → Shared → Prop} (ht : IsTup s.heap t xs.toArray) (hs : s.heap.IsSliceOf sl .none .none vs) (ps : IsPart vs (some (-1)))
    (h : Q (.ref s.heap.objs.size) { s with heap := s.heap.push { cls := .type "tuple", data := .seq xs.reverse.toArray } })
    (hsz : xs.length ≤ sizeLine) : wpAny (model prog w) A (getItem (.ref t) (.ref sl)) Q E s := by
  have htake : sizeOk (.seq xs.reverse.toArray) := by
    show xs.reverse.toArray.size ≤ sizeLine
    rw [List.size_toArray, List.length_reverse]
    exact hsz
  obtain ⟨os, hos, hcs, hds⟩ := id hs
  have hTs : s.TypeIs (.ref sl) "slice" := ⟨os, hos, hcs⟩
  unfold getItem
  try with_reducible refine wpAny_holding ?_
  first | refine wpAny_bind (wpAny_pure ?_) | skip
  refine wpAny_bind (wpAny_sequenceKey ht.typeIs (by decide) ?_)
  refine wpAny_bind (wpAny_callSpecial?_slot (name := Str.ofString "__getitem__") ht.typeIs PyProof.Rows.slot_tuple_getitem
    (wpAny_call_entry PyProof.Rows.slot_tuple_getitem ht.typeIs entry_tuple_getitem ?_ (args_tuple_getitem _ _)))
  show wpAny _ _ (Builtin.Tuple.tupleItemsOf (.ref t) >>= _) _ _ s
  refine wpAny_bind (tupleItemsOf_ ht ?_)
  refine wpAny_bind (wpAny_typeOf hTs ?_)
  rw [if_pos (by decide)]
  refine wpAny_bind (sliceApplied_rev hs ps ?_)
  show wpAny _ _ (if (((xs.toArray.size : Int) - 1 == 0 && (-1 : Int) == 1 && xs.toArray.size == xs.toArray.size)) = true then _ else _) _ _ s
  rw [if_neg (by simp), rev_pick]
  first
    | exact wpAny_bind (m := Builtin.Tuple.tupleExact _) (wpAny_newObj_type (wpAny_pure ⟨_, rfl, wpAny_pure h⟩) htake)
    | exact wpAny_bind (wpAny_bind (m := Builtin.Tuple.tupleExact _) (wpAny_newObj_type (wpAny_pure ⟨_, rfl, wpAny_pure h⟩) htake))
end
section
variable {T : Top} {X : Cx} {W : WX} {a : Expr} {pos : Pos} {ma : Ev}
theorem Reps.reverse {F : Hp} {ρ : Rho} : ∀ {xs : List PV} {ys : List V}, Reps T F ρ xs ys → Reps T F ρ xs.reverse ys.reverse
  | _, _, .nil => .nil
  | _, _, .cons h r => by
    rw [List.reverse_cons, List.reverse_cons]
    exact (Reps.reverse r).append (.cons h .nil)
/-- what x[::-1] gives -/
def rRev (K : PySem.W.Frag) : V → Hp → VK → Prop := fun x H Q =>
  (∃ a xs, x = .ref a ∧ SqL K H a xs ∧ ∀ p, H p = none → Q (.ref p) (upd H p (.lst xs.reverse))) ∨
  (∃ a xs, x = .ref a ∧ SqT K H a xs ∧ ∀ us p, H p = none → Q (.ref p) (upd H p (tupO us xs.reverse)))
theorem pe_rev {j : Nat} {p2 p3 p4 : Pos} {ta : TE} (ha : PE X a ta) : PE X (.Subscript a (.Slice none none (some (.UnaryOp .USub (.Constant (.int 1) j p3) p4)) p2) pos) (fun σ H Q => ta σ H fun x H1 => rRev X.K x H1 Q) := by
  refine ⟨fun pins s σ H Q I h => ?_⟩
  refine Subscript_ (thn (ha.run pins s σ H _ I h) fun v s1 ⟨x, H1, I1, r1, q1⟩ => ?_)
  refine wpAny_Slice ?_
  rw [evalPart_none]
  refine wpAny_pure (wpAny_pure ?_)
  have hstep : PE X (.UnaryOp .USub (.Constant (.int 1) j p3) p4) _ := pe_un un_neg pe_int
  show wpAny _ _ (eval (.UnaryOp .USub (.Constant (.int 1) j p3) p4) X.env) _ _ s1
  refine thn (hstep.run pins s1 σ H1 (fun z H2 => z = .int (-1) ∧ H2 = H1) I1 ⟨1, rfl, rfl, rfl⟩) fun u s3 ⟨z, H3, I3, r3, e3, e4⟩ => ?_
  subst e3 e4
  obtain ⟨tk, rfl⟩ := r3
  have I4 : Inv X pins σ H3 { s3 with heap := s3.heap.push { cls := .type "slice", data := .fields #[.none, .none, .int (-1) tk] } } := I3.kept (t' := s3.toks) fun b ob q => Heap.get?_push_of_some _ q
  have hsl := Heap.IsSliceOf.new s3.heap .none .none (.int (-1) tk)
  rcases q1 with ⟨l, xs, ex, hx, q⟩ | ⟨l, xs, ex, hx, q⟩
  · subst ex
    cases r1
    obtain ⟨its, r, ht, hz⟩ := I4.list hx
    refine tail_any (ops := [.ref l, .ref s3.heap.objs.size]) ht.isList.typeIs slot_list_getitem.lookup ?_ (by with_unfolding_all rfl)
    refine wpAny_getItem_list_slice ht.isList hsl .none .none (.int (-1) tk) (by decide) ?_ (by rw [List.size_toArray, ← r.length]; exact hz)
    rw [PySem.W.krv_pick]
    refine ⟨.ref _, _, I4.laid (t' := s3.toks) (o := .lst xs.reverse) (fun b ob q => Heap.get?_push_of_some _ q) (Nat.le_refl _) ?_, rfl, q _ (I4.hok.fresh (Nat.le_refl _))⟩
    exact ⟨by rw [List.length_reverse]; exact hz, _, 0, r.reverse, Heap.get?_push_size _ rfl⟩
  · subst ex
    cases r1
    obtain ⟨its, r, ht, hz⟩ := I4.tuple hx
    refine tail_any (ops := [.ref l, .ref s3.heap.objs.size]) ht.typeIs PyProof.Rows.slot_tuple_getitem.lookup ?_ (by with_unfolding_all rfl)
    refine getItem_tuple_rev ht hsl (.int (-1) tk) ?_ (by rw [← r.length]; exact hz)
    exact laid_tup (t' := s3.toks) (us := its.reverse) I4 (fun _ _ e => e) r.reverse (by rw [List.length_reverse]; exact hz) (q _)
theorem pe_revZ {j : Nat} {p2 p3 p4 : Pos} {mu : Bool} (hK : X.K = T.K) (ha : PE X a (TZ T W ma)) : PE X (.Subscript a (.Slice none none (some (.UnaryOp .USub (.Constant (.int 1) j p3) p4)) p2) pos) (TZ T W (eRev mu ma)) := by
  refine PE.imp (pe_rev ha) fun σ H Q q => ?_
  obtain ⟨F, G, ρ, l, S, o, rl, rh, e, q⟩ := q
  refine tz_ok rl rh e q fun v S1 F1 ρ1 x H1 e1 ex1 rl1 rh1 r1 h1 => ?_
  have t := top1 rh1 r1
  unfold revOp at e1
  generalize top S1 v = tv at t e1
  cases t with
  | lst h r => exact .inl ⟨_, _, rfl, .inl (.inl h), fun p hp => mkL_ok rh1 r.reverse e1 h1 hp⟩
  | tup h r =>
    cases e1
    exact .inr ⟨_, _, rfl, by rw [hK]; exact h.1, fun us p hp => new_tup rh1 r.reverse h1 hp⟩
  | _ => cases e1
end
end Z

set_option Elab.async false
set_option linter.all false
set_option maxRecDepth 100000
set_option maxHeartbeats 2000000
/-! ZD: dicts written out. -/
namespace Z
open PySem PySem.Spec PyProof.Rows L2
section
variable {T : Top} {X : Cx} {W : WX} {pins : List (Addr × Obj)} {σ : L2.St} {H : Hp} {s : Shared}
/-- the empty dict, known -/
abbrev emptyO : Obj := { cls := .type "dict", data := .dict #[] }
abbrev emptyF : HO := .frz emptyO (.dK [])
theorem dx_ok {P : Program} {w : World} {H : Hp} {h : Heap} {a : Addr} {es : List DictEntry} {ep : Nat} {o : Obj} (h1 : (a == sysModules) = false) (h2 : h.get? a = some o) (h3 : o.ExactDict) (h4 : o.data = .dict es.toArray ep) : ObjOk P w H h a (DX a es ep) := by
  refine ⟨⟨h1, o, h2, h3, h4⟩, ⟨o, h2⟩, fun g1 g2 p st => ?_⟩
  obtain ⟨p1, p2, p3, p4⟩ := p
  exact ⟨p1, p2, st _ p3, p4⟩
/-- a thing that was made since the entry, known till now, is told otherwise -/
theorem thaw {p : Addr} {ob : Obj} {u o2 : HO} (I : Inv X pins σ H s) (hp : H p = some (.frz ob u)) (h0 : ∀ o v, X.H_0 p ≠ some (.frz o v)) (new : ObjOk X.prog X.w (upd H p o2) s.heap p o2) : Inv X pins σ (upd H p o2) s := by
  have ne : ∀ b, H b = none → b ≠ p := fun b e z => by rw [z, hp] at e; cases e
  refine ⟨I.ok, I.os, I.bare, ⟨I.base.keep, I.base.slot, fun b o e n hx => ?_, I.base.there, fun b xs e => ?_, fun b o v e => ?_, fun b ps e => ?_⟩, I.loc, I.cell, ?_, fun x c e => ?_, fun q hq => ?_, fun b o e => ?_, I.len⟩
  · have z := I.base.free b o e n hx
    rw [upd_ne (ne b z)]; exact z
  · have z := I.base.tups b xs e
    rw [upd_ne (fun q => by rw [q, hp] at z; cases z)]; exact z
  · have z := I.base.frzs b o v e
    rw [upd_ne (fun q => by rw [q] at e; exact h0 _ _ e)]; exact z
  · obtain ⟨more, z⟩ := I.base.tbls b ps e
    exact ⟨more, by rw [upd_ne (fun q => by rw [q, hp] at z; cases z)]; exact z⟩
  · rw [upd_ne (ne _ I.free)]; exact I.free
  · rw [upd_ne (ne _ (I.freeC x c e))]; exact I.freeC x c e
  · obtain ⟨e1, e2, e3⟩ := I.pin q hq
    exact ⟨e1, by rw [upd_ne (ne _ e2)]; exact e2, e3⟩
  · by_cases hb : b = p
    · subst hb; rw [upd_same] at e; cases e; exact new
    · rw [upd_ne hb] at e
      exact (I.hok b o e).stay (fun c v _ q => q) (fun c q => by rw [upd_ne (fun z => by rw [z, hp] at q; cases q)]; exact q) fun c xs q => by rw [upd_ne (fun z => by rw [z, hp] at q; cases q)]; exact q
/-- what is being made is not of the frozen, nor of the guarded: so let it go -/
theorem rh_drop {F G : Hp} {ρ : Rho} {S : LH} {p : Addr} {ob : Obj} {u : HO} (gp : G p = none) (r : RH T F (upd G p (.frz ob u)) ρ S H) : RH T F G ρ S (L2.delH H p) := by
  have fp : F p = none := by
    cases q : F p with
    | none => rfl
    | some v => have := r.fg _ _ q; rw [upd_same] at this; cases this
  refine ⟨fun a o e => ?_, fun a o e => ?_, fun a o e => ?_, fun n c e => ?_, fun n c e1 e2 => ?_, r.inj, r.dom, r.nx, r.tb.to (fun q ps _ _ e3 => L2.delH_ne (fun z => by rw [z, upd_same] at e3; cases e3)) (fun _ _ z => z) (fun _ _ _ e2 _ => e2) (fun q ps _ _ e3 => by rw [upd_ne (fun z => by rw [z, upd_same] at e3; cases e3)] at e3; exact e3)⟩
  · rw [L2.delH_ne (ne_of_none e fp)]; exact r.f a o e
  · rw [L2.delH_ne (ne_of_none e gp)]
    exact r.g a o (by rw [upd_ne (ne_of_none e gp)]; exact e)
  · have z := r.fg a o e
    by_cases q : a = p
    · subst q; exact gp
    · rw [upd_ne q] at z; exact z
  · obtain ⟨a, o, h1, h2, h3, h4, h5⟩ := r.c n c e
    have q : a ≠ p := fun q => by rw [q, upd_same] at h3; cases h3
    rw [upd_ne q] at h3
    exact ⟨a, o, h1, h2, h3, by rw [L2.delH_ne q]; exact h4, h5⟩
  · obtain ⟨a, o, h1, h2, h3⟩ := r.z n c e1 e2
    by_cases q : a = p
    · subst q
      rw [upd_same] at h2
      cases h2
      exfalso
      cases c with
      | lst xs => obtain ⟨ys, h4, _⟩ := h3; cases h4
      | dct kvs => obtain ⟨es, ep, h4, _⟩ := h3; cases h4
    · rw [upd_ne q] at h2
      exact ⟨a, o, h1, h2, h3⟩
theorem rh_guard {F G : Hp} {ρ : Rho} {S : LH} {p : Addr} {o : HO} (r : RH T F G ρ S H) (hp : H p = none) : RH T F (upd G p o) ρ S (upd H p o) := by
  have fp := r.fnone hp
  have gp := r.gnone hp
  refine ⟨fun a v e => ?_, fun a v e => ?_, fun a v e => ?_, fun n c e => ?_, fun n c e1 e2 => ?_, r.inj, r.dom, r.nx, r.tb.to (fun q ps e1 _ _ => upd_ne (fun z => by rw [z, hp] at e1; cases e1)) (fun _ _ z => z) (fun _ _ _ e2 _ => e2) (fun q ps e1 _ e3 => by rw [upd_ne (fun z => by rw [z, hp] at e1; cases e1)]; exact e3)⟩
  · rw [upd_ne (ne_of_none e fp)]; exact r.f a v e
  · by_cases q : a = p
    · subst q; rw [upd_same] at e ⊢; exact e
    · rw [upd_ne q] at e ⊢; exact r.g a v e
  · rw [upd_ne (ne_of_none e fp)]; exact r.fg a v e
  · obtain ⟨a, v, h1, h2, h3, h4, h5⟩ := r.c n c e
    have q := ne_of_none h4 hp
    exact ⟨a, v, h1, h2, by rw [upd_ne q]; exact h3, by rw [upd_ne q]; exact h4, h5⟩
  · obtain ⟨a, v, h1, h2, h3⟩ := r.z n c e1 e2
    have q := ne_of_none h2 gp
    exact ⟨a, v, h1, by rw [upd_ne q]; exact h2, h3⟩
variable (T) in
def RelPs (F : Hp) (ρ : Rho) : List (PV × PV) → List (V × V) → Prop := Paired fun p q => Rep T F ρ p.1 q.1 ∧ Rep T F ρ p.2 q.2
theorem RelPs.ext {F F' : Hp} {ρ ρ' : Rho} (e : Ext F ρ F' ρ') {ps : List (PV × PV)} {qs : List (V × V)} (r : RelPs T F ρ ps qs) : RelPs T F' ρ' ps qs := Paired.mapP r fun _ _ h => ⟨h.1.ext e, h.2.ext e⟩
variable (T X W) in
structure PPz (pos : Pos) (keys : List (Option Expr)) (values : List Expr) (m : Loc → LH → Option (Out (List (PV × PV)))) : Prop where
  run : ∀ (pins : List (Addr × Obj)) (s : Shared) (σ : L2.St) (H : Hp) (Q : List (V × V) → Hp → Prop), Inv X pins σ H s → TZg T (RelPs T) W m σ H Q →
    wpAny (model X.prog X.w) X.A (evalPairs (pairTrees keys values X.env pos)) (fun vs s' => ∃ ps H', Inv X pins σ H' s' ∧ VV ps vs ∧ Q ps H') X.xe s
theorem ppz_nil {pos : Pos} {R : Rc} : PPz T X W pos [] [] (evKs R [] []) := ⟨fun pins s σ H Q I q => by
  obtain ⟨F, G, ρ, l, S, o, rl, rh, e, q⟩ := q
  cases (show some (Out.ok [] S) = some o from e)
  exact pairTrees_nil_walk ⟨[], H, I, .nil, q _ _ _ _ Ext.refl rh .nil⟩⟩
theorem ppz_cons {pos : Pos} {R : Rc} {k v : Expr} {ks : List (Option Expr)} {vs : List Expr} {ck cv : CE} {cks cvs : List CE} (hk : PE X k (TZ T W (R.E ck))) (hv : PE X v (TZ T W (R.E cv))) (hr : PPz T X W pos ks vs (evKs R cks cvs)) :
    PPz T X W pos (some k :: ks) (v :: vs) (evKs R (ck :: cks) (cv :: cvs)) := ⟨fun pins s σ H Q I q => by
  obtain ⟨F, G, ρ, l, S, o, rl, rh, e, q⟩ := q
  refine pairTrees_cons_walk (thn (hk.run pins s σ H (fun x H1 => TZ T W (R.E cv) σ H1 fun y H2 => TZg T (RelPs T) W (evKs R cks cvs) σ H2 fun ps H3 => Q ((x, y) :: ps) H3) I ?_) fun u s1 ⟨x, H1, I1, rx, q1⟩ => thn (hv.run pins s1 σ H1 _ I1 q1) fun w2 s2 ⟨y, H2, I2, ry, q2⟩ =>
    thn (hr.run pins s2 σ H2 _ I2 q2) fun ws s3 ⟨ps, H3, I3, rel, q3⟩ => ⟨(x, y) :: ps, H3, I3, .cons ⟨rx, ry⟩ rel, q3⟩)
  have e' : orO (R.E ck l S) (fun a S1 => orO (R.E cv l S1) fun b S2 => orO (evKs R cks cvs l S2) fun r S3 => some (.ok ((a, b) :: r) S3)) = some o := e
  refine tz_ok rl rh e' q fun v S1 F1 ρ1 x H1 e1 ex1 rl1 rh1 r1 h1 => ?_
  refine tz_ok rl1 rh1 e1 h1 fun u S2 F2 ρ2 y H2 e2 ex2 rl2 rh2 r2 h2 => ?_
  refine tz_ok rl2 rh2 e2 h2 fun ps S3 F3 ρ3 qs H3 e3 ex3 rl3 rh3 r3 h3 => ?_
  cases e3
  exact h3 _ _ _ _ Ext.refl rh3 (.cons ⟨(r1.ext ex2).ext ex3, r2.ext ex3⟩ r3)⟩
theorem storeAll_len : ∀ {ps acc r : List (PV × PV)}, storeAll acc ps = some r → r.length ≤ acc.length + ps.length
  | [], acc, r, h => by cases h; simp
  | (k, v) :: ps, acc, r, h => by
    unfold storeAll at h
    split at h
    · have := storeAll_len h
      have := storeK_length (k := k) (v := v) (kvs := acc)
      simp only [List.length_cons]
      omega
    · cases h
/-- pairs stored one after another -/
theorem d_sets {F : Hp} {ρ : Rho} {A : Around} {E : Value → Shared → Prop} {d : Addr} (hK : X.K = T.K) (hw : X.w = T.w) (hu : A.units + 16 < cLine) (fd : F d = none) {Q : PUnit → Shared → Prop} {r : List (PV × PV)} {H0 : Hp}
    (hQ : ∀ s' es' ep', Inv X pins σ (upd H0 d (DX d es' ep')) s' → DOk r → RepD T F ρ r es' → Q PUnit.unit s') (hF : ∀ a o, F a = some o → H0 a = some o) :
    ∀ (vs : List (Value × Value)) (ps : List (PV × PV)) (qs : List (V × V)) (acc : List (PV × PV)) (s : Shared) (es : List DictEntry) (ep : Nat),
    RelPs T F ρ ps qs → VV qs vs → storeAll acc ps = some r → Inv X pins σ (upd H0 d (DX d es ep)) s → DOk acc → RepD T F ρ acc es → acc.length + ps.length ≤ 16777216 →
    wpAny (model X.prog X.w) A (forIn vs PUnit.unit fun (x : Value × Value) (_ : PUnit) => (do dictSet d x.1 x.2; pure (ForInStep.yield PUnit.unit) : Sem (ForInStep PUnit))) Q E s := by
  intro vs
  induction vs with
  | nil =>
    intro ps qs acc s es ep rp vv e I ok rd hl
    cases vv
    cases rp
    cases e
    rw [List.forIn_nil]
    exact wpAny_pure (hQ s es ep I ok rd)
  | cons x vs ih =>
    intro ps qs acc s es ep rp vv e I ok rd hl
    cases vv with
    | @cons q _ qs _ v12 vv =>
      cases rp with
      | @cons p _ ps _ r12 rr =>
        obtain ⟨k, v⟩ := p
        rw [storeAll] at e
        split at e
        · rename_i kf
          simp only [List.length_cons] at hl
          have hF' : ∀ a o, F a = some o → upd H0 d (DX d es ep) a = some o := fun a o z => by rw [upd_ne (ne_of_none z fd)]; exact hF a o z
          rw [List.forIn_cons]
          refine wpAny_bind (wpAny_bind (d_set (k := k) (v := v) I hK hw hF' hu upd_same ok rd kf r12.1 v12.1 r12.2 v12.2 (by rw [sizeLine_eq]; omega) fun h' tk es' ep' I' rd' => wpAny_pure ?_))
          rw [upd_upd] at I'
          exact ih ps qs _ _ es' ep' rr vv e I' (ok.store kf (by omega)) rd' (by have := storeK_length (k := k) (v := v) (kvs := acc); omega)
        · cases e
/-- a new dict: frozen, or mutable -/
theorem mkD_ok {F G : Hp} {ρ : Rho} {S : LH} {mu : Bool} {kvs : List (PV × PV)} {es : List DictEntry} {ep : Nat} {o : Out PV} {Q : VK} (rh : RH T F G ρ S H) (ok : DOk kvs) (r : RepD T F ρ kvs es)
    (e : mkD mu kvs S = some o) (h : After T W F G ρ σ o Q) {p : Addr} (hp : H p = none) : Q (.ref p) (upd H p (DX p es ep)) := by
  unfold mkD at e
  split at e
  · cases mu with
    | true =>
      have e' : o = .ok (.loc S.nxt) (S.new (.dct kvs)) := by simpa using e.symm
      subst e'
      obtain ⟨h1, h2⟩ := rh_cell (c := .dct kvs) (o := DX p es ep) rh hp ⟨es, ep, rfl, ok, r⟩
      exact h F _ _ _ h2 h1 (.loc (by unfold setR; rw [if_pos rfl]))
    | false =>
      have e' : o = .ok (.dct kvs) S := by simpa using e.symm
      subst e'
      have ex := ext_new (ρ := ρ) (p := p) (o := DX p es ep) (rh.fnone hp)
      exact h _ ρ _ _ ex (rh_new rh hp) (.dct upd_same ok (r.ext ex))
  · cases e
theorem new_empty {P : Program} {w : World} {H : Hp} (h : Heap) (hb : sysModules < h.objs.size) : ObjOk P w H (h.push emptyO) h.objs.size (DX h.objs.size [] 0) :=
  dx_ok (dk_empty (P := P) (w := w) (H := H) h hb).2.1 (Heap.get?_push_size _ rfl) ⟨rfl, rfl, rfl⟩ rfl
theorem pe_dct0Z {pos : Pos} {mu : Bool} {R : Rc} : PE X (.Dict [] [] pos) (TZ T W (eDct mu (evKs R [] []))) := ⟨fun pins s σ H Q I q => by
  obtain ⟨F, G, ρ, l, S, o, rl, rh, e, q⟩ := q
  refine wpAny_Dict_empty ⟨.ref s.heap.objs.size, _, I.laid (a := s.heap.objs.size) (o := DX s.heap.objs.size [] 0) (t' := s.toks) (fun _ _ q => Heap.get?_push_of_some _ q) (Nat.le_refl _) (new_empty s.heap I.big), rfl, ?_⟩
  exact mkD_ok rh .nil .nil (show mkD mu [] S = some o from e) q (I.hok.fresh (Nat.le_refl _))⟩
theorem rh_less {F G : Hp} {ρ : Rho} {S : LH} {p : Addr} {ob : Obj} {u : HO} (gp : G p = none) (r : RH T F (upd G p (.frz ob u)) ρ S H) : RH T F G ρ S H := by
  refine ⟨r.f, fun a o e => r.g a o (by rw [upd_ne (ne_of_none e gp)]; exact e), fun a o e => ?_, fun n c e => ?_, fun n c e1 e2 => ?_, r.inj, r.dom, r.nx, r.tb.to (fun _ _ _ _ _ => rfl) (fun _ _ z => z) (fun _ _ _ e2 _ => e2) (fun q ps _ _ e3 => by rw [upd_ne (fun z => by rw [z, upd_same] at e3; cases e3)] at e3; exact e3)⟩
  · have z := r.fg a o e
    by_cases q : a = p
    · subst q; exact gp
    · rw [upd_ne q] at z; exact z
  · obtain ⟨a, o, h1, h2, h3, h4, h5⟩ := r.c n c e
    have q : a ≠ p := fun q => by rw [q, upd_same] at h3; cases h3
    rw [upd_ne q] at h3
    exact ⟨a, o, h1, h2, h3, h4, h5⟩
  · obtain ⟨a, o, h1, h2, h3⟩ := r.z n c e1 e2
    by_cases q : a = p
    · subst q
      rw [upd_same] at h2
      cases h2
      exfalso
      cases c with
      | lst xs => obtain ⟨ys, h4, _⟩ := h3; cases h4
      | dct kvs => obtain ⟨es, ep, h4, _⟩ := h3; cases h4
    · rw [upd_ne q] at h2
      exact ⟨a, o, h1, h2, h3⟩
theorem AfterG.guard {α β : Type} {Rel : Hp → Rho → α → β → Prop} {F G : Hp} {ρ : Rho} {o : Out α} {Q : β → Hp → Prop} {p : Addr} {ob : Obj} {u : HO} (gp : G p = none) (h : AfterG T Rel W F G ρ σ o Q) : AfterG T Rel W F (upd G p (.frz ob u)) ρ σ o Q := by
  cases o with
  | ok v S' => exact fun F' ρ' x H' e' r => h F' ρ' x H' e' (rh_less gp r)
  | exn c fs S' => exact fun F' ρ' cls d H' e' r => h F' ρ' cls d H' e' (rh_less gp r)
theorem upd_del {H : Hp} {p : Addr} {o : HO} : upd (L2.delH H p) p o = upd H p o := by
  funext b
  unfold upd
  split
  · rfl
  · rename_i q; exact L2.delH_ne q
theorem pe_dctZ {pos : Pos} {mu : Bool} {keys : List (Option Expr)} {values : List Expr} {m : Loc → LH → Option (Out (List (PV × PV)))} (hK : X.K = T.K) (hw : X.w = T.w) (hu : X.A.units + 16 < cLine) (h : PPz T X W pos keys values m)
    (hall : keys.all (·.isSome) = true) (hl : keys.length = values.length) (h0 : keys ≠ []) (h15 : keys.length ≤ 15) : PE X (.Dict keys values pos) (TZ T W (eDct mu m)) := ⟨fun pins s σ H Q I q => by
  obtain ⟨F, G, ρ, l, S, o, rl, rh, e, q⟩ := q
  have hn := pairTrees_length keys values X.env pos hall hl
  have hp : H s.heap.objs.size = none := I.hok.fresh (Nat.le_refl _)
  have gp := rh.gnone hp
  have h0' : ∀ o v, X.H_0 s.heap.objs.size ≠ some (.frz o v) := fun o v z => by rw [I.base.frzs _ _ _ z] at hp; cases hp
  rw [arm_eval_Dict, zip_pairTrees keys values X.env pos hall hl, dictDisplay_pairs _ (fun z => h0 (List.length_eq_zero_iff.mp (by rw [← hn, z]; rfl))) (by omega)]
  refine wpAny_bind (wpAny_standAt (wpAny_bind ?_))
  unfold subDict
  refine wpAny_bind (wpAny_alloc ?_)
  refine wpAny_bind (wpAny_holding ?_)
  rw [if_pos (by omega)]
  have I1 : Inv X pins σ (upd H s.heap.objs.size emptyF) { s with heap := s.heap.push emptyO } := I.laid (t' := s.toks) (fun _ _ q => Heap.get?_push_of_some _ q) (Nat.le_refl _) ⟨Heap.get?_push_size _ rfl, dk_empty s.heap I.big⟩
  generalize s.heap.objs.size = p at *
  refine wpAny_bind (thn (wpAny_evalPairs_len (h.run pins _ σ _ (fun ps H2 => ∃ F2 ρ2 kvs S2, RH T F2 (upd G p emptyF) ρ2 S2 H2 ∧ RelPs T F2 ρ2 kvs ps ∧
      (match storeAll [] kvs with | some r => mkD mu r S2 | none => none) = some o ∧ After T W F2 G ρ2 σ o Q) I1 ?_)) fun vs s2 ⟨hlen, ps, H2, I2, rel, F2, ρ2, kvs, S2, g1, g3, g5, g6⟩ => ?_)
  · refine tz_ok rl (rh_guard rh hp) e (AfterG.guard gp q) fun kvs S2 F2 ρ2 qs H2 e2 ex2 rl2 rh2 r2 h2 => ?_
    exact ⟨F2, ρ2, kvs, S2, rh2, r2, e2, AfterG.later ex2 q⟩
  · have hp2 : H2 p = some emptyF := g1.g _ _ upd_same
    have fp2 : F2 p = none := by
      cases z : F2 p with
      | none => rfl
      | some v => have := g1.fg _ _ z; rw [upd_same] at this; cases this
    have hob := (I2.hok p _ hp2).1
    have hsys : (p == sysModules) = false := (I2.hok p _ hp2).2.2.1
    have I3 : Inv X pins σ (upd H2 p (DX p [] 0)) s2 := thaw I2 hp2 h0' (dx_ok hsys hob ⟨rfl, rfl, rfl⟩ rfl)
    split at g5
    · rename_i r hr
      have hk : kvs.length = vs.length := (Paired.length g3).trans (Paired.length rel)
      refine wpAny_holding ?_
      refine wpAny_bind (d_sets (r := r) (H0 := H2) (E := X.xe) (Q := fun _ s' => wpAny (model X.prog X.w) X.A (pure ()) (fun _ s' => wpAny (model X.prog X.w) X.A (pure p) (fun a s' => wpAny (model X.prog X.w) X.A (pure (Value.ref a)) (EP X pins σ Q) X.xe s') X.xe s') X.xe s') hK hw hu fp2 (fun s' es' ep' I4 ok4 rd4 => ?_) g1.f vs kvs ps [] s2 [] 0 g3 rel hr I3 .nil .nil (by simp only [List.length_nil]; omega))
      refine wpAny_pure (wpAny_pure (wpAny_pure ⟨.ref p, _, I4, rfl, ?_⟩))
      have z := mkD_ok (ep := ep') (rh_drop gp g1) ok4 rd4 g5 g6 (p := p) L2.delH_same
      rw [upd_del] at z
      exact z
    · cases g5⟩
end
end Z

set_option Elab.async false
set_option linter.all false
set_option maxRecDepth 100000
set_option maxHeartbeats 2000000
/-! ZS: targets, plain statements. -/
namespace Z
open PySem PySem.Spec PyProof.Rows L2
section
variable {T : Top} {X : Cx} {W : WX} {e a b c : Expr} {es : List Expr} {pos : Pos} {m ma mb mc : Ev}
variable (T) in
/-- what follows a statement -/
def AfterS (W : WX) (F G : Hp) (ρ : Rho) (o : OutS) (D : Ends) : Prop :=
  match o with
  | .ok .nx l' S' => ∀ F' ρ' σ' H', Ext F ρ F' ρ' → RL T F' ρ' l' σ' → RH T F' G ρ' S' H' → D.nx σ' H'
  | .ok .bk l' S' => ∀ F' ρ' σ' H', Ext F ρ F' ρ' → RL T F' ρ' l' σ' → RH T F' G ρ' S' H' → D.bk σ' H'
  | .ok .ct l' S' => ∀ F' ρ' σ' H', Ext F ρ F' ρ' → RL T F' ρ' l' σ' → RH T F' G ρ' S' H' → D.ct σ' H'
  | .ok (.rt v) l' S' => ∀ F' ρ' x H', Ext F ρ F' ρ' → RH T F' G ρ' S' H' → Rep T F' ρ' v x → D.rt x H'
  | .exn c fs l' S' => ∀ F' ρ' cls d σ' H', Ext F ρ F' ρ' → RL T F' ρ' l' σ' → RH T F' G ρ' S' H' → XRep T F' ρ' c fs cls d → W cls d σ' H'
variable (T) in
/-- a statement's reading -/
def TZS (W : WX) (m : Loc → LH → Option OutS) : TS := fun D σ H => ∃ F G ρ l S o, RL T F ρ l σ ∧ RH T F G ρ S H ∧ m l S = some o ∧ AfterS T W F G ρ o D
/-- but for the slots sl the names stand as they were -/
structure Same (sl : List Nat) (σ σ' : L2.St) : Prop where
  len : σ'.length = σ.length
  at_ : ∀ i, i ∉ sl → σ'[i]? = σ[i]?
theorem Same.refl {sl : List Nat} {σ : L2.St} : Same sl σ σ := ⟨rfl, fun _ _ => rfl⟩
theorem Same.trans {s1 s2 : List Nat} {σ σ1 σ2 : L2.St} (a : Same s1 σ σ1) (b : Same s2 σ1 σ2) : Same (s1 ++ s2) σ σ2 :=
  ⟨b.len.trans a.len, fun i h => (b.at_ i fun z => h (List.mem_append_right _ z)).trans (a.at_ i fun z => h (List.mem_append_left _ z))⟩
mutual
/-- the slots that a target writes -/
def slotsT : CT → List Nat
  | .nm i => [i]
  | .tup ts => slotsTs ts
  | .sub _ _ => []
termination_by structural x => x
def slotsTs : List CT → List Nat
  | [] => []
  | t :: ts => slotsT t ++ slotsTs ts
termination_by structural x => x
end
variable (T) in
/-- a target's reading -/
def TZG {α β : Type} (Rel : Hp → Rho → α → β → Prop) (sl : List Nat) (m : α → Loc → LH → Option (Loc × LH)) : β → L2.St → Hp → (L2.St → Hp → Prop) → Prop := fun v σ H Q =>
  ∃ F G ρ l S a l' S', RL T F ρ l σ ∧ RH T F G ρ S H ∧ Rel F ρ a v ∧ m a l S = some (l', S') ∧ ∀ F' ρ' σ' H', Ext F ρ F' ρ' → RL T F' ρ' l' σ' → RH T F' G ρ' S' H' → Same sl σ σ' → Q σ' H'
theorem AfterS.later {F G F1 : Hp} {ρ ρ1 : Rho} {o : OutS} {D : Ends} (e : Ext F ρ F1 ρ1) (h : AfterS T W F G ρ o D) : AfterS T W F1 G ρ1 o D := by
  cases o with
  | ok f l' S' =>
    cases f with
    | nx => exact fun F' ρ' σ' H' e' => h F' ρ' σ' H' (e.trans e')
    | bk => exact fun F' ρ' σ' H' e' => h F' ρ' σ' H' (e.trans e')
    | ct => exact fun F' ρ' σ' H' e' => h F' ρ' σ' H' (e.trans e')
    | rt v => exact fun F' ρ' x H' e' => h F' ρ' x H' (e.trans e')
  | exn c fs l' S' => exact fun F' ρ' cls d σ' H' e' => h F' ρ' cls d σ' H' (e.trans e')
theorem PS.imp {st : Stmt} {t t' : TS} (h : PS X st t) (i : ∀ D σ H, t' D σ H → t D σ H) : PS X st t' := ⟨fun pins s σ H D I q => h.run pins s σ H D I (i _ _ _ q)⟩
theorem PSs.imp {st : List Stmt} {t t' : TS} (h : PSs X st t) (i : ∀ D σ H, t' D σ H → t D σ H) : PSs X st t' := ⟨fun pins s σ H D I q => h.run pins s σ H D I (i _ _ _ q)⟩
theorem PG.imp {tg : Expr} {t t' : TG} (h : PG X tg t) (i : ∀ v σ H Q, t' v σ H Q → t v σ H Q) : PG X tg t' := ⟨fun pins s σ H v u Q I r q => h.run pins s σ H v u Q I r (i _ _ _ _ q)⟩
theorem PGs.imp {tg : List Expr} {t t' : TGs} (h : PGs X tg t) (i : ∀ v σ H Q, t' v σ H Q → t v σ H Q) : PGs X tg t' := ⟨fun pins s σ H v u Q I r q => h.run pins s σ H v u Q I r (i _ _ _ _ q)⟩
/-- an expression ahead of the rest of a statement -/
theorem ts_ok {α β : Type} {Rel : Hp → Rho → α → β → Prop} {m : Loc → LH → Option (Out α)} {σ : L2.St} {H : Hp} {Q : β → Hp → Prop} {F G : Hp} {ρ : Rho} {l : Loc} {S : LH}
    (rl : RL T F ρ l σ) (rh : RH T F G ρ S H) {f : α → LH → Option OutS} {o : OutS} (e : toS l (m l S) f = some o) {D : Ends} (h : AfterS T W F G ρ o D)
    (k : ∀ v S1 F1 ρ1 x H1, f v S1 = some o → Ext F ρ F1 ρ1 → RL T F1 ρ1 l σ → RH T F1 G ρ1 S1 H1 → Rel F1 ρ1 v x → AfterS T W F1 G ρ1 o D → Q x H1) : TZg T Rel W m σ H Q := by
  cases hm : m l S with
  | none => rw [hm] at e; simp [toS] at e
  | some o1 =>
    rw [hm] at e
    refine ⟨F, G, ρ, l, S, o1, rl, rh, hm, ?_⟩
    cases o1 with
    | ok v S1 => exact fun F1 ρ1 x H1 e1 rh1 r1 => k v S1 F1 ρ1 x H1 e e1 (rl.ext e1) rh1 r1 (h.later e1)
    | exn c fs S1 =>
      have : o = .exn c fs l S1 := by simpa [toS] using e.symm
      subst this
      exact fun F' ρ' cls d H' e' rh' r' => h F' ρ' cls d σ H' e' (rl.ext e') rh' r'
/-! ### suites -/
theorem pss_nilZ {R : Rc} : PSs X [] (TZS T W (evSs R [])) := PSs.imp pss_nil fun D σ H q => by
  obtain ⟨F, G, ρ, l, S, o, rl, rh, e, q⟩ := q
  cases (show some (OutS.ok .nx l S) = some o from e)
  exact q _ _ _ _ Ext.refl rl rh
theorem pss_consZ {R : Rc} {st : Stmt} {sts : List Stmt} {cs : CS} {css : List CS} (h1 : PS X st (TZS T W (R.S cs))) (h2 : PSs X sts (TZS T W (evSs R css))) : PSs X (st :: sts) (TZS T W (evSs R (cs :: css))) := PSs.imp (pss_cons h1 h2) fun D σ H q => by
  obtain ⟨F, G, ρ, l, S, o, rl, rh, e, q⟩ := q
  have e' : (match R.S cs l S with | some (.ok .nx l1 S1) => evSs R css l1 S1 | x => x) = some o := e
  cases hm : R.S cs l S with
  | none => rw [hm] at e'; cases e'
  | some o1 =>
    rw [hm] at e'
    refine ⟨F, G, ρ, l, S, o1, rl, rh, hm, ?_⟩
    cases o1 with
    | ok f l1 S1 =>
      cases f with
      | nx => exact fun F' ρ' σ' H' ex rl' rh' => ⟨F', G, ρ', l1, S1, o, rl', rh', e', q.later ex⟩
      | bk => cases e'; exact q
      | ct => cases e'; exact q
      | rt v => cases e'; exact q
    | exn c fs l1 S1 => cases e'; exact q
/-! ### targets -/
theorem setL_get {α : Type} {v : α} : ∀ {l : List α} {i j : Nat}, nth (setL v l i) j = if j = i ∧ i < l.length then some v else nth l j
  | [], i, j => by simp [setL]
  | a :: r, 0, 0 => by simp [setL, nth]
  | a :: r, 0, j + 1 => by simp [setL, nth]
  | a :: r, i + 1, 0 => by simp [setL, nth]
  | a :: r, i + 1, j + 1 => by
    show nth (setL v r i) j = _
    rw [setL_get (l := r)]
    simp [nth]
theorem setL_len {α : Type} {v : α} : ∀ {l : List α} {i : Nat}, (setL v l i).length = l.length
  | [], _ => rfl
  | a :: r, 0 => rfl
  | a :: r, i + 1 => by simp [setL, setL_len (l := r)]
theorem RL.set {F : Hp} {ρ : Rho} {l : Loc} {σ : L2.St} {i : Nat} {v : PV} {x : V} (rl : RL T F ρ l σ) (r : Rep T F ρ v x) : RL T F ρ (setL (some v) l i) (σ.set i (some x)) := by
  refine ⟨fun j w h => ?_, by rw [setL_len, List.length_set]; exact rl.len⟩
  rw [setL_get] at h
  by_cases q : j = i ∧ i < l.length
  · rw [if_pos q] at h
    cases h
    obtain ⟨rfl, q⟩ := q
    exact ⟨x, by rw [List.getElem?_set_self (by rw [← rl.len]; exact q)], r⟩
  · rw [if_neg q] at h
    obtain ⟨y, h1, h2⟩ := rl.v j w h
    refine ⟨y, ?_, h2⟩
    by_cases z : j = i
    · subst z
      have : j < σ.length := (List.getElem?_eq_some_iff.mp h1).1
      rw [← rl.len] at this
      exact absurd ⟨rfl, this⟩ q
    · rw [List.getElem?_set_ne (Ne.symm z)]; exact h1
theorem pg_nmZ {R : Rc} {i : Nat} {x : Str} (hN : X.N.Nodup) (hi : X.N[i]? = some x) (hx : L2.Loc X.env.scope x) (hf : X.fn x = true ∨ X.env.scope.names.lookup x = some .local) : PG X (.Name x pos) (TZG T (Rep T) (slotsT (.nm i)) (asgT R (.nm i))) := PG.imp (pg_name hN hi hx hf) fun v σ H Q q => by
  obtain ⟨F, G, ρ, l, S, a, l', S', rl, rh, r, e, q⟩ := q
  cases (show some (setL (some a) l i, S) = some (l', S') from e)
  exact q _ _ _ _ Ext.refl (rl.set r) rh ⟨by rw [List.length_set], fun j h => List.getElem?_set_ne (by intro z; exact h (by rw [z]; exact List.mem_cons_self))⟩
theorem pgs_nilZ {R : Rc} : PGs X [] (TZG T (Reps T) (slotsTs []) (asgTs R [])) := PGs.imp pgs_nil fun v σ H Q q => by
  obtain ⟨F, G, ρ, l, S, a, l', S', rl, rh, r, e, q⟩ := q
  cases r with
  | nil => cases e; exact ⟨rfl, q _ _ _ _ Ext.refl rl rh Same.refl⟩
  | cons _ _ => cases e
theorem pgs_consZ {R : Rc} {t : CT} {ts : List CT} (h1 : PG X e (TZG T (Rep T) (slotsT t) (asgT R t))) (h2 : PGs X es (TZG T (Reps T) (slotsTs ts) (asgTs R ts))) (hs : (assignEach (e :: es) X.env).map (·.2) = assign e X.env :: (assignEach es X.env).map (·.2)) :
    PGs X (e :: es) (TZG T (Reps T) (slotsTs (t :: ts)) (asgTs R (t :: ts))) := PGs.imp (pgs_cons h1 h2 hs) fun v σ H Q q => by
  obtain ⟨F, G, ρ, l, S, a, l', S', rl, rh, r, e, q⟩ := q
  cases r with
  | nil => cases e
  | cons r rr =>
    have e' : (match asgT R t _ l S with | some (l1, S1) => asgTs R ts _ l1 S1 | none => none) = some (l', S') := e
    split at e'
    · rename_i l1 S1 h
      exact ⟨_, _, rfl, F, G, ρ, l, S, _, l1, S1, rl, rh, r, h, fun F' ρ' σ' H' ex rl' rh' sm => ⟨F', G, ρ', l1, S1, _, l', S', rl', rh', rr.ext ex, e', fun F2 ρ2 σ2 H2 ex2 rl2 rh2 sm2 => q F2 ρ2 σ2 H2 (ex.trans ex2) rl2 rh2 (sm.trans sm2)⟩⟩
    · cases e'
theorem asgTs_len {R : Rc} : ∀ {ts : List CT} {xs : List PV} {l l' : Loc} {S S' : LH}, asgTs R ts xs l S = some (l', S') → xs.length = ts.length := by
  intro ts
  induction ts with
  | nil => intro xs l l' S S' h; cases xs <;> first | rfl | cases h
  | cons t ts ih =>
    intro xs l l' S S' h
    cases xs with
    | nil => cases h
    | cons x xs =>
      have h' : (match asgT R t x l S with | some (l1, S1) => asgTs R ts xs l1 S1 | none => none) = some (l', S') := h
      split at h'
      · simp [ih h']
      · cases h'
theorem pg_tupZ {R : Rc} {ts : List CT} {k : Nat} (hK : X.K = T.K) (hc : X.calm = true) (h : PGs X es (TZG T (Reps T) (slotsTs ts) (asgTs R ts))) (hn : (assignEach es X.env).length = ts.length) (hst : (assignEach es X.env).findIdx? (·.1) = none) :
    PG X (.Tuple es k pos) (TZG T (Rep T) (slotsT (.tup ts)) (asgT R (.tup ts))) := by
  refine ⟨fun pins s σ H v u Q I r q => ?_⟩
  obtain ⟨F, G, ρ, l, S, a, l', S', rl, rh, r1, e, q⟩ := q
  have e' : (match seqOf (top S a) with | some xs => asgTs R ts xs l S | none => none) = some (l', S') := e
  have t := top1 rh r1
  generalize top S a = ta at t e'
  cases t with
  | tup h2 r2 =>
    exact (pg_tup hc h hn hst).run pins s σ H _ u Q I r ⟨_, _, rfl, by rw [hK]; exact h2.1, by rw [← r2.length]; exact asgTs_len e', F, G, ρ, l, S, _, l', S', rl, rh, r2, e', q⟩
  | lst h2 r2 =>
    exact (pg_lst hc h hn hst).run pins s σ H _ u Q I r ⟨_, _, rfl, .inl (.inl h2), by rw [← r2.length]; exact asgTs_len e', F, G, ρ, l, S, _, l', S', rl, rh, r2, e', q⟩
  | _ => cases e'
/-! ### o[i] = v -/
/-- a cell written -/
theorem rh_put {F G : Hp} {ρ : Rho} {S : LH} {H : Hp} {n : Nat} {c d : Cell} {a : Addr} {o : HO} (r : RH T F G ρ S H) (hc : getC n S.cells = some c) (hr : ρ n = some a) (hd : CRep T F ρ d a o) : RH T F G ρ (S.put n d) (upd H a o) := by
  obtain ⟨a', o', h1, h2, h3, h4, h5⟩ := r.c n c hc
  rw [hr] at h1; cases h1
  have gp : ∀ (l : List (Nat × Cell)) (m : Nat), getC m (putC n d l) = if m = n then (match getC n l with | some _ => some d | none => none) else getC m l := by
    intro l
    induction l with
    | nil => intro m; split <;> rfl
    | cons p l ih =>
      intro m
      obtain ⟨k, c'⟩ := p
      unfold putC
      split
      · rename_i hk
        have hk' := Nat.eq_of_beq_eq_true hk
        subst hk'
        rw [getC_cons, getC_cons, getC_cons]
        by_cases q : m = n
        · rw [if_pos q, if_pos q, if_pos rfl]
        · rw [if_neg q, if_neg q, if_neg q]
      · rename_i hk
        have hk' : ¬ n = k := fun z => hk (by rw [z]; exact Nat.beq_refl k)
        rw [getC_cons, getC_cons, getC_cons, ih m]
        by_cases q : m = k
        · rw [if_pos q, if_neg (by omega), if_pos q]
        · rw [if_neg q, if_neg hk']
          by_cases z : m = n
          · rw [if_pos z, if_pos z]
          · rw [if_neg z, if_neg z, if_neg q]
  refine ⟨fun b v e => ?_, fun b v e => ?_, r.fg, fun m e he => ?_, fun m e he1 he2 => ?_, r.inj, fun m b hb => ?_, r.nx, r.tb.to (fun q ps e1 _ _ => upd_ne (fun z => by rw [z, h4] at e1; exact h5.no_tbl ps (Option.some.inj e1))) (fun _ _ z => z) (fun _ _ _ e2 _ => e2) (fun _ _ _ _ e3 => e3)⟩
  · rw [upd_ne (ne_of_none e h2)]; exact r.f b v e
  · rw [upd_ne (ne_of_none e h3)]; exact r.g b v e
  · have he' : getC m (putC n d S.cells) = some e := he
    rw [gp] at he'
    by_cases q : m = n
    · rw [if_pos q, hc] at he'
      cases he'
      exact ⟨a, o, by rw [q]; exact hr, h2, h3, upd_same, hd⟩
    · rw [if_neg q] at he'
      obtain ⟨b, v, g1, g2, g3, g4, g5⟩ := r.c m e he'
      have : b ≠ a := fun z => q (r.inj m n a (by rw [← z]; exact g1) hr)
      exact ⟨b, v, g1, g2, g3, by rw [upd_ne this]; exact g4, g5⟩
  · have he' : getC m (putC n d S.cells) = none := he1
    rw [gp] at he'
    by_cases q : m = n
    · rw [if_pos q, hc] at he'; cases he'
    · rw [if_neg q] at he'
      exact r.z m e he' he2
  · rcases r.dom m b hb with ⟨x, q⟩ | ⟨x, q⟩
    · refine .inl ?_
      show ∃ c, getC m (putC n d S.cells) = some c
      rw [gp]
      by_cases z : m = n
      · rw [if_pos z, hc]; exact ⟨_, rfl⟩
      · rw [if_neg z]; exact ⟨_, q⟩
    · exact .inr ⟨x, q⟩
theorem reps_set {F : Hp} {ρ : Rho} {v : PV} {y : V} (r : Rep T F ρ v y) : ∀ {xs : List PV} {ys : List V} {j : Nat}, Reps T F ρ xs ys → Reps T F ρ (setL v xs j) (ys.set j y)
  | _, _, _, .nil => .nil
  | _, _, 0, .cons _ rr => .cons r rr
  | _, _, j + 1, .cons h rr => .cons h (reps_set r (j := j) rr)
/-- what o[i] = v writes -/
def rSetZ (T : Top) : TSet := fun o i v H Q => ∃ F G ρ S n c a w k j S', RH T F G ρ S H ∧ getC n S.cells = some c ∧ ρ n = some a ∧ o = .ref a ∧ Rep T F ρ k i ∧ Rep T F ρ j v ∧ storeAt (.loc n) k j S = some (.ok w S') ∧
  ∀ H', RH T F G ρ S' H' → Q H'
theorem ix_ixN {k : Int} {n j : Nat} (h : ix k n = some j) : ixN n k = some j := by
  unfold ixN
  unfold ix at h
  split at h
  · rename_i h0
    rw [if_pos h0]
    split at h
    · rename_i h1; rw [if_pos h1]; exact h
    · cases h
  · rename_i h0
    rw [if_neg h0]
    split at h
    · rename_i h1; rw [if_pos (by omega)]; exact h
    · cases h
theorem set_Z (hK : X.K = T.K) (hw : X.w = T.w) (hu : X.A.units + 17 < cLine) : PSet X (rSetZ T) := by
  intro pins s σ H o i v ov iv u Q I ro ri rv ⟨F, G, ρ, S, n, c, a, w, k, j, S', rh, hc, hr, eo, rk, rj, e, q⟩
  subst eo
  cases ro
  obtain ⟨a', ob, h1, h2, h3, h4, h5⟩ := rh.c n c hc
  rw [hr] at h1; cases h1
  unfold storeAt at e
  simp only [LH.live, hc] at e
  cases c with
  | lst xs =>
    obtain ⟨ys, rfl, r⟩ := h5
    cases k with
    | int i =>
      simp only at e
      split at e
      · rename_i jj hj
        cases e
        refine set_list pins s σ H (.ref a) _ v _ iv u Q I rfl ri rv ⟨a, ys, i, jj, rfl, rep_int rk, h4, by rw [← r.length]; exact ix_ixN hj, ?_⟩
        exact q _ (rh_put rh hc hr ⟨_, rfl, reps_set rj r⟩)
      · cases e
    | _ => cases e
  | dct kvs =>
    obtain ⟨es, ep, rfl, ok, r⟩ := h5
    simp only at e
    split at e
    · rename_i hk
      rw [Bool.and_eq_true] at hk
      cases e
      have hlen : kvs.length + 1 ≤ 16777216 := Nat.le_of_ble_eq_true hk.2
      obtain ⟨_, ho', o', e1, e2, _⟩ := (⟨trivial, dx_at I.hok h4⟩ : True ∧ _)
      have hT : s.TypeIs (.ref a) "dict" := ⟨o', e1, e2.1⟩
      unfold setItem
      try with_reducible refine wpAny_holding ?_
      refine wpAny_bind (wpAny_sequenceKey hT (by decide) ?_)
      refine wpAny_bind (wpAny_callSpecial?_slot (name := Str.ofString "__setitem__") hT slot_dict_setitem
        (wpAny_call_entry slot_dict_setitem hT entry_dict_setitem ?_ (args_dict_setitem _ _ _)))
      show wpAny _ _ (Builtin.Dict.notOrdered "__setitem__" ⟨[.ref a, iv, u], []⟩ >>= _) _ _ s
      refine wpAny_bind (wpAny_notOrdered_dict hT ?_)
      show wpAny _ _ (dictSet a iv u >>= _) _ _ s
      refine wpAny_bind (d_set I hK hw rh.f (by show X.A.units + 1 + 16 < cLine; omega) h4 ok r hk.1 rk ri rj rv (by rw [sizeLine_eq]; omega) fun h' tk es' ep' I' r' => wpAny_pure ⟨.none, rfl, wpAny_pure ?_⟩)
      exact ⟨_, I', q _ (rh_put rh hc hr ⟨_, _, rfl, ok.store hk.1 hlen, r'⟩)⟩
    · cases e
theorem pg_subZ {R : Rc} {o i : Expr} {co ci : CE} (hK : X.K = T.K) (hw : X.w = T.w) (hu : X.A.units + 17 < cLine) (ho : PE X o (TZ T W (R.E co))) (hi : PE X i (TZ T W (R.E ci)))
    (ha : ∀ v, assign (.Subscript o i pos) X.env v = (do
      let ov ← holding [v] (eval o X.env)
      let iv ← holding [v, ov] (eval i X.env)
      standAt pos
      holding [v, ov, iv] (setItem ov iv v)
      release [v, ov, iv] [])) : PG X (.Subscript o i pos) (TZG T (Rep T) (slotsT (.sub co ci)) (asgT R (.sub co ci))) := PG.imp (pg_sub ho hi (set_Z hK hw hu) ha) fun v σ H Q q => by
  obtain ⟨F, G, ρ, l, S, a, l', S', rl, rh, r, e, q⟩ := q
  have e' : (match R.E co l S with
    | some (.ok ov S1) => match R.E ci l S1 with
      | some (.ok iv S2) => match storeAt ov iv a S2 with
        | some (.ok _ S3) => some (l, S3)
        | _ => none
      | _ => none
    | _ => none) = some (l', S') := e
  split at e'
  · rename_i ov S1 h1
    split at e'
    · rename_i iv S2 h2
      split at e'
      · rename_i w h3
        cases e'
        refine ⟨F, G, ρ, l, S, _, rl, rh, h1, fun F1 ρ1 x H1 ex1 rh1 r1 => ⟨F1, G, ρ1, l, S1, _, rl.ext ex1, rh1, h2, fun F2 ρ2 y H2 ex2 rh2 r2 => ?_⟩⟩
        have r1' := r1.ext ex2
        cases ov with
        | loc n =>
          cases r1' with
          | loc hr =>
            cases hc : getC n S2.cells with
            | none => unfold storeAt at h3; simp [LH.live, hc] at h3
            | some c => exact ⟨F2, G, ρ2, S2, n, c, _, _, iv, a, _, rh2, hc, hr, rfl, r2, (r.ext ex1).ext ex2, h3, fun H' rh' => q F2 ρ2 σ H' (ex1.trans ex2) ((rl.ext ex1).ext ex2) rh' Same.refl⟩
        | _ => cases h3
      · cases e'
    · cases e'
  · cases e'
end
end Z

set_option Elab.async false
set_option linter.all false
set_option maxRecDepth 100000
set_option maxHeartbeats 2000000
/-! ZF: what is walked, for. -/
namespace Z
open PySem PySem.Spec PyProof.Rows L2
section
variable {T : Top} {X : Cx} {W : WX} {e a b c : Expr} {es : List Expr} {pos : Pos} {m ma mb mc : Ev}
/-! ### locks -/
theorem getC_del {n m : Nat} : ∀ {l : List (Nat × Cell)}, getC m (delC n l) = if m = n then none else getC m l
  | [] => by split <;> rfl
  | (k, c) :: r => by
    unfold delC
    split
    · rename_i hk
      have hk' := Nat.eq_of_beq_eq_true hk
      subst hk'
      rw [getC_del (l := r), getC_cons]
      by_cases q : m = n
      · rw [if_pos q, if_pos q]
      · rw [if_neg q, if_neg q, if_neg q]
    · rename_i hk
      have hk' : ¬ n = k := fun z => hk (by rw [z]; exact Nat.beq_refl k)
      rw [getC_cons, getC_cons, getC_del (l := r)]
      by_cases q : m = k
      · rw [if_pos q, if_neg (by omega), if_pos q]
      · rw [if_neg q, if_neg q]
theorem getC_delF {n m : Nat} (q : m ≠ n) : ∀ {l : List (Nat × Cell)}, getC m (delF n l) = getC m l
  | [] => rfl
  | (k, c) :: r => by
    unfold delF
    split
    · rename_i hk
      have hk' := Nat.eq_of_beq_eq_true hk
      subst hk'
      rw [getC_cons, if_neg q]
    · rw [getC_cons, getC_cons, getC_delF q (l := r)]
theorem rh_lock {F G : Hp} {ρ : Rho} {S : LH} {H : Hp} {n : Nat} {c : Cell} {a : Addr} {o : HO} (r : RH T F G ρ S H) (hc : getC n S.cells = some c) (hr : ρ n = some a) (ho : H a = some o) : RH T F (upd G a o) ρ (S.lock n c) H := by
  obtain ⟨a', o', h1, h2, h3, h4, h5⟩ := r.c n c hc
  rw [hr] at h1; cases h1
  rw [ho] at h4; cases h4
  refine ⟨r.f, fun b v e => ?_, fun b v e => ?_, fun m d he => ?_, fun m d h1 h2 => ?_, r.inj, fun m b hb => ?_, r.nx, r.tb.to (fun _ _ _ _ _ => rfl) (fun _ _ z => z) (fun _ _ _ e2 _ => e2) (fun q ps e1 _ e3 => by rw [upd_ne (fun z => by rw [z, ho] at e1; exact h5.no_tbl ps (Option.some.inj e1))]; exact e3)⟩
  · by_cases q : b = a
    · subst q; rw [upd_same] at e; cases e; exact ho
    · rw [upd_ne q] at e; exact r.g b v e
  · rw [upd_ne (ne_of_none e h2)]; exact r.fg b v e
  · have he' : getC m (delC n S.cells) = some d := he
    rw [getC_del] at he'
    split at he'
    · cases he'
    · rename_i q
      obtain ⟨b, v, g1, g2, g3, g4, g5⟩ := r.c m d he'
      have : b ≠ a := fun z => q (r.inj m n a (by rw [← z]; exact g1) hr)
      exact ⟨b, v, g1, g2, by rw [upd_ne this]; exact g3, g4, g5⟩
  · have h1' : getC m (delC n S.cells) = none := h1
    have h2' : getC m ((n, c) :: S.frz) = some d := h2
    rw [getC_del] at h1'
    rw [getC_cons] at h2'
    by_cases q : m = n
    · rw [if_pos q] at h2'
      cases h2'
      exact ⟨a, o, by rw [q]; exact hr, upd_same, h5⟩
    · rw [if_neg q] at h1' h2'
      obtain ⟨b, v, g1, g2, g3⟩ := r.z m d h1' h2'
      have : b ≠ a := fun z => q (r.inj m n a (by rw [← z]; exact g1) hr)
      exact ⟨b, v, g1, by rw [upd_ne this]; exact g2, g3⟩
  · by_cases q : m = n
    · exact .inr ⟨c, by show getC m ((n, c) :: S.frz) = some c; rw [getC_cons, if_pos q]⟩
    · rcases r.dom m b hb with ⟨d, z⟩ | ⟨d, z⟩
      · exact .inl ⟨d, by show getC m (delC n S.cells) = some d; rw [getC_del, if_neg q]; exact z⟩
      · exact .inr ⟨d, by show getC m ((n, c) :: S.frz) = some d; rw [getC_cons, if_neg q]; exact z⟩
theorem rh_unlock {F G : Hp} {ρ : Rho} {S : LH} {H : Hp} {n : Nat} {c : Cell} {a : Addr} {o : HO} (r : RH T F (upd G a o) ρ S H) (hr : ρ n = some a) (hc : CRep T F ρ c a o) (ga : G a = none) : RH T F G ρ (S.unlock n c) H := by
  have fa : F a = none := by
    cases q : F a with
    | none => rfl
    | some v => have := r.fg _ _ q; rw [upd_same] at this; cases this
  have ha : H a = some o := r.g _ _ upd_same
  refine ⟨r.f, fun b v e => r.g b v (by rw [upd_ne (ne_of_none e ga)]; exact e), fun b v e => ?_, fun m d he => ?_, fun m d h1 h2 => ?_, r.inj, fun m b hb => ?_, r.nx, r.tb.to (fun _ _ _ _ _ => rfl) (fun _ _ z => z) (fun _ _ _ e2 _ => e2) (fun q ps _ _ e3 => by rw [upd_ne (fun z => by rw [z, upd_same] at e3; cases e3)] at e3; exact e3)⟩
  · have z := r.fg b v e
    by_cases q : b = a
    · subst q; exact ga
    · rw [upd_ne q] at z; exact z
  · have he' : getC m ((n, c) :: S.cells) = some d := he
    rw [getC_cons] at he'
    by_cases q : m = n
    · rw [if_pos q] at he'; cases he'
      exact ⟨a, o, by rw [q]; exact hr, fa, ga, ha, hc⟩
    · rw [if_neg q] at he'
      obtain ⟨b, v, g1, g2, g3, g4, g5⟩ := r.c m d he'
      have : b ≠ a := fun z => q (r.inj m n a (by rw [← z]; exact g1) hr)
      exact ⟨b, v, g1, g2, by rw [upd_ne this] at g3; exact g3, g4, g5⟩
  · have h1' : getC m ((n, c) :: S.cells) = none := h1
    have h2' : getC m (delF n S.frz) = some d := h2
    rw [getC_cons] at h1'
    by_cases q : m = n
    · rw [if_pos q] at h1'; cases h1'
    · rw [if_neg q] at h1'
      rw [getC_delF q] at h2'
      obtain ⟨b, v, g1, g2, g3⟩ := r.z m d h1' h2'
      have : b ≠ a := fun z => q (r.inj m n a (by rw [← z]; exact g1) hr)
      exact ⟨b, v, g1, by rw [upd_ne this] at g2; exact g2, g3⟩
  · by_cases q : m = n
    · exact .inl ⟨c, by show getC m ((n, c) :: S.cells) = some c; rw [getC_cons, if_pos q]⟩
    · rcases r.dom m b hb with ⟨d, z⟩ | ⟨d, z⟩
      · exact .inl ⟨d, by show getC m ((n, c) :: S.cells) = some d; rw [getC_cons, if_neg q]; exact z⟩
      · exact .inr ⟨d, by show getC m (delF n S.frz) = some d; rw [getC_delF q]; exact z⟩
/-- G2 without what Gl guards beside G -/
def less (G Gl G2 : Hp) : Hp := fun a => match G a with
  | some _ => G2 a
  | none => match Gl a with
    | some _ => none
    | none => G2 a
theorem less_self {G Gl : Hp} (h : ∀ a o, G a = some o → Gl a = some o) : less G Gl Gl = G := by
  funext a
  unfold less
  cases hg : G a with
  | some o => exact h a o hg
  | none => cases hl : Gl a <;> simp
variable (T) in
/-- what is guarded while lk is locked: Gl; behind it, G again (whatever else was guarded meanwhile) -/
structure Locks (F G Gl : Hp) (ρ : Rho) (lk : List (Nat × Cell)) : Prop where
  mono : ∀ a o, G a = some o → Gl a = some o
  bk : ∀ G2 F2 ρ2 S2 H2, (∀ a o, G a = none → Gl a = some o → G2 a = some o) → Ext F ρ F2 ρ2 → RH T F2 G2 ρ2 S2 H2 → RH T F2 (less G Gl G2) ρ2 (unlockL lk S2) H2
theorem Locks.back {F G Gl : Hp} {ρ : Rho} {lk : List (Nat × Cell)} (h : Locks T F G Gl ρ lk) : ∀ F2 ρ2 S2 H2, Ext F ρ F2 ρ2 → RH T F2 Gl ρ2 S2 H2 → RH T F2 G ρ2 (unlockL lk S2) H2 := fun F2 ρ2 S2 H2 e r => by
  have z := h.bk Gl F2 ρ2 S2 H2 (fun _ _ _ h => h) e r
  rwa [less_self h.mono] at z
theorem Locks.nil {F G : Hp} {ρ : Rho} : Locks T F G G ρ [] := ⟨fun _ _ h => h, fun G2 _ _ _ _ _ _ r => by
  have : less G G G2 = G2 := by
    funext a
    unfold less
    cases hg : G a <;> simp
  rw [this]
  exact r⟩
theorem Locks.later {F G Gl F' : Hp} {ρ ρ' : Rho} {lk : List (Nat × Cell)} (h : Locks T F G Gl ρ lk) (e : Ext F ρ F' ρ') : Locks T F' G Gl ρ' lk := ⟨h.mono, fun G2 F2 ρ2 S2 H2 q e2 r => h.bk G2 F2 ρ2 S2 H2 q (e.trans e2) r⟩
/-- a value walked: locked, where it is an object of ours -/
theorem lock_ok {F G : Hp} {ρ : Rho} {S : LH} {H : Hp} {v : PV} {x : V} (rh : RH T F G ρ S H) (r : Rep T F ρ v x) :
    ∃ Gl, RH T F Gl ρ (lockV S v).1 H ∧ Locks T F G Gl ρ (lockV S v).2 ∧ (∀ a o, G a = some o → Gl a = some o) ∧ ∀ n a, v = .loc n → x = .ref a → ∀ c, getC n S.cells = some c → Gl a = H a := by
  cases v with
  | loc n =>
    cases r with
    | @loc _ a hr =>
      cases hc : getC n S.cells with
      | none =>
        refine ⟨G, ?_, ?_, fun _ _ h => h, fun m a e _ c h => ?_⟩
        · simp only [lockV, LH.live, hc]; exact rh
        · simp only [lockV, LH.live, hc]; exact .nil
        · cases e; rw [hc] at h; cases h
      | some c =>
        obtain ⟨a', o, h1, h2, h3, h4, h5⟩ := rh.c n c hc
        rw [hr] at h1; cases h1
        refine ⟨upd G a o, ?_, ?_, fun b v h => by rw [upd_ne (ne_of_none h h3)]; exact h, fun m b e ex d h => ?_⟩
        · simp only [lockV, LH.live, hc]
          exact rh_lock rh hc hr h4
        · simp only [lockV, LH.live, hc]
          refine ⟨fun b v h => by rw [upd_ne (ne_of_none h h3)]; exact h, fun G2 F2 ρ2 S2 H2 q e2 r2 => ?_⟩
          have hG : G2 = upd (less G (upd G a o) G2) a o := by
            funext b
            by_cases hb : b = a
            · subst hb
              rw [upd_same]
              exact q b o h3 upd_same
            · rw [upd_ne hb]
              unfold less
              rw [upd_ne hb]
              cases hg : G b <;> simp
          rw [hG] at r2
          exact rh_unlock r2 (e2.r _ _ hr) (h5.ext e2) (by unfold less; rw [h3, upd_same])
        · cases ex; rw [upd_same, h4]
  | _ => exact ⟨G, rh, .nil, fun _ _ h => h, fun n a e => by cases e⟩
theorem Locks.trans {F G G1 G2 : Hp} {ρ : Rho} {k1 k2 : List (Nat × Cell)} (h1 : Locks T F G G1 ρ k1) (h2 : Locks T F G1 G2 ρ k2) : Locks T F G G2 ρ (k2 ++ k1) := ⟨fun a o h => h2.mono a o (h1.mono a o h), fun Gx F2 ρ2 S2 H2 q e r => by
  have app : ∀ (a b : List (Nat × Cell)) (S : LH), unlockL (a ++ b) S = unlockL b (unlockL a S) := by
    intro a
    induction a with
    | nil => intro b S; rfl
    | cons p a ih => intro b S; obtain ⟨n, c⟩ := p; exact ih b _
  rw [app]
  have r1 := h2.bk Gx F2 ρ2 S2 H2 (fun a o ha hb => q a o (by
    cases hg : G a with
    | none => rfl
    | some v => rw [h1.mono a v hg] at ha; cases ha) hb) e r
  have r2 := h1.bk (less G1 G2 Gx) F2 ρ2 _ H2 (fun a o ha hb => by
    unfold less
    rw [hb]
    exact q a o ha (h2.mono a o hb)) e r1
  have : less G G1 (less G1 G2 Gx) = less G G2 Gx := by
    funext a
    unfold less
    cases hg : G a with
    | some v => simp only [h1.mono a v hg]
    | none =>
      cases hg1 : G1 a with
      | some v => simp only [h2.mono a v hg1]
      | none => rfl
  rw [this] at r2
  exact r2⟩
variable (T) in
/-- the turns of J yield its -/
def WalkOk (Rel : Hp → Rho → PV → V → Prop) (F Gl : Hp) (ρ : Rho) (its : List PV) (J : It) : Prop := ∀ G', (∀ n a o, ρ n = some a → Gl a = some o → G' a = some o) → ∀ F' ρ' S' H', Ext F ρ F' ρ' → RH T F' G' ρ' S' H' →
  (∀ i v, nth its i = some v → J.go i H' ∧ ∀ x H2, J.yld i H' x H2 → ∃ F2 ρ2, Ext F' ρ' F2 ρ2 ∧ RH T F2 G' ρ2 S' H2 ∧ Rel F2 ρ2 v x) ∧ J.stop its.length H'
variable (T) in
/-- the reading of what is walked -/
def TZI (Rel : Hp → Rho → PV → V → Prop) (W : WX) (m : Loc → LH → Option (Out Src)) : TI := fun σ H R => ∃ F G ρ l S o, RL T F ρ l σ ∧ RH T F G ρ S H ∧ m l S = some o ∧
  match o with
  | .ok src _ => ∀ F' ρ' Gl J H', Ext F ρ F' ρ' → RH T F' Gl ρ' src.S H' → Locks T F' G Gl ρ' src.lk → WalkOk T Rel F' Gl ρ' src.its J → R J H'
  | .exn c fs S' => ∀ F' ρ' cls d H', Ext F ρ F' ρ' → RH T F' G ρ' S' H' → XRep T F' ρ' c fs cls d → W cls d σ H'
theorem PI.imp {tg iter : Expr} {t t' : TI} (h : PI X tg iter t) (i : ∀ σ H R, t' σ H R → t σ H R) : PI X tg iter t' := ⟨fun pins s σ H R I q => h.run pins s σ H R I (i _ _ _ q)⟩
/-- the result seen through the locks -/
theorem AfterS.locked {F G Gl : Hp} {ρ : Rho} {lk : List (Nat × Cell)} {o o' : OutS} {D : Ends} (L : Locks T F G Gl ρ lk) (e : unlockS lk (some o') = some o) (h : AfterS T W F G ρ o D) : AfterS T W F Gl ρ o' D := by
  cases o' with
  | ok f l' S' =>
    cases e
    cases f with
    | nx => exact fun F' ρ' σ' H' ex rl rh => h F' ρ' σ' H' ex rl (L.back _ _ _ _ ex rh)
    | bk => exact fun F' ρ' σ' H' ex rl rh => h F' ρ' σ' H' ex rl (L.back _ _ _ _ ex rh)
    | ct => exact fun F' ρ' σ' H' ex rl rh => h F' ρ' σ' H' ex rl (L.back _ _ _ _ ex rh)
    | rt v => exact fun F' ρ' x H' ex rh => h F' ρ' x H' ex (L.back _ _ _ _ ex rh)
  | exn c fs l' S' =>
    cases e
    exact fun F' ρ' cls d σ' H' ex rl rh => h F' ρ' cls d σ' H' ex rl (L.back _ _ _ _ ex rh)
theorem drop_cons' {α : Type} {l r : List α} {a : α} {i : Nat} (h : l.drop i = a :: r) : nth l i = some a ∧ l.drop (i + 1) = r := by
  rw [nth_get]
  have h1 : (l.drop i)[0]? = some a := by rw [h]; rfl
  rw [List.getElem?_drop] at h1
  refine ⟨by simpa using h1, ?_⟩
  rw [← List.drop_drop, h]
  rfl
theorem ps_forZ {R : Rc} {iter tg : Expr} {body : List Stmt} {ct : CT} {ci : CI} {cb : List CS} {Rel : Hp → Rho → PV → V → Prop} (hp : PassesOwn (model X.prog X.w) X.A X.env X.xe) (hc : X.calm = true) (hi : PI X tg iter (TZI T Rel W (srcOf R ci)))
    (hg : PG X tg (TZG T Rel (slotsT ct) (asgT R ct))) (hb : PSs X body (TZS T W (evSs R cb))) (hs : ∀ x, foldedSetIterable iter X.env x = pure x) :
    PS X (.For tg iter body [] pos) (TZS T W (sFor R ct ci cb)) := PS.imp (ps_for hp hc hi hg hb hs) fun D σ H q => by
  obtain ⟨F, G, ρ, l, S, o, rl, rh, e, q⟩ := q
  have e : toS l (srcOf R ci l S) (fun s _ => unlockS s.lk (forL R ct cb s.its l s.S)) = some o := e
  cases hm : srcOf R ci l S with
  | none => rw [hm] at e; cases e
  | some o1 =>
    rw [hm] at e
    refine ⟨F, G, ρ, l, S, o1, rl, rh, hm, ?_⟩
    cases o1 with
    | exn c fs S1 =>
      cases e
      exact fun F' ρ' cls d H' ex rh' x => q F' ρ' cls d σ H' ex (rl.ext ex) rh' x
    | ok src S1 =>
      intro F0 ρ0 Gl J H0 ex0 rh0 L0 w0
      have e' : unlockS src.lk (forL R ct cb src.its l src.S) = some o := e
      cases hf : forL R ct cb src.its l src.S with
      | none => rw [hf] at e'; cases e'
      | some o' =>
        rw [hf] at e'
        have q' : AfterS T W F0 Gl ρ0 o' D := AfterS.locked L0 e' (q.later ex0)
        refine ⟨fun i m σ H => ∃ F ρ l S rest, src.its.drop i = rest ∧ rest.length = m ∧ i + m = src.its.length ∧ Ext F0 ρ0 F ρ ∧ RL T F ρ l σ ∧ RH T F Gl ρ S H ∧ forL R ct cb rest l S = some o', ⟨src.its.length, F0, ρ0, l, src.S, src.its, rfl, rfl, by omega, Ext.refl, rl.ext ex0, rh0, hf⟩, ?_⟩
        rintro i m σ1 H1 ⟨F1, ρ1, l1, S2, rest, hd, hm, hi, ex1, rl1, rh1, hfr⟩
        obtain ⟨w1, w2⟩ := w0 Gl (fun _ _ _ _ h => h) F1 ρ1 S2 H1 ex1 rh1
        cases rest with
        | nil =>
          have him : i = src.its.length := by simp at hm; omega
          cases (show some (OutS.ok .nx l1 S2) = some o' from hfr)
          exact .inl ⟨by rw [him]; exact w2, q' _ _ _ _ ex1 rl1 rh1⟩
        | cons v rest =>
          obtain ⟨hn, hd2⟩ := drop_cons' hd
          obtain ⟨go, yl⟩ := w1 i v hn
          have hfr' : (match asgT R ct v l1 S2 with
            | some (l1, S1) => match evSs R cb l1 S1 with
              | some (.ok .nx l2 S2) => forL R ct cb rest l2 S2
              | some (.ok .ct l2 S2) => forL R ct cb rest l2 S2
              | some (.ok .bk l2 S2) => some (.ok .nx l2 S2)
              | x => x
            | none => none) = some o' := hfr
          cases ha : asgT R ct v l1 S2 with
          | none => rw [ha] at hfr'; cases hfr'
          | some p =>
            obtain ⟨l2, S3⟩ := p
            rw [ha] at hfr'
            have hfr2 : (match evSs R cb l2 S3 with
              | some (.ok .nx l2 S2) => forL R ct cb rest l2 S2
              | some (.ok .ct l2 S2) => forL R ct cb rest l2 S2
              | some (.ok .bk l2 S2) => some (.ok .nx l2 S2)
              | x => x) = some o' := hfr'
            refine .inr ⟨go, fun σ' H' => ∃ F ρ l S, Ext F0 ρ0 F ρ ∧ RL T F ρ l σ' ∧ RH T F Gl ρ S H' ∧ forL R ct cb rest l S = some o', fun σ' H' ⟨F2, ρ2, l3, S4, ex2, rl2, rh2, h2⟩ => ⟨rest.length, by simp at hm; omega, F2, ρ2, l3, S4, rest, hd2, rfl, by simp at hm; omega, ex2, rl2, rh2, h2⟩, fun x H2 hy => ?_⟩
            obtain ⟨F2, ρ2, ex2, rh2, r2⟩ := yl x H2 hy
            refine ⟨F2, Gl, ρ2, l1, S2, v, l2, S3, rl1.ext ex2, rh2, r2, ha, fun F3 ρ3 σ3 H3 ex3 rl3 rh3 _ => ?_⟩
            cases hb2 : evSs R cb l2 S3 with
            | none => rw [hb2] at hfr2; cases hfr2
            | some o2 =>
              rw [hb2] at hfr2
              have exA : Ext F0 ρ0 F3 ρ3 := (ex1.trans ex2).trans ex3
              refine ⟨F3, Gl, ρ3, l2, S3, o2, rl3, rh3, hb2, ?_⟩
              cases o2 with
              | ok f l4 S4 =>
                cases f with
                | nx => exact fun F4 ρ4 σ4 H4 ex4 rl4 rh4 => ⟨F4, ρ4, l4, S4, exA.trans ex4, rl4, rh4, hfr2⟩
                | ct => exact fun F4 ρ4 σ4 H4 ex4 rl4 rh4 => ⟨F4, ρ4, l4, S4, exA.trans ex4, rl4, rh4, hfr2⟩
                | bk =>
                  cases hfr2
                  exact fun F4 ρ4 σ4 H4 ex4 rl4 rh4 => q' _ _ _ _ (exA.trans ex4) rl4 rh4
                | rt v =>
                  cases hfr2
                  exact fun F4 ρ4 x H4 ex4 rh4 r4 => q' _ _ _ _ (exA.trans ex4) rh4 r4
              | exn c fs l4 S4 =>
                cases hfr2
                exact fun F4 ρ4 cls d σ4 H4 ex4 rl4 rh4 x4 => q' _ _ _ _ _ _ (exA.trans ex4) rl4 rh4 x4
end
end Z

set_option Elab.async false
set_option linter.all false
set_option maxRecDepth 100000
set_option maxHeartbeats 2000000
/-! ZF2: what is walked: lists, tuples, texts, dicts. -/
namespace Z
open PySem PySem.Spec PyProof.Rows L2
section
variable {T : Top} {X : Cx} {W : WX} {e a b c : Expr} {es : List Expr} {pos : Pos} {m ma mb mc : Ev}
/-- the keys of the dict at d -/
def ItKey (d : Addr) (es : List DictEntry) (ep : Nat) : It :=
  ⟨fun i H => H d = some (DX d es ep) ∧ i < es.length, fun i H x H' => H' = H ∧ ∃ e, es[i]? = some e ∧ RelV x e.key, fun i H => H d = some (DX d es ep) ∧ es.length ≤ i⟩
/-- its values -/
def ItVal (d : Addr) (es : List DictEntry) (ep : Nat) : It :=
  ⟨fun i H => H d = some (DX d es ep) ∧ i < es.length, fun i H x H' => H' = H ∧ ∃ e, es[i]? = some e ∧ RelV x e.val, fun i H => H d = some (DX d es ep) ∧ es.length ≤ i⟩
theorem relV_of (u : Value) (h : ∃ x, RelV x u) : ∃ x, RelV x u := h
/-- each entry's key and value are values of ours -/
def Plain (es : List DictEntry) : Prop := ∀ e ∈ es, (∃ x, RelV x e.key) ∧ ∃ y, RelV y e.val
theorem RepD.plain {F : Hp} {ρ : Rho} : ∀ {kvs : List (PV × PV)} {es : List DictEntry}, RepD T F ρ kvs es → Plain es
  | _, _, .nil => fun e he => by cases he
  | _, _, .cons hk rk hh hv rv r => fun e he => by
    rcases List.mem_cons.mp he with rfl | he
    · exact ⟨⟨_, rk⟩, _, rv⟩
    · exact RepD.plain r e he
theorem turn_key {P : Program} {w : World} {K : PySem.W.Frag} {tg : Expr} {d : Addr} {es : List DictEntry} {ep : Nat} (it : Addr) (pl : Plain es) : Turn P w K tg (ItKey d es ep) [it] it (fun i h => h.IsKeyIter it d i es.toArray.size ep) where
  mem := by simp
  obj := fun i h st b hb => by
    have e : b = it := by simpa using hb
    subst e
    obtain ⟨oi, e, c, dd⟩ := st
    exact ⟨oi, e, fun v z => by rw [dd] at z; cases z⟩
  keep := fun i h h' st k => st.at fun oi e => k it (by simp) oi e
  item := by
    intro X hP hw hK hc i pins s σ H E I hf st ⟨hd, hi⟩
    subst hP hw hK
    obtain ⟨f0, f1, f2, f3, f4, f5⟩ := hf it (by simp)
    obtain ⟨_, o, ho, hx, hdat⟩ := dx_at I.hok hd
    have hi' : i < es.toArray.size := by simpa using hi
    refine wpAny_pyNext_keys_item_raw st ⟨o, ho, hx, hdat⟩ hi' fun h' st' sb => ?_
    have I1 : Inv X pins σ H { s with heap := h' } := I.turned (t' := s.toks) (fun b ob hb e => (sb.2 b hb).trans e) f0 f1 f3 f4 f5
    obtain ⟨oi, e, c, dd⟩ := id st'
    have he : es.toArray[i] = es[i] := by simp
    obtain ⟨⟨x, hx⟩, _⟩ := pl es[i] (List.getElem_mem hi)
    rw [he]
    exact ⟨_, rfl, go_of (s := { s with heap := h' }) e c dd (by decide) ⟨x, H, I1, hx, ⟨rfl, _, List.getElem?_eq_getElem hi, hx⟩, st', fun b hb => (hf b hb).1⟩⟩
  done := by
    intro X hP hw hK hc i pins s σ H E I hf st ⟨hd, hi⟩
    subst hP hw hK
    obtain ⟨f0, f1, f2, f3, f4, f5⟩ := hf it (by simp)
    obtain ⟨_, o, ho, hx, hdat⟩ := dx_at I.hok hd
    exact wpAny_pyNext_keys_end_raw (I.ok.hd hc) st ⟨o, ho, hx, hdat⟩ (by simpa using hi) fun h' eb => ⟨rfl, I.turned (t' := s.toks) (fun b ob hb e => eb b ob hb e) f0 f1 f3 f4 f5⟩
  self := fun A i s Q E st h => wpAny_pyIter_keyiter st h
theorem turn_val {P : Program} {w : World} {K : PySem.W.Frag} {tg : Expr} {d : Addr} {es : List DictEntry} {ep : Nat} (it : Addr) (pl : Plain es) : Turn P w K tg (ItVal d es ep) [it] it (fun i h => h.IsValIter it d i es.toArray.size ep) where
  mem := by simp
  obj := fun i h st b hb => by
    have e : b = it := by simpa using hb
    subst e
    obtain ⟨oi, e, c, dd⟩ := st
    exact ⟨oi, e, fun v z => by rw [dd] at z; cases z⟩
  keep := fun i h h' st k => let ⟨o, ho, r⟩ := st; ⟨o, k it (by simp) o ho, r⟩
  item := by
    intro X hP hw hK hc i pins s σ H E I hf st ⟨hd, hi⟩
    subst hP hw hK
    obtain ⟨f0, f1, f2, f3, f4, f5⟩ := hf it (by simp)
    obtain ⟨_, o, ho, hx, hdat⟩ := dx_at I.hok hd
    have hi' : i < es.toArray.size := by simpa using hi
    refine wpAny_pyNext_values_item_raw st ⟨o, ho, hx, hdat⟩ hi' fun h' st' sb => ?_
    have I1 : Inv X pins σ H { s with heap := h' } := I.turned (t' := s.toks) (fun b ob hb e => (sb.2 b hb).trans e) f0 f1 f3 f4 f5
    obtain ⟨oi, e, c, dd⟩ := id st'
    have he : es.toArray[i] = es[i] := by simp
    obtain ⟨_, x, hx⟩ := pl es[i] (List.getElem_mem hi)
    rw [he]
    exact ⟨_, rfl, go_of (s := { s with heap := h' }) e c dd (by decide) ⟨x, H, I1, hx, ⟨rfl, _, List.getElem?_eq_getElem hi, hx⟩, st', fun b hb => (hf b hb).1⟩⟩
  done := by
    intro X hP hw hK hc i pins s σ H E I hf st ⟨hd, hi⟩
    subst hP hw hK
    obtain ⟨f0, f1, f2, f3, f4, f5⟩ := hf it (by simp)
    obtain ⟨_, o, ho, hx, hdat⟩ := dx_at I.hok hd
    exact wpAny_pyNext_values_end_raw (I.ok.hd hc) st ⟨o, ho, hx, hdat⟩ (by simpa using hi) fun h' eb => ⟨rfl, I.turned (t' := s.toks) (fun b ob hb e => eb b ob hb e) f0 f1 f3 f4 f5⟩
  self := fun A i s Q E st h => wpAny_pyIter_valiter st h
/-- what a value yields when it is walked -/
def rWalk (K : PySem.W.Frag) : V → Hp → (It → Hp → Prop) → Prop := fun x H R =>
  (∃ a ys, x = .ref a ∧ SqL K H a ys ∧ R (Itl K a) H) ∨ (∃ a ys, x = .ref a ∧ SqT K H a ys ∧ R (Itt K a) H) ∨ (∃ z, x = .str z ∧ R (Its z) H) ∨
  ∃ a es ep, x = .ref a ∧ H a = some (DX a es ep) ∧ Plain es ∧ R (ItKey a es ep) H
theorem pi_walk {tg : Expr} {te : TE} (he : PE X e te) : PI X tg e (fun σ H R => te σ H fun x H1 => rWalk X.K x H1 R) := by
  refine ⟨fun pins s σ H R I h => thn (he.run pins s σ H _ I h) fun v s1 ⟨x, H1, I1, r1, q⟩ => ?_⟩
  rcases q with ⟨a, ys, ex, hq, q⟩ | ⟨a, ys, ex, hq, q⟩ | ⟨z, ex, q⟩ | ⟨a, es, ep, ex, hd, pl, q⟩
  · subst ex
    cases r1
    obtain ⟨its, rv, p, hz⟩ := I1.list hq
    exact wpAny_pyIter_list p.isList (pi_one (tk := s1.toks) I1 _ (turn_list a _) ⟨_, Heap.get?_push_size _ rfl, rfl, rfl⟩ q)
  · subst ex
    cases r1
    obtain ⟨its, rv, p, hz⟩ := I1.tuple hq
    exact wpAny_pyIter_tuple (show s1.heap.IsTuple a its.toArray from p) (pi_one (tk := s1.toks) I1 _ (turn_tuple a _) ⟨_, Heap.get?_push_size _ rfl, rfl, rfl⟩ q)
  · subst ex
    obtain ⟨t, rfl⟩ := r1
    cases ha : z.cps.all (· < 128)
    · exact wpAny_pyIter_wide ha (pi_one (tk := s1.toks) I1 _ (turn_str _ z t "str_iterator" (.inr rfl)) ⟨_, Heap.get?_push_size _ rfl, rfl, rfl⟩ q)
    · exact wpAny_pyIter_ascii ha (pi_one (tk := s1.toks) I1 _ (turn_str _ z t "str_ascii_iterator" (.inl rfl)) ⟨_, Heap.get?_push_size _ rfl, rfl, rfl⟩ q)
  · subst ex
    cases r1
    obtain ⟨hs, o, ho, hx, hdat⟩ := dx_at I1.hok hd
    exact wpAny_pyIter_dict_raw hs ⟨o, ho, hx, hdat⟩ (pi_one (tk := s1.toks) I1 _ (turn_key _ pl) ⟨_, Heap.get?_push_size _ rfl, rfl, rfl⟩ q)
/-- a value read at its top, while it is locked -/
inductive Stab (T : Top) (F Gl : Hp) (ρ : Rho) : PV → V → Prop
  | lst {a : Addr} {ys : List V} {xs : List PV} (r : Reps T F ρ xs ys) (h : F a = some (.lst ys) ∨ (Gl a = some (.lst ys) ∧ ∃ n, ρ n = some a)) : Stab T F Gl ρ (.lst xs) (.ref a)
  | dct {a : Addr} {es : List DictEntry} {ep : Nat} {kvs : List (PV × PV)} (ok : DOk kvs) (r : RepD T F ρ kvs es) (h : F a = some (DX a es ep) ∨ (Gl a = some (DX a es ep) ∧ ∃ n, ρ n = some a)) : Stab T F Gl ρ (.dct kvs) (.ref a)
  | tup {a : Addr} {ys : List V} {xs : List PV} (h : TupF T.K F a ys) (r : Reps T F ρ xs ys) : Stab T F Gl ρ (.tup xs) (.ref a)
  | str (s : List Nat) (h : okS s) : Stab T F Gl ρ (.str s) (.str (strV s))
  | other {v : PV} {x : V} (h : itemsOf v = none) : Stab T F Gl ρ v x
theorem st_at {F Gl F' : Hp} {ρ ρ' : Rho} {S' : LH} {H' : Hp} {a : Addr} {o : HO} (h : F a = some o ∨ Gl a = some o) (e : Ext F ρ F' ρ') (rh : RH T F' Gl ρ' S' H') : H' a = some o := by
  rcases h with h | h
  · exact rh.f _ _ (e.f _ _ h)
  · exact rh.g _ _ h
theorem Stab.more {F Gl G2 : Hp} {ρ : Rho} {v : PV} {x : V} (s : Stab T F Gl ρ v x) (h : ∀ a o, Gl a = some o → G2 a = some o) : Stab T F G2 ρ v x := by
  cases s with
  | lst r q => exact .lst r (q.imp id (fun z => ⟨h _ _ z.1, z.2⟩))
  | dct ok r q => exact .dct ok r (q.imp id (fun z => ⟨h _ _ z.1, z.2⟩))
  | tup q r => exact .tup q r
  | str s q => exact .str s q
  | other q => exact .other q
theorem lock_st {F G : Hp} {ρ : Rho} {S : LH} {H : Hp} {v : PV} {x : V} (rh : RH T F G ρ S H) (r : Rep T F ρ v x) :
    ∃ Gl, RH T F Gl ρ (lockV S v).1 H ∧ Locks T F G Gl ρ (lockV S v).2 ∧ Stab T F Gl ρ (top S v) x ∧ ∀ a o, G a = some o → Gl a = some o := by
  obtain ⟨Gl, h1, h2, h3, h4⟩ := lock_ok rh r
  refine ⟨Gl, h1, h2, ?_, h3⟩
  cases r with
  | non => exact .other rfl
  | bl b => exact .other rfl
  | int i => exact .other rfl
  | fn k => exact .other rfl
  | str s h => exact .str s h
  | tup h r => exact .tup h r
  | lst h r => exact .lst r (.inl h)
  | dct h ok r => exact .dct ok r (.inl h)
  | @loc n a h =>
    show Stab T F Gl ρ (match S.get n with
      | some (.lst xs) => PV.lst xs
      | some (.dct kvs) => .dct kvs
      | none => .loc n) (.ref a)
    unfold LH.get
    cases hc : getC n S.cells with
    | some c =>
      obtain ⟨b, o, g1, _, _, g4, g5⟩ := rh.c n c hc
      rw [h] at g1; cases g1
      have hg : Gl a = some o := by rw [h4 n a rfl rfl c hc, g4]
      cases c with
      | lst zs =>
        obtain ⟨ys, rfl, h7⟩ := g5
        exact .lst h7 (.inr ⟨hg, n, h⟩)
      | dct zs =>
        obtain ⟨es, ep, rfl, h7, h8⟩ := g5
        exact .dct h7 h8 (.inr ⟨hg, n, h⟩)
    | none =>
      cases hz : getC n S.frz with
      | none => exact .other rfl
      | some c =>
        obtain ⟨b, o, g1, g2, g5⟩ := rh.z n c hc hz
        rw [h] at g1; cases g1
        have hg : Gl a = some o := h3 a o g2
        cases c with
        | lst zs =>
          obtain ⟨ys, rfl, h7⟩ := g5
          exact .lst h7 (.inr ⟨hg, n, h⟩)
        | dct zs =>
          obtain ⟨es, ep, rfl, h7, h8⟩ := g5
          exact .dct h7 h8 (.inr ⟨hg, n, h⟩)
theorem reps_get' {F : Hp} {ρ : Rho} : ∀ {xs : List PV} {ys : List V} {i : Nat} {v : PV}, Reps T F ρ xs ys → nth xs i = some v → ∃ y, ys[i]? = some y ∧ Rep T F ρ v y
  | _, _, i, v, r, h => by
    obtain ⟨y, h1, h2⟩ := reps_nth (n := i) r h
    rw [nth_get] at h1
    exact ⟨y, h1, h2⟩
theorem repD_get {F : Hp} {ρ : Rho} : ∀ {kvs : List (PV × PV)} {es : List DictEntry} {i : Nat} {k v : PV}, RepD T F ρ kvs es → nth kvs i = some (k, v) → ∃ e, es[i]? = some e ∧ (∃ x, Rep T F ρ k x ∧ RelV x e.key) ∧ ∃ y, Rep T F ρ v y ∧ RelV y e.val
  | _, _, i, k, v, .nil, h => by cases i <;> cases h
  | _, _, 0, k, v, .cons hk rk hh hv rv r, h => by cases h; exact ⟨_, rfl, ⟨_, hk, rk⟩, _, hv, rv⟩
  | _, _, i + 1, k, v, .cons hk rk hh hv rv r, h => by
    obtain ⟨e, h1, h2⟩ := repD_get (i := i) r (show nth _ i = some (k, v) from h)
    exact ⟨e, by simpa using h1, h2⟩
theorem nth_map {α β : Type} {f : α → β} : ∀ {l : List α} {i : Nat} {b : β}, nth (l.map f) i = some b → ∃ a, nth l i = some a ∧ f a = b
  | [], i, b, h => by cases i <;> cases h
  | a :: r, 0, b, h => by cases h; exact ⟨a, rfl, rfl⟩
  | a :: r, i + 1, b, h => nth_map (l := r) (i := i) h
theorem walk_list {K : PySem.W.Frag} {F Gl : Hp} {ρ : Rho} {xs : List PV} {ys : List V} {a : Addr} (r : Reps T F ρ xs ys) (h : F a = some (.lst ys) ∨ (Gl a = some (.lst ys) ∧ ∃ n, ρ n = some a)) : WalkOk T (Rep T) F Gl ρ xs (Itl K a) := by
  intro G' hG F' ρ' S' H' ex rh
  have ha := st_at (h.imp id (fun ⟨z, n, e⟩ => hG n _ _ e z)) ex rh
  refine ⟨fun i v hn => ?_, ⟨ys, SqL.of ha, by rw [r.length]; exact Nat.le_refl _⟩⟩
  obtain ⟨y, h1, h2⟩ := reps_get' r hn
  refine ⟨⟨ys, y, SqL.of ha, h1⟩, fun x H2 ⟨e1, e2⟩ => ?_⟩
  subst e1
  have := e2 ys (SqL.of ha)
  rw [h1] at this
  cases this
  exact ⟨F', ρ', Ext.refl, rh, h2.ext ex⟩
theorem walk_tup {F Gl : Hp} {ρ : Rho} {xs : List PV} {ys : List V} {a : Addr} (r : Reps T F ρ xs ys) (h : TupF T.K F a ys) : WalkOk T (Rep T) F Gl ρ xs (Itt T.K a) := by
  intro G' hG F' ρ' S' H' ex rh
  have ha : SqT T.K H' a ys := (tupF_mono rh.f (tupF_mono ex.f h)).1
  refine ⟨fun i v hn => ?_, ⟨ys, ha, by rw [r.length]; exact Nat.le_refl _⟩⟩
  obtain ⟨y, h1, h2⟩ := reps_get' r hn
  refine ⟨⟨ys, y, ha, h1⟩, fun x H2 ⟨e1, e2⟩ => ?_⟩
  subst e1
  have := e2 ys ha
  rw [h1] at this
  cases this
  exact ⟨F', ρ', Ext.refl, rh, h2.ext ex⟩
theorem walk_str {F Gl : Hp} {ρ : Rho} {s : List Nat} (h : okS s) : WalkOk T (Rep T) F Gl ρ (s.map fun c => .str [c]) (Its (strV s)) := by
  intro G' hG F' ρ' S' H' ex rh
  have hl : (strV s).cps.size = s.length := strV_length s
  refine ⟨fun i v hn => ?_, ?_⟩
  · obtain ⟨c, h1, rfl⟩ := nth_map hn
    rw [nth_get] at h1
    refine ⟨?_, fun x H2 hy => ?_⟩
    · show i < (strV s).cps.size
      rw [hl]; exact (List.getElem?_eq_some_iff.mp h1).1
    · obtain ⟨e1, c', e2, e3⟩ := hy
      subst e1 e3
      have : c' = c := by
        have e2' : s[i]? = some c' := by simpa using e2
        rw [h1] at e2'
        exact (Option.some.inj e2').symm
      subst this
      exact ⟨F', ρ', Ext.refl, rh, .str [c'] ⟨by simp, fun d hd => by
        have : d = c' := by simpa using hd
        subst this
        exact h.2 d (List.mem_of_getElem? h1)⟩⟩
  · show (strV s).cps.size ≤ _
    rw [hl, List.length_map]
    exact Nat.le_refl _
theorem walk_key {F Gl : Hp} {ρ : Rho} {kvs : List (PV × PV)} {es : List DictEntry} {ep : Nat} {a : Addr} (r : RepD T F ρ kvs es) (h : F a = some (DX a es ep) ∨ (Gl a = some (DX a es ep) ∧ ∃ n, ρ n = some a)) : WalkOk T (Rep T) F Gl ρ (kvs.map (·.1)) (ItKey a es ep) := by
  intro G' hG F' ρ' S' H' ex rh
  have ha := st_at (h.imp id (fun ⟨z, n, e⟩ => hG n _ _ e z)) ex rh
  refine ⟨fun i v hn => ?_, ⟨ha, by rw [List.length_map, r.length]; exact Nat.le_refl _⟩⟩
  obtain ⟨⟨k, w⟩, h1, rfl⟩ := nth_map hn
  obtain ⟨e, h2, ⟨x0, h3, h4⟩, _⟩ := repD_get r h1
  refine ⟨⟨ha, (List.getElem?_eq_some_iff.mp h2).1⟩, fun x H2 ⟨e1, e', e2, e3⟩ => ?_⟩
  subst e1
  rw [h2] at e2
  cases e2
  have := e3.inj h4
  subst this
  exact ⟨F', ρ', Ext.refl, rh, h3.ext ex⟩
theorem walk_val {F Gl : Hp} {ρ : Rho} {kvs : List (PV × PV)} {es : List DictEntry} {ep : Nat} {a : Addr} (r : RepD T F ρ kvs es) (h : F a = some (DX a es ep) ∨ (Gl a = some (DX a es ep) ∧ ∃ n, ρ n = some a)) : WalkOk T (Rep T) F Gl ρ (kvs.map (·.2)) (ItVal a es ep) := by
  intro G' hG F' ρ' S' H' ex rh
  have ha := st_at (h.imp id (fun ⟨z, n, e⟩ => hG n _ _ e z)) ex rh
  refine ⟨fun i v hn => ?_, ⟨ha, by rw [List.length_map, r.length]; exact Nat.le_refl _⟩⟩
  obtain ⟨⟨k, w⟩, h1, rfl⟩ := nth_map hn
  obtain ⟨e, h2, _, x0, h3, h4⟩ := repD_get r h1
  refine ⟨⟨ha, (List.getElem?_eq_some_iff.mp h2).1⟩, fun x H2 ⟨e1, e', e2, e3⟩ => ?_⟩
  subst e1
  rw [h2] at e2
  cases e2
  have := e3.inj h4
  subst this
  exact ⟨F', ρ', Ext.refl, rh, h3.ext ex⟩
/-- an expression ahead of a walk -/
theorem ti_ok {Rel : Hp → Rho → PV → V → Prop} {σ : L2.St} {H : Hp} {R : It → Hp → Prop} {mi : Loc → LH → Option (Out Src)} {me : Ev} {f : PV → LH → Option (Out Src)} (hf : ∀ l S, mi l S = orO (me l S) f) (h : TZI T Rel W mi σ H R) {Q : VK}
    (k : ∀ F G ρ S v x H1 src S2, RH T F G ρ S H1 → Rep T F ρ v x → f v S = some (.ok src S2) →
      (∀ F' ρ' Gl J H', Ext F ρ F' ρ' → RH T F' Gl ρ' src.S H' → Locks T F' G Gl ρ' src.lk → WalkOk T Rel F' Gl ρ' src.its J → R J H') → Q x H1)
    (nx : ∀ v S c fs S2, f v S ≠ some (.exn c fs S2)) : TZ T W me σ H Q := by
  obtain ⟨F, G, ρ, l, S, o, rl, rh, e, q⟩ := h
  rw [hf] at e
  cases hm : me l S with
  | none => rw [hm] at e; cases e
  | some o1 =>
    rw [hm] at e
    refine ⟨F, G, ρ, l, S, o1, rl, rh, hm, ?_⟩
    cases o1 with
    | exn c fs S1 => cases e; exact q
    | ok v S1 =>
      intro F1 ρ1 x H1 ex1 rh1 r1
      cases o with
      | exn c fs S2 => exact absurd e (nx _ _ _ _ _)
      | ok src S2 => exact k F1 G ρ1 S1 v x H1 src S2 rh1 r1 e fun F' ρ' Gl J H' ex => q F' ρ' Gl J H' (ex1.trans ex)
/-- the walk of a value, locked -/
theorem walk_src {F Gl : Hp} {ρ : Rho} {H1 : Hp} {tv : PV} {x : V} {xs : List PV} {S' : LH} {Rr : It → Hp → Prop} (hK : X.K = T.K) (st : Stab T F Gl ρ tv x) (rhl : RH T F Gl ρ S' H1) (hx : itemsOf tv = some xs)
    (k : ∀ J, WalkOk T (Rep T) F Gl ρ xs J → Rr J H1) : rWalk X.K x H1 Rr := by
  cases st with
  | lst r h =>
    cases hx
    exact .inl ⟨_, _, rfl, SqL.of (st_at (h.imp id And.left) Ext.refl rhl), k _ (walk_list r h)⟩
  | tup h r =>
    cases hx
    refine .inr (.inl ⟨_, _, rfl, by rw [hK]; exact (tupF_mono rhl.f h).1, ?_⟩)
    rw [hK]
    exact k _ (walk_tup r h)
  | str s h =>
    cases hx
    exact .inr (.inr (.inl ⟨_, rfl, k _ (walk_str h)⟩))
  | dct ok r h =>
    cases hx
    exact .inr (.inr (.inr ⟨_, _, _, rfl, st_at (h.imp id And.left) Ext.refl rhl, r.plain, k _ (walk_key r h)⟩))
  | other h => rw [h] at hx; cases hx
theorem pi_valZ {R : Rc} {c : CE} {tg : Expr} (hK : X.K = T.K) (he : PE X e (TZ T W (R.E c))) : PI X tg e (TZI T (Rep T) W (srcOf R (.val c))) := PI.imp (pi_walk he) fun σ H Rr q => by
  refine ti_ok (fun l S => rfl) q (fun F G ρ S v x H1 src S2 rh r e k => ?_) (fun v S c fs S2 z => by split at z <;> cases z)
  obtain ⟨Gl, rhl, L, st, _⟩ := lock_st rh r
  split at e
  · rename_i xs hx
    cases e
    exact walk_src hK st rhl hx fun J w => k F ρ Gl J H1 Ext.refl rhl L w
  · cases e
/-- d.values() -/
theorem pi_vals {tg : Expr} {te : TE} {apos cpos : Pos} (he : PE X e te) (hbase : attributeBase e "values" X.env (eval e X.env) = eval e X.env) (hline : (apos.endLine == cpos.line) = true) :
    PI X tg (.Call (.Attribute e "values" apos) [] [] cpos) (fun σ H R => te σ H fun x H1 => ∃ a es ep, x = .ref a ∧ H1 a = some (DX a es ep) ∧ Plain es ∧ R (ItVal a es ep) H1) := by
  refine ⟨fun pins s σ H R I h => ?_⟩
  refine wpAny_Call_method (T := "dict") (id := "dict.values") hbase rfl hline F.plainAttrs_dict F.slot_dict_values F.type_dict_values (thn (he.run pins s σ H _ I h) fun v s1 ⟨x, H1, I1, r1, a, es, ep, ex, hd, pl, q⟩ => ?_)
  subst ex
  cases r1
  obtain ⟨hs, o, ho, hx, hdat⟩ := dx_at I1.hok hd
  have raw : s1.heap.DictRaw a es.toArray ep := ⟨o, ho, hx, hdat⟩
  refine ⟨raw.typeIs, fun b e => ?_, ?_⟩
  · cases e; exact ⟨o, ho, hx.2.1⟩
  have I2 : Inv X pins σ H1 { s1 with heap := s1.heap.push { cls := .type "dict_values", data := .fields #[.ref a] } } := I1.kept (t' := s1.toks) fun b ob q => Heap.get?_push_of_some _ q
  have fin : wpAny (model X.prog X.w) X.A (pyIter (.ref s1.heap.objs.size)) (PIE X pins σ tg R) X.xe { s1 with heap := s1.heap.push { cls := .type "dict_values", data := .fields #[.ref a] } } := by
    exact wpAny_pyIter_values_raw (d := a) ⟨_, Heap.get?_push_size _ rfl, rfl, rfl⟩ (raw.at fun o e => Heap.get?_push_of_some _ e) (pi_one (tk := s1.toks) I2 _ (turn_val _ pl) ⟨_, Heap.get?_push_size _ rfl, rfl, rfl⟩ q)
  show wpAny _ _ (callWith cpos (.builtin "dict.values") [.ref a] [] []) _ X.xe s1
  exact method_meetsIn F.slot_dict_values F.entry_dict_values rfl (PySem.evalArgs_none ⟨rfl, raw.typeIs, F.args_dict_values_1 _, _, meets_dict_values_raw a hs, ⟨⟨_, _, raw⟩, fin⟩⟩)
theorem pi_valsZ {R : Rc} {c : CE} {tg : Expr} {apos cpos : Pos} (he : PE X e (TZ T W (R.E c))) (hbase : attributeBase e "values" X.env (eval e X.env) = eval e X.env) (hline : (apos.endLine == cpos.line) = true) :
    PI X tg (.Call (.Attribute e "values" apos) [] [] cpos) (TZI T (Rep T) W (srcOf R (.values c))) := PI.imp (pi_vals he hbase hline) fun σ H Rr q => by
  refine ti_ok (fun l S => rfl) q (fun F G ρ S v x H1 src S2 rh r e k => ?_) (fun v S c fs S2 z => by split at z <;> cases z)
  obtain ⟨Gl, rhl, L, st, _⟩ := lock_st rh r
  split at e
  · rename_i kvs hx
    rw [hx] at st
    cases e
    cases st with
    | dct ok r2 h => exact ⟨_, _, _, rfl, st_at (h.imp id And.left) Ext.refl rhl, r2.plain, k F ρ Gl _ H1 Ext.refl rhl L (walk_val r2 h)⟩
    | other h => cases h
  · cases e
theorem walk_rng {F Gl : Hp} {ρ : Rho} : ∀ (n : Nat), WalkOk T (Rep T) F Gl ρ (rangeL 0 1 n) (Itr 0 n) := fun n G' hG F' ρ' S' H' ex rh => by
  have len : ∀ (n : Nat) (a st : Int), (rangeL a st n).length = n := by
    intro n
    induction n with
    | zero => intros; rfl
    | succ n ih => intro a st; simp [rangeL, ih]
  have get : ∀ (n i : Nat) (a st : Int) (v : PV), nth (rangeL a st n) i = some v → i < n ∧ v = .int (a + i * st) := by
    intro n
    induction n with
    | zero => intro i a st v h; cases i <;> cases h
    | succ n ih =>
      intro i a st v h
      cases i with
      | zero => cases h; exact ⟨Nat.succ_pos _, by simp⟩
      | succ i =>
        obtain ⟨h1, h2⟩ := ih i (a + st) st v h
        refine ⟨Nat.succ_lt_succ h1, ?_⟩
        rw [h2]
        congr 1
        push_cast
        rw [Int.add_mul]
        omega
  refine ⟨fun i v hn => ?_, by show n ≤ _; rw [len]; exact Nat.le_refl _⟩
  obtain ⟨h1, h2⟩ := get n i 0 1 v hn
  refine ⟨h1, fun x H2 ⟨e1, e2⟩ => ?_⟩
  subst e1 e2 h2
  refine ⟨F', ρ', Ext.refl, rh, ?_⟩
  rw [Int.mul_one]
  exact .int _
theorem pi_rngZ {R : Rc} {c : CE} {tg : Expr} {p : Pos} (hg : Gl X "range") (hm : X.mg "range" = none) (hn : noStar e = true) (he : PE X e (TZ T W (R.E c))) : PI X tg (.Call (.Name "range" p) [e] [] pos) (TZI T (Rep T) W (srcOf R (.range1 c))) :=
  PI.imp (pi_range1 hg hm (pa_cons he pa_nil (starEach_plain hn)) (starEach_plain hn)) fun σ H Rr q => by
  refine ti_ok (fun l S => rfl) q (fun F G ρ S v x H1 src S2 rh r e k => ?_) (fun v S c fs S2 z => by split at z <;> first | (split at z <;> cases z) | cases z)
  split at e
  · rename_i n
    split at e
    · rename_i hlt
      cases e
      have hlt' : -1000000 < n ∧ n < 1000000 := of_decide_eq_true hlt
      exact ⟨n, by rw [rep_int r], by omega, by omega, k F ρ G _ H1 Ext.refl rh .nil (walk_rng _)⟩
    · cases e
  · cases e
/-! ### zip -/
variable (T) in
/-- .. or a new pair, its parts known -/
def RepW (F : Hp) (ρ : Rho) (v : PV) (x : V) : Prop := Rep T F ρ v x ∨ ∃ xs a ys, v = .tup xs ∧ x = .ref a ∧ SqT T.K F a ys ∧ Reps T F ρ xs ys
theorem top_lock {S : LH} {v w : PV} : top (lockV S v).1 w = top S w := by
  cases v with
  | loc n =>
    cases hc : getC n S.cells with
    | none => simp only [lockV, LH.live, hc]
    | some c =>
      simp only [lockV, LH.live, hc]
      cases w with
      | loc m =>
        have : (S.lock n c).get m = S.get m := by
          show (match getC m (delC n S.cells) with | some c => some c | none => getC m ((n, c) :: S.frz)) = (match getC m S.cells with | some c => some c | none => getC m S.frz)
          rw [getC_del, getC_cons]
          by_cases q : m = n
          · subst q; rw [if_pos rfl, if_pos rfl, hc]
          · rw [if_neg q, if_neg q]
        unfold top
        simp only [this]
      | _ => rfl
  | _ => rfl
theorem zip_nth : ∀ {xs ys : List PV} {i : Nat} {v : PV}, nth (zipL xs ys) i = some v → ∃ a b, nth xs i = some a ∧ nth ys i = some b ∧ v = .tup [a, b]
  | [], ys, i, v, h => by cases ys <;> cases i <;> cases h
  | _ :: _, [], i, v, h => by cases i <;> cases h
  | a :: r, b :: t, 0, v, h => by cases h; exact ⟨a, b, rfl, rfl, rfl⟩
  | a :: r, b :: t, i + 1, v, h => zip_nth (xs := r) (ys := t) (i := i) h
theorem zip_len : ∀ {xs ys : List PV}, (zipL xs ys).length = min xs.length ys.length
  | [], ys => by cases ys <;> simp [zipL]
  | _ :: _, [] => by simp [zipL]
  | a :: r, b :: t => by simp [zipL, zip_len (xs := r) (ys := t)]
theorem zip_step {F' Gl : Hp} {ρ' : Rho} {S' : LH} {H' : Hp} {a b : PV} {x y : V} {p : Addr} (rh : RH T F' Gl ρ' S' H') (r1 : Rep T F' ρ' a x) (r2 : Rep T F' ρ' b y) (hp : H' p = none) :
    ∃ F2 ρ2, Ext F' ρ' F2 ρ2 ∧ RH T F2 Gl ρ2 S' (upd H' p (.tup [x, y])) ∧ RepW T F2 ρ2 (.tup [a, b]) (.ref p) := by
  have ex := ext_new (ρ := ρ') (p := p) (o := .tup [x, y]) (rh.fnone hp)
  exact ⟨_, ρ', ex, rh_new rh hp, .inr ⟨_, _, _, rfl, rfl, SqT.of upd_same, .cons (r1.ext ex) (.cons (r2.ext ex) .nil)⟩⟩
theorem walk_zipL {K : PySem.W.Frag} {F Gl : Hp} {ρ : Rho} {xs xs2 : List PV} {ys ys2 : List V} {a b : Addr} (r : Reps T F ρ xs ys) (h : F a = some (.lst ys) ∨ (Gl a = some (.lst ys) ∧ ∃ n, ρ n = some a)) (r2 : Reps T F ρ xs2 ys2) (h2 : F b = some (.lst ys2) ∨ (Gl b = some (.lst ys2) ∧ ∃ n, ρ n = some b)) :
    WalkOk T (RepW T) F Gl ρ (zipL xs xs2) (Itz K a b) := by
  intro G' hG F' ρ' S' H' ex rh
  have ha := st_at (h.imp id (fun ⟨z, n, e⟩ => hG n _ _ e z)) ex rh
  have hb := st_at (h2.imp id (fun ⟨z, n, e⟩ => hG n _ _ e z)) ex rh
  refine ⟨fun i v hn => ?_, ⟨ys, ys2, SqL.of ha, SqL.of hb, by rw [zip_len, r.length, r2.length]; omega⟩⟩
  obtain ⟨p, q, n1, n2, rfl⟩ := zip_nth hn
  obtain ⟨y, g1, g2⟩ := reps_get' r n1
  obtain ⟨y2, g3, g4⟩ := reps_get' r2 n2
  refine ⟨⟨ys, ys2, y, y2, SqL.of ha, SqL.of hb, g1, g3⟩, fun x H2 ⟨d, u, w, e1, e2, e3, e4, e5⟩ => ?_⟩
  subst e1 e3
  have z1 := e4 ys (SqL.of ha)
  have z2 := e5 ys2 (SqL.of hb)
  rw [g1] at z1; cases z1
  rw [g3] at z2; cases z2
  exact zip_step rh (g2.ext ex) (g4.ext ex) e2
theorem walk_zipT {F Gl : Hp} {ρ : Rho} {xs xs2 : List PV} {ys ys2 : List V} {a b : Addr} (r : Reps T F ρ xs ys) (h : TupF T.K F a ys) (r2 : Reps T F ρ xs2 ys2) (h2 : TupF T.K F b ys2) :
    WalkOk T (RepW T) F Gl ρ (zipL xs xs2) (RZ.ItzT T.K a b) := by
  intro G' hG F' ρ' S' H' ex rh
  have ha : SqT T.K H' a ys := (tupF_mono rh.f (tupF_mono ex.f h)).1
  have hb : SqT T.K H' b ys2 := (tupF_mono rh.f (tupF_mono ex.f h2)).1
  refine ⟨fun i v hn => ?_, ⟨ys, ys2, ha, hb, by rw [zip_len, r.length, r2.length]; omega⟩⟩
  obtain ⟨p, q, n1, n2, rfl⟩ := zip_nth hn
  obtain ⟨y, g1, g2⟩ := reps_get' r n1
  obtain ⟨y2, g3, g4⟩ := reps_get' r2 n2
  refine ⟨⟨ys, ys2, y, y2, ha, hb, g1, g3⟩, fun x H2 ⟨d, u, w, e1, e2, e3, e4, e5⟩ => ?_⟩
  subst e1 e3
  have z1 := e4 ys ha
  have z2 := e5 ys2 hb
  rw [g1] at z1; cases z1
  rw [g3] at z2; cases z2
  exact zip_step rh (g2.ext ex) (g4.ext ex) e2
theorem pi_zipZ {R : Rc} {ca cb : CE} {p tpos : Pos} {elts : List Expr} {kk : Nat} (hK : X.K = T.K) (hg : Gl X "zip") (hm : X.mg "zip" = none) (na : noStar a = true) (nb : noStar b = true) (ha : PE X a (TZ T W (R.E ca))) (hb : PE X b (TZ T W (R.E cb))) :
    PI X (.Tuple elts kk tpos) (.Call (.Name "zip" p) [a, b] [] pos) (TZI T (RepW T) W (srcOf R (.zip2 ca cb))) :=
  PI.imp (RZ.pi_zipA hg hm (pa_cons ha (pa_cons hb pa_nil (starEach_plain nb)) (starEach_plain na)) (starEach_plain na) (backTo_plain (by simp [noStars, nb]))) fun σ H Rr q => by
  obtain ⟨F, G, ρ, l, S, o, rl, rh, e, q⟩ := q
  have e : orO (R.E ca l S) (fun x S1 => orO (R.E cb l S1) fun y S2 => zipSrc x y S2) = some o := e
  cases h1 : R.E ca l S with
  | none => rw [h1] at e; cases e
  | some o1 =>
    rw [h1] at e
    refine ⟨F, G, ρ, l, S, o1, rl, rh, h1, ?_⟩
    cases o1 with
    | exn c fs S1 => cases e; exact q
    | ok v S1 =>
      intro F1 ρ1 x H1 ex1 rh1 r1
      have e : orO (R.E cb l S1) (fun y S2 => zipSrc v y S2) = some o := e
      cases h2 : R.E cb l S1 with
      | none => rw [h2] at e; cases e
      | some o2 =>
        rw [h2] at e
        refine ⟨F1, G, ρ1, l, S1, o2, rl.ext ex1, rh1, h2, ?_⟩
        cases o2 with
        | exn c fs S2 =>
          cases e
          exact fun F' ρ' cls d H' ex => q F' ρ' cls d H' (ex1.trans ex)
        | ok w S2 =>
          intro F2 ρ2 y H2 ex2 rh2 r2
          have e : zipSrc v w S2 = some o := e
          obtain ⟨G1, rhA, LA, stA, mA⟩ := lock_st rh2 (r1.ext ex2)
          obtain ⟨G2, rhB, LB, stB, mB⟩ := lock_st rhA r2
          rw [top_lock] at stB
          have stA' := stA.more mB
          unfold zipSrc at e
          have fin : ∀ J its, WalkOk T (RepW T) F2 G2 ρ2 its J → o = .ok ⟨its, (lockV (lockV S2 v).1 w).1, (lockV (lockV S2 v).1 w).2 ++ (lockV S2 v).2⟩ (lockV (lockV S2 v).1 w).1 → Rr J H2 := fun J its wk eo => by
            subst eo
            exact q F2 ρ2 G2 J H2 (ex1.trans ex2) rhB (LA.trans LB) wk
          generalize top S2 v = tv at stA' e
          generalize top S2 w = tw at stB e
          cases stA' with
          | lst ra ha =>
            cases stB with
            | lst rb hb => cases e; exact ⟨_, _, _, _, rfl, .inl ⟨SqL.of (st_at (ha.imp id And.left) Ext.refl rhB), SqL.of (st_at (hb.imp id And.left) Ext.refl rhB), fin _ _ (walk_zipL ra ha rb hb) rfl⟩⟩
            | other hh => cases tw <;> first | (cases e; done) | (exfalso; revert hh; simp [itemsOf]; done)
            | _ => cases e
          | @tup a1 ys1 _ ha ra =>
            cases stB with
            | @tup a2 ys2 _ hb rb =>
              cases e
              refine ⟨a1, a2, ys1, ys2, rfl, .inr ⟨?_, ?_, ?_⟩⟩
              · rw [hK]; exact (tupF_mono rhB.f ha).1
              · rw [hK]; exact (tupF_mono rhB.f hb).1
              · rw [hK]; exact fin _ _ (walk_zipT ra ha rb hb) rfl
            | other hh => cases tw <;> first | (cases e; done) | (exfalso; revert hh; simp [itemsOf]; done)
            | _ => cases e
          | other hh => cases tv <;> first | (cases e; done) | (exfalso; revert hh; simp [itemsOf]; done)
          | _ => cases e
/-- (a, b, ..) gets a pair of a zip -/
theorem pg_tupW {R : Rc} {ts : List CT} {k : Nat} (hK : X.K = T.K) (hc : X.calm = true) (h : PGs X es (TZG T (Reps T) (slotsTs ts) (asgTs R ts))) (hn : (assignEach es X.env).length = ts.length) (hst : (assignEach es X.env).findIdx? (·.1) = none) :
    PG X (.Tuple es k pos) (TZG T (RepW T) (slotsT (.tup ts)) (asgT R (.tup ts))) := ⟨fun pins s σ H v u Q I r q => by
  obtain ⟨F, G, ρ, l, S, a, l', S', rl, rh, r1, e, q⟩ := q
  rcases r1 with r1 | ⟨xs, p, ys, rfl, rfl, hq, rr⟩
  · exact (pg_tupZ hK hc h hn hst).run pins s σ H v u Q I r ⟨F, G, ρ, l, S, a, l', S', rl, rh, r1, e, q⟩
  · have e' : asgTs R ts xs l S = some (l', S') := e
    exact (pg_tup hc h hn hst).run pins s σ H _ u Q I r ⟨_, _, rfl, by rw [hK]; exact sqT_mono rh.f hq, by rw [← rr.length]; exact asgTs_len e', F, G, ρ, l, S, _, l', S', rl, rh, rr, e', q⟩⟩
end
end Z

set_option Elab.async false
set_option linter.all false
set_option maxRecDepth 100000
set_option maxHeartbeats 2000000
/-! ZG: the evaluator hands back the locks as they were. -/
namespace Z
def Out.st {α : Type} : Out α → LH
  | .ok _ S => S
  | .exn _ _ S => S
def OutS.st : OutS → LH
  | .ok _ _ S => S
  | .exn _ _ _ S => S
/-- what comes out has the locks of S -/
def Fz {α : Type} (x : Option (Out α)) (S : LH) : Prop := ∀ o, x = some o → o.st.frz = S.frz
def FzS (x : Option OutS) (S : LH) : Prop := ∀ o, x = some o → o.st.frz = S.frz
def Fz2 {α : Type} (x : Option (α × LH)) (S : LH) : Prop := ∀ a S', x = some (a, S') → S'.frz = S.frz
structure FrzOk (R : Rc) : Prop where
  E : ∀ e l S, Fz (R.E e l S) S
  S : ∀ e l S, FzS (R.S e l S) S
  F : ∀ f vs S, Fz (R.F f vs S) S
  L : ∀ f cs vs S, Fz (R.L f cs vs S) S
theorem fz_none {α : Type} {S : LH} : Fz (none : Option (Out α)) S := fun o h => by cases h
theorem fz_ok {α : Type} {a : α} {S S' : LH} (h : S'.frz = S.frz) : Fz (some (.ok a S')) S := fun o e => by cases e; exact h
theorem fz_same {α : Type} {a : α} {S : LH} : Fz (some (.ok a S)) S := fz_ok rfl
theorem fz_or {α β : Type} {x : Option (Out α)} {f : α → LH → Option (Out β)} {S : LH} (h : Fz x S) (hf : ∀ a S1, S1.frz = S.frz → Fz (f a S1) S1) : Fz (orO x f) S := fun o e => by
  cases x with
  | none => cases e
  | some y =>
    have hy := h y rfl
    cases y with
    | ok a S1 => exact (hf a S1 hy o e).trans hy
    | exn c fs S1 => cases e; exact hy
theorem mkL_fz {mu : Bool} {xs : List PV} {S : LH} : Fz (mkL mu xs S) S := fun o h => by
  unfold mkL at h
  split at h
  · split at h <;> cases h <;> rfl
  · cases h
theorem mkD_fz {mu : Bool} {xs : List (PV × PV)} {S : LH} : Fz (mkD mu xs S) S := fun o h => by
  unfold mkD at h
  split at h
  · split at h <;> cases h <;> rfl
  · cases h
theorem binOp_fz {mu : Bool} {op : Op} {x y : PV} {S : LH} : Fz (binOp mu op x y S) S := fun o h => by
  unfold binOp at h
  repeat' split at h
  all_goals first
    | (cases h; done)
    | (cases h; rfl)
    | exact mkL_fz o h
theorem sliceOp_fz {mu : Bool} {x : PV} {lo hi : Option Int} {S : LH} : Fz (sliceOp mu x lo hi S) S := fun o h => by
  unfold sliceOp at h
  split at h
  all_goals first
    | (cases h; done)
    | (cases h; rfl)
    | exact mkL_fz o h
theorem revOp_fz {mu : Bool} {x : PV} {S : LH} : Fz (revOp mu x S) S := fun o h => by
  unfold revOp at h
  split at h
  all_goals first
    | (cases h; done)
    | (cases h; rfl)
    | exact mkL_fz o h
theorem oneV_fz {f : LH → PV → Option PV} {vs : List PV} {S : LH} : Fz (oneV f vs S) S := fun o h => by
  unfold oneV at h
  split at h
  · split at h
    · cases h; rfl
    · cases h
  · cases h
theorem oneL'_fz {mu : Bool} {f : LH → PV → Option (List PV)} {vs : List PV} {S : LH} : Fz (oneL' mu f vs S) S := fun o h => by
  unfold oneL' at h
  split at h
  · split at h
    · exact mkL_fz o h
    · cases h
  · cases h
theorem oneD'_fz {mu : Bool} {f : LH → PV → Option (List (PV × PV))} {vs : List PV} {S : LH} : Fz (oneD' mu f vs S) S := fun o h => by
  unfold oneD' at h
  split at h
  · split at h
    · exact mkD_fz o h
    · cases h
  · cases h
theorem bltOp_fz {mu : Bool} {b : BI} {vs : List PV} {S : LH} : Fz (bltOp mu b vs S) S := by
  cases b
  all_goals first
    | exact oneV_fz
    | exact oneL'_fz
    | exact oneD'_fz
theorem methOp_fz {m : MI} {x : PV} {vs : List PV} {S : LH} : Fz (methOp m x vs S) S := fun o h => by
  cases m
  all_goals
    simp only [methOp, mAppend, mGet, mIndex, mRemove, mJoin] at h
    repeat' split at h
    all_goals first
      | (cases h; done)
      | (cases h; rfl)
theorem storeAt_fz {x i v : PV} {S : LH} : Fz (storeAt x i v S) S := fun o h => by
  unfold storeAt at h
  repeat' split at h
  all_goals first
    | (cases h; done)
    | (cases h; rfl)
section
variable {R : Rc} (fz : FrzOk R)
include fz
theorem testM_fz {m : Ev} {l : Loc} {S : LH} (h : Fz (m l S) S) : Fz (testM m l S) S := fz_or h fun a S1 _ => by
  split
  · exact fz_same
  · exact fz_none
theorem evEs_fz : ∀ {es : List CE} {l : Loc} {S : LH}, Fz (evEs R es l S) S
  | [], l, S => fz_same
  | e :: r, l, S => by
    unfold evEs
    split
    · refine fz_or (fz.E _ _ _) fun a S1 _ => ?_
      split
      · exact fz_or (evEs_fz (es := r)) fun _ _ _ => fz_same
      · exact fz_none
    · exact fz_or (fz.E _ _ _) fun a S1 _ => fz_or (evEs_fz (es := r)) fun _ _ _ => fz_same
theorem evO_fz {e : Option CE} {l : Loc} {S : LH} : Fz (evO R e l S) S := by
  cases e with
  | none => exact fz_same
  | some e =>
    refine fz_or (fz.E _ _ _) fun a S1 _ => ?_
    split
    · exact fz_same
    · exact fz_none
theorem evKs_fz : ∀ {ks vs : List CE} {l : Loc} {S : LH}, Fz (evKs R ks vs l S) S
  | [], [], l, S => fz_same
  | [], _ :: _, l, S => fz_none
  | _ :: _, [], l, S => fz_none
  | k :: ks, v :: vs, l, S => fz_or (fz.E _ _ _) fun _ _ _ => fz_or (fz.E _ _ _) fun _ _ _ => fz_or (evKs_fz (ks := ks) (vs := vs)) fun _ _ _ => fz_same
mutual
theorem asgT_fz : ∀ {t : CT} {v : PV} {l : Loc} {S : LH}, Fz2 (asgT R t v l S) S
  | .nm i, v, l, S => fun a S' h => by cases h; rfl
  | .tup ts, v, l, S => fun a S' h => by
    unfold asgT at h
    split at h
    · exact asgTs_fz _ _ h
    · cases h
  | .sub o i, v, l, S => fun a S' h => by
    unfold asgT at h
    repeat' split at h
    all_goals first
      | (cases h; done)
      | skip
    rename_i h1 _ _ _ h2 _ _ _ h3
    cases h
    exact ((storeAt_fz _ h3).trans (fz.E _ _ _ _ h2)).trans (fz.E _ _ _ _ h1)
theorem asgTs_fz : ∀ {ts : List CT} {vs : List PV} {l : Loc} {S : LH}, Fz2 (asgTs R ts vs l S) S
  | [], [], l, S => fun a S' h => by cases h; rfl
  | [], _ :: _, l, S => fun a S' h => by cases h
  | _ :: _, [], l, S => fun a S' h => by cases h
  | t :: ts, v :: vs, l, S => fun a S' h => by
    unfold asgTs at h
    split at h
    · rename_i h1
      exact (asgTs_fz _ _ h).trans (asgT_fz _ _ h1)
    · cases h
end
end
/-! ### what is walked -/
def SrcFz (x : Option (Out Src)) (S : LH) : Prop := ∀ o, x = some o → match o with
  | .ok src _ => ∀ S2 : LH, S2.frz = src.S.frz → (unlockL src.lk S2).frz = S.frz
  | .exn _ _ S' => S'.frz = S.frz
theorem srcFz_none {S : LH} : SrcFz none S := fun o h => by cases h
theorem src_or {α : Type} {x : Option (Out α)} {f : α → LH → Option (Out Src)} {S : LH} (h : Fz x S) (hf : ∀ a S1, S1.frz = S.frz → SrcFz (f a S1) S1) : SrcFz (orO x f) S := fun o e => by
  cases x with
  | none => cases e
  | some y =>
    have hy := h y rfl
    cases y with
    | ok a S1 =>
      have z := hf a S1 hy o e
      cases o with
      | ok src S2 => exact fun S3 q => (z S3 q).trans hy
      | exn c fs S2 => exact (show S2.frz = S1.frz from z).trans hy
    | exn c fs S1 => cases e; exact hy
theorem delF_head {n : Nat} {c : Cell} {l : List (Nat × Cell)} : delF n ((n, c) :: l) = l := by
  unfold delF
  rw [if_pos (Nat.beq_refl n)]
theorem lockV_fz {S : LH} {v : PV} {S2 : LH} (h : S2.frz = (lockV S v).1.frz) : (unlockL (lockV S v).2 S2).frz = S.frz := by
  cases v with
  | loc n =>
    cases hc : getC n S.cells with
    | none =>
      simp only [lockV, LH.live, hc] at h ⊢
      exact h
    | some c =>
      simp only [lockV, LH.live, hc] at h ⊢
      show delF n S2.frz = S.frz
      rw [h]
      exact delF_head
  | _ => exact h
theorem unlock_app : ∀ (a b : List (Nat × Cell)) (S : LH), unlockL (a ++ b) S = unlockL b (unlockL a S)
  | [], b, S => rfl
  | (n, c) :: a, b, S => unlock_app a b _
theorem src_lock {its : List PV} {S S' : LH} {v : PV} : SrcFz (some (.ok ⟨its, (lockV S v).1, (lockV S v).2⟩ S')) S := fun o e => by
  cases e
  exact fun S2 h => lockV_fz h
theorem src_free {its : List PV} {S S' : LH} : SrcFz (some (.ok ⟨its, S, []⟩ S')) S := fun o e => by
  cases e
  exact fun S2 h => h
theorem src_lock2 {its : List PV} {S S' : LH} {v w : PV} : SrcFz (some (.ok ⟨its, (lockV (lockV S v).1 w).1, (lockV (lockV S v).1 w).2 ++ (lockV S v).2⟩ S')) S := fun o e => by
  cases e
  intro S2 h
  show (unlockL (_ ++ _) S2).frz = _
  rw [unlock_app]
  exact lockV_fz (lockV_fz h)
theorem src_lock3 {its : List PV} {S S' : LH} {u v w : PV} : SrcFz (some (.ok ⟨its, (lockV (lockV (lockV S u).1 v).1 w).1, (lockV (lockV (lockV S u).1 v).1 w).2 ++ ((lockV (lockV S u).1 v).2 ++ (lockV S u).2)⟩ S')) S := fun o e => by
  cases e
  intro S2 h
  show (unlockL (_ ++ (_ ++ _)) S2).frz = _
  rw [unlock_app, unlock_app]
  exact lockV_fz (lockV_fz (lockV_fz h))
theorem zipSrc_fz {x y : PV} {S : LH} : SrcFz (zipSrc x y S) S := by
  unfold zipSrc
  simp only
  repeat' split
  all_goals first
    | exact src_lock2
    | exact srcFz_none
section
variable {R : Rc} (fz : FrzOk R)
include fz
theorem srcOf_fz {c : CI} {l : Loc} {S : LH} : SrcFz (srcOf R c l S) S := by
  cases c with
  | val e =>
    refine src_or (fz.E _ _ _) fun a S1 _ => ?_
    split
    · exact src_lock
    · exact srcFz_none
  | range1 e =>
    refine src_or (fz.E _ _ _) fun a S1 _ => ?_
    split
    · split
      · exact src_free
      · exact srcFz_none
    · exact srcFz_none
  | range3 a b c =>
    refine src_or (fz.E _ _ _) fun a S1 _ => src_or (fz.E _ _ _) fun a S1 _ => src_or (fz.E _ _ _) fun a S1 _ => ?_
    repeat' split
    all_goals first
      | exact src_free
      | exact srcFz_none
  | zip2 a b => exact src_or (fz.E _ _ _) fun a S1 _ => src_or (fz.E _ _ _) fun a S1 _ => zipSrc_fz
  | zip3 a b c =>
    refine src_or (fz.E _ _ _) fun a S1 _ => src_or (fz.E _ _ _) fun a S1 _ => src_or (fz.E _ _ _) fun a S1 _ => ?_
    repeat' split
    all_goals first
      | exact src_lock3
      | exact srcFz_none
  | enum e =>
    refine src_or (fz.E _ _ _) fun a S1 _ => ?_
    split
    · exact src_lock
    · exact srcFz_none
  | items e =>
    refine src_or (fz.E _ _ _) fun a S1 _ => ?_
    split
    · exact src_lock
    · exact srcFz_none
  | values e =>
    refine src_or (fz.E _ _ _) fun a S1 _ => ?_
    split
    · exact src_lock
    · exact srcFz_none
theorem testO_fz {e : Option CE} {l : Loc} {S : LH} : Fz2 (testO R e l S) S := fun a S' h => by
  cases e with
  | none => cases h; rfl
  | some e =>
    have h' : (match testM (R.E e) l S with | some (.ok c S1) => some (c, S1) | _ => none) = some (a, S') := h
    split at h'
    · rename_i h1
      cases h'
      exact testM_fz fz (fz.E _ _ _) _ h1
    · cases h'
theorem loopG_fz {α : Type} {f : Loc → α → LH → Option (α × LH)} (hf : ∀ l a S, Fz2 (f l a S) S) {t : CT} {ifs : Option CE} {l : Loc} : ∀ {its : List PV} {acc : α} {S : LH}, Fz2 (loopG R f t ifs l its acc S) S
  | [], acc, S => fun a S' h => by cases h; rfl
  | v :: r, acc, S => fun a S' h => by
    unfold loopG at h
    split at h
    · rename_i h1
      have z1 := asgT_fz fz _ _ h1
      split at h
      · rename_i h2
        have z2 := testO_fz fz _ _ h2
        split at h
        · rename_i h3
          exact (((loopG_fz hf _ _ h).trans (hf _ _ _ _ _ h3)).trans z2).trans z1
        · cases h
      · rename_i h2
        have z2 := testO_fz fz _ _ h2
        exact ((loopG_fz hf _ _ h).trans z2).trans z1
      · cases h
    · cases h
theorem evGs_fz {α : Type} {f : Loc → α → LH → Option (α × LH)} (hf : ∀ l a S, Fz2 (f l a S) S) : ∀ {gs : List CG} {l : Loc} {acc : α} {S : LH}, Fz2 (evGs R f gs l acc S) S
  | [], l, acc, S => hf l acc S
  | .mk t it ifs :: gs, l, acc, S => fun a S' h => by
    unfold evGs at h
    split at h
    · rename_i src _ h1
      split at h
      · rename_i h2
        cases h
        exact srcOf_fz fz _ h1 _ (loopG_fz fz (fun l a S => evGs_fz hf (gs := gs)) _ _ h2)
      · cases h
    · cases h
theorem evComp_fz {α : Type} {f : Loc → α → LH → Option (α × LH)} (hf : ∀ l a S, Fz2 (f l a S) S) {own : List Nat} {gs : List CG} {l : Loc} {acc : α} {S : LH} : Fz (evComp R f own gs l acc S) S := fun o h => by
  cases gs with
  | nil => cases h
  | cons g gs =>
    cases g with
    | mk t it ifs =>
      have h' : (match srcOf R it l S with
        | some (.ok s _) => match loopG R (evGs R f gs) t ifs (wipeL l own) s.its acc s.S with
          | some (acc1, S2) => some (Out.ok acc1 (unlockL s.lk S2))
          | none => none
        | some (.exn c fs S1) => some (.exn c fs S1)
        | none => none) = some o := h
      split at h'
      · rename_i src _ h1
        split at h'
        · rename_i h2
          cases h'
          exact srcOf_fz fz _ h1 _ (loopG_fz fz (fun l a S => evGs_fz fz hf (gs := gs)) _ _ h2)
        · cases h'
      · rename_i h1
        cases h'
        exact srcOf_fz fz _ h1
      · cases h'
theorem keyF_fz {fn : Bool} {k : Nat} {cs : List PV} (v : PV) (S : LH) : Fz (keyF R fn k cs v S) S := by
  cases fn with
  | true => exact fz.F _ _ _
  | false => exact fz.L _ _ _ _
omit fz in
theorem keysBy_fz {f : PV → LH → Option (Out PV)} (hf : ∀ v S, Fz (f v S) S) : ∀ {xs : List PV} {S : LH}, Fz2 (keysBy f xs S) S
  | [], S => fun a S' h => by cases h; rfl
  | v :: r, S => fun a S' h => by
    unfold keysBy at h
    split at h
    · rename_i h1
      split at h
      · rename_i h2
        cases h
        exact (keysBy_fz hf _ _ h2).trans (hf _ _ _ h1)
      · cases h
    · cases h
omit fz in
theorem told_fz {ns : Nat} {hs : List (List Nat × Nat × CE)} {x : Option (Out PV)} {S : LH} (h : Fz x S) : Fz (toldR ns hs x) S := fun o e => by
  cases x with
  | none => cases e
  | some y =>
    cases y with
    | ok v S1 =>
      have z : S1.frz = S.frz := h (.ok v S1) rfl
      cases e; exact z
    | exn c fs S1 =>
      have z : S1.frz = S.frz := h (.exn c fs S1) rfl
      unfold toldR at e
      dsimp only at e
      split at e
      · split at e
        · cases e; exact z
        · cases e
      · cases e
theorem oneL_fz {e : CE} : ∀ l a S, Fz2 (oneL (R.E e) l a S) S := fun l a S b S' h => by
  unfold oneL at h
  split at h
  · rename_i h1
    cases h
    exact fz.E _ _ _ _ h1
  · cases h
theorem oneD_fz {k v : CE} : ∀ l a S, Fz2 (oneD (R.E k) (R.E v) l a S) S := fun l a S b S' h => by
  unfold oneD at h
  split at h
  · rename_i h1
    split at h
    · rename_i h2
      split at h
      · cases h
        exact (fz.E _ _ _ _ h2).trans (fz.E _ _ _ _ h1)
      · cases h
    · cases h
  · cases h
theorem stepE_fz {P : Prog} (e : CE) (l : Loc) (S : LH) : Fz (stepE P R e l S) S := by
  have ek := fun e l S => fz.E e l S
  cases e with
  | var i => intro o h; have h' : (match getV l i with | some v => some (Out.ok v S) | none => none) = some o := h; split at h' <;> cases h'; rfl
  | cst v => exact fz_same
  | glb g => intro o h; have h' : (match nth P.glbs g with | some v => some (Out.ok v S) | none => none) = some o := h; split at h' <;> cases h'; rfl
  | tup es =>
    refine fz_or (evEs_fz fz) fun _ _ _ => ?_
    split
    · exact fz_same
    · exact fz_none
  | lst mu es => exact fz_or (evEs_fz fz) fun _ _ _ => mkL_fz
  | dct mu ks vs =>
    refine fz_or (evKs_fz fz) fun _ _ _ => ?_
    split
    · exact mkD_fz
    · exact fz_none
  | star e => exact fz_none
  | bin mu op a b => exact fz_or (ek _ _ _) fun _ _ _ => fz_or (ek _ _ _) fun _ _ _ => binOp_fz
  | neg a => refine fz_or (ek _ _ _) fun _ _ _ => ?_; split <;> first | exact fz_same | exact fz_none | exact ek _ _ _
  | not a => refine fz_or (ek _ _ _) fun _ _ _ => ?_; split <;> first | exact fz_same | exact fz_none | exact ek _ _ _
  | cmp op a b => refine fz_or (ek _ _ _) fun _ _ _ => fz_or (ek _ _ _) fun _ _ _ => ?_; split <;> first | exact fz_same | exact fz_none | exact ek _ _ _
  | cmp2 o1 o2 a b c =>
    refine fz_or (ek _ _ _) fun _ _ _ => fz_or (ek _ _ _) fun _ _ _ => ?_
    split
    · refine fz_or (ek _ _ _) fun _ _ _ => ?_; split <;> first | exact fz_same | exact fz_none | exact ek _ _ _
    · exact fz_same
    · exact fz_none
  | and a b => refine fz_or (ek _ _ _) fun _ _ _ => ?_; split <;> first | exact fz_same | exact fz_none | exact ek _ _ _
  | or a b => refine fz_or (ek _ _ _) fun _ _ _ => ?_; split <;> first | exact fz_same | exact fz_none | exact ek _ _ _
  | ite c a b => refine fz_or (testM_fz fz (ek _ _ _)) fun _ _ _ => ?_; split <;> first | exact fz_same | exact fz_none | exact ek _ _ _
  | idx a i => refine fz_or (ek _ _ _) fun _ _ _ => fz_or (ek _ _ _) fun _ _ _ => ?_; split <;> first | exact fz_same | exact fz_none | exact ek _ _ _
  | slc mu a lo hi => exact fz_or (ek _ _ _) fun _ _ _ => fz_or (evO_fz fz) fun _ _ _ => fz_or (evO_fz fz) fun _ _ _ => sliceOp_fz
  | rev mu a => exact fz_or (ek _ _ _) fun _ _ _ => revOp_fz
  | call f es => exact fz_or (evEs_fz fz) fun _ _ _ => fz.F _ _ _
  | callv i es =>
    show Fz (eCallv R i (evEs R es) l S) S
    unfold eCallv
    split
    · exact fz_or (evEs_fz fz) fun _ _ _ => fz.F _ _ _
    · exact fz_or (evEs_fz fz) fun _ _ _ => fz.L _ _ _ _
    · exact fz_none
  | blt mu b es => exact fz_or (evEs_fz fz) fun _ _ _ => bltOp_fz
  | isi a t => refine fz_or (ek _ _ _) fun _ _ _ => ?_; split <;> first | exact fz_same | exact fz_none | exact ek _ _ _
  | meth m o es =>
    refine fz_or (ek _ _ _) fun _ _ _ => ?_
    split
    · refine fz_or (evEs_fz fz) fun _ _ _ => ?_
      split
      · exact methOp_fz
      · exact fz_none
    · exact fz_none
  | sortk mu a fn k caps =>
    refine fz_or (ek _ _ _) fun _ S1 _ => ?_
    split
    · split
      · split
        · rename_i h1
          split
          · intro o h
            exact (mkL_fz o h).trans (keysBy_fz (keyF_fz fz) _ _ h1)
          · exact fz_none
        · exact fz_none
      · exact fz_none
    · exact fz_none
  | lam k caps =>
    show Fz (eLam k caps l S) S
    unfold eLam
    split
    · exact fz_same
    · exact fz_none
  | told k e =>
    show Fz (eTold P k (eLow R e) l S) S
    unfold eTold
    split
    · refine told_fz fun o h => ?_
      unfold eLow at h
      split at h
      · rename_i h1
        cases h
        exact fz.S _ _ _ _ h1
      · rename_i h1
        cases h
        exact fz.S _ _ _ _ h1
      · cases h
    · exact fz_none
  | lc mu elt gs own => exact fz_or (evComp_fz fz (oneL_fz fz)) fun _ _ _ => mkL_fz
  | dc mu k v gs own => exact fz_or (evComp_fz fz (oneD_fz fz)) fun _ _ _ => mkD_fz
  | fld a f => exact fz_none
omit fz in
theorem fzS_to {α : Type} {x : Option (Out α)} {l : Loc} {f : α → LH → Option OutS} {S : LH} (h : Fz x S) (hf : ∀ a S1, S1.frz = S.frz → FzS (f a S1) S1) : FzS (toS l x f) S := fun o e => by
  cases x with
  | none => cases e
  | some y =>
    have hy := h y rfl
    cases y with
    | ok a S1 => exact (hf a S1 hy o e).trans hy
    | exn c fs S1 => cases e; exact hy
theorem evSs_fz : ∀ {b : List CS} {l : Loc} {S : LH}, FzS (evSs R b l S) S
  | [], l, S => fun o h => by cases h; rfl
  | s :: r, l, S => fun o h => by
    have h' : (match R.S s l S with | some (.ok .nx l1 S1) => evSs R r l1 S1 | x => x) = some o := h
    split at h'
    · rename_i h1
      exact (evSs_fz (b := r) _ h').trans (fz.S _ _ _ _ h1)
    · exact fz.S _ _ _ _ h'
theorem forL_fz {t : CT} {b : List CS} : ∀ {its : List PV} {l : Loc} {S : LH}, FzS (forL R t b its l S) S
  | [], l, S => fun o h => by cases h; rfl
  | v :: r, l, S => fun o h => by
    unfold forL at h
    split at h
    · rename_i h1
      have z1 := asgT_fz fz _ _ h1
      split at h
      · rename_i h2
        exact ((forL_fz (its := r) _ h).trans (evSs_fz fz _ h2)).trans z1
      · rename_i h2
        exact ((forL_fz (its := r) _ h).trans (evSs_fz fz _ h2)).trans z1
      · rename_i h2
        cases h
        exact (evSs_fz fz _ h2).trans z1
      · exact (evSs_fz fz _ h).trans z1
    · cases h
theorem whileL_fz {c : CE} {b : List CS} : ∀ {n : Nat} {l : Loc} {S : LH}, FzS (whileL R c b n l S) S
  | 0, l, S => fun o h => by cases h
  | n + 1, l, S => fzS_to (testM_fz fz (fz.E _ _ _)) fun k S1 _ o h => by
    cases k with
    | true =>
      have h' : (match evSs R b l S1 with
        | some (.ok .nx l2 S2) => whileL R c b n l2 S2
        | some (.ok .ct l2 S2) => whileL R c b n l2 S2
        | some (.ok .bk l2 S2) => some (.ok .nx l2 S2)
        | y => y) = some o := h
      split at h'
      · rename_i h2
        exact (whileL_fz (n := n) _ h').trans (evSs_fz fz _ h2)
      · rename_i h2
        exact (whileL_fz (n := n) _ h').trans (evSs_fz fz _ h2)
      · rename_i h2
        cases h'
        have z := evSs_fz fz _ h2
        exact z
      · exact evSs_fz fz _ h'
    | false => cases h; rfl
theorem parT_fz : ∀ {ts : List CT} {vs : List PV} {l : Loc} {S : LH}, Fz2 (parT R ts vs l S) S
  | [], [], l, S => fun a S' h => by cases h; rfl
  | [], _ :: _, l, S => fun a S' h => by cases h
  | _ :: _, [], l, S => fun a S' h => by cases h
  | t :: ts, v :: vs, l, S => fun a S' h => by
    unfold parT at h
    split at h
    · rename_i h1
      exact (parT_fz _ _ h).trans (asgT_fz fz _ _ h1)
    · cases h
theorem stepS_fz {P : Prog} (s : CS) (l : Loc) (S : LH) : FzS (stepS P R s l S) S := by
  cases s with
  | asg t e =>
    refine fzS_to (fz.E _ _ _) fun a S1 _ o h => ?_
    split at h
    · rename_i h1
      cases h
      exact asgT_fz fz _ _ h1
    · cases h
  | par ts es =>
    refine fzS_to (evEs_fz fz) fun a S1 _ o h => ?_
    split at h
    · rename_i h1
      cases h
      exact parT_fz fz _ _ h1
    · cases h
  | aug i op e =>
    show FzS (sAug i op (R.E e) l S) S
    unfold sAug
    split
    · refine fzS_to (fz.E _ _ _) fun a S1 _ o h => ?_
      split at h
      · cases h
      · split at h
        · rename_i h1
          cases h
          exact binOp_fz _ h1
        · cases h
    · exact fun o h => by cases h
  | expr e => exact fzS_to (fz.E _ _ _) fun a S1 _ o h => by cases h; rfl
  | ifs c a b =>
    refine fzS_to (testM_fz fz (fz.E _ _ _)) fun k S1 _ => ?_
    cases k with
    | true => exact evSs_fz fz
    | false => exact evSs_fz fz
  | for_ t it b =>
    intro o h
    have h' : toS l (srcOf R it l S) (fun s _ => unlockS s.lk (forL R t b s.its l s.S)) = some o := h
    cases hm : srcOf R it l S with
    | none => rw [hm] at h'; cases h'
    | some x =>
      rw [hm] at h'
      have z := srcOf_fz fz x hm
      cases x with
      | exn c fs S1 => cases h'; exact z
      | ok src S1 =>
        have h2 : unlockS src.lk (forL R t b src.its l src.S) = some o := h'
        cases hf : forL R t b src.its l src.S with
        | none => rw [hf] at h2; cases h2
        | some y =>
          rw [hf] at h2
          have z2 := forL_fz fz y hf
          cases y with
          | ok f l2 S2 => cases h2; exact z S2 z2
          | exn c fs l2 S2 => cases h2; exact z S2 z2
  | while_ c b => exact whileL_fz fz
  | ret e => exact fzS_to (fz.E _ _ _) fun a S1 _ o h => by cases h; rfl
  | raise c es => exact fzS_to (evEs_fz fz) fun a S1 _ o h => by cases h; rfl
  | try_ b hs =>
    intro o h
    have h' : (match evSs R b l S with
      | some (.exn c fs l1 S1) => match clauseOf c hs with
        | some (i, e) => match (if Nat.blt i l1.length then evH i fs e else none) with
          | some v => some (.ok (.rt v) l1 S1)
          | _ => none
        | none => some (.exn c fs l1 S1)
      | x => x) = some o := h
    split at h'
    · rename_i h1
      have z := evSs_fz fz _ h1
      split at h'
      · split at h'
        · cases h'; exact z
        · cases h'
      · cases h'; exact z
    · exact evSs_fz fz _ h'
  | brk => exact fun o h => by cases h; rfl
  | cont => exact fun o h => by cases h; rfl
  | pass => exact fun o h => by cases h; rfl
omit fz in
theorem retOf_fz {x : Option OutS} {S : LH} (h : FzS x S) : Fz (retOf x) S := fun o e => by
  unfold retOf at e
  split at e
  · cases e; exact h _ rfl
  · cases e; exact h _ rfl
  · cases e; exact h _ rfl
  · cases e
theorem stepF_fz {P : Prog} (f : Nat) (vs : List PV) (S : LH) : Fz (stepF P R f vs S) S := by
  unfold stepF
  split
  · exact fz_none
  · split
    · split
      · split
        · split
          · exact fz_same
          · exact fz_none
        · split
          · exact fun o h => by cases h; rfl
          · exact fz_none
        · exact fz_none
      · exact retOf_fz (evSs_fz fz)
    · exact fz_none
theorem stepL_fz {P : Prog} (k : Nat) (cs vs : List PV) (S : LH) : Fz (stepL P R k cs vs S) S := by
  unfold stepL
  split
  · exact fz_none
  · split
    · exact fz.E _ _ _
    · exact fz_none
end
theorem frzOk (P : Prog) : ∀ n, FrzOk (run P n)
  | 0 => ⟨fun _ _ _ => fz_none, fun _ _ _ o h => (by cases h), fun _ _ _ => fz_none, fun _ _ _ _ => fz_none⟩
  | n + 1 => ⟨stepE_fz (frzOk P n), stepS_fz (P := P) (frzOk P n), stepF_fz (frzOk P n), stepL_fz (frzOk P n)⟩
end Z

set_option Elab.async false
set_option linter.all false
set_option maxRecDepth 100000
set_option maxHeartbeats 2000000
/-! ZL: list comprehensions. -/
namespace Z
open PySem PySem.Spec PyProof.Rows L2
section
variable {T : Top} {X : Cx} {W : WX} {e a b c : Expr} {es : List Expr} {pos : Pos} {m ma mb mc : Ev}
/-- no locked object stands at D -/
def NoAt (ρ : Rho) (S : LH) (D : Addr) : Prop := ∀ n c, getC n S.frz = some c → ρ n ≠ some D
theorem RH.noAt {F G : Hp} {ρ : Rho} {S : LH} {H : Hp} (r : RH T F G ρ S H) {D : Addr} (h : H D = none) : NoAt ρ S D := fun n c _ e => by
  obtain ⟨o, z⟩ := r.at_ n D e
  rw [h] at z; cases z
theorem frz_dom {F G : Hp} {ρ : Rho} {S : LH} {H : Hp} (r : RH T F G ρ S H) {n : Nat} {c : Cell} (h : getC n S.frz = some c) : ∃ a, ρ n = some a := by
  cases hc : getC n S.cells with
  | some d => obtain ⟨a, _, h1, _⟩ := r.c n d hc; exact ⟨a, h1⟩
  | none => obtain ⟨a, _, h1, _⟩ := r.z n c hc h; exact ⟨a, h1⟩
theorem NoAt.later {F G F' : Hp} {ρ ρ' : Rho} {S S' : LH} {H : Hp} {D : Addr} (r : RH T F G ρ S H) (h : NoAt ρ S D) (e : Ext F ρ F' ρ') (f : S'.frz = S.frz) : NoAt ρ' S' D := fun n c hn z => by
  rw [f] at hn
  obtain ⟨a, ha⟩ := frz_dom r hn
  have := e.r n a ha
  rw [z] at this
  cases this
  exact h n c hn ha
theorem rh_dropL {F G : Hp} {ρ : Rho} {S : LH} {H : Hp} {p : Addr} {o : HO} (gp : G p = none) (na : NoAt ρ S p) (r : RH T F (upd G p o) ρ S H) : RH T F G ρ S (L2.delH H p) := by
  have fp : F p = none := by
    cases q : F p with
    | none => rfl
    | some v => have := r.fg _ _ q; rw [upd_same] at this; cases this
  refine ⟨fun a o e => ?_, fun a o e => ?_, fun a o e => ?_, fun n c e => ?_, fun n c e1 e2 => ?_, r.inj, r.dom, r.nx, r.tb.to (fun q ps _ _ e3 => L2.delH_ne (fun z => by rw [z, upd_same] at e3; cases e3)) (fun _ _ z => z) (fun _ _ _ e2 _ => e2) (fun q ps _ _ e3 => by rw [upd_ne (fun z => by rw [z, upd_same] at e3; cases e3)] at e3; exact e3)⟩
  · rw [L2.delH_ne (ne_of_none e fp)]; exact r.f a o e
  · rw [L2.delH_ne (ne_of_none e gp)]
    exact r.g a o (by rw [upd_ne (ne_of_none e gp)]; exact e)
  · have z := r.fg a o e
    by_cases q : a = p
    · subst q; exact gp
    · rw [upd_ne q] at z; exact z
  · obtain ⟨a, o, h1, h2, h3, h4, h5⟩ := r.c n c e
    have q : a ≠ p := fun q => by rw [q, upd_same] at h3; cases h3
    rw [upd_ne q] at h3
    exact ⟨a, o, h1, h2, h3, by rw [L2.delH_ne q]; exact h4, h5⟩
  · obtain ⟨a, o, h1, h2, h3⟩ := r.z n c e1 e2
    have q : a ≠ p := fun q => na n c e2 (by rw [← q]; exact h1)
    rw [upd_ne q] at h2
    exact ⟨a, o, h1, h2, h3⟩
/-- what is guarded at p is changed -/
theorem rh_chg {F G : Hp} {ρ : Rho} {S : LH} {H : Hp} {p : Addr} {o o' : HO} (na : NoAt ρ S p) (r : RH T F (upd G p o) ρ S H) : RH T F (upd G p o') ρ S (upd H p o') := by
  have fp : F p = none := by
    cases q : F p with
    | none => rfl
    | some v => have := r.fg _ _ q; rw [upd_same] at this; cases this
  refine ⟨fun a v e => ?_, fun a v e => ?_, fun a v e => ?_, fun n c e => ?_, fun n c e1 e2 => ?_, r.inj, r.dom, r.nx, r.tb.to (fun q ps _ _ e3 => upd_ne (fun z => by rw [z, upd_same] at e3; cases e3)) (fun _ _ z => z) (fun _ _ _ e2 _ => e2) (fun q ps _ _ e3 => by
    have ne : q ≠ p := fun z => by rw [z, upd_same] at e3; cases e3
    rw [upd_ne ne] at e3 ⊢
    exact e3)⟩
  · rw [upd_ne (ne_of_none e fp)]; exact r.f a v e
  · by_cases q : a = p
    · subst q; rw [upd_same] at e ⊢; exact e
    · rw [upd_ne q] at e ⊢
      exact r.g a v (by rw [upd_ne q]; exact e)
  · have z := r.fg a v e
    have q := ne_of_none e fp
    rw [upd_ne q] at z ⊢; exact z
  · obtain ⟨a, v, h1, h2, h3, h4, h5⟩ := r.c n c e
    have q : a ≠ p := fun q => by rw [q, upd_same] at h3; cases h3
    rw [upd_ne q] at h3
    exact ⟨a, v, h1, h2, by rw [upd_ne q]; exact h3, by rw [upd_ne q]; exact h4, h5⟩
  · obtain ⟨a, v, h1, h2, h3⟩ := r.z n c e1 e2
    have q : a ≠ p := fun q => na n c e2 (by rw [← q]; exact h1)
    rw [upd_ne q] at h2
    exact ⟨a, v, h1, by rw [upd_ne q]; exact h2, h3⟩
/-- the tests of a clause -/
def tOO (R : Rc) : Option CE → Loc → LH → Option (Out Bool)
  | none, _, S => some (.ok true S)
  | some e, l, S => testM (R.E e) l S
theorem testO_tOO {R : Rc} {c : Option CE} {l : Loc} {S S' : LH} {k : Bool} (h : testO R c l S = some (k, S')) : tOO R c l S = some (.ok k S') := by
  cases c with
  | none => cases h; rfl
  | some e =>
    have h' : (match testM (R.E e) l S with | some (.ok c S1) => some (c, S1) | _ => none) = some (k, S') := h
    show testM (R.E e) l S = _
    split at h'
    · rename_i h1
      cases h'
      exact h1
    · cases h'
theorem wipe_get {σ : L2.St} : ∀ {vs : List Nat} {i : Nat}, (wipe σ vs)[i]? = if i ∈ vs ∧ i < σ.length then some none else σ[i]?
  | [], i => by simp [wipe]
  | v :: vs, i => by
    unfold wipe
    by_cases h : v = i
    · subst h
      by_cases hl : v < σ.length
      · rw [List.getElem?_set_self (by rw [wipe_length]; exact hl), if_pos ⟨List.mem_cons_self, hl⟩]
      · rw [if_neg (fun z => hl z.2), List.getElem?_eq_none (by rw [List.length_set, wipe_length]; omega), List.getElem?_eq_none (by omega)]
    · rw [List.getElem?_set_ne h, wipe_get]
      have : (i ∈ v :: vs ∧ i < σ.length) ↔ (i ∈ vs ∧ i < σ.length) := by
        rw [List.mem_cons]
        exact ⟨fun ⟨a, b⟩ => ⟨a.resolve_left (Ne.symm h), b⟩, fun ⟨a, b⟩ => ⟨.inr a, b⟩⟩
      by_cases q : i ∈ vs ∧ i < σ.length
      · rw [if_pos q, if_pos (this.mpr q)]
      · rw [if_neg q, if_neg (fun z => q (this.mp z))]
theorem wipe_same {sl vs : List Nat} {σ σ' : L2.St} (sm : Same sl (wipe σ vs) σ') (h : ∀ i ∈ sl, i ∈ vs) : wipe σ' vs = wipe σ vs := by
  have hl : σ'.length = σ.length := by rw [sm.len, wipe_length]
  refine List.ext_getElem? fun i => ?_
  rw [wipe_get, wipe_get, hl]
  split
  · rfl
  · rename_i q
    by_cases hi : i ∈ vs
    · have hge : ¬ i < σ.length := fun z => q ⟨hi, z⟩
      rw [List.getElem?_eq_none (by omega), List.getElem?_eq_none (by omega)]
    · rw [sm.at_ i (fun z => hi (h i z)), wipe_get, if_neg (fun z => hi z.1)]
theorem wipeL_get {l : Loc} : ∀ {vs : List Nat} {i : Nat} {v : PV}, nth (wipeL l vs) i = some (some v) → nth l i = some (some v) ∧ i ∉ vs
  | [], i, v, h => ⟨h, by simp⟩
  | w :: vs, i, v, h => by
    unfold wipeL at h
    rw [setL_get] at h
    split at h
    · cases h
    · rename_i q
      obtain ⟨h1, h2⟩ := wipeL_get (vs := vs) h
      refine ⟨h1, fun z => ?_⟩
      rcases List.mem_cons.mp z with z | z
      · have hlen : ∀ vs : List Nat, (wipeL l vs).length = l.length := by
          intro vs
          induction vs with
          | nil => rfl
          | cons a vs ih => show (setL none (wipeL l vs) a).length = _; rw [setL_len, ih]
        refine q ⟨z, ?_⟩
        rw [hlen, ← z]
        rw [nth_get] at h1
        exact (List.getElem?_eq_some_iff.mp h1).1
      · exact h2 z
theorem wipeL_len {l : Loc} : ∀ {vs : List Nat}, (wipeL l vs).length = l.length
  | [] => rfl
  | v :: vs => by show (setL none (wipeL l vs) v).length = _; rw [setL_len, wipeL_len]
theorem RL.wipe {F : Hp} {ρ : Rho} {l : Loc} {σ : L2.St} {vs : List Nat} (rl : RL T F ρ l σ) : RL T F ρ (wipeL l vs) (L2.wipe σ vs) := by
  refine ⟨fun i v h => ?_, by rw [wipeL_len, wipe_length]; exact rl.len⟩
  obtain ⟨h1, h2⟩ := wipeL_get h
  obtain ⟨x, h3, h4⟩ := rl.v i v h1
  exact ⟨x, by rw [wipe_get, if_neg (fun z => h2 z.1)]; exact h3, h4⟩
theorem loopL_len {R : Rc} {ce : CE} {t : CT} {ifs : Option CE} {l : Loc} : ∀ {its acc r : List PV} {S S' : LH}, loopG R (oneL (R.E ce)) t ifs l its acc S = some (r, S') → acc.length ≤ r.length
  | [], acc, r, S, S', h => by cases h; exact Nat.le_refl _
  | v :: its, acc, r, S, S', h => by
    unfold loopG at h
    split at h
    · split at h
      · split at h
        · rename_i h3
          have z := loopL_len h
          have h3' : oneL (R.E ce) _ acc _ = some _ := h3
          unfold oneL at h3'
          split at h3'
          · cases h3'
            simp only [List.length_cons] at z
            omega
          · cases h3'
        · cases h
      · exact loopL_len h
      · cases h
    · cases h
end
end Z

set_option Elab.async false
set_option linter.all false
set_option maxRecDepth 100000
set_option maxHeartbeats 2000000
/-! ZS2: plain statements. -/
namespace Z
open PySem PySem.Spec PyProof.Rows L2
section
variable {T : Top} {X : Cx} {W : WX} {e a b c : Expr} {es : List Expr} {pos : Pos} {m ma mb mc : Ev}
theorem ps_asgZ {R : Rc} {tg : Expr} {ct : CT} (he : PE X e (TZ T W m)) (hg : PG X tg (TZG T (Rep T) (slotsT ct) (asgT R ct))) (hs : swapsWithSole [tg] e pos.line X.env = pure false) (hw : swappedStores [tg] e X.env = pure none)
    (h1 : (assignEach [tg] X.env).map (·.2) = [assign tg X.env]) : PS X (.Assign [tg] e pos) (TZS T W (sAsg R ct m)) := PS.imp (ps_asg he hg hs hw h1) fun D σ H q => by
  obtain ⟨F, G, ρ, l, S, o, rl, rh, e, q⟩ := q
  refine ts_ok rl rh e q fun v S1 F1 ρ1 x H1 e1 ex1 rl1 rh1 r1 h1 => ?_
  split at e1
  · rename_i l1 S2 ha
    cases e1
    exact ⟨F1, G, ρ1, l, S1, v, l1, S2, rl1, rh1, r1, ha, fun F' ρ' σ' H' ex rl' rh' _ => h1 F' ρ' σ' H' ex rl' rh'⟩
  · cases e1
theorem ps_exprZ (he : PE X e (TZ T W m)) (hs : swapsWith e none pos.line X.env = pure false) : PS X (.Expr e pos) (TZS T W (sExpr m)) := PS.imp (ps_expr he hs) fun D σ H q => by
  obtain ⟨F, G, ρ, l, S, o, rl, rh, e, q⟩ := q
  refine ts_ok rl rh e q fun v S1 F1 ρ1 x H1 e1 ex1 rl1 rh1 r1 h1 => ?_
  cases e1
  exact h1 _ _ _ _ Ext.refl rl1 rh1
theorem ps_retZ (he : PE X e (TZ T W m)) : PS X (.Return (some e) pos) (TZS T W (sRet m)) := PS.imp (ps_ret he) fun D σ H q => by
  obtain ⟨F, G, ρ, l, S, o, rl, rh, e, q⟩ := q
  refine ts_ok rl rh e q fun v S1 F1 ρ1 x H1 e1 ex1 rl1 rh1 r1 h1 => ?_
  cases e1
  exact h1 _ _ _ _ Ext.refl rh1 r1
theorem ps_ifZ {R : Rc} {s1 s2 : List Stmt} {c1 c2 : List CS} (hc : PT X c (TZt T W (testM m))) (ha : PSs X s1 (TZS T W (evSs R c1))) (hb : PSs X s2 (TZS T W (evSs R c2))) : PS X (.If c s1 s2 pos) (TZS T W (sIf m (evSs R c1) (evSs R c2))) := PS.imp (ps_if hc ha hb) fun D σ H q => by
  obtain ⟨F, G, ρ, l, S, o, rl, rh, e, q⟩ := q
  refine ts_ok rl rh e q fun v S1 F1 ρ1 x H1 e1 ex1 rl1 rh1 r1 h1 => ?_
  have hk : x = v := r1
  subst hk
  cases x with
  | true => exact ⟨F1, G, ρ1, l, S1, o, rl1, rh1, e1, h1⟩
  | false => exact ⟨F1, G, ρ1, l, S1, o, rl1, rh1, e1, h1⟩
theorem ps_passZ : PS X (.Pass pos) (TZS T W fun l S => some (.ok .nx l S)) := PS.imp ps_pass fun D σ H q => by
  obtain ⟨F, G, ρ, l, S, o, rl, rh, e, q⟩ := q
  cases e
  exact q _ _ _ _ Ext.refl rl rh
theorem ps_brkZ : PS X (.Break pos) (TZS T W fun l S => some (.ok .bk l S)) := PS.imp ps_break fun D σ H q => by
  obtain ⟨F, G, ρ, l, S, o, rl, rh, e, q⟩ := q
  cases e
  exact q _ _ _ _ Ext.refl rl rh
theorem ps_contZ : PS X (.Continue pos) (TZS T W fun l S => some (.ok .ct l S)) := PS.imp ps_continue fun D σ H q => by
  obtain ⟨F, G, ρ, l, S, o, rl, rh, e, q⟩ := q
  cases e
  exact q _ _ _ _ Ext.refl rl rh
/-- a, b = x, y with two local names -/
theorem ps_parZ {R : Rc} {i j : Nat} {x y : Str} {px py pt : Pos} {kt k2 : Nat} {pt2 : Pos} {ms : Evs} (hc : X.calm = true) (hN : X.N.Nodup) (hi : X.N[i]? = some x) (hj : X.N[j]? = some y) (hij : i ≠ j)
    (hx : X.env.scope.names.lookup x = some .local) (hy : X.env.scope.names.lookup y = some .local) (ha : PA X [a, b] (TZs T W ms))
    (hw : swappedStores [.Tuple [.Name x px, .Name y py] kt pt] (.Tuple [a, b] k2 pt2) X.env = pure (some [x, y]))
    (hs : swapsWithSole [.Tuple [.Name x px, .Name y py] kt pt] (.Tuple [a, b] k2 pt2) pos.line X.env = pure false) :
    PS X (.Assign [.Tuple [.Name x px, .Name y py] kt pt] (.Tuple [a, b] k2 pt2) pos) (TZS T W (sPar R [.nm i, .nm j] ms)) := PS.imp (ps_par hc hN hi hj hij hx hy ha hw hs) fun D σ H q => by
  obtain ⟨F, G, ρ, l, S, o, rl, rh, e, q⟩ := q
  refine ts_ok rl rh e q fun vs S1 F1 ρ1 xs H1 e1 ex1 rl1 rh1 r1 h1 => ?_
  cases r1 with
  | nil => cases e1
  | cons r1 rr =>
    cases rr with
    | nil => cases e1
    | cons r2 rr =>
      cases rr with
      | nil =>
        cases e1
        exact ⟨_, _, rfl, h1 _ _ _ _ Ext.refl ((rl1.set r1).set r2) rh1⟩
      | cons _ _ => cases e1
/-- name op= e, the name not an object of ours -/
theorem ps_augZ {i : Nat} {x : Str} {op : Op} {pos' : Pos} (hK : X.K = T.K) (hN : X.N.Nodup) (hi : X.N[i]? = some x) (hx : L2.Loc X.env.scope x) (he : PE X e (TZ T W m)) (hf : X.fn x = true ∨ X.env.scope.names.lookup x = some .local)
    (ho : PIp X (opOf op) (fun a b H Q => R2Z T (binOp false op) a b H Q)) : PS X (.AugAssign (.Name x pos') (opOf op) e pos) (TZS T W (sAug i op m)) := PS.imp (ps_aug hN hi hx he ho hf) fun D σ H q => by
  obtain ⟨F, G, ρ, l, S, o, rl, rh, e, q⟩ := q
  have e' : (match getV l i with
    | some x => toS l (m l S) fun y S1 => match x with
      | .loc _ => none
      | x => match binOp false op x y S1 with
        | some (.ok z S2) => some (OutS.ok .nx (setL (some z) l i) S2)
        | _ => none
    | none => none) = some o := e
  unfold getV at e'
  split at e'
  · rename_i v hv
    split at hv
    · rename_i u hu
      cases hv
      obtain ⟨y, h1, h2⟩ := rl.v i v hu
      refine ⟨y, h1, ?_⟩
      refine ts_ok rl rh e' q fun w S1 F1 ρ1 z H1 e1 ex1 rl1 rh1 r1 h3 => ?_
      split at e1
      · cases e1
      · rename_i hne
        split at e1
        · rename_i z2 S2 hb
          cases e1
          exact ⟨F1, G, ρ1, S1, v, w, _, rh1, h2.ext ex1, r1, hb, fun F' ρ' x H' ex rh' rr => h3 _ _ _ _ ex ((rl1.ext ex).set rr) rh'⟩
        · cases e1
    · cases hv
  · cases e'
/-- an in-place operator is the operator, but on lists -/
theorem ip_of {op : Op} {r : R2} (h : OpR X (inplaceOp (opOf op)) r) : PIp X (opOf op) r := fun pins s σ H x y v u Q I rx ry q => h pins s σ H x y v u Q I rx ry q
end
end Z

set_option Elab.async false
set_option linter.all false
set_option maxRecDepth 100000
set_option maxHeartbeats 2000000
/-! ZW: while. -/
namespace Z
open PySem PySem.Spec PyProof.Rows L2
section
variable {T : Top} {X : Cx} {W : WX} {c : Expr} {pos : Pos}
theorem whileL_inv {R : Rc} {cc : CE} {b : List CS} {n : Nat} {l : Loc} {S : LH} {o : OutS} (h : whileL R cc b (n + 1) l S = some o) :
    (∃ k fs S1, testM (R.E cc) l S = some (.exn k fs S1) ∧ o = .exn k fs l S1) ∨ (∃ S1, testM (R.E cc) l S = some (.ok false S1) ∧ o = .ok .nx l S1) ∨
    ∃ S1 o1, testM (R.E cc) l S = some (.ok true S1) ∧ evSs R b l S1 = some o1 ∧
      ((∃ l2 S2, (o1 = .ok .nx l2 S2 ∨ o1 = .ok .ct l2 S2) ∧ whileL R cc b n l2 S2 = some o) ∨ (∃ l2 S2, o1 = .ok .bk l2 S2 ∧ o = .ok .nx l2 S2) ∨ ((∃ v l2 S2, o1 = .ok (.rt v) l2 S2) ∧ o = o1) ∨ ((∃ k fs l2 S2, o1 = .exn k fs l2 S2) ∧ o = o1)) := by
  have h' : toS l (testM (R.E cc) l S) (fun k S1 => match k with
    | true => match evSs R b l S1 with
      | some (.ok .nx l2 S2) => whileL R cc b n l2 S2
      | some (.ok .ct l2 S2) => whileL R cc b n l2 S2
      | some (.ok .bk l2 S2) => some (.ok .nx l2 S2)
      | y => y
    | false => some (.ok .nx l S1)) = some o := h
  cases ht : testM (R.E cc) l S with
  | none => rw [ht] at h'; cases h'
  | some x =>
    rw [ht] at h'
    cases x with
    | exn k fs S1 => cases h'; exact .inl ⟨k, fs, S1, rfl, rfl⟩
    | ok k S1 =>
      cases k with
      | false => cases h'; exact .inr (.inl ⟨S1, rfl, rfl⟩)
      | true =>
        refine .inr (.inr ?_)
        have h2 : (match evSs R b l S1 with
          | some (.ok .nx l2 S2) => whileL R cc b n l2 S2
          | some (.ok .ct l2 S2) => whileL R cc b n l2 S2
          | some (.ok .bk l2 S2) => some (.ok .nx l2 S2)
          | y => y) = some o := h'
        cases hb : evSs R b l S1 with
        | none => rw [hb] at h2; cases h2
        | some o1 =>
          rw [hb] at h2
          refine ⟨S1, o1, rfl, hb, ?_⟩
          cases o1 with
          | ok f l2 S2 =>
            cases f with
            | nx => exact .inl ⟨l2, S2, .inl rfl, h2⟩
            | ct => exact .inl ⟨l2, S2, .inr rfl, h2⟩
            | bk => cases h2; exact .inr (.inl ⟨l2, S2, rfl, rfl⟩)
            | rt v => cases h2; exact .inr (.inr (.inl ⟨⟨v, l2, S2, rfl⟩, rfl⟩))
          | exn k fs l2 S2 => cases h2; exact .inr (.inr (.inr ⟨⟨k, fs, l2, S2, rfl⟩, rfl⟩))
theorem ps_whileZ {R : Rc} {cc : CE} {body : List Stmt} {cb : List CS} {n : Nat} (hp : PassesOwn (model X.prog X.w) X.A X.env X.xe) (hc : PT X c (TZt T W (testM (R.E cc)))) (hb : PSs X body (TZS T W (evSs R cb))) :
    PS X (.While c body [] pos) (TZS T W (whileL R cc cb n)) := PS.imp (ps_while hp hc hb) fun D σ H q => by
  obtain ⟨F0, G, ρ0, l, S, o, rl, rh, e, q⟩ := q
  refine ⟨fun m σ H => ∃ F ρ l S, Ext F0 ρ0 F ρ ∧ RL T F ρ l σ ∧ RH T F G ρ S H ∧ whileL R cc cb m l S = some o, ⟨n, F0, ρ0, l, S, Ext.refl, rl, rh, e⟩, ?_⟩
  rintro m σ1 H1 ⟨F1, ρ1, l1, S1, ex1, rl1, rh1, h⟩
  cases m with
  | zero => cases h
  | succ m =>
    rcases whileL_inv h with ⟨k, fs, S2, ht, rfl⟩ | ⟨S2, ht, rfl⟩ | ⟨S2, o1, ht, hb2, hk⟩
    · exact ⟨F1, G, ρ1, l1, S1, _, rl1, rh1, ht, fun F' ρ' cls d H' ex rh' x => q F' ρ' cls d σ1 H' (ex1.trans ex) (rl1.ext ex) rh' x⟩
    · refine ⟨F1, G, ρ1, l1, S1, _, rl1, rh1, ht, fun F' ρ' k H' ex rh' hk => ?_⟩
      have hk' : k = false := hk
      subst hk'
      exact q _ _ _ _ (ex1.trans ex) (rl1.ext ex) rh'
    · refine ⟨F1, G, ρ1, l1, S1, _, rl1, rh1, ht, fun F' ρ' k H' ex rh' hk' => ?_⟩
      have hk2 : k = true := hk'
      subst hk2
      show ∃ N : L2.St → Hp → Prop, _ ∧ _
      refine ⟨fun σ' H' => ∃ F ρ l S, Ext F0 ρ0 F ρ ∧ RL T F ρ l σ' ∧ RH T F G ρ S H' ∧ whileL R cc cb m l S = some o, fun σ' H' z => ⟨m, Nat.lt_succ_self m, z⟩, F', G, ρ', l1, S2, o1, rl1.ext ex, rh', hb2, ?_⟩
      have exA := ex1.trans ex
      rcases hk with ⟨l2, S3, rfl | rfl, hw⟩ | ⟨l2, S3, rfl, rfl⟩ | ⟨⟨v, l2, S3, rfl⟩, rfl⟩ | ⟨⟨k, fs, l2, S3, rfl⟩, rfl⟩
      · exact fun F2 ρ2 σ2 H2 ex2 rl2 rh2 => ⟨F2, ρ2, l2, S3, exA.trans ex2, rl2, rh2, hw⟩
      · exact fun F2 ρ2 σ2 H2 ex2 rl2 rh2 => ⟨F2, ρ2, l2, S3, exA.trans ex2, rl2, rh2, hw⟩
      · exact fun F2 ρ2 σ2 H2 ex2 rl2 rh2 => q _ _ _ _ (exA.trans ex2) rl2 rh2
      · exact fun F2 ρ2 x H2 ex2 rh2 r2 => q _ _ _ _ (exA.trans ex2) rh2 r2
      · exact fun F2 ρ2 cls d σ2 H2 ex2 rl2 rh2 x => q _ _ _ _ _ _ (exA.trans ex2) rl2 rh2 x
end
end Z

set_option Elab.async false
set_option linter.all false
set_option maxRecDepth 100000
set_option maxHeartbeats 2000000
/-! ZB: builtins. -/
namespace Z
open PySem PySem.Spec PyProof.Rows L2
section
variable {T : Top} {X : Cx} {W : WX} {e : Expr} {es : List Expr} {pos : Pos}
variable (T) in
/-- a builtin on values: what it reads -/
def rBlt (mu : Bool) (b : BI) : List V → Hp → VK → Prop := fun xs H Q =>
  ∃ F G ρ S vs o, RH T F G ρ S H ∧ Reps T F ρ vs xs ∧ bltOp mu b vs S = some o ∧ After T (fun _ _ _ _ => False) F G ρ [] o Q
theorem bltOp_exn {mu : Bool} {b : BI} {vs : List PV} {S : LH} {c : Nat} {fs : List PV} {S' : LH} : bltOp mu b vs S ≠ some (.exn c fs S') := fun h => by
  have mk : ∀ xs, mkL mu xs S ≠ some (.exn c fs S') := fun xs h => by
    unfold mkL at h
    split at h
    · split at h <;> cases h
    · cases h
  have mkd : ∀ xs, mkD mu xs S ≠ some (.exn c fs S') := fun xs h => by
    unfold mkD at h
    split at h
    · split at h <;> cases h
    · cases h
  have a1 : ∀ f, oneV f vs S ≠ some (.exn c fs S') := fun f h => by
    unfold oneV at h
    split at h
    · split at h <;> cases h
    · cases h
  have a2 : ∀ f, oneL' mu f vs S ≠ some (.exn c fs S') := fun f h => by
    unfold oneL' at h
    split at h
    · split at h
      · exact mk _ h
      · cases h
    · cases h
  have a3 : ∀ f, oneD' mu f vs S ≠ some (.exn c fs S') := fun f h => by
    unfold oneD' at h
    split at h
    · split at h
      · exact mkd _ h
      · cases h
    · cases h
  cases b
  all_goals first
    | exact a1 _ h
    | exact a2 _ h
    | exact a3 _ h
theorem CallR.imp {f : Value} {r r' : List V → Hp → VK → Prop} (h : CallR X f r) (i : ∀ xs H Q, r' xs H Q → r xs H Q) : CallR X f r' := fun pins s σ H xs us Q I r q => h pins s σ H xs us Q I r (i _ _ _ q)
/-- the reading of a builtin's call -/
theorem blt_read {mu : Bool} {b : BI} {ms : Evs} {σ : L2.St} {H : Hp} {Q : VK} (q : TZ T W (eBlt mu b ms) σ H Q) : TZs T W ms σ H fun vs H1 => rBlt T mu b vs H1 Q := by
  obtain ⟨F, G, ρ, l, S, o, rl, rh, e, q⟩ := q
  refine tz_ok rl rh e q fun vs S1 F1 ρ1 xs H1 e1 ex1 rl1 rh1 r1 h1 => ⟨F1, G, ρ1, S1, vs, o, rh1, r1, e1, ?_⟩
  cases o with
  | ok v S' => exact h1
  | exn c fs S' => exact absurd e1 bltOp_exn
/-- x(e, ..), x a built-in function -/
theorem pe_bltZ {mu : Bool} {b : BI} {ms : Evs} {x : Str} {id : String} {p : Pos} (hc : CallR X (.builtin id) (rBlt T mu b)) (hg : Gl X x) (hm : X.mg x = none) (hv : bootBuiltins x = some (.builtin id)) (hn : x ≠ "__name__") (hdb : (x == ("__debug__" : Str)) = false) (ns : noStars (e :: es) = true)
    (ha : PA X (e :: es) (TZs T W ms)) : PE X (.Call (.Name x p) (e :: es) [] pos) (TZ T W (eBlt mu b ms)) := by
  have h0 := ns
  unfold noStars at h0
  rw [List.all_cons, Bool.and_eq_true] at h0
  exact PE.imp (pe_callB hc hg hm hv ha hn hdb (starEach_plain h0.1) (backTo_plain h0.2)) fun σ H Q q => blt_read q
/-- x(e, ..), x a built-in type -/
theorem pe_bltTyZ {mu : Bool} {b : BI} {ms : Evs} {x : Str} {id : String} {p : Pos} (hc : CallR X (.type id) (rBlt T mu b)) (hg : Gl X x) (hm : X.mg x = none) (hv : bootBuiltins x = some (.type id)) (hn : x ≠ "__name__") (hdb : (x == ("__debug__" : Str)) = false) (ns : noStars (e :: es) = true)
    (ha : PA X (e :: es) (TZs T W ms)) : PE X (.Call (.Name x p) (e :: es) [] pos) (TZ T W (eBlt mu b ms)) := by
  have h0 := ns
  unfold noStars at h0
  rw [List.all_cons, Bool.and_eq_true] at h0
  exact PE.imp (pe_callTy hc hg hm hv ha hn hdb (starEach_plain h0.1) (backTo_plain h0.2)) fun σ H Q q => blt_read q
theorem reps1 {F : Hp} {ρ : Rho} {x : PV} {ys : List V} (r : Reps T F ρ [x] ys) : ∃ y, ys = [y] ∧ Rep T F ρ x y := by
  cases r with
  | cons r rr => cases rr; exact ⟨_, rfl, r⟩
theorem oneV_inv {f : LH → PV → Option PV} {vs : List PV} {S : LH} {o : Out PV} (h : oneV f vs S = some o) : ∃ x v, vs = [x] ∧ f S (top S x) = some v ∧ o = .ok v S := by
  unfold oneV at h
  split at h
  · split at h
    · rename_i x v hv
      cases h
      exact ⟨_, _, rfl, hv, rfl⟩
    · cases h
  · cases h
theorem oneL'_inv {mu : Bool} {f : LH → PV → Option (List PV)} {vs : List PV} {S : LH} {o : Out PV} (h : oneL' mu f vs S = some o) : ∃ x xs, vs = [x] ∧ f S (top S x) = some xs ∧ mkL mu xs S = some o := by
  unfold oneL' at h
  split at h
  · split at h
    · rename_i x v hv
      exact ⟨_, _, rfl, hv, h⟩
    · cases h
  · cases h
/-- int(i) -/
theorem blt_int {mu : Bool} : CallR X (.type "int") (rBlt T mu .int) := CallR.imp call_int1 fun xs H Q ⟨F, G, ρ, S, vs, o, rh, r, e, q⟩ => by
  obtain ⟨x, v, rfl, h1, rfl⟩ := oneV_inv e
  obtain ⟨y, rfl, ry⟩ := reps1 r
  have t := top1 rh ry
  generalize top S x = tx at t h1
  cases t with
  | int i => cases h1; exact .inl ⟨i, rfl, q _ _ _ _ Ext.refl rh (.int _)⟩
  | bl b => cases h1; exact .inr ⟨b, rfl, by cases b <;> exact q _ _ _ _ Ext.refl rh (.int _)⟩
  | _ => cases h1
/-- list(x) -/
theorem blt_list {mu : Bool} (hK : X.K = T.K) : CallR X (.type "list") (rBlt T mu .list) := CallR.imp call_list_of fun xs H Q ⟨F, G, ρ, S, vs, o, rh, r, e, q⟩ => by
  obtain ⟨x, xs', rfl, h1, h2⟩ := oneL'_inv e
  obtain ⟨y, rfl, ry⟩ := reps1 r
  obtain ⟨a, ys, rfl, hs, r2⟩ := seq_of hK rh ry h1
  exact ⟨a, ys, rfl, hs.symm, fun p hp => mkL_ok rh r2 h2 q hp⟩
/-- len(x) -/
theorem blt_len {mu : Bool} (hK : X.K = T.K) (hw : X.w = T.w) : CallR X (.builtin "len") (rBlt T mu .len) := by
  intro pins s σ H xs us Q I rv ⟨F, G, ρ, S, vs, o, rh, r, e, q⟩
  obtain ⟨x, v, rfl, h1, rfl⟩ := oneV_inv e
  obtain ⟨y, rfl, ry⟩ := reps1 r
  have t := top1 rh ry
  generalize top S x = tx at t h1
  cases t with
  | str p hp =>
    cases h1
    refine call_len_str pins s σ H _ us Q I rv ⟨strV p, rfl, by rw [strV_length, sizeLine_eq]; exact hp.1, ?_⟩
    rw [strV_length]
    exact q _ _ _ _ Ext.refl rh (.int _)
  | lst h r2 =>
    cases h1
    refine call_len_seq pins s σ H _ us Q I rv ⟨_, _, rfl, .inl (.inl (.inl h)), ?_⟩
    rw [← r2.length]
    exact q _ _ _ _ Ext.refl rh (.int _)
  | tup h r2 =>
    cases h1
    refine call_len_seq pins s σ H _ us Q I rv ⟨_, _, rfl, .inr (by rw [hK]; exact h.1), ?_⟩
    rw [← r2.length]
    exact q _ _ _ _ Ext.refl rh (.int _)
  | @dct a es ep kvs h ok r2 =>
    cases h1
    obtain ⟨u, rfl, ru⟩ := vals1 rv
    cases ru
    obtain ⟨hs, od, ho, hx, hdat⟩ := dx_at I.hok h
    have raw : s.heap.DictRaw _ es.toArray ep := ⟨od, ho, hx, hdat⟩
    have hlen : es.toArray.size = kvs.length := by rw [List.size_toArray]; exact r2.length.symm
    have hsz : kvs.length ≤ 16777216 := ok.len
    refine call_len_slot (n := (kvs.length : Int)) raw.typeIs PySem.F.slot_dict_len (fun Q' hq => PySem.call_len_raw hs raw (by rw [hlen]; exact hq)) (by omega) (by omega) ?_
    exact ⟨.int kvs.length, H, I.tok _, ⟨_, rfl⟩, q _ _ _ _ Ext.refl rh (.int _)⟩
  | _ => cases h1
theorem bools_of {F : Hp} {ρ : Rho} : ∀ {xs : List PV} {ys : List V} {bs : List Bool}, boolsL xs = some bs → Reps T F ρ xs ys → ys = bs.map V.bl
  | [], _, bs, h, .nil => by cases h; rfl
  | x :: xs, _, bs, h, .cons r rr => by
    cases x with
    | bl b =>
      have h' : (match boolsL xs with | some t => some (b :: t) | none => none) = some bs := h
      split at h'
      · rename_i t ht
        cases h'
        rw [rep_bl r, bools_of ht rr]
        rfl
      · cases h'
    | _ => cases h
/-- all(x), any(x): a list of truth values -/
theorem blt_all {mu : Bool} (hc : X.calm = true) : CallR X (.builtin "all") (rBlt T mu .all) := CallR.imp (cr_all hc) fun xs H Q ⟨F, G, ρ, S, vs, o, rh, r, e, q⟩ => by
  obtain ⟨x, v, rfl, h1, rfl⟩ := oneV_inv e
  obtain ⟨y, rfl, ry⟩ := reps1 r
  have t := top1 rh ry
  generalize top S x = tx at t h1
  cases t with
  | @lst a ys xs h r2 =>
    have h1' : (match boolsL xs with | some bs => some (PV.bl (bs.all id)) | none => none) = some v := h1
    split at h1'
    · rename_i bs hb
      cases h1'
      have := bools_of hb r2
      subst this
      exact ⟨a, bs, rfl, .inl (.inl h), q _ _ _ _ Ext.refl rh (.bl _)⟩
    · cases h1'
  | _ => cases h1
theorem blt_any {mu : Bool} (hc : X.calm = true) : CallR X (.builtin "any") (rBlt T mu .any) := CallR.imp (cr_any hc) fun xs H Q ⟨F, G, ρ, S, vs, o, rh, r, e, q⟩ => by
  obtain ⟨x, v, rfl, h1, rfl⟩ := oneV_inv e
  obtain ⟨y, rfl, ry⟩ := reps1 r
  have t := top1 rh ry
  generalize top S x = tx at t h1
  cases t with
  | @lst a ys xs h r2 =>
    have h1' : (match boolsL xs with | some bs => some (PV.bl (bs.any id)) | none => none) = some v := h1
    split at h1'
    · rename_i bs hb
      cases h1'
      have := bools_of hb r2
      subst this
      exact ⟨a, bs, rfl, .inl (.inl h), q _ _ _ _ Ext.refl rh (.bl _)⟩
    · cases h1'
  | _ => cases h1
/-- tuple(x): of a list a new one, known; of a tuple itself -/
theorem call_tupleF : CallR X (.type "tuple") (fun xs H Q => ∃ p ys, xs = [.ref p] ∧ ((SqL X.K H p ys ∧ ∀ us l, H l = none → Q (.ref l) (upd H l (tupO us ys))) ∨ (SqT X.K H p ys ∧ Q (.ref p) H))) := by
  intro pins s σ H xs us Q I r ⟨p, ys, ex, h⟩
  subst ex
  obtain ⟨u, rfl, rx⟩ := vals1 r
  cases rx
  rcases h with ⟨hq, q⟩ | ⟨hq, q⟩
  · obtain ⟨its, r', pl, hz⟩ := I.list hq
    have hlen := r'.length
    refine call_tuple_list pl.isList (fun h' kp => ?_) (by simp only [List.size_toArray] <;> omega)
    exact laid_tup (t' := s.toks) I kp r' hz (q its)
  · obtain ⟨its, r', pl, hz⟩ := I.tuple hq
    exact call_tuple_same pl ⟨.ref p, H, I, rfl, q⟩
theorem blt_tuple {mu : Bool} (hK : X.K = T.K) : CallR X (.type "tuple") (rBlt T mu .tuple) := CallR.imp call_tupleF fun xs H Q ⟨F, G, ρ, S, vs, o, rh, r, e, q⟩ => by
  obtain ⟨x, v, rfl, h1, rfl⟩ := oneV_inv e
  obtain ⟨y, rfl, ry⟩ := reps1 r
  have t := top1 rh ry
  generalize htv : top S x = tx at t h1
  cases t with
  | lst h r2 =>
    cases h1
    exact ⟨_, _, rfl, .inl ⟨.inl (.inl h), fun us l hl => new_tup rh r2 q hl⟩⟩
  | @tup a ys xs h r2 =>
    cases h1
    have hx : x = .tup xs := by
      cases x with
      | loc n =>
        cases hg : S.get n with
        | none => simp [top, hg] at htv
        | some c => cases c <;> simp [top, hg] at htv
      | _ => exact htv
    subst hx
    exact ⟨a, ys, rfl, .inr ⟨by rw [hK]; exact h.1, q _ _ _ _ Ext.refl rh ry⟩⟩
  | _ => cases h1
end
end Z

set_option Elab.async false
set_option linter.all false
set_option maxRecDepth 100000
set_option maxHeartbeats 2000000
/-! ZB2: isinstance. -/
namespace Z
open PySem PySem.Spec PyProof.Rows L2
section
variable {T : Top} {X : Cx} {W : WX} {e : Expr} {pos : Pos} {m : Ev}
def tyName : Ty → String
  | .int => "int" | .bool => "bool" | .str => "str" | .tuple => "tuple" | .list => "list" | .dict => "dict"
/-- the type's name of a value looked through -/
def tagName : PV → String
  | .non => "NoneType" | .bl _ => "bool" | .int _ => "int" | .str _ => "str" | .tup _ => "tuple" | .lst _ => "list" | .dct _ => "dict" | _ => ""
theorem kit_tab {K : PySem.W.Frag} {v : PV} {t : Ty} {c : Bool} (h : hasTy v t = some c) : PySem.W.kitOne K (.type (tagName v)) (.type (tyName t)) = some c := by
  refine kit_ty ?_
  cases v <;> cases t <;> first
    | (cases h; done)
    | (cases h; dsimp only [tagName, tyName]; decide +kernel)
/-- isinstance(x, T), T a built-in type: what it reads -/
def rIsz (T : Top) (t : Ty) : List V → Hp → VK → Prop := fun xs H Q => ∃ F G ρ S v x c, RH T F G ρ S H ∧ Rep T F ρ v x ∧ xs = [x, .ty (tyName t)] ∧ hasTy (top S v) t = some c ∧ Q (.bl c) H
theorem call_isz (hK : X.K = T.K) (t : Ty) : CallR X (.builtin "isinstance") (rIsz T t) := by
  intro pins s σ H xs us Q I r ⟨F, G, ρ, S, v, x, c, rh, rv, ex, e, q⟩
  subst ex
  obtain ⟨u1, u2, rfl, r1, r2⟩ := vals2 r
  cases (show u2 = Value.type (tyName t) from r2)
  have ek := kit_tab (K := X.K) e
  have fin : ∀ tk, EP X pins σ Q (.bool c) { s with toks := tk } := fun tk => ⟨.bl c, H, I.tok tk, rfl, q⟩
  have tt := top1 rh rv
  generalize top S v = tv at tt ek e
  cases tt with
  | non => cases r1; exact PySem.W.kia_one PySem.W.kitx_none I.kIn True.intro ek (fun z => nomatch z) fin
  | bl b => cases r1; exact PySem.W.kia_one PySem.W.kitx_bool I.kIn True.intro ek (fun z => nomatch z) fin
  | int i => obtain ⟨tk, rfl⟩ := r1; exact PySem.W.kia_one PySem.W.kitx_int I.kIn True.intro ek (fun z => nomatch z) fin
  | str p hp => obtain ⟨tk, rfl⟩ := r1; exact PySem.W.kia_one PySem.W.kitx_str I.kIn True.intro ek (fun z => nomatch z) fin
  | lst h r2 =>
    cases r1
    obtain ⟨its, _, ⟨o, n, h1, h2, _⟩, _⟩ := I.list (SqL.of (K := X.K) h)
    exact PySem.W.kia_one PySem.W.kitx_list I.kIn ⟨o, h1, h2⟩ ek (fun z => nomatch z) fin
  | tup h r2 =>
    cases r1
    obtain ⟨its, _, ⟨o, h1, h2, _⟩, _⟩ := I.tuple (hK ▸ h.1 : SqT X.K H _ _)
    exact PySem.W.kia_one PySem.W.kitx_tuple I.kIn ⟨o, h1, h2⟩ ek (fun z => nomatch z) fin
  | dct h ok r2 =>
    cases r1
    obtain ⟨_, o, h1, h2, _⟩ := dx_at I.hok h
    exact PySem.W.kia_one PySem.W.kitx_dict I.kIn ⟨o, h1, h2.1⟩ ek (fun z => nomatch z) fin
  | fn k => cases t <;> cases e
  | loc => cases t <;> cases e
/-- isinstance(e, T) -/
theorem pe_isiZ {t : Ty} {x : Str} {p p2 : Pos} (hK : X.K = T.K) (hg : Gl X "isinstance") (hm : X.mg "isinstance" = none) (hg2 : Gl X x) (hm2 : X.mg x = none) (hv : bootBuiltins x = some (.type (tyName t))) (hn : x ≠ "__name__") (hd : (x == ("__debug__" : Str)) = false) (ns : noStar e = true)
    (hb : bootBuiltins "isinstance" = some (.builtin "isinstance")) (he : PE X e (TZ T W m)) : PE X (.Call (.Name "isinstance" p) [e, .Name x p2] [] pos) (TZ T W (eIsi m t)) :=
  PE.imp (pe_callB (call_isz hK t) hg hm hb (pa_cons he (pa_cons (pe_bltn (v := .ty (tyName t)) hg2 hm2 hv rfl hn hd) pa_nil (starEach_plain rfl)) (starEach_plain ns)) (by decide) (by decide) (starEach_plain ns) (backTo_plain rfl)) fun σ H Q q => by
  obtain ⟨F, G, ρ, l, S, o, rl, rh, e, q⟩ := q
  refine tz_ok rl rh e q fun v S1 F1 ρ1 y H1 e1 ex1 rl1 rh1 r1 h1 => ?_
  split at e1
  · rename_i c hc
    cases e1
    exact ⟨F1, G, ρ1, S1, v, y, c, rh1, r1, rfl, hc, h1 _ _ _ _ Ext.refl rh1 (.bl _)⟩
  · cases e1
end
end Z

set_option Elab.async false
set_option linter.all false
set_option maxRecDepth 100000
set_option maxHeartbeats 2000000
/-! ZN: comprehensions of lists and dicts, any number of clauses. -/
namespace Z
open PySem PySem.Spec PyProof.Rows L2
/-- a comprehension, its clauses, what a turn puts in -/
inductive CompE (acc : Value) (env : Env) : Expr → List Comprehension → Sem Unit → Prop
  | lst (elt : Expr) (gens : List Comprehension) (scope : Scope) (pos : Pos) : CompE acc env (.ListComp elt gens scope pos) gens (do let _ ← call (.builtin "list.append") [acc, ← eval elt env])
  | dct (D : Addr) (k v : Expr) (gens : List Comprehension) (scope : Scope) (pos : Pos) (h : acc = .ref D) : CompE acc env (.DictComp k v gens scope pos) gens (do
        let kv ← eval k env
        let vv ← holding [kv] (eval v env)
        standAt { k.pos with endLine := v.pos.endLine, endCol := v.pos.endCol }
        holding [kv, vv] (dictSet D kv vv))
section
variable {acc it : Value} {env : Env} {e t i t1 i1 : Expr} {ifs ifs1 : List Expr} {gens : List Comprehension} {emit : Sem Unit} {d : Nat}
theorem compTurn_in (h : CompE acc env e gens emit) (hg : gens[d]? = some ⟨t, i, ifs, 0⟩) (h1 : gens[d + 1]? = none) :
    compTurn e d it acc env = (do
      standAt i.pos
      match ← pyNext it with
      | none => pure (.done .next)
      | some v =>
        letOwnedTupleGo t it v
        assign t env v
        let mut ok := true
        for c in ifs do
          if ok then ok ← isTrue c env (eval c env)
        if ok then
          emit
        again (.compLoop e d it acc env)) := by
  cases h with
  | lst elt _ scope pos =>
    unfold compTurn
    dsimp only
    rw [hg]
    dsimp only
    rw [h1]
    rfl
  | dct D k v _ scope pos hh =>
    subst hh
    unfold compTurn
    dsimp only
    rw [hg]
    dsimp only
    rw [h1]
    rfl
theorem compTurn_out (h : CompE acc env e gens emit) (hg : gens[d]? = some ⟨t, i, ifs, 0⟩) (h1 : gens[d + 1]? = some ⟨t1, i1, ifs1, 0⟩) :
    compTurn e d it acc env = (do
      standAt i.pos
      match ← pyNext it with
      | none => pure (.done .next)
      | some v =>
        letOwnedTupleGo t it v
        assign t env v
        let mut ok := true
        for c in ifs do
          if ok then ok ← isTrue c env (eval c env)
        if ok then
          let x ← eval i1 env
          standAt i1.pos
          let x ← foldedSetIterable i1 env x
          let _ ← runOwn (.compStart e (d + 1) (← holding [x] (pyIter x)) acc env) env
        again (.compLoop e d it acc env)) := by
  cases h with
  | lst elt _ scope pos =>
    unfold compTurn
    dsimp only
    rw [hg]
    dsimp only
    rw [h1]
    rfl
  | dct D k v _ scope pos hh =>
    subst hh
    unfold compTurn
    dsimp only
    rw [hg]
    dsimp only
    rw [h1]
    rfl
/-- what runs behind the tests, ending in post -/
def RunB (prog : Program) (w : World) (A : Around) (e : Expr) (gens : List Comprehension) (emit : Sem Unit) (d : Nat) (acc : Value) (env : Env) (post : Shared → Prop) (s : Shared) : Prop :=
  match gens[d + 1]? with
  | none => wpAny (model prog w) A emit (fun _ s' => post s') (fun _ _ => False) s
  | some g => wpAny (model prog w) A (eval g.iter env) (fun x s4 => wpAny (model prog w) A (pyIter x) (fun it1 s5 =>
      codeAny (model prog w) A (.compStart e (d + 1) it1 acc env) (fun r s' => match r with
        | .ok _ => post s'
        | .error _ => False) s5) (fun _ _ => False) s4) (fun _ _ => False) s
/-- a clause as it can be -/
def PlainG (env : Env) (g : Comprehension) : Prop := g.is_async = 0 ∧ ∀ x, foldedSetIterable g.iter env x = pure x
variable {prog : Program} {w : World} {A : Around} {R : Result → Shared → Prop} {s : Shared}
/-- a clause's loop -/
theorem compLoop_N (hE : CompE acc env e gens emit) (hg : gens[d]? = some ⟨t, i, ifs, 0⟩) (hs : ∀ g, gens[d + 1]? = some g → PlainG env g) (I : Nat → Shared → Prop)
    (turn : ∀ n s, I n s → wpAny (model prog w) A (pyNext it) (fun r s₁ => match r with
      | none => R (.ok .next) s₁
      | some v => wpAny (model prog w) A (letOwnedTupleGo t it v) (fun _ s₁' => wpAny (model prog w) A (assign t env v) (fun _ s₂ =>
          wpAny (model prog w) A (forIn ifs true fun c r => if r = true then do let ok ← isTrue c env (eval c env); pure (ForInStep.yield ok) else pure (ForInStep.yield r)) (fun ok s₃ =>
            if ok = true then RunB prog w A e gens emit d acc env (fun s' => ∃ m, m < n ∧ I m s') s₃
            else ∃ m, m < n ∧ I m s₃) (fun _ _ => False) s₂) (fun _ _ => False) s₁') (fun _ _ => False) s₁) (fun _ _ => False) s)
    (n : Nat) (h : I n s) : codeAny (model prog w) A (.compLoop e d it acc env) R s := by
  have key : ∀ n s, I n s → wpAny (model prog w) A (compTurn e d it acc env) (fun f s' => match f with
      | .done fl => R (.ok fl) s'
      | .again c => c = .compLoop e d it acc env ∧ ∃ m, m < n ∧ I m s') (fun _ _ => False) s := fun n s hI => by
    cases h1 : gens[d + 1]? with
    | none =>
      rw [compTurn_in hE hg h1]
      refine wpAny_bind (wpAny_standAt (wpAny_bind (wpAny_mono (turn n s hI) (fun r s₁ h₁ => ?_) fun _ _ h' => h')))
      cases r with
      | none => exact wpAny_pure h₁
      | some v =>
        refine wpAny_bind (wpAny_mono h₁ (fun _ s₁' h₁' => ?_) fun _ _ h' => h')
        refine wpAny_bind (wpAny_mono h₁' (fun _ s₂ h₂ => wpAny_bind (wpAny_mono h₂ (fun ok s₃ h₃ => ?_) fun _ _ h' => h')) fun _ _ h' => h')
        cases ok with
        | false => exact wpAny_pure ⟨rfl, h₃⟩
        | true =>
          have h₃ : RunB prog w A e gens emit d acc env (fun s' => ∃ m, m < n ∧ I m s') s₃ := h₃
          unfold RunB at h₃
          rw [h1] at h₃
          exact wpAny_bind (wpAny_mono h₃ (fun x s₄ h₄ => wpAny_pure ⟨rfl, h₄⟩) fun _ _ h' => h')
    | some g =>
      obtain ⟨t1, i1, ifs1, a1⟩ := g
      obtain ⟨q1, q2⟩ := hs _ h1
      have q1 : a1 = 0 := q1
      subst q1
      rw [compTurn_out hE hg h1]
      refine wpAny_bind (wpAny_standAt (wpAny_bind (wpAny_mono (turn n s hI) (fun r s₁ h₁ => ?_) fun _ _ h' => h')))
      cases r with
      | none => exact wpAny_pure h₁
      | some v =>
        refine wpAny_bind (wpAny_mono h₁ (fun _ s₁' h₁' => ?_) fun _ _ h' => h')
        refine wpAny_bind (wpAny_mono h₁' (fun _ s₂ h₂ => wpAny_bind (wpAny_mono h₂ (fun ok s₃ h₃ => ?_) fun _ _ h' => h')) fun _ _ h' => h')
        cases ok with
        | false => exact wpAny_pure ⟨rfl, h₃⟩
        | true =>
          have h₃ : RunB prog w A e gens emit d acc env (fun s' => ∃ m, m < n ∧ I m s') s₃ := h₃
          unfold RunB at h₃
          rw [h1] at h₃
          refine wpAny_bind (wpAny_mono h₃ (fun x s₄ h₄ => ?_) fun _ _ h' => h')
          refine wpAny_bind (wpAny_standAt (wpAny_bind (wpAny_of_eq (q2 x) (wpAny_bind (wpAny_holding (wpAny_mono h₄ (fun it1 s₅ h₅ => ?_) fun _ _ h' => h'))))))
          refine wpAny_bind (wpAny_runOwn ?_)
          rw [Around.mark_none]
          refine codeAny_mono h₅ fun r s' hr => ?_
          cases r with
          | ok f =>
            first
              | exact wpAny_pure ⟨rfl, hr⟩
              | exact wpAny_bind (wpAny_pure (wpAny_pure ⟨rfl, hr⟩))
          | error e => exact hr.elim
  cases hE with
  | lst elt _ scope pos =>
    refine codeAny_loop rfl I (fun n s hI => ?_) n h
    refine wpAny_noted (wpAny_mono (key n s hI) (fun f s' hf => ?_) fun _ _ z => z.elim)
    exact hf
  | dct D k v _ scope pos hD =>
    refine codeAny_loop rfl I (fun n s hI => ?_) n h
    refine wpAny_noted (wpAny_mono (key n s hI) (fun f s' hf => ?_) fun _ _ z => z.elim)
    exact hf
/-- a clause's start -/
theorem compStart_N (hE : CompE acc env e gens emit) (hg : gens[d]? = some ⟨t, i, ifs, 0⟩) (h0 : codeAny (model prog w) A (.compLoop e d it acc env) R s)
    (h : wpAny (model prog w) A (pyIter it) (fun it' s' => codeAny (model prog w) A (.compLoop e d it' acc env) R s') (notedBy (model prog w) A env fun x s' => R (.error x) s') s) :
    codeAny (model prog w) A (.compStart e d it acc env) R s := by
  have hc : clausesOf e = gens := by cases hE <;> rfl
  have key : wpAny (model prog w) A (compStart e d it acc env) (fun f s' => match f with
      | .done fl => R (.ok fl) s'
      | .again c => c.quiet = true ∧ codeAny (model prog w) A c R s') (notedBy (model prog w) A env fun x s' => R (.error x) s') s := by
    unfold compStart
    rw [hc, hg]
    show wpAny _ _ (ask >>= _) _ _ s
    refine wpAny_bind (wpAny_askSetting (wpAny_ite ?_))
    have hq : ∀ it', (Code.compLoop e d it' acc env).quiet = true := fun it' => by cases hE <;> rfl
    split
    · first
        | exact wpAny_bind (wpAny_pure (wpAny_pure (And.intro (hq _) h0)))
        | exact wpAny_pure (And.intro (hq _) h0)
    · first
        | exact wpAny_bind (wpAny_rule (wpAny_bind (wpAny_standAt (wpAny_bind (wpAny_mono h (fun it' s' h' => wpAny_pure (And.intro (hq _) h')) fun _ _ x => x)))))
        | (refine wpAny_bind (wpAny_rule ?_); show wpAny _ _ (standAt i.pos >>= _) _ _ s; exact wpAny_bind (wpAny_standAt (wpAny_bind (wpAny_mono h (fun it' s' h' => wpAny_pure (And.intro (hq _) h')) fun _ _ x => x))))
  cases hE with
  | lst elt _ scope pos =>
    refine codeAny_of_tree ?_
    show wpAny _ _ ((compStart (.ListComp elt gens scope pos) d it acc env).onRaise (fun x => do noteFrame x env; standAt theWindowsPlace)) _ _ s
    refine wpAny_notedAt (wpAny_mono key (fun f s' hf => ?_) fun _ _ z => z)
    cases f <;> exact hf
  | dct D k v _ scope pos hD =>
    refine codeAny_of_tree ?_
    show wpAny _ _ ((compStart (.DictComp k v gens scope pos) d it acc env).onRaise (fun x => do noteFrame x env; standAt theWindowsPlace)) _ _ s
    refine wpAny_notedAt (wpAny_mono key (fun f s' hf => ?_) fun _ _ z => z)
    cases f <;> exact hf
end
/-! ### the evaluator's turns -/
theorem evGs_nil {α : Type} {R : Rc} {f : Loc → α → LH → Option (α × LH)} : evGs R f [] = f := by
  funext l a S
  rfl
theorem evGs_cons {α : Type} {R : Rc} {f : Loc → α → LH → Option (α × LH)} {t : CT} {it : CI} {ifs : Option CE} {gs : List CG} {l : Loc} {acc r : α} {S S' : LH} (h : evGs R f (.mk t it ifs :: gs) l acc S = some (r, S')) :
    ∃ src S1 S2, srcOf R it l S = some (.ok src S1) ∧ loopG R (evGs R f gs) t ifs l src.its acc src.S = some (r, S2) ∧ S' = unlockL src.lk S2 := by
  unfold evGs at h
  split at h
  · rename_i src S1 h1
    split at h
    · rename_i r' S2 h2
      cases h
      exact ⟨src, S1, S2, h1, h2, rfl⟩
    · cases h
  · cases h
theorem evComp_inv {α : Type} {R : Rc} {f : Loc → α → LH → Option (α × LH)} {own : List Nat} {t : CT} {it : CI} {ifs : Option CE} {gs : List CG} {l : Loc} {acc : α} {S : LH} {o : Out α} (h : evComp R f own (.mk t it ifs :: gs) l acc S = some o) :
    (∃ c fs S1, srcOf R it l S = some (.exn c fs S1) ∧ o = .exn c fs S1) ∨ ∃ src S1 r S2, srcOf R it l S = some (.ok src S1) ∧ loopG R (evGs R f gs) t ifs (wipeL l own) src.its acc src.S = some (r, S2) ∧ o = .ok r (unlockL src.lk S2) := by
  unfold evComp at h
  dsimp only at h
  split at h
  · rename_i src S1 h1
    split at h
    · rename_i r S2 h2
      cases h
      exact .inr ⟨src, S1, r, S2, h1, h2, rfl⟩
    · cases h
  · rename_i c fs S1 h1
    cases h
    exact .inl ⟨c, fs, S1, h1, rfl⟩
  · cases h
theorem loopG_inv {α : Type} {R : Rc} {f : Loc → α → LH → Option (α × LH)} {t : CT} {ifs : Option CE} {l : Loc} {v : PV} {r : List PV} {acc : α} {S : LH} {p : α × LH} (h : loopG R f t ifs l (v :: r) acc S = some p) :
    ∃ l1 S1 k S2, asgT R t v l S = some (l1, S1) ∧ testO R ifs l1 S1 = some (k, S2) ∧ ((k = true ∧ ∃ acc1 S3, f l1 acc S2 = some (acc1, S3) ∧ loopG R f t ifs l r acc1 S3 = some p) ∨ (k = false ∧ loopG R f t ifs l r acc S2 = some p)) := by
  rw [loopG] at h
  split at h
  · rename_i l1 S1 h1
    split at h
    · rename_i S2 h2
      split at h
      · rename_i acc1 S3 h3
        exact ⟨l1, S1, true, S2, h1, h2, .inl ⟨rfl, acc1, S3, h3, h⟩⟩
      · cases h
    · rename_i S2 h2
      exact ⟨l1, S1, false, S2, h1, h2, .inr ⟨rfl, h⟩⟩
    · cases h
  · cases h
theorem oneL_inv {e : Ev} {l : Loc} {acc a : List PV} {S S' : LH} (h : oneL e l acc S = some (a, S')) : ∃ v, e l S = some (.ok v S') ∧ a = v :: acc := by
  unfold oneL at h
  split at h
  · rename_i v S2 h1
    cases h
    exact ⟨v, h1, rfl⟩
  · cases h
theorem oneD_inv {k v : Ev} {l : Loc} {acc a : List (PV × PV)} {S S' : LH} (h : oneD k v l acc S = some (a, S')) : ∃ kv vv S1, k l S = some (.ok kv S1) ∧ v l S1 = some (.ok vv S') ∧ keyFor kv acc = true ∧ a = storeK kv vv acc := by
  unfold oneD at h
  split at h
  · rename_i kv S2 h1
    split at h
    · rename_i vv S3 h2
      split at h
      · rename_i h3
        cases h
        exact ⟨kv, vv, _, h1, h2, h3, rfl⟩
      · cases h
    · cases h
  · cases h
theorem orO_inv {α β : Type} {x : Option (Out α)} {f : α → LH → Option (Out β)} {o : Out β} (h : orO x f = some o) : (∃ c fs S, x = some (.exn c fs S) ∧ o = .exn c fs S) ∨ ∃ a S, x = some (.ok a S) ∧ f a S = some o := by
  cases x with
  | none => cases h
  | some y =>
    cases y with
    | ok a S => exact .inr ⟨a, S, rfl, h⟩
    | exn c fs S => cases h; exact .inl ⟨c, fs, S, rfl, rfl⟩
mutual
/-- a target's store knows no more names than it writes -/
theorem asgT_known {R : Rc} : ∀ {t : CT} {v : PV} {l l' : Loc} {S S' : LH}, asgT R t v l S = some (l', S') → ∀ i w, nth l' i = some (some w) → nth l i = some (some w) ∨ i ∈ slotsT t
  | .nm j, v, l, l', S, S', h, i, w, e => by
    cases (show some (setL (some v) l j, S) = some (l', S') from h)
    rw [setL_get] at e
    split at e
    · rename_i q; exact .inr (by rw [q.1]; exact List.mem_cons_self)
    · exact .inl e
  | .tup ts, v, l, l', S, S', h, i, w, e => by
    have h' : (match seqOf (top S v) with | some xs => asgTs R ts xs l S | none => none) = some (l', S') := h
    split at h'
    · exact asgTs_known h' i w e
    · cases h'
  | .sub o j, v, l, l', S, S', h, i, w, e => by
    have h' : (match R.E o l S with
      | some (.ok ov S1) => match R.E j l S1 with
        | some (.ok iv S2) => match storeAt ov iv v S2 with
          | some (.ok _ S3) => some (l, S3)
          | _ => none
        | _ => none
      | _ => none) = some (l', S') := h
    split at h'
    · split at h'
      · split at h'
        · cases h'; exact .inl e
        · cases h'
      · cases h'
    · cases h'
theorem asgTs_known {R : Rc} : ∀ {ts : List CT} {vs : List PV} {l l' : Loc} {S S' : LH}, asgTs R ts vs l S = some (l', S') → ∀ i w, nth l' i = some (some w) → nth l i = some (some w) ∨ i ∈ slotsTs ts
  | [], [], l, l', S, S', h, i, w, e => by
    cases (show some (l, S) = some (l', S') from h); exact .inl e
  | [], _ :: _, l, l', S, S', h, i, w, e => by cases h
  | _ :: _, [], l, l', S, S', h, i, w, e => by cases h
  | t :: ts, v :: vs, l, l', S, S', h, i, w, e => by
    have h' : (match asgT R t v l S with | some (l1, S1) => asgTs R ts vs l1 S1 | none => none) = some (l', S') := h
    split at h'
    · rename_i l1 S1 h1
      rcases asgTs_known h' i w e with q | q
      · rcases asgT_known h1 i w q with z | z
        · exact .inl z
        · exact .inr (List.mem_append_left _ z)
      · exact .inr (List.mem_append_right _ q)
    · cases h'
end
end Z

set_option Elab.async false
set_option linter.all false
set_option maxRecDepth 100000
set_option maxHeartbeats 2000000
/-! ZN2: comprehensions: the clauses' loops. -/
namespace Z
open PySem PySem.Spec PyProof.Rows L2
def slotsGs : List CG → List Nat
  | [] => []
  | .mk t _ _ :: gs => slotsT t ++ slotsGs gs
/-- no object of ours stands at D -/
def NoD (ρ : Rho) (D : Addr) : Prop := ∀ n, ρ n ≠ some D
section
variable {T : Top}
theorem NoD.at_ {ρ : Rho} {S : LH} {D : Addr} (h : NoD ρ D) : NoAt ρ S D := fun n _ _ => h n
theorem NoD.later {F G0 F' G : Hp} {ρ ρ' : Rho} {S S' : LH} {H H' : Hp} {D : Addr} {o : HO} (h : NoD ρ D) (r : RH T F G0 ρ S H) (e : Ext F ρ F' ρ') (r' : RH T F' (upd G D o) ρ' S' H') (f : S'.frz = S.frz) : NoD ρ' D := fun n z => by
  cases hc : getC n S'.cells with
  | some c =>
    obtain ⟨a, u, h1, h2, h3, _⟩ := r'.c n c hc
    rw [z] at h1; cases h1
    rw [upd_same] at h3; cases h3
  | none =>
    rcases r'.dom n D z with ⟨c, q⟩ | ⟨c, q⟩
    · rw [hc] at q; cases q
    · rw [f] at q
      obtain ⟨a, ha⟩ := frz_dom r q
      have := e.r n a ha
      rw [z] at this; cases this
      exact h n ha
/-- what a comprehension makes -/
structure AccOk {α : Type} (T : Top) (D : Addr) (AR : Hp → Rho → α → HO → Prop) : Prop where
  ext : ∀ {F ρ F' ρ' a o}, Ext F ρ F' ρ' → AR F ρ a o → AR F' ρ' a o
variable (T) in
/-- the body behind the tests, read by f -/
def BodyOk {α : Type} (Y : Cx) (D : Addr) (AR : Hp → Rho → α → HO → Prop) (sz : α → Nat) (vs : List Nat) (f : Loc → α → LH → Option (α × LH)) (run : (Shared → Prop) → Shared → Prop) : Prop :=
  ∀ (pins : List (Addr × Obj)) (s : Shared) (σ : L2.St) (H F G : Hp) (ρ : Rho) (l : Loc) (S : LH) (o : HO) (acc acc' : α) (S' : LH) (post : Shared → Prop),
    Inv Y pins σ H s → RL T F ρ l σ → RH T F (upd G D o) ρ S H → NoD ρ D → G D = none → (∀ i v, nth l i = some (some v) → i ∉ vs) → AR F ρ acc o → f l acc S = some (acc', S') → sz acc' ≤ 16777216 →
    (∀ s' H' F' ρ' o', Inv Y pins (L2.wipe σ vs) H' s' → Ext F ρ F' ρ' → RH T F' (upd G D o') ρ' S' H' → AR F' ρ' acc' o' → post s') → run post s
/-- what f does to sizes, to locks -/
structure FOk {α : Type} (sz : α → Nat) (f : Loc → α → LH → Option (α × LH)) : Prop where
  sz : ∀ {l a S a' S'}, f l a S = some (a', S') → sz a ≤ sz a'
  fz : ∀ l a S, Fz2 (f l a S) S
theorem loopG_sz {α : Type} {R : Rc} {sz : α → Nat} {f : Loc → α → LH → Option (α × LH)} (h : FOk sz f) {t : CT} {ifs : Option CE} {l : Loc} : ∀ {its : List PV} {a a' : α} {S S' : LH}, loopG R f t ifs l its a S = some (a', S') → sz a ≤ sz a'
  | [], a, a', S, S', e => by cases (show some (a, S) = some (a', S') from e); exact Nat.le_refl _
  | v :: its, a, a', S, S', e => by
    obtain ⟨l1, S1, k, S2, h1, h2, ⟨_, a1, S3, h3, h4⟩ | ⟨_, h4⟩⟩ := loopG_inv e
    · exact Nat.le_trans (h.sz h3) (loopG_sz h h4)
    · exact loopG_sz h h4
theorem evGs_ok {α : Type} {R : Rc} {sz : α → Nat} {f : Loc → α → LH → Option (α × LH)} (fz : FrzOk R) (h : FOk sz f) : ∀ (gs : List CG), FOk sz (evGs R f gs)
  | [] => by rw [evGs_nil]; exact h
  | .mk t it ifs :: gs => ⟨fun {l a S a' S'} e => by
      obtain ⟨src, S1, S2, h1, h2, _⟩ := evGs_cons e
      exact loopG_sz (evGs_ok fz h gs) h2, fun l a S => evGs_fz fz h.fz⟩
variable {α : Type} {Y : Cx} {D : Addr} {AR : Hp → Rho → α → HO → Prop} {sz : α → Nat} {R : Rc} {f : Loc → α → LH → Option (α × LH)} {e t i : Expr} {ifs : List Expr} {gens : List Comprehension} {emit : Sem Unit} {d : Nat} {W0 : WX}
theorem known_wipe {σ : L2.St} {vs : List Nat} {j : Nat} {v : V} (h : σ[j]? = some (some v)) (q : j ∉ vs) : (L2.wipe σ vs)[j]? = some (some v) := by
  rw [wipe_get, if_neg (fun z => q z.1)]; exact h
/-- a clause's loop -/
theorem gloop (aok : AccOk T D AR) (fok : FOk sz f) (fz : FrzOk R) (hE : CompE (.ref D) Y.env e gens emit) (hg : gens[d]? = some ⟨t, i, ifs, 0⟩) (hs : ∀ g, gens[d + 1]? = some g → PlainG Y.env g) (hc : Y.calm = true) (hxe : ∀ e s, Y.xe e s → False)
    {ct : CT} {cifs : Option CE} {Rel : Hp → Rho → PV → V → Prop} {vs1 : List Nat} (hB : BodyOk T Y D AR sz vs1 f (RunB Y.prog Y.w Y.A e gens emit d (.ref D) Y.env))
    (pg : PG Y t (TZG T Rel (slotsT ct) (asgT R ct))) (pt : PTs Y ifs (TZt T W0 (tOO R cifs))) (hdj : ∀ j ∈ slotsT ct, j ∉ vs1)
    {pins : List (Addr × Obj)} {σ : L2.St} {H F Gl : Hp} {s : Shared} {ρ : Rho} {l : Loc} {S : LH} {its : List PV} {acc accF : α} {o : HO} {SF : LH} {Rr : Result → Shared → Prop} {J : It} {fp : List Addr} {it : Addr} {tn : Nat → Heap → Prop}
    (I : Inv Y pins σ H s) (rl : RL T F ρ l σ) (rh : RH T F (upd Gl D o) ρ S H) (nd : NoD ρ D) (gd : Gl D = none) (hl : ∀ j v, nth l j = some (some v) → j ∉ slotsT ct ++ vs1) (hσ : ∀ (j : Nat) v, σ[j]? = some (some v) → j ∉ slotsT ct ++ vs1)
    (ar : AR F ρ acc o) (hf : loopG R f ct cifs l its acc S = some (accF, SF)) (hz : sz accF ≤ 16777216)
    (Tn : Turn Y.prog Y.w Y.K t J fp it tn) (st : tn 0 s.heap) (ff : ∀ b ∈ fp, FpOk Y pins H b) (wk' : WalkOk T Rel F Gl ρ its J)
    (fin : ∀ s' H' F' ρ' o', Inv Y pins σ H' s' → Ext F ρ F' ρ' → RH T F' (upd Gl D o') ρ' SF H' → AR F' ρ' accF o' → Rr (.ok .next) s') :
    codeAny (model Y.prog Y.w) Y.A (.compLoop e d (.ref it) (.ref D) Y.env) Rr s := by
  have stat : ∀ {H' : Hp}, (∀ b ∈ fp, H' b = none) → ∀ b ∈ fp, FpOk Y pins H' b := fun hn b hb => ⟨hn b hb, (ff b hb).2⟩
  refine compLoop_N hE hg hs (fun n s' => ∃ i H' F' ρ' S' acc o rest, Inv Y pins σ H' s' ∧ tn i s'.heap ∧ (∀ b ∈ fp, H' b = none) ∧ its.drop i = rest ∧ rest.length = n ∧ i + n = its.length ∧ Ext F ρ F' ρ' ∧ RH T F' (upd Gl D o) ρ' S' H' ∧ S'.frz = S.frz ∧ AR F' ρ' acc o ∧
    loopG R f ct cifs l rest acc S' = some (accF, SF)) ?_ its.length ⟨0, H, F, ρ, S, acc, o, its, I, st, fun b hb => (ff b hb).1, rfl, rfl, by omega, Ext.refl, rh, rfl, ar, hf⟩
  rintro n s5 ⟨i, H5, F5, ρ5, S5, acc5, o5, rest, I5, st5, n5, hd, hn, hi, ex5, rh5, fz5, ar5, hf5⟩
  have mono : ∀ n a u, ρ n = some a → Gl a = some u → upd Gl D o5 a = some u := fun n a u q z => by rw [upd_ne (fun y => nd n (by rw [q, y]))]; exact z
  obtain ⟨w1, w2⟩ := wk' _ mono F5 ρ5 S5 H5 ex5 rh5
  cases rest with
  | nil =>
    have hil : i = its.length := by simp at hn; omega
    cases (show some (acc5, S5) = some (accF, SF) from hf5)
    refine thnF (Tn.done Y rfl rfl rfl hc i pins s5 σ H5 (fun _ _ => False) I5 (stat n5) st5 (by rw [hil]; exact w2)) fun r s6 ⟨hr, I6⟩ => ?_
    subst hr
    exact fin s6 H5 F5 ρ5 o5 I6 ex5 rh5 ar5
  | cons v rest =>
    obtain ⟨hnv, hd2⟩ := drop_cons' hd
    obtain ⟨go, yl⟩ := w1 i v hnv
    obtain ⟨l2, S2, k, S3, ha, ht, hl2⟩ := loopG_inv hf5
    have fa : S2.frz = S.frz := (asgT_fz fz _ _ ha).trans fz5
    have ft : S3.frz = S.frz := (testO_fz fz _ _ ht).trans fa
    refine thnF (Tn.item Y rfl rfl rfl hc i pins s5 σ H5 (fun _ _ => False) I5 (stat n5) st5 go) fun r s6 ⟨u, hr, h6⟩ => ?_
    subst hr
    refine thnF h6 fun _ s7 ⟨x, H7, I7, r7, y7, st7, n7⟩ => ?_
    have I7' := I7.pinned (stat n7) (Tn.obj _ _ st7)
    obtain ⟨F7, ρ7, ex7, rh7, rx7⟩ := yl x H7 y7
    have exA := ex5.trans ex7
    have pgr := pg.run _ s7 σ H7 x u (fun σ' H' => ∃ F' ρ', Ext F7 ρ7 F' ρ' ∧ RL T F' ρ' l2 σ' ∧ RH T F' (upd Gl D o5) ρ' S2 H' ∧ Same (slotsT ct) σ σ') I7' r7
      ⟨F7, upd Gl D o5, ρ7, l, S5, v, l2, S2, rl.ext exA, rh7, rx7, ha, fun F' ρ' σ' H' ex rl' rh' sm => ⟨F', ρ', ex, rl', rh', sm⟩⟩
    refine wpAny_mono pgr (fun _ s8 ⟨σ8, H8, I8, F8, ρ8, ex8, rl8, rh8, sm8⟩ => ?_) fun _ _ z => hxe _ _ z
    have ptr := pt.run _ s8 σ8 H8 (fun b H' => b = k ∧ ∃ F' ρ', Ext F8 ρ8 F' ρ' ∧ RH T F' (upd Gl D o5) ρ' S3 H') I8
      ⟨F8, upd Gl D o5, ρ8, l2, S2, .ok k S3, rl8, rh8, testO_tOO ht, fun F' ρ' b H' ex rh' hb => ⟨hb, F', ρ', ex, rh'⟩⟩
    refine wpAny_mono ptr (fun b s9 ⟨H9, I9, hb, F9, ρ9, ex9, rh9⟩ => ?_) fun _ _ z => hxe _ _ z
    subst hb
    have exB : Ext F ρ F9 ρ9 := (exA.trans ex8).trans ex9
    -- a turn's end, from slots that know what was known at the start
    have back : ∀ {σ9 : L2.St} {s' : Shared} {H' F' : Hp} {ρ' : Rho} {S' : LH} {acc' : α} {o' : HO}, Inv Y (pins ++ pinsAt fp s7.heap) σ9 H' s' → σ.length = σ9.length → (∀ (j : Nat) v, σ[j]? = some (some v) → σ9[j]? = some (some v)) → Ext F9 ρ9 F' ρ' → RH T F' (upd Gl D o') ρ' S' H' →
        S'.frz = S.frz → AR F' ρ' acc' o' → loopG R f ct cifs l rest acc' S' = some (accF, SF) →
        ∃ m, m < n ∧ ∃ i H' F' ρ' S' acc o rest, Inv Y pins σ H' s' ∧ tn i s'.heap ∧ (∀ b ∈ fp, H' b = none) ∧ its.drop i = rest ∧ rest.length = m ∧ i + m = its.length ∧ Ext F ρ F' ρ' ∧ RH T F' (upd Gl D o) ρ' S' H' ∧ S'.frz = S.frz ∧ AR F' ρ' acc o ∧
          loopG R f ct cifs l rest acc S' = some (accF, SF) := fun {σ9 s' H' F' ρ' S' acc' o'} I' hlen hk ex rh' hfz ar' hlp => by
      have pin' : ∀ b ∈ fp, ∀ o, s7.heap.get? b = some o → s'.heap.get? b = some o ∧ H' b = none := fun b hb o e =>
        let z := I'.pin (b, o) (List.mem_append_right _ (List.mem_append_right _ (mem_pinsAt hb e)))
        ⟨z.1, z.2.1⟩
      refine ⟨rest.length, by simp at hn; omega, i + 1, H', F', ρ', S', acc', o', rest, I'.unpinned.weak hlen hk, Tn.keep _ _ _ st7 fun b hb o e => (pin' b hb o e).1, fun b hb => ?_, hd2, rfl, by simp at hn; omega, exB.trans ex, rh', hfz, ar', hlp⟩
      obtain ⟨o, e, _⟩ := Tn.obj _ _ st7 b hb
      exact (pin' b hb o e).2
    have k8 : ∀ (j : Nat) v, σ[j]? = some (some v) → σ8[j]? = some (some v) := fun j v z => by
      rw [sm8.at_ j (fun q => hσ j v z (List.mem_append_left _ q))]; exact z
    rcases hl2 with ⟨rfl, acc1, S4, hb1, hl3⟩ | ⟨rfl, hl3⟩
    · rw [if_pos rfl]
      have fb : S4.frz = S.frz := (fok.fz _ _ _ _ _ hb1).trans ft
      refine hB _ s9 σ8 H9 F9 Gl ρ9 l2 S3 o5 acc5 acc1 S4 _ I9 (rl8.ext ex9) rh9 (nd.later rh exB rh9 ft) gd (fun j w z => ?_) (aok.ext ((ex7.trans ex8).trans ex9) ar5) hb1 (Nat.le_trans (loopG_sz fok hl3) hz) fun s' H' F' ρ' o' I' ex' rh' ar' => ?_
      · rcases asgT_known ha j w z with q | q
        · exact fun y => hl j w q (List.mem_append_right _ y)
        · exact hdj j q
      · refine back I' (by rw [wipe_length, sm8.len]) (fun j v z => ?_) ex' rh' fb ar' hl3
        exact known_wipe (k8 j v z) fun q => hσ j v z (List.mem_append_right _ q)
    · rw [if_neg Bool.false_ne_true]
      exact back I9 sm8.len.symm k8 Ext.refl rh9 ft (aok.ext ((ex7.trans ex8).trans ex9) ar5) hl3
end
end Z

set_option Elab.async false
set_option linter.all false
set_option maxRecDepth 100000
set_option maxHeartbeats 2000000
/-! ZN3: comprehensions: the clauses together, what is put in. -/
namespace Z
open PySem PySem.Spec PyProof.Rows L2
section
variable {T : Top} {α : Type} {Y : Cx} {D : Addr} {AR : Hp → Rho → α → HO → Prop} {sz : α → Nat} {R : Rc} {f : Loc → α → LH → Option (α × LH)} {e : Expr} {gens : List Comprehension} {emit : Sem Unit} {d : Nat} {W0 : WX}
/-- a clause behind another -/
theorem body_next {t i : Expr} {ifs : List Expr} {ct : CT} {ci : CI} {cifs : Option CE} {gs : List CG} {Rel : Hp → Rho → PV → V → Prop} (aok : AccOk T D AR) (fok : FOk sz f) (fz : FrzOk R) (hE : CompE (.ref D) Y.env e gens emit)
    (hg : gens[d + 1]? = some ⟨t, i, ifs, 0⟩) (hs : ∀ g, gens[d + 1 + 1]? = some g → PlainG Y.env g) (hc : Y.calm = true) (hxe : ∀ e s, Y.xe e s → False)
    (hB : BodyOk T Y D AR sz (slotsGs gs) (evGs R f gs) (RunB Y.prog Y.w Y.A e gens emit (d + 1) (.ref D) Y.env))
    (hi : PI Y t i (TZI T Rel W0 (srcOf R ci))) (pg : PG Y t (TZG T Rel (slotsT ct) (asgT R ct))) (pt : PTs Y ifs (TZt T W0 (tOO R cifs))) (hdj : ∀ j ∈ slotsT ct, j ∉ slotsGs gs) :
    BodyOk T Y D AR sz (slotsGs (.mk ct ci cifs :: gs)) (evGs R f (.mk ct ci cifs :: gs)) (RunB Y.prog Y.w Y.A e gens emit d (.ref D) Y.env) := by
  intro pins s σ H F G ρ l S o acc acc' S' post I rl rh nd gd hl ar hf hz fin
  obtain ⟨src, S1, S2, h1, h2, rfl⟩ := evGs_cons hf
  unfold RunB
  rw [hg]
  have pir := hi.run pins s σ H (fun J H' => ∃ F' ρ' Gl, Ext F ρ F' ρ' ∧ RH T F' Gl ρ' src.S H' ∧ Locks T F' (upd G D o) Gl ρ' src.lk ∧ WalkOk T Rel F' Gl ρ' src.its J) I
    ⟨F, upd G D o, ρ, l, S, .ok src S1, rl, rh, h1, fun F' ρ' Gl J H' ex rh' L w => ⟨F', ρ', Gl, ex, rh', L, w⟩⟩
  refine wpAny_mono pir (fun xv s1 hx => ?_) fun _ _ z => (hxe _ _ z).elim
  refine wpAny_mono hx (fun itv s2 h2' => ?_) fun _ _ z => (hxe _ _ z).elim
  obtain ⟨it1, fp1, tn1, J1, H2, e1, I2, T1, st1, f1, F2, ρ2, Gl, ex2, rh2, L2', w2⟩ := h2'
  subst e1
  -- the guard without D
  have hGlD : Gl D = some o := L2'.mono D o upd_same
  have gl0 : (fun a => if a = D then none else Gl a : Hp) D = none := if_pos rfl
  have hGl : ∀ o', upd (fun a => if a = D then none else Gl a : Hp) D o' = upd Gl D o' := fun o' => by
    funext b
    unfold upd
    by_cases hb : b = D
    · rw [if_pos hb, if_pos hb]
    · rw [if_neg hb, if_neg hb]
      exact if_neg hb
  have hGl1 : upd Gl D o = Gl := by
    funext b
    unfold upd
    by_cases hb : b = D
    · rw [if_pos hb, hb, hGlD]
    · rw [if_neg hb]
  have fz1 : (unlockL src.lk src.S).frz = S.frz := srcOf_fz fz _ h1 src.S rfl
  have nd2 : NoD ρ2 D := nd.later rh ex2 (L2'.back F2 ρ2 src.S H2 Ext.refl rh2) fz1
  have hw : WalkOk T Rel F2 (fun a => if a = D then none else Gl a : Hp) ρ2 src.its J1 := fun G' hG F' ρ' S' H' ex rh' => w2 G' (fun n a u q z => hG n a u q (by
    show (if a = D then none else Gl a) = some u
    rw [if_neg (fun y => nd2 n (by rw [q, y]))]
    exact z)) F' ρ' S' H' ex rh'
  have loop1 : codeAny (model Y.prog Y.w) Y.A (.compLoop e (d + 1) (.ref it1) (.ref D) Y.env) (fun r s' => match r with
      | .ok _ => post s'
      | .error _ => False) s2 := by
    refine gloop aok (evGs_ok fz fok gs) fz hE hg hs hc hxe hB pg pt hdj (I2.weak (wipe_length σ (slotsT ct ++ slotsGs gs)) (fun j v e => (wipe_some e).1)) (Gl := fun a => if a = D then none else Gl a) (l := l) (o := o) ?_ (by rw [hGl, hGl1]; exact rh2) nd2 gl0 hl
      (fun j v z => (wipe_some z).2) (aok.ext ex2 ar) h2 hz T1 st1 f1 hw ?_
    · exact ⟨fun i v h => let ⟨x, h1, h2⟩ := (rl.ext ex2).v i v h; ⟨x, known_wipe h1 (hl i v h), h2⟩, by rw [wipe_length]; exact rl.len⟩
    · intro s' H' F' ρ' o' I' ex' rh' ar'
      rw [hGl] at rh'
      refine fin s' H' F' ρ' o' I' (ex2.trans ex') ?_ ar'
      have z := L2'.bk (upd Gl D o') F' ρ' S2 H' (fun a u h1 h2 => by
        have : a ≠ D := fun q => by rw [q, upd_same] at h1; cases h1
        rw [upd_ne this]; exact h2) ex' rh'
      have eq : less (upd G D o) Gl (upd Gl D o') = upd G D o' := by
        funext a
        unfold less
        by_cases q : a = D
        · subst q
          rw [upd_same]
          simp only [upd_same]
        · rw [upd_ne q, upd_ne q, upd_ne q]
          cases hga : G a with
          | some u => exact L2'.mono a u (by rw [upd_ne q]; exact hga)
          | none => cases hla : Gl a <;> simp [hla]
      rw [eq] at z
      exact z
  exact compStart_N hE hg loop1 (T1.self Y.A 0 _ _ _ st1 loop1)
/-- the clauses behind the first -/
inductive GsOk (T : Top) (R : Rc) (W0 : WX) (B : Cx → Prop) : List Comprehension → List CG → Prop
  | nil : GsOk T R W0 B [] []
  | cons {t i : Expr} {ifs : List Expr} {ct : CT} {ci : CI} {cifs : Option CE} {gens : List Comprehension} {gs : List CG} {Rel : Hp → Rho → PV → V → Prop} (hi : ∀ Y, B Y → PI Y t i (TZI T Rel W0 (srcOf R ci))) (hg : ∀ Y, B Y → PG Y t (TZG T Rel (slotsT ct) (asgT R ct)))
      (ht : ∀ Y, B Y → PTs Y ifs (TZt T W0 (tOO R cifs))) (hs : ∀ env x, foldedSetIterable i env x = pure x) (hd : ∀ j ∈ slotsT ct, j ∉ slotsGs gs) (r : GsOk T R W0 B gens gs) : GsOk T R W0 B (⟨t, i, ifs, 0⟩ :: gens) (.mk ct ci cifs :: gs)
theorem GsOk.plain {B : Cx → Prop} {env : Env} : ∀ {gens' : List Comprehension} {gs : List CG}, GsOk T R W0 B gens' gs → ∀ g ∈ gens', PlainG env g
  | _, _, .nil, g, h => by cases h
  | _, _, .cons _ _ _ hs _ r, g, h => by
    rcases List.mem_cons.mp h with rfl | h
    · exact ⟨rfl, fun x => hs env x⟩
    · exact GsOk.plain r g h
theorem bodies {B : Cx → Prop} (aok : AccOk T D AR) (fok : FOk sz f) (fz : FrzOk R) (hE : CompE (.ref D) Y.env e gens emit) (hY : B Y) (hc : Y.calm = true) (hxe : ∀ e s, Y.xe e s → False)
    (hEm : ∀ d, gens[d + 1]? = none → BodyOk T Y D AR sz [] f (RunB Y.prog Y.w Y.A e gens emit d (.ref D) Y.env)) :
    ∀ {gens' : List Comprehension} {gs : List CG} {d : Nat}, GsOk T R W0 B gens' gs → gens.drop (d + 1) = gens' → BodyOk T Y D AR sz (slotsGs gs) (evGs R f gs) (RunB Y.prog Y.w Y.A e gens emit d (.ref D) Y.env)
  | _, _, d, .nil, hd => by
    rw [evGs_nil]
    refine hEm d ?_
    have : gens.length ≤ d + 1 := by simpa using hd
    exact List.getElem?_eq_none this
  | _, _, d, .cons (t := t) (i := i) (ifs := ifs) hi hg ht hs hdj r, hd => by
    have hdn := hd
    obtain ⟨q1, q2⟩ := drop_cons' hd
    rw [nth_get] at q1
    refine body_next aok fok fz hE q1 (fun g hg' => ?_) hc hxe (bodies aok fok fz hE hY hc hxe hEm r q2) (hi Y hY) (hg Y hY) (ht Y hY) hdj
    refine GsOk.plain r g ?_
    rw [← q2]
    exact List.mem_of_getElem? (i := 0) (by rw [List.getElem?_drop]; simpa using hg')
/-! ### what is put in -/
def arL (T : Top) : Hp → Rho → List PV → HO → Prop := fun F ρ acc o => ∃ ys, o = .lst ys ∧ Reps T F ρ acc.reverse ys
def arD (T : Top) (D : Addr) : Hp → Rho → List (PV × PV) → HO → Prop := fun F ρ acc o => ∃ es ep, o = DX D es ep ∧ DOk acc ∧ RepD T F ρ acc es
theorem aokL : AccOk T D (arL T) := ⟨fun e ⟨ys, h1, h2⟩ => ⟨ys, h1, h2.ext e⟩⟩
theorem aokD : AccOk T D (arD T D) := ⟨fun e ⟨es, ep, h1, h2, h3⟩ => ⟨es, ep, h1, h2, h3.ext e⟩⟩
theorem fokL {ce : CE} (fz : FrzOk R) : FOk List.length (oneL (R.E ce)) := ⟨fun {l a S a' S'} h => by obtain ⟨v, _, rfl⟩ := oneL_inv h; simp, oneL_fz fz⟩
theorem storeK_grow {k v : PV} : ∀ {kvs : List (PV × PV)}, kvs.length ≤ (storeK k v kvs).length
  | [] => by simp [storeK]
  | (a, u) :: r => by
    unfold storeK
    split
    · simp
    · simp only [List.length_cons]
      have := storeK_grow (k := k) (v := v) (kvs := r)
      omega
theorem fokD {ck cv : CE} (fz : FrzOk R) : FOk List.length (oneD (R.E ck) (R.E cv)) := ⟨fun {l a S a' S'} h => by obtain ⟨kv, vv, S1, _, _, _, rfl⟩ := oneD_inv h; exact storeK_grow, oneD_fz fz⟩
theorem emitL {elt : Expr} {ce : CE} {scope : Scope} {pos : Pos} (fz : FrzOk R) (hxe : ∀ e s, Y.xe e s → False) (he : PE Y elt (TZ T W0 (R.E ce))) (d : Nat) (hd : gens[d + 1]? = none) :
    BodyOk T Y D (arL T) List.length [] (oneL (R.E ce)) (RunB Y.prog Y.w Y.A (.ListComp elt gens scope pos) gens (do let _ ← call (.builtin "list.append") [.ref D, ← eval elt Y.env]) d (.ref D) Y.env) := by
  intro pins s σ H F G ρ l S o acc acc' S' post I rl rh nd gd hl ⟨ys, eo, ry⟩ hf hz fin
  subst eo
  obtain ⟨v, hv, rfl⟩ := oneL_inv hf
  unfold RunB
  rw [hd]
  show wpAny _ _ (eval elt Y.env >>= fun x => call (.builtin "list.append") [.ref D, x] >>= fun _ => pure ()) _ _ s
  have per := he.run pins s σ H (fun y H' => ∃ F' ρ', Ext F ρ F' ρ' ∧ RH T F' (upd G D (.lst ys)) ρ' S' H' ∧ Rep T F' ρ' v y) I ⟨F, upd G D (.lst ys), ρ, l, S, .ok v S', rl, rh, hv, fun F' ρ' y H' ex rh' r => ⟨F', ρ', ex, rh', r⟩⟩
  refine wpAny_bind (wpAny_mono per (fun u s1 ⟨y, H1, I1, ru, F1, ρ1, ex1, rh1, r1⟩ => ?_) fun _ _ z => (hxe _ _ z).elim)
  have hD : H1 D = some (.lst ys) := rh1.g _ _ upd_same
  have hlen : ys.length < sizeLine := by
    have := ry.length
    rw [List.length_reverse] at this
    simp only [List.length_cons] at hz
    rw [sizeLine_eq]
    omega
  refine wpAny_bind (app_ok (X := Y) I1 hD hlen ru fun s2 I2 => wpAny_pure ?_)
  have nd1 : NoD ρ1 D := nd.later rh ex1 rh1 (oneL_fz fz _ _ _ _ _ hf)
  refine fin s2 _ F1 ρ1 (.lst (ys ++ [y])) (by exact I2) ex1 (rh_chg nd1.at_ rh1) ⟨_, rfl, ?_⟩
  rw [List.reverse_cons]
  exact (ry.ext ex1).append (.cons r1 .nil)
theorem DOk.store' {k v : PV} {kvs : List (PV × PV)} (d : DOk kvs) (h : keyFor k kvs = true) (hl : (storeK k v kvs).length ≤ 16777216) : DOk (storeK k v kvs) := by
  unfold keyFor at h
  rw [Bool.and_eq_true] at h
  have hs : ∀ q ∈ kvs, isTup q.1 = isTup k := fun q hq => by
    cases kvs with
    | nil => cases hq
    | cons p r =>
      have z : (isTup p.1 == isTup k) = true := h.2
      rw [beq_iff_eq] at z
      rw [← z]
      exact (d.sort p List.mem_cons_self q hq).symm
  have hs' : ∀ p ∈ storeK k v kvs, isTup p.1 = isTup k := fun p hp => by
    rcases storeK_mem hp with e | ⟨q, h1, h2⟩
    · rw [e]
    · rw [← h2]; exact hs q h1
  refine ⟨fun p hp => ?_, fun p hp q hq => (hs' p hp).trans (hs' q hq).symm, storeK_nd h.1 d.key d.nd, hl⟩
  rcases storeK_mem hp with e | ⟨q, h1, h2⟩
  · rw [e]; exact h.1
  · rw [← h2]; exact d.key q h1
theorem emitD {kx vx : Expr} {ck cv : CE} {scope : Scope} {pos : Pos} (hK : Y.K = T.K) (hw : Y.w = T.w) (hu : Y.A.units + 16 < cLine) (fz : FrzOk R) (hxe : ∀ e s, Y.xe e s → False) (hk : PE Y kx (TZ T W0 (R.E ck))) (hv : PE Y vx (TZ T W0 (R.E cv))) (d : Nat) (hd : gens[d + 1]? = none) :
    BodyOk T Y D (arD T D) List.length [] (oneD (R.E ck) (R.E cv)) (RunB Y.prog Y.w Y.A (.DictComp kx vx gens scope pos) gens (do
        let kv ← eval kx Y.env
        let vv ← holding [kv] (eval vx Y.env)
        standAt { kx.pos with endLine := vx.pos.endLine, endCol := vx.pos.endCol }
        holding [kv, vv] (dictSet D kv vv)) d (.ref D) Y.env) := by
  intro pins s σ H F G ρ l S o acc acc' S' post I rl rh nd gd hl ⟨es, ep, eo, ok, rd⟩ hf hz fin
  subst eo
  obtain ⟨kv, vv, S1, hk1, hv1, kf, rfl⟩ := oneD_inv hf
  unfold RunB
  rw [hd]
  have per := hk.run pins s σ H (fun y H' => ∃ F' ρ', Ext F ρ F' ρ' ∧ RH T F' (upd G D (DX D es ep)) ρ' S1 H' ∧ Rep T F' ρ' kv y) I ⟨F, _, ρ, l, S, .ok kv S1, rl, rh, hk1, fun F' ρ' y H' ex rh' r => ⟨F', ρ', ex, rh', r⟩⟩
  refine wpAny_bind (wpAny_mono per (fun u s1 ⟨y, H1, I1, ru, F1, ρ1, ex1, rh1, r1⟩ => ?_) fun _ _ z => (hxe _ _ z).elim)
  have per2 := hv.run pins s1 σ H1 (fun y H' => ∃ F' ρ', Ext F1 ρ1 F' ρ' ∧ RH T F' (upd G D (DX D es ep)) ρ' S' H' ∧ Rep T F' ρ' vv y) I1 ⟨F1, _, ρ1, l, S1, .ok vv S', rl.ext ex1, rh1, hv1, fun F' ρ' y H' ex rh' r => ⟨F', ρ', ex, rh', r⟩⟩
  refine wpAny_bind (wpAny_holding (wpAny_mono per2 (fun u2 s2 ⟨y2, H2, I2, ru2, F2, ρ2, ex2, rh2, r2⟩ => ?_) fun _ _ z => (hxe _ _ z).elim))
  have ex := ex1.trans ex2
  have hD : H2 D = some (DX D es ep) := rh2.g _ _ upd_same
  have nd2 : NoD ρ2 D := nd.later rh ex rh2 (oneD_fz fz _ _ _ _ _ hf)
  refine wpAny_bind (wpAny_standAt (wpAny_holding ?_))
  refine d_set I2 hK hw rh2.f hu hD ok (rd.ext ex) kf (r1.ext ex2) ru r2 ru2 (by rw [sizeLine_eq]; exact ok.len) fun h' tk es' ep' I3 rd' => ?_
  exact fin _ _ F2 ρ2 (DX D es' ep') I3 ex (rh_chg nd2.at_ rh2) ⟨es', ep', rfl, ok.store' kf hz, rd'⟩
end
end Z

set_option Elab.async false
set_option linter.all false
set_option maxRecDepth 100000
set_option maxHeartbeats 2000000
/-! ZN4: comprehensions as expressions. -/
namespace Z
open PySem PySem.Spec PyProof.Rows L2
/-- a block's context -/
def BlkX (X : Cx) (scope : Scope) (Y : Cx) : Prop := ∃ s H C cl fp, Y = X.blk s H scope (compEnvC scope cl C X.env) fp
section
variable {T : Top} {α : Type} {X : Cx} {D : Addr} {AR : Hp → Rho → α → HO → Prop} {sz : α → Nat} {R : Rc} {f : Loc → α → LH → Option (α × LH)} {e : Expr} {gens gens' : List Comprehension} {emit : Env → Sem Unit} {W W0 : WX}
theorem blk_loop {tg iter : Expr} {ifs : List Expr} {scope : Scope} {own : List (Str × Nat)} {ct : CT} {cifs : Option CE} {gs : List CG} {Rel : Hp → Rho → PV → V → Prop} {pins : List (Addr × Obj)} {s3 : Shared} {σ : L2.St} {H2 F Gl : Hp} {o0 : HO} {ρ : Rho} {l : Loc} {S SF : LH} {its : List PV} {acc accF : α}
    {Rr : Result → Shared → Prop} {J : It} {fp : List Addr} {it : Addr} {tn : Nat → Heap → Prop}
    (aok : AccOk T D AR) (fok : FOk sz f) (fz : FrzOk R) (hE : ∀ env, CompE (.ref D) env e (⟨tg, iter, ifs, 0⟩ :: gens') (emit env)) (hc : X.calm = true) (hN : X.N.Nodup) (ok : BlkOk X.N X.env.scope scope own)
    (hg : ∀ Y, BlkX X scope Y → PG Y tg (TZG T Rel (slotsT ct) (asgT R ct))) (ht : ∀ Y, BlkX X scope Y → PTs Y ifs (TZt T W0 (tOO R cifs))) (hgs : GsOk T R W0 (BlkX X scope) gens' gs) (hdj : ∀ j ∈ slotsT ct, j ∉ slotsGs gs) (hown : ∀ i ∈ slotsT ct ++ slotsGs gs, i ∈ own.map (·.2))
    (hEm : ∀ Y, BlkX X scope Y → ∀ d, (⟨tg, iter, ifs, 0⟩ :: gens' : List Comprehension)[d + 1]? = none → BodyOk T Y D AR sz [] f (RunB Y.prog Y.w Y.A e (⟨tg, iter, ifs, 0⟩ :: gens') (emit Y.env) d (.ref D) Y.env))
    (I3 : Inv X pins σ (upd H2 D o0) s3) (f3 : ∀ b ∈ fp, FpOk X pins (upd H2 D o0) b ∧ b < s3.heap.objs.size) (Tn : Turn X.prog X.w X.K tg J fp it tn) (st3 : tn 0 s3.heap)
    (rl : RL T F ρ l σ) (rh : RH T F (upd Gl D o0) ρ S (upd H2 D o0)) (nd : NoD ρ D) (gd : Gl D = none) (ar : AR F ρ acc o0) (wk : WalkOk T Rel F Gl ρ its J) (hf : loopG R (evGs R f gs) ct cifs (wipeL l (own.map (·.2))) its acc S = some (accF, SF)) (hz : sz accF ≤ 16777216)
    (fin : ∀ s' H' F' ρ' o' m, Inv X pins σ H' s' → Ext F ρ F' ρ' → RH T F' (upd Gl D o') ρ' SF H' → AR F' ρ' accF o' → s'.heap.Ns s3.heap.objs.size m → FpOk X pins H' s3.heap.objs.size → Rr (.ok .next) s') :
    codeAny (model X.prog X.w) X.A (.compStart e 0 (.ref it) (.ref D) (compEnvC scope (cellsFrom (s3.heap.objs.size + 1) scope.names (cloFrom X.env.cells scope.names [])) s3.heap.objs.size X.env)) Rr
      { s3 with heap := pushCells (s3.heap.push { cls := .type "dict", data := .dict #[] }) scope.names } := by
  have I4 := block_start I3 ok hN f3
  have hYB : BlkX X scope (X.blk s3 (upd H2 D o0) scope (compEnvC scope (cellsFrom (s3.heap.objs.size + 1) scope.names (cloFrom X.env.cells scope.names [])) s3.heap.objs.size X.env) fp) := ⟨_, _, _, _, _, rfl⟩
  have cL : (compEnvC scope (cellsFrom (s3.heap.objs.size + 1) scope.names (cloFrom X.env.cells scope.names [])) s3.heap.objs.size X.env).locals = s3.heap.objs.size := rfl
  generalize hce : compEnvC scope (cellsFrom (s3.heap.objs.size + 1) scope.names (cloFrom X.env.cells scope.names [])) s3.heap.objs.size X.env = ce at I4 hYB cL ⊢
  generalize hs4 : ({ s3 with heap := pushCells (s3.heap.push { cls := .type "dict", data := .dict #[] }) scope.names } : Shared) = s4 at I4 ⊢
  have st4 : tn 0 s4.heap := Tn.keep _ _ _ st3 fun b _ o e => by rw [← hs4]; exact pushCells_keeps _ _ _ _ (Heap.get?_push_of_some _ e)
  have hxe : ∀ e s, (X.blk s3 (upd H2 D o0) scope ce fp).xe e s → False := fun _ _ z => z
  have loop : codeAny (model X.prog X.w) X.A (.compLoop e 0 (.ref it) (.ref D) ce) Rr s4 := by
    have hsx : ∀ g, (⟨tg, iter, ifs, 0⟩ :: gens' : List Comprehension)[0 + 1]? = some g → PlainG ce g := fun g hg' => GsOk.plain hgs g (List.mem_of_getElem? (i := 0) (by simpa using hg'))
    refine gloop (Y := X.blk s3 (upd H2 D o0) scope ce fp) (l := wipeL l (own.map (·.2))) aok (evGs_ok fz fok gs) fz (hE ce) (gens := ⟨tg, iter, ifs, 0⟩ :: gens') (d := 0) rfl hsx hc hxe
      (bodies (Y := X.blk s3 (upd H2 D o0) scope ce fp) aok fok fz (hE ce) hYB hc hxe (hEm _ hYB) hgs (by simp)) (hg _ hYB) (ht _ hYB) hdj I4 rl.wipe rh nd gd (fun j v z => ?_) (fun j v z => ?_) ar hf hz Tn st4 (fun b hb => ?_) wk fun s' H' F' ρ' o' I6 ex rh' ar' => ?_
    · exact fun q => (wipeL_get z).2 (hown j q)
    · exact fun q => (wipe_some z).2 (hown j q)
    · exact ⟨(f3 b hb).1.1, (I4.ok.exf b hb).1, I4.ok.exfs b hb, .inl hb, fun x c e => (I4.ok.exf b hb).2 x c e, fun p hp => absurd (show p ∈ ([] : List (Addr × Obj)) ++ [] from hp) (by simp)⟩
    · have I7 : Inv X pins σ H' s' := I3.call' (ch := fp) I6.os I6.base I6.hok I6.bare fun b hb => ⟨(f3 b hb).1.2.2.2.1, (f3 b hb).1.2.1, (f3 b hb).1.2.2.2.2.1, (f3 b hb).1.2.2.2.2.2⟩
      have nC : H' s3.heap.objs.size = none := by
        have z : H' ce.locals = none := I6.free
        rw [cL] at z
        exact z
      obtain ⟨m, hn, _⟩ := I6.loc
      have hn : s'.heap.Ns ce.locals m := hn
      rw [cL] at hn
      exact fin s' H' F' ρ' o' m I7 ex rh' ar' hn (I3.fpOk (Nat.le_refl _) nC)
  exact compStart_N (hE ce) rfl loop (Tn.self X.A 0 _ _ _ st4 loop)
theorem fmt_free {scope : Scope} {own : List (Str × Nat)} {pins : List (Addr × Obj)} {σ : L2.St} {H : Hp} {s : Shared} (I : Inv X pins σ H s) (ok : BlkOk X.N X.env.scope scope own) : ∀ y ∈ scope.names, y.2 = .free → ∃ c, X.env.cells.lookup y.1 = some c := fun y hy e => by
  rcases ok.free y hy e with k | k
  · exact I.ok.has _ (.inl k)
  · exact I.ok.has _ (.inr k)
variable (T X R W W0) in
/-- what a comprehension of any number of clauses must have -/
structure CompOk (tg iter : Expr) (ifs : List Expr) (gens' : List Comprehension) (scope : Scope) (own : List (Str × Nat)) (ct : CT) (ci : CI) (cifs : Option CE) (gs : List CG) : Prop where
  fz : FrzOk R
  hc : X.calm = true
  hN : X.N.Nodup
  ok : BlkOk X.N X.env.scope scope own
  gsok : GsOk T R W0 (BlkX X scope) gens' gs
  hdj : ∀ j ∈ slotsT ct, j ∉ slotsGs gs
  hown : ∀ i ∈ slotsT ct ++ slotsGs gs, i ∈ own.map (·.2)
  hs : ∀ x, foldedSetIterable iter X.env x = pure x
  ex : ∃ Rel, PI X tg iter (TZI T Rel W (srcOf R ci)) ∧ (∀ Y, BlkX X scope Y → PG Y tg (TZG T Rel (slotsT ct) (asgT R ct))) ∧ ∀ Y, BlkX X scope Y → PTs Y ifs (TZt T W0 (tOO R cifs))
variable {tg iter : Expr} {ifs : List Expr} {scope : Scope} {own : List (Str × Nat)} {ct : CT} {ci : CI} {cifs : Option CE} {gs : List CG} {pos pos' : Pos} {pins : List (Addr × Obj)} {σ : L2.St} {H : Hp} {s : Shared} {Q : VK} {use : Option (Value → Sem Unit)} {Qf : Value → Shared → Prop}
theorem lcN_core {elt : Expr} {ce : CE} {mu : Bool} (I : Inv X pins σ H s) (c : CompOk T X R W W0 tg iter ifs gens' scope own ct ci cifs gs) (he : ∀ Y, BlkX X scope Y → PE Y elt (TZ T W0 (R.E ce)))
    (h : TZ T W (fun l S => orO (evComp R (oneL (R.E ce)) (own.map (·.2)) (.mk ct ci cifs :: gs) l [] S) fun acc S1 => mkL mu acc.reverse S1) σ H Q)
    (hRR : ∀ D C s' m H', Inv X pins σ H' s' → Q (.ref D) H' → s'.heap.Ns C m → FpOk X pins H' C → compPost (model X.prog X.w) X.A X.xe use Qf (.ref D) C (.ok .next) s') :
    wpAny (model X.prog X.w) X.A (comprehension (.ListComp elt (⟨tg, iter, ifs, 0⟩ :: gens') scope pos) scope X.env pos' (newList []) false (eval iter X.env) use) Qf X.xe s := by
  obtain ⟨Rel, hi, hg, ht⟩ := c.ex
  obtain ⟨F, G, ρ, l, S, o, rl, rh, e, q⟩ := h
  have pir : wpAny (model X.prog X.w) X.A (eval iter X.env) (fun v s1 => wpAny (model X.prog X.w) X.A (pyIter v) (PIE X pins σ tg fun J H' => ∃ (F' : Hp) (ρ' : Rho) (Gl : Hp) (src : Src) (SF : LH) (accF : List PV), Ext F ρ F' ρ' ∧ RH T F' Gl ρ' src.S H' ∧ Locks T F' G Gl ρ' src.lk ∧ WalkOk T Rel F' Gl ρ' src.its J ∧
      loopG R (evGs R (oneL (R.E ce)) gs) ct cifs (wipeL l (own.map (·.2))) src.its [] src.S = some (accF, SF) ∧ mkL mu accF.reverse (unlockL src.lk SF) = some o) X.xe s1) X.xe s := by
    rcases orO_inv e with ⟨k, fs, S1, e1, rfl⟩ | ⟨accF, SU, e1, e2⟩
    · rcases evComp_inv e1 with ⟨c', fs', S1', h1, h2⟩ | ⟨_, _, _, _, _, _, h2⟩
      · cases h2
        exact hi.run pins s σ H _ I ⟨F, G, ρ, l, S, _, rl, rh, h1, fun F' ρ' cls d H' ex rh' x => q F' ρ' cls d H' ex rh' x⟩
      · cases h2
    · rcases evComp_inv e1 with ⟨_, _, _, _, h2⟩ | ⟨src, S1, r, SF, h1, hf, h2⟩
      · cases h2
      · cases h2
        exact hi.run pins s σ H _ I ⟨F, G, ρ, l, S, _, rl, rh, h1, fun F' ρ' Gl J H' ex rh' L w => ⟨F', ρ', Gl, src, SF, accF, ex, rh', L, w, hf, e2⟩⟩
  refine wpAny_comprehension_free (use := use) rfl c.hs (closure_ok (fmt_free I c.ok)) c.ok.kind (fun y hy e => by rw [c.ok.uniq y hy, e]) (thn pir fun xv s1 hx => thn hx fun itv s2 h2 => ?_)
  obtain ⟨it, fp, tn, J, H2, e1, I2, Tn, st2, f2, F2, ρ2, Gl, src, SF, accF, ex2, rh2, L2', w2, hf, hm⟩ := h2
  subst e1
  refine wpAny_newObj_type (newEnv_comp ?_) (by show 0 ≤ sizeLine; decide)
  generalize hD : s2.heap.objs.size = D
  have hDn : H2 D = none := I2.hok.fresh (Nat.le_of_eq hD)
  have gd := rh2.gnone hDn
  generalize hs3 : ({ s2 with heap := s2.heap.push { cls := .type "list", data := .seq ([] : List Value).toArray } } : Shared) = s3
  have I3 : Inv X pins σ (upd H2 D (.lst [])) s3 := by
    rw [← hs3]
    refine I2.laid (t' := s2.toks) (fun b o e => Heap.get?_push_of_some _ e) (Nat.le_of_eq hD) ⟨Nat.zero_le _, [], 0, .nil, ?_⟩
    rw [← hD]
    exact Heap.get?_push_size _ rfl
  have h3 : s3.heap = s2.heap.push { cls := .type "list", data := .seq ([] : List Value).toArray } := by rw [← hs3]
  have f3 : ∀ b ∈ fp, FpOk X pins (upd H2 D (.lst [])) b ∧ b < s3.heap.objs.size := fun b hb => by
    have hlt : b < s2.heap.objs.size := by obtain ⟨o, e, _⟩ := Tn.obj _ _ st2 b hb; exact Heap.lt_size e
    refine ⟨⟨?_, (f2 b hb).2⟩, by rw [h3, Heap.size_push]; exact Nat.lt_succ_of_lt hlt⟩
    rw [upd_ne (by rw [← hD]; exact Nat.ne_of_lt hlt)]
    exact (f2 b hb).1
  have st3 : tn 0 s3.heap := Tn.keep _ _ _ st2 fun b _ o e => by rw [h3]; exact Heap.get?_push_of_some _ e
  have nd : NoD ρ2 D := fun n z => by obtain ⟨v, hv⟩ := rh2.at_ n D z; rw [hDn] at hv; cases hv
  have hz : accF.length ≤ 16777216 := by
    have := mkL_len hm
    rw [List.length_reverse, sizeLine_eq] at this
    exact this
  refine blk_loop (emit := fun env => (do let _ ← call (.builtin "list.append") [.ref D, ← eval elt env])) aokL (fokL c.fz) c.fz (fun env => CompE.lst elt _ scope pos) c.hc c.hN c.ok hg ht c.gsok c.hdj c.hown
    (fun Y hY d hd => emitL c.fz (by obtain ⟨_, _, _, _, _, rfl⟩ := hY; exact fun _ _ z => z) (he Y hY) d hd) I3 f3 Tn st3 (rl.ext ex2) (rh_guard rh2 hDn) nd gd ⟨[], rfl, .nil⟩ w2 hf hz fun s' H' F' ρ' o' m I' ex' rh' ar' hn hfp => ?_
  refine hRR D _ s' m H' I' ?_ hn hfp
  obtain ⟨ys, rfl, ry⟩ := ar'
  have nd' : NoD ρ' D := nd.later rh2 ex' rh' (loopG_fz c.fz (evGs_ok c.fz (fokL c.fz) gs).fz _ _ hf)
  have r2 := L2'.back _ _ _ _ ex' (rh_dropL gd nd'.at_ rh')
  have z := mkL_ok r2 ry hm (AfterG.later (ex2.trans ex') q) (p := D) L2.delH_same
  rw [upd_del] at z
  have hD1 : H' D = some (.lst ys) := rh'.g _ _ upd_same
  have : upd H' D (.lst ys) = H' := by
    funext b
    unfold upd
    split
    · rename_i q; rw [q, hD1]
    · rfl
  rw [this] at z
  exact z
theorem dcN_core {kx vx : Expr} {ck cv : CE} {mu : Bool} (hK : X.K = T.K) (hw : X.w = T.w) (hu : X.A.units + 16 < cLine) (I : Inv X pins σ H s) (c : CompOk T X R W W0 tg iter ifs gens' scope own ct ci cifs gs) (hk : ∀ Y, BlkX X scope Y → PE Y kx (TZ T W0 (R.E ck))) (hv : ∀ Y, BlkX X scope Y → PE Y vx (TZ T W0 (R.E cv)))
    (h : TZ T W (fun l S => orO (evComp R (oneD (R.E ck) (R.E cv)) (own.map (·.2)) (.mk ct ci cifs :: gs) l [] S) fun acc S1 => mkD mu acc S1) σ H Q)
    (hRR : ∀ D C s' m H', Inv X pins σ H' s' → Q (.ref D) H' → s'.heap.Ns C m → FpOk X pins H' C → compPost (model X.prog X.w) X.A X.xe use Qf (.ref D) C (.ok .next) s') :
    wpAny (model X.prog X.w) X.A (comprehension (.DictComp kx vx (⟨tg, iter, ifs, 0⟩ :: gens') scope pos) scope X.env pos' newDict false (eval iter X.env) use) Qf X.xe s := by
  obtain ⟨Rel, hi, hg, ht⟩ := c.ex
  obtain ⟨F, G, ρ, l, S, o, rl, rh, e, q⟩ := h
  have pir : wpAny (model X.prog X.w) X.A (eval iter X.env) (fun v s1 => wpAny (model X.prog X.w) X.A (pyIter v) (PIE X pins σ tg fun J H' => ∃ (F' : Hp) (ρ' : Rho) (Gl : Hp) (src : Src) (SF : LH) (accF : List (PV × PV)), Ext F ρ F' ρ' ∧ RH T F' Gl ρ' src.S H' ∧ Locks T F' G Gl ρ' src.lk ∧ WalkOk T Rel F' Gl ρ' src.its J ∧
      loopG R (evGs R (oneD (R.E ck) (R.E cv)) gs) ct cifs (wipeL l (own.map (·.2))) src.its [] src.S = some (accF, SF) ∧ mkD mu accF (unlockL src.lk SF) = some o) X.xe s1) X.xe s := by
    rcases orO_inv e with ⟨k, fs, S1, e1, rfl⟩ | ⟨accF, SU, e1, e2⟩
    · rcases evComp_inv e1 with ⟨c', fs', S1', h1, h2⟩ | ⟨_, _, _, _, _, _, h2⟩
      · cases h2
        exact hi.run pins s σ H _ I ⟨F, G, ρ, l, S, _, rl, rh, h1, fun F' ρ' cls d H' ex rh' x => q F' ρ' cls d H' ex rh' x⟩
      · cases h2
    · rcases evComp_inv e1 with ⟨_, _, _, _, h2⟩ | ⟨src, S1, r, SF, h1, hf, h2⟩
      · cases h2
      · cases h2
        exact hi.run pins s σ H _ I ⟨F, G, ρ, l, S, _, rl, rh, h1, fun F' ρ' Gl J H' ex rh' L w => ⟨F', ρ', Gl, src, SF, accF, ex, rh', L, w, hf, e2⟩⟩
  refine wpAny_comprehension_free (use := use) rfl c.hs (closure_ok (fmt_free I c.ok)) c.ok.kind (fun y hy e => by rw [c.ok.uniq y hy, e]) (thn pir fun xv s1 hx => thn hx fun itv s2 h2 => ?_)
  obtain ⟨it, fp, tn, J, H2, e1, I2, Tn, st2, f2, F2, ρ2, Gl, src, SF, accF, ex2, rh2, L2', w2, hf, hm⟩ := h2
  subst e1
  refine wpAny_newObj_type (newEnv_comp ?_)
  generalize hD : s2.heap.objs.size = D
  have hDn : H2 D = none := I2.hok.fresh (Nat.le_of_eq hD)
  have gd := rh2.gnone hDn
  generalize hs3 : ({ s2 with heap := s2.heap.push { cls := .type "dict", data := .dict #[] } } : Shared) = s3
  have I3 : Inv X pins σ (upd H2 D (DX D [] 0)) s3 := by
    rw [← hs3]
    refine I2.laid (t' := s2.toks) (fun b o e => Heap.get?_push_of_some _ e) (Nat.le_of_eq hD) ?_
    rw [← hD]
    exact new_empty s2.heap I2.big
  have h3 : s3.heap = s2.heap.push { cls := .type "dict", data := .dict #[] } := by rw [← hs3]
  have f3 : ∀ b ∈ fp, FpOk X pins (upd H2 D (DX D [] 0)) b ∧ b < s3.heap.objs.size := fun b hb => by
    have hlt : b < s2.heap.objs.size := by obtain ⟨o, e, _⟩ := Tn.obj _ _ st2 b hb; exact Heap.lt_size e
    refine ⟨⟨?_, (f2 b hb).2⟩, by rw [h3, Heap.size_push]; exact Nat.lt_succ_of_lt hlt⟩
    rw [upd_ne (by rw [← hD]; exact Nat.ne_of_lt hlt)]
    exact (f2 b hb).1
  have st3 : tn 0 s3.heap := Tn.keep _ _ _ st2 fun b _ o e => by rw [h3]; exact Heap.get?_push_of_some _ e
  have nd : NoD ρ2 D := fun n z => by obtain ⟨v, hv⟩ := rh2.at_ n D z; rw [hDn] at hv; cases hv
  have hz : accF.length ≤ 16777216 := by
    unfold mkD at hm
    split at hm
    · rename_i hh; exact Nat.le_of_ble_eq_true hh
    · cases hm
  refine blk_loop (emit := fun env => (do
        let kv ← eval kx env
        let vv ← holding [kv] (eval vx env)
        standAt { kx.pos with endLine := vx.pos.endLine, endCol := vx.pos.endCol }
        holding [kv, vv] (dictSet D kv vv))) aokD (fokD c.fz) c.fz (fun env => CompE.dct D kx vx _ scope pos rfl) c.hc c.hN c.ok hg ht c.gsok c.hdj c.hown
    (fun Y hY d hd => emitD (by obtain ⟨_, _, _, _, _, rfl⟩ := hY; exact hK) (by obtain ⟨_, _, _, _, _, rfl⟩ := hY; exact hw) (by obtain ⟨_, _, _, _, _, rfl⟩ := hY; exact hu) c.fz (by obtain ⟨_, _, _, _, _, rfl⟩ := hY; exact fun _ _ z => z) (hk Y hY) (hv Y hY) d hd) I3 f3 Tn st3 (rl.ext ex2) (rh_guard rh2 hDn) nd gd
    ⟨[], 0, rfl, .nil, .nil⟩ w2 hf hz fun s' H' F' ρ' o' m I' ex' rh' ar' hn hfp => ?_
  refine hRR D _ s' m H' I' ?_ hn hfp
  obtain ⟨es, ep, rfl, ok', rd'⟩ := ar'
  have nd' : NoD ρ' D := nd.later rh2 ex' rh' (loopG_fz c.fz (evGs_ok c.fz (fokD c.fz) gs).fz _ _ hf)
  have r2 := L2'.back _ _ _ _ ex' (rh_dropL gd nd'.at_ rh')
  have z := mkD_ok (ep := ep) r2 ok' rd' hm (AfterG.later (ex2.trans ex') q) (p := D) L2.delH_same
  rw [upd_del] at z
  have hD1 : H' D = some (DX D es ep) := rh'.g _ _ upd_same
  have : upd H' D (DX D es ep) = H' := by
    funext b
    unfold upd
    split
    · rename_i q; rw [q, hD1]
    · rfl
  rw [this] at z
  exact z
/-- as a value -/
theorem pe_lcN {elt : Expr} {ce : CE} {mu : Bool} (c : CompOk T X R W W0 tg iter ifs gens' scope own ct ci cifs gs) (he : ∀ Y, BlkX X scope Y → PE Y elt (TZ T W0 (R.E ce))) :
    PE X (.ListComp elt (⟨tg, iter, ifs, 0⟩ :: gens') scope pos) (TZ T W (fun l S => orO (evComp R (oneL (R.E ce)) (own.map (·.2)) (.mk ct ci cifs :: gs) l [] S) fun acc S1 => mkL mu acc.reverse S1)) := by
  refine ⟨fun pins s σ H Q I h => ?_⟩
  rw [eval_ListComp]
  refine lcN_core I c he h fun D C s' m H' I' q hn f => ⟨m, hn, fun h'' sb => ?_⟩
  obtain ⟨f0, f1, f2, f3, f4, f5⟩ := f
  exact ⟨.ref D, H', I'.turned (t' := s'.toks) (fun b o hb e => (sb.2 b hb).trans e) f0 f1 f3 f4 f5, rfl, q⟩
theorem pe_dcN {kx vx : Expr} {ck cv : CE} {mu : Bool} (hK : X.K = T.K) (hw : X.w = T.w) (hu : X.A.units + 16 < cLine) (c : CompOk T X R W W0 tg iter ifs gens' scope own ct ci cifs gs) (hk : ∀ Y, BlkX X scope Y → PE Y kx (TZ T W0 (R.E ck))) (hv : ∀ Y, BlkX X scope Y → PE Y vx (TZ T W0 (R.E cv))) :
    PE X (.DictComp kx vx (⟨tg, iter, ifs, 0⟩ :: gens') scope pos) (TZ T W (fun l S => orO (evComp R (oneD (R.E ck) (R.E cv)) (own.map (·.2)) (.mk ct ci cifs :: gs) l [] S) fun acc S1 => mkD mu acc S1)) := by
  refine ⟨fun pins s σ H Q I h => ?_⟩
  rw [arm_eval_DictComp]
  refine dcN_core hK hw hu I c hk hv h fun D C s' m H' I' q hn f => ⟨m, hn, fun h'' sb => ?_⟩
  obtain ⟨f0, f1, f2, f3, f4, f5⟩ := f
  exact ⟨.ref D, H', I'.turned (t' := s'.toks) (fun b o hb e => (sb.2 b hb).trans e) f0 f1 f3 f4 f5, rfl, q⟩
/-- name = a comprehension, on one line -/
theorem ps_setN {i : Nat} {y : Str} {py spos : Pos} {e : Expr} {m : Ev} (hN : X.N.Nodup) (hy : X.N[i]? = some y) (hyl : X.env.scope.names.lookup y = some .local)
    (hsw : swapsWith e (some (.Name y py)) spos.line X.env = pure true)
    (hrun : ∀ {pins : List (Addr × Obj)} {s : Shared} {σ : L2.St} {H : Hp} {Q : VK} {Qf : Value → Shared → Prop}, Inv X pins σ H s → TZ T W m σ H Q →
      (∀ D C s' mm H', Inv X pins σ H' s' → Q (.ref D) H' → s'.heap.Ns C mm → FpOk X pins H' C → compPost (model X.prog X.w) X.A X.xe (some (assign (.Name y py) X.env)) Qf (.ref D) C (.ok .next) s') →
      ∀ st, exec (.Assign [.Name y py] e spos) X.env = st → wpAny (model X.prog X.w) X.A st (fun f s' => f = .next ∧ Qf .none s') X.xe s) :
    PS X (.Assign [.Name y py] e spos) (TZS T W (sAsg R (.nm i) m)) := by
  refine ⟨fun pins s σ H D I h => ?_⟩
  obtain ⟨F, G, ρ, l, S, o, rl, rh, ev, q⟩ := h
  have h : TZ T W m σ H (fun x H1 => gName i x σ H1 D.nx) := by
    refine ts_ok rl rh ev q fun v S1 F1 ρ1 x H1 e1 ex1 rl1 rh1 r1 h1 => ?_
    have e1 : some (OutS.ok .nx (setL (some v) l i) S1) = some o := e1
    cases e1
    exact h1 _ _ _ _ Ext.refl (rl1.set r1) rh1
  refine thn (hrun (Qf := fun _ s' => SP X pins D .next s') I h (fun L C s' mm H' I' q hn f => ?_) _ rfl) fun f s' ⟨hf, hq⟩ => by rw [hf]; exact hq
  show wpAny _ _ (assign (.Name y py) X.env (.ref L)) _ _ _
  refine wpAny_assign_Name (store_ok2 (v := V.ref L) I' hN hy (.inl hyl) rfl (fun s2 I2 ⟨a, sb, ha⟩ => ?_) (.inr hyl))
  obtain ⟨f0, f1, f2, f3, f4, f5⟩ := f
  have haC : C ≠ a := by
    rcases ha with z | z
    · rw [z]; exact f1
    · exact fun e => f4 y a z e.symm
  refine ⟨mm, hn.sameBut sb haC, fun h3 sb3 => ?_⟩
  exact ⟨_, H', I2.turned (t' := s2.toks) (fun b o hb e => (sb3.2 b hb).trans e) f0 f1 f3 f4 f5, q⟩
theorem ps_setLcN {i : Nat} {y : Str} {py spos : Pos} {elt : Expr} {ce : CE} {mu : Bool} (hy : X.N[i]? = some y) (hyl : X.env.scope.names.lookup y = some .local)
    (hsw : swapsWith (.ListComp elt (⟨tg, iter, ifs, 0⟩ :: gens') scope pos) (some (.Name y py)) spos.line X.env = pure true)
    (c : CompOk T X R W W0 tg iter ifs gens' scope own ct ci cifs gs) (he : ∀ Y, BlkX X scope Y → PE Y elt (TZ T W0 (R.E ce))) :
    PS X (.Assign [.Name y py] (.ListComp elt (⟨tg, iter, ifs, 0⟩ :: gens') scope pos) spos) (TZS T W (sAsg R (.nm i) (fun l S => orO (evComp R (oneL (R.E ce)) (own.map (·.2)) (.mk ct ci cifs :: gs) l [] S) fun acc S1 => mkL mu acc.reverse S1))) :=
  ps_setN c.hN hy hyl hsw fun {pins s σ H Q Qf} I h hRR st hst => by
    rw [← hst, exec_Assign_Name_used _ _ _ _ hsw]
    refine wpAny_bind (wpAny_standAt (wpAny_bind ?_))
    show wpAny _ X.A (do let _ ← comprehension (.ListComp elt (⟨tg, iter, ifs, 0⟩ :: gens') scope pos) scope X.env (firstIterPos (⟨tg, iter, ifs, 0⟩ :: gens') pos) (newList []) false (eval iter X.env) (some (assign (.Name y py) X.env))) _ _ s
    exact wpAny_bind (thn (lcN_core (Qf := fun _ s' => Qf .none s') I c he h hRR) fun _ s' hq => wpAny_pure (wpAny_pure ⟨rfl, hq⟩))
theorem ps_setDcN {i : Nat} {y : Str} {py spos : Pos} {kx vx : Expr} {ck cv : CE} {mu : Bool} (hK : X.K = T.K) (hw : X.w = T.w) (hu : X.A.units + 16 < cLine) (hy : X.N[i]? = some y) (hyl : X.env.scope.names.lookup y = some .local)
    (hsw : swapsWith (.DictComp kx vx (⟨tg, iter, ifs, 0⟩ :: gens') scope pos) (some (.Name y py)) spos.line X.env = pure true)
    (c : CompOk T X R W W0 tg iter ifs gens' scope own ct ci cifs gs) (hk : ∀ Y, BlkX X scope Y → PE Y kx (TZ T W0 (R.E ck))) (hv : ∀ Y, BlkX X scope Y → PE Y vx (TZ T W0 (R.E cv))) :
    PS X (.Assign [.Name y py] (.DictComp kx vx (⟨tg, iter, ifs, 0⟩ :: gens') scope pos) spos) (TZS T W (sAsg R (.nm i) (fun l S => orO (evComp R (oneD (R.E ck) (R.E cv)) (own.map (·.2)) (.mk ct ci cifs :: gs) l [] S) fun acc S1 => mkD mu acc S1))) :=
  ps_setN c.hN hy hyl hsw fun {pins s σ H Q Qf} I h hRR st hst => by
    rw [← hst, exec_Assign_Name_used _ _ _ _ hsw]
    refine wpAny_bind (wpAny_standAt (wpAny_bind ?_))
    show wpAny _ X.A (do let _ ← comprehension (.DictComp kx vx (⟨tg, iter, ifs, 0⟩ :: gens') scope pos) scope X.env (firstIterPos (⟨tg, iter, ifs, 0⟩ :: gens') pos) newDict false (eval iter X.env) (some (assign (.Name y py) X.env))) _ _ s
    exact wpAny_bind (thn (dcN_core (Qf := fun _ s' => Qf .none s') hK hw hu I c hk hv h hRR) fun _ s' hq => wpAny_pure (wpAny_pure ⟨rfl, hq⟩))
end
end Z

set_option Elab.async false
set_option linter.all false
set_option maxRecDepth 100000
set_option maxHeartbeats 2000000
/-! ZK: calls of defs. -/
namespace Z
open PySem PySem.Spec PyProof.Rows L2
section
variable {T : Top} {X : Cx} {W : WX} {e : Expr} {es : List Expr} {pos : Pos}
variable (T) in
/-- what a def promises -/
def spZ (np : Nat) (m : List PV → LH → Option (Out PV)) : Sp := fun vs H Q E => ∃ F G ρ S pvs o, RH T F G ρ S H ∧ Reps T F ρ pvs vs ∧ pvs.length = np ∧ m pvs S = some o ∧ AfterG T (Rep T) (fun cls d _ H' => E cls d H') F G ρ ([] : L2.St) o Q
theorem pe_callZ {f : Addr} {fd : FuncData} {ps : List Str} {k np : Nat} {x : Str} {p : Pos} {m : List PV → LH → Option (Out PV)} {ms : Evs} (F : FnOk X.prog X.w X.K X.mg X.base (L2.CX X.prog X.w) k f fd ps (spZ T np m)) (hnp : ∀ vs S o, m vs S = some o → vs.length = np)
    (tk : Takes X W) (hr : Room k X.A) (hg : Gl X x) (hm : X.mg x = some (.ref f)) (hk : PySem.W.keepIn X.K (.ref f) = true) (hb : Binds X.K fd ps [])
    (ha : PA X (e :: es) (TZs T W ms)) (hdb : (x == ("__debug__" : Str)) = false) (ns : noStars (e :: es) = true) :
    PE X (.Call (.Name x p) (e :: es) [] pos) (TZ T W (eCall m ms)) := by
  have h0 := ns
  unfold noStars at h0
  rw [List.all_cons, Bool.and_eq_true] at h0
  refine PE.imp (pe_callSD (dvs := []) (E := fun σ cls d H => W cls d σ H) F hr hg hm hk hb .nil (fun σ => passAt tk σ) ha hdb (starEach_plain h0.1) (backTo_plain h0.2)) fun σ H Q q => ?_
  obtain ⟨F, G, ρ, l, S, o, rl, rh, e, q⟩ := q
  refine tz_ok rl rh e q fun vs S1 F1 ρ1 xs H1 e1 ex1 rl1 rh1 r1 h1 => ?_
  rw [List.append_nil]
  refine ⟨F1, G, ρ1, S1, vs, o, rh1, r1, hnp _ _ _ e1, e1, ?_⟩
  cases o with
  | ok v S' => exact h1
  | exn c fs S' => exact h1
/-! ### what does not hang on where our objects stand -/
theorem key_free {F F2 : Hp} {ρ ρ2 : Rho} (hF : ∀ a o, F a = some o → F2 a = some o) : ∀ (n : Nat) {k : PV} {x : V}, isKeyN n k = true → Rep T F ρ k x → Rep T F2 ρ2 k x := by
  intro n
  induction n with
  | zero => intro k x h; cases h
  | succ n ih =>
    intro k x h r
    cases r with
    | non => exact .non
    | int i => exact .int i
    | str s hs => exact .str s hs
    | @tup a ys xs ht rr =>
      have h' : xs.all (isKeyN n) = true := h
      refine .tup (tupF_mono hF ht) ?_
      have go : ∀ (xs : List PV) (ys : List V), xs.all (isKeyN n) = true → Reps T F ρ xs ys → Reps T F2 ρ2 xs ys := by
        intro xs
        induction xs with
        | nil => intro ys _ q; cases q; exact .nil
        | cons x xs ihx =>
          intro ys q1 q2
          rw [List.all_cons, Bool.and_eq_true] at q1
          cases q2 with
          | cons h1 r1 => exact .cons (ih q1.1 h1) (ihx _ q1.2 r1)
      exact go _ _ h' rr
    | bl b => cases h
    | lst h1 r1 => cases h
    | dct h1 ok r1 => cases h
    | loc h1 => cases h
    | fn k => cases h
mutual
theorem pure_free {F F2 : Hp} {ρ ρ2 : Rho} (hF : ∀ a o, F a = some o → F2 a = some o) : ∀ {v : PV} {x : V}, pureV v = true → Rep T F ρ v x → Rep T F2 ρ2 v x
  | _, _, _, .non => .non
  | _, _, _, .bl b => .bl b
  | _, _, _, .int i => .int i
  | _, _, _, .str s h => .str s h
  | _, _, p, .tup h r => .tup (tupF_mono hF h) (pures_free hF p r)
  | _, _, p, .lst h r => .lst (hF _ _ h) (pures_free hF p r)
  | _, _, p, .dct h ok r => .dct (hF _ _ h) ok (pureD_free hF (fun q hq => ok.key q hq) p r)
  | _, _, p, .loc h => by cases p
  | _, _, _, .fn k => .fn k
theorem pures_free {F F2 : Hp} {ρ ρ2 : Rho} (hF : ∀ a o, F a = some o → F2 a = some o) : ∀ {v : List PV} {x : List V}, pureVs v = true → Reps T F ρ v x → Reps T F2 ρ2 v x
  | _, _, _, .nil => .nil
  | a :: _, _ :: _, p, .cons h r => by
    unfold pureVs at p
    split at p
    · rename_i q; exact .cons (pure_free hF q h) (pures_free hF p r)
    · cases p
theorem pureD_free {F F2 : Hp} {ρ ρ2 : Rho} (hF : ∀ a o, F a = some o → F2 a = some o) : ∀ {v : List (PV × PV)} {x : List DictEntry}, (∀ q ∈ v, isKey q.1 = true) → pureKs v = true → RepD T F ρ v x → RepD T F2 ρ2 v x
  | _, _, _, _, .nil => .nil
  | (a, b) :: _, _ :: _, hk, p, .cons h1 h2 h3 h4 h5 r => by
    unfold pureKs at p
    split at p
    · rename_i q
      have q' : pureV b = true := q
      exact .cons (key_free hF 8 (hk _ List.mem_cons_self) h1) h2 h3 (pure_free hF q' h4) h5 (pureD_free hF (fun q hq => hk q (List.mem_cons_of_mem _ hq)) p r)
    · cases p
end
theorem isKey_pureN : ∀ (n : Nat) {k : PV}, isKeyN n k = true → pureV k = true := by
  intro n
  induction n with
  | zero => intro k h; cases h
  | succ n ih =>
    intro k h
    cases k with
    | tup xs =>
      have h' : xs.all (isKeyN n) = true := h
      show pureVs xs = true
      clear h
      induction xs with
      | nil => rfl
      | cons x xs ihx =>
        rw [List.all_cons, Bool.and_eq_true] at h'
        unfold pureVs
        rw [if_pos (ih h'.1)]
        exact ihx h'.2
    | _ => first | rfl | cases h
/-! ### frozen on the way out -/
theorem DOk.same {kvs kvs' : List (PV × PV)} (h : kvs'.map (·.1) = kvs.map (·.1)) (d : DOk kvs) : DOk kvs' := by
  have mem : ∀ p ∈ kvs', ∃ q ∈ kvs, q.1 = p.1 := fun p hp => by
    have : p.1 ∈ kvs.map (·.1) := by rw [← h]; exact List.mem_map_of_mem hp
    obtain ⟨q, h1, h2⟩ := List.mem_map.mp this
    exact ⟨q, h1, h2⟩
  refine ⟨fun p hp => ?_, fun p hp q hq => ?_, ?_, ?_⟩
  · obtain ⟨q, h1, h2⟩ := mem p hp
    rw [← h2]; exact d.key q h1
  · obtain ⟨p', h1, h2⟩ := mem p hp
    obtain ⟨q', h3, h4⟩ := mem q hq
    rw [← h2, ← h4]; exact d.sort p' h1 q' h3
  · have z : (kvs.map (·.1)).Pairwise fun a b => eqk a b = false := List.pairwise_map.mpr d.nd
    rw [← h] at z
    exact List.pairwise_map.mp z
  · have := congrArg List.length h
    simp only [List.length_map] at this
    rw [this]; exact d.len
theorem mapO_keys {f : PV → Option PV} : ∀ {kvs kvs' : List (PV × PV)}, mapO (fun p : PV × PV => match f p.2 with | some w => some (p.1, w) | none => none) kvs = some kvs' → kvs'.map (·.1) = kvs.map (·.1)
  | [], kvs', h => by cases h; rfl
  | (k, v) :: r, kvs', h => by
    unfold mapO at h
    split at h
    · cases h
    · rename_i b hb
      split at h
      · cases h
      · rename_i bs hbs
        cases h
        have hb' : (match f v with | some w => some (k, w) | none => none) = some b := hb
        split at hb'
        · cases hb'
          rw [List.map_cons, List.map_cons, mapO_keys hbs]
        · cases hb'
theorem mapO_reps {F F2 : Hp} {ρ ρ2 : Rho} {f : PV → Option PV} (hf : ∀ v w x, f v = some w → Rep T F ρ v x → Rep T F2 ρ2 w x) : ∀ {xs ws : List PV} {ys : List V}, mapO f xs = some ws → Reps T F ρ xs ys → Reps T F2 ρ2 ws ys
  | [], ws, ys, h, r => by cases h; cases r; exact .nil
  | v :: xs, ws, ys, h, r => by
    unfold mapO at h
    split at h
    · cases h
    · rename_i b hb
      split at h
      · cases h
      · rename_i bs hbs
        cases h
        cases r with
        | cons h1 r1 => exact .cons (hf _ _ _ hb h1) (mapO_reps hf hbs r1)
theorem mapO_repD {F F2 : Hp} {ρ ρ2 : Rho} {f : PV → Option PV} (hF : ∀ a o, F a = some o → F2 a = some o) (hf : ∀ v w x, f v = some w → Rep T F ρ v x → Rep T F2 ρ2 w x) : ∀ {kvs kvs' : List (PV × PV)} {es : List DictEntry}, (∀ q ∈ kvs, isKey q.1 = true) →
    mapO (fun p : PV × PV => match f p.2 with | some w => some (p.1, w) | none => none) kvs = some kvs' → RepD T F ρ kvs es → RepD T F2 ρ2 kvs' es
  | [], kvs', es, _, h, r => by cases h; cases r; exact .nil
  | (k, v) :: kvs, kvs', es, hk, h, r => by
    unfold mapO at h
    split at h
    · cases h
    · rename_i b hb
      split at h
      · cases h
      · rename_i bs hbs
        cases h
        have hb' : (match f v with | some w => some (k, w) | none => none) = some b := hb
        split at hb'
        · rename_i w hw
          cases hb'
          cases r with
          | cons h1 h2 h3 h4 h5 r1 => exact .cons (key_free hF 8 (hk _ List.mem_cons_self) h1) h2 h3 (hf _ _ _ hw h4) h5 (mapO_repD hF hf (fun q hq => hk q (List.mem_cons_of_mem _ hq)) hbs r1)
        · cases hb'
variable (T) in
/-- of the callee's frozen things and its own objects: all frozen -/
def frzF (F' G' H' : Hp) : Hp := fun a => match F' a with
  | some o => some o
  | none => if G' a = none ∧ a ∉ T.tabs.map (·.1) then H' a else none
theorem frzF_sub {F' G' H' : Hp} : ∀ a o, F' a = some o → frzF T F' G' H' a = some o := fun a o h => by unfold frzF; rw [h]
theorem tab_is {F G H : Hp} (t : TbOk T F G H) {a : Addr} (h : a ∈ T.tabs.map (·.1)) : ∃ ps, H a = some (.tbl ps) ∧ F a = none ∧ G a = none := by
  obtain ⟨p, hp, rfl⟩ := List.mem_map.mp h
  obtain ⟨ps, h1, h2, h3, _⟩ := t p hp
  exact ⟨ps, h1, h2, h3⟩
theorem frz_rep {F' G' : Hp} {ρ' ρ : Rho} {S' : LH} {H' : Hp} (r : RH T F' G' ρ' S' H') : ∀ (n : Nat) (v w : PV) (x : V), frzV S' n v = some w → Rep T F' ρ' v x → Rep T (frzF T F' G' H') ρ w x := by
  intro n
  induction n with
  | zero => intro v w x h; cases h
  | succ n ih =>
    intro v w x h rv
    have mp := fun {xs ws : List PV} {ys : List V} => mapO_reps (T := T) (F := F') (F2 := frzF T F' G' H') (ρ := ρ') (ρ2 := ρ) (f := frzV S' n) ih (xs := xs) (ws := ws) (ys := ys)
    have mpD := fun {kvs kvs' : List (PV × PV)} {es : List DictEntry} => mapO_repD (T := T) (F := F') (F2 := frzF T F' G' H') (ρ := ρ') (ρ2 := ρ) (f := frzV S' n) frzF_sub ih (kvs := kvs) (kvs' := kvs') (es := es)
    cases rv with
    | non => cases h; exact .non
    | bl b => cases h; exact .bl b
    | int i => cases h; exact .int i
    | str s hs => cases h; exact .str s hs
    | fn k => cases h; exact .fn k
    | tup ht rr =>
      unfold frzV at h
      dsimp only at h
      split at h
      · rename_i ys hy
        cases h
        exact .tup (tupF_mono frzF_sub ht) (mp hy rr)
      · cases h
    | lst ht rr =>
      unfold frzV at h
      dsimp only at h
      split at h
      · rename_i ys hy
        cases h
        exact .lst (frzF_sub _ _ ht) (mp hy rr)
      · cases h
    | dct ht ok rr =>
      unfold frzV at h
      dsimp only at h
      split at h
      · rename_i ys hy
        cases h
        exact .dct (frzF_sub _ _ ht) (ok.same (mapO_keys hy)) (mpD ok.key hy rr)
      · cases h
    | @loc m a hr =>
      unfold frzV at h
      dsimp only at h
      unfold LH.live at h
      cases hc : getC m S'.cells with
      | none => rw [hc] at h; cases h
      | some c =>
        rw [hc] at h
        obtain ⟨a', o, h1, h2, h3, h4, h5⟩ := r.c m c hc
        rw [hr] at h1; cases h1
        have hF2 : frzF T F' G' H' a = some o := by
          unfold frzF
          rw [h2]
          dsimp only
          rw [if_pos ⟨h3, fun z => by obtain ⟨ps, q, _, _⟩ := tab_is r.tb z; rw [h4] at q; exact h5.no_tbl ps (Option.some.inj q)⟩]
          exact h4
        cases c with
        | lst xs =>
          dsimp only at h
          obtain ⟨ys, rfl, rr⟩ := h5
          split at h
          · rename_i zs hz
            cases h
            exact .lst hF2 (mp hz rr)
          · cases h
        | dct kvs =>
          dsimp only at h
          obtain ⟨es, ep, rfl, ok, rr⟩ := h5
          split at h
          · rename_i zs hz
            cases h
            exact .dct hF2 (ok.same (mapO_keys hz)) (mpD ok.key hz rr)
          · cases h
end
end Z

set_option Elab.async false
set_option linter.all false
set_option maxRecDepth 100000
set_option maxHeartbeats 2000000
/-! ZK2: a def keeps its promise. -/
namespace Z
open PySem PySem.Spec PyProof.Rows L2
section
variable {T : Top}
/-- all but the frozen and the tables is guarded -/
def restG (T : Top) (F H : Hp) : Hp := fun a => if F a = none ∧ a ∉ T.tabs.map (·.1) then H a else none
theorem rest_rh {F G : Hp} {ρ : Rho} {S : LH} {H : Hp} (r : RH T F G ρ S H) : RH T F (restG T F H) (fun _ => none) LH.empty H := by
  refine ⟨r.f, fun a o e => ?_, fun a o e => ?_, fun n c e => (by cases e), fun n c e1 e2 => (by cases e2), fun n m a h => (by cases h), fun n a h => (by cases h), fun _ _ => rfl, fun p hp => ?_⟩
  · unfold restG at e
    split at e
    · exact e
    · cases e
  · unfold restG
    rw [if_neg (fun z => by rw [z.1] at e; cases e)]
  · obtain ⟨ps, h1, h2, h3, h4, h5⟩ := r.tb p hp
    refine ⟨ps, h1, h2, ?_, h4, h5⟩
    unfold restG
    rw [if_neg (fun z => z.2 (List.mem_map_of_mem hp))]
theorem rest_back {F G F' : Hp} {ρ ρ' : Rho} {S S' : LH} {H H' : Hp} (r : RH T F G ρ S H) (r' : RH T F' (restG T F H) ρ' S' H') (e : ∀ a o, F a = some o → F' a = some o) :
    RH T (frzF T F' (restG T F H) H') G ρ S H' ∧ Ext F ρ (frzF T F' (restG T F H) H') ρ := by
  have ex : Ext F ρ (frzF T F' (restG T F H) H') ρ := ⟨fun a o h => frzF_sub a o (e a o h), fun _ _ h => h⟩
  have nt : ∀ a o, H a = some o → (∀ ps, o ≠ .tbl ps) → a ∉ T.tabs.map (·.1) := fun a o h n z => by
    obtain ⟨ps, q, _, _⟩ := tab_is r.tb z
    rw [h] at q
    exact n ps (Option.some.inj q)
  have ng : ∀ a o, G a = some o → a ∉ T.tabs.map (·.1) := fun a o h z => by
    obtain ⟨ps, _, _, q⟩ := tab_is r.tb z
    rw [h] at q; cases q
  have fnone : ∀ a o, G a = some o → F a = none := fun a o h => by
    cases q : F a with
    | none => rfl
    | some u => rw [r.fg a u q] at h; cases h
  have gat : ∀ a o, G a = some o → restG T F H a = some o := fun a o h => by
    unfold restG
    rw [if_pos ⟨fnone a o h, ng a o h⟩]
    exact r.g a o h
  have cat : ∀ a o, F a = none → H a = some o → (∀ ps, o ≠ .tbl ps) → restG T F H a = some o := fun a o h1 h2 h3 => by
    unfold restG
    rw [if_pos ⟨h1, nt a o h2 h3⟩]
    exact h2
  have f'none : ∀ a o, restG T F H a = some o → F' a = none := fun a o h => by
    cases q : F' a with
    | none => rfl
    | some u => rw [r'.fg a u q] at h; cases h
  have frz_none : ∀ a o, restG T F H a = some o → frzF T F' (restG T F H) H' a = none := fun a o h => by
    unfold frzF
    rw [f'none a o h]
    dsimp only
    rw [if_neg (fun z => by rw [z.1] at h; cases h)]
  refine ⟨⟨fun a o h => ?_, fun a o h => r'.g a o (gat a o h), fun a o h => ?_, fun n c h => ?_, fun n c h1 h2 => ?_, r.inj, r.dom, r.nx, fun p hp => ?_⟩, ex⟩
  · unfold frzF at h
    split at h
    · rename_i u hu
      cases h
      exact r'.f a _ hu
    · split at h
      · exact h
      · cases h
  · cases q : G a with
    | none => rfl
    | some u => rw [frz_none a u (gat a u q)] at h; cases h
  · obtain ⟨a, o, h1, h2, h3, h4, h5⟩ := r.c n c h
    have hg := cat a o h2 h4 h5.no_tbl
    exact ⟨a, o, h1, frz_none a o hg, h3, r'.g a o hg, h5.ext ex⟩
  · obtain ⟨a, o, g1, g2, g3⟩ := r.z n c h1 h2
    exact ⟨a, o, g1, g2, g3.ext ex⟩
  · obtain ⟨ps, h1, h2, h3, h4, h5⟩ := r'.tb p hp
    obtain ⟨_, _, _, g3, _⟩ := r.tb p hp
    refine ⟨ps, h1, ?_, g3, h4, fun pos cv hc => let ⟨c, e1, e2⟩ := h5 pos cv hc; ⟨c, e1, frzF_sub _ _ e2⟩⟩
    unfold frzF
    rw [h2]
    dsimp only
    rw [if_neg (fun z => z.2 (List.mem_map_of_mem hp))]
theorem nth_start {n : Nat} {vs : List PV} {i : Nat} {v : PV} (h : nth (startL n vs) i = some (some v)) : vs[i]? = some v := by
  unfold startL at h
  rw [nth_get] at h
  by_cases hi : i < vs.length
  · rw [List.getElem?_append_left (by simpa using hi)] at h
    simpa using h
  · rw [List.getElem?_append_right (by simpa using Nat.le_of_not_lt hi)] at h
    rw [List.getElem?_replicate] at h
    split at h
    · cases h
    · cases h
theorem rl_start {F : Hp} {ρ : Rho} {N : List Str} {pvs : List PV} {vs : List V} (r : Reps T F ρ pvs vs) (n : Nat) (hn : n = N.length) : RL T F ρ (startL n pvs) (L2.start N vs) := by
  have hl := r.length
  refine ⟨fun i v h => ?_, ?_⟩
  · have hv := nth_start h
    obtain ⟨x, h1, h2⟩ := reps_get' r (by rw [nth_get]; exact hv)
    refine ⟨x, ?_, h2⟩
    unfold L2.start
    rw [List.getElem?_append_left (by rw [List.length_map]; exact (List.getElem?_eq_some_iff.mp h1).1)]
    rw [List.getElem?_map, h1]
    rfl
  · subst hn
    simp [startL, L2.start, hl]
theorem retOf_inv {x : Option OutS} {o : Out PV} (h : retOf x = some o) : (∃ v l S, x = some (.ok (.rt v) l S) ∧ o = .ok v S) ∨ (∃ l S, x = some (.ok .nx l S) ∧ o = .ok .non S) ∨ ∃ c fs l S, x = some (.exn c fs l S) ∧ o = .exn c fs S := by
  cases x with
  | none => cases h
  | some y =>
    cases y with
    | ok f l S =>
      cases f with
      | nx => cases h; exact .inr (.inl ⟨_, _, rfl, rfl⟩)
      | bk => cases h
      | ct => cases h
      | rt v => cases h; exact .inl ⟨_, _, _, rfl, rfl⟩
    | exn c fs l S => cases h; exact .inr (.inr ⟨_, _, _, _, rfl, rfl⟩)
/-- what a body leaves, read as a def's end -/
theorem ends_of {F G : Hp} {ρ : Rho} {x : OutS} {o : Out PV} {Q : VK} {E : XK} (h : retOf (some x) = some o) (q : AfterG T (Rep T) (fun cls d _ H' => E cls d H') F G ρ ([] : L2.St) o Q) :
    AfterS T (fun cls d _ H => E cls d H) F G ρ x { nx := fun _ H' => Q .non H', rt := Q } := by
  rcases retOf_inv h with ⟨v, l, S, e, rfl⟩ | ⟨l, S, e, rfl⟩ | ⟨c, fs, l, S, e, rfl⟩ <;> cases e
  · exact fun F' ρ' x H' ex rh r => q F' ρ' x H' ex rh r
  · exact fun F' ρ' σ' H' ex rl rh => q F' ρ' .non H' ex rh .non
  · exact fun F' ρ' cls d σ' H' ex rl rh x => q F' ρ' cls d H' ex rh x
theorem mapO_of {f : PV → Option PV} {F F2 : Hp} {ρ ρ2 : Rho} (hf : ∀ v w x, f v = some w → Rep T F ρ v x → Rep T F2 ρ2 w x) {xs ws : List PV} {ys : List V} (h : mapO f xs = some ws) (r : Reps T F ρ xs ys) : Reps T F2 ρ2 ws ys := mapO_reps hf h r
/-- a def's step -/
theorem stepF_inv {P : Prog} {R : Rc} {g : Nat} {vs : List PV} {S : LH} {o : Out PV} {cf : CFn} (hn : nth P.fns g = some cf) (h : stepF P R g vs S = some o) : vs.length = cf.np ∧
    ((pureVs vs = true ∧ ∃ o1, retOf (evSs R cf.body (startL cf.ns vs) LH.empty) = some o1 ∧ ((∃ v S1 w, o1 = .ok v S1 ∧ (if pureV v then some v else frzV S1 12 v) = some w ∧ o = .ok w S) ∨
        ∃ c fs S1 ws, o1 = .exn c fs S1 ∧ mapO (fun v => if pureV v then some v else frzV S1 12 v) fs = some ws ∧ o = .exn c ws S)) ∨
      retOf (evSs R cf.body (startL cf.ns vs) S) = some o) := by
  unfold stepF at h
  rw [hn] at h
  dsimp only at h
  split at h
  · rename_i hl
    refine ⟨Nat.eq_of_beq_eq_true hl, ?_⟩
    split at h
    · rename_i hp
      refine .inl ⟨hp, ?_⟩
      split at h
      · rename_i v S1 h1
        split at h
        · rename_i w hw
          cases h
          exact ⟨_, h1, .inl ⟨v, S1, w, rfl, hw, rfl⟩⟩
        · cases h
      · rename_i c fs S1 h1
        split at h
        · rename_i ws hw
          cases h
          exact ⟨_, h1, .inr ⟨c, fs, S1, ws, rfl, hw, rfl⟩⟩
        · cases h
      · cases h
    · exact .inr h
  · cases h
theorem fnZ {P : Prog} {n : Nat} {prog : Program} {base : Heap} {mg : Str → Option Value} {f : Addr} {name qual : Str} {params : Arguments} {body : List Stmt} {scope : Scope} {dV kV doc pm cdv ct oc : Value} {an od : Option Addr} {osl : Array (Option Value)} {N ps : List Str} {g : Nat} {cf : CFn}
    (lk : T.K.lookup f = some ⟨oc, od, .func (PySem.W.fnOf name qual params body scope dV kV doc pm an cdv ct), osl⟩) (hcd : PySem.W.codeIn T.K cdv qual = true) (Sc : FnScope N ps scope) (hn : nth P.fns g = some cf) (hnp : cf.np = ps.length) (hns : cf.ns = N.length)
    (hbody : ∀ (A : Around) (outer : List Env) (s : Shared) (H : Hp) (E : XK), Room n (A.deeper (envOfC qual scope s.heap.objs.size f cdv)) →
      PSs (cxOf (L2.CX prog T.w) prog T.w T.K mg base N qual scope f cdv A outer s H E) body (TZS T (fun cls d _ H => E cls d H) (evSs (run P n) cf.body))) :
    FnOk prog T.w T.K mg base (L2.CX prog T.w) (n + 1) f (PySem.W.fnOf name qual params body scope dV kV doc pm an cdv ct) ps (spZ T cf.np ((run P (n + 1)).F g)) := by
  refine fn_of lk hcd Sc (fun vs H Q E ⟨F, G, ρ, S, pvs, o, rh, r, hl, _⟩ => by rw [← r.length, hl, hnp]) fun A outer s H vs Q E hr hsp => ⟨_, hbody A outer s H E hr, ?_⟩
  obtain ⟨F, G, ρ, S, pvs, o, rh, r, hl, e, q⟩ := hsp
  obtain ⟨_, ⟨hp, o1, h1, h2⟩ | h1⟩ := stepF_inv hn (show stepF P (run P n) g pvs S = some o from e)
  · have rp : Reps T F (fun _ => none) pvs vs := pures_free (fun _ _ h => h) hp r
    cases hb : evSs (run P n) cf.body (startL cf.ns pvs) LH.empty with
    | none => rw [hb] at h1; cases h1
    | some x =>
      rw [hb] at h1
      refine ⟨F, restG T F H, fun _ => none, _, LH.empty, x, rl_start rp _ hns, rest_rh rh, hb, ?_⟩
      rcases h2 with ⟨v, S1, w, rfl, hw, rfl⟩ | ⟨c, fs, S1, ws, rfl, hw, rfl⟩
      · refine ends_of h1 fun F' ρ' x' H' ex' rh' r' => ?_
        obtain ⟨b1, b2⟩ := rest_back rh rh' ex'.f
        refine q _ ρ x' H' b2 b1 ?_
        split at hw
        · rename_i hpv
          cases hw
          exact pure_free frzF_sub hpv r'
        · exact frz_rep rh' 12 v w x' hw r'
      · refine ends_of h1 fun F' ρ' cls d H' ex' rh' x' => ?_
        obtain ⟨b1, b2⟩ := rest_back rh rh' ex'.f
        refine q _ ρ cls d H' b2 b1 ?_
        obtain ⟨x0, x1, d0, ys, x2, x3, x4⟩ := x'
        refine ⟨x0, x1, d0, ys, x2, mapO_reps (fun v w x hv rv => ?_) hw x3, frzF_sub _ _ x4⟩
        have hv : (if pureV v then some v else frzV S1 12 v) = some w := hv
        split at hv
        · rename_i hpv
          cases hv
          exact pure_free frzF_sub hpv rv
        · exact frz_rep rh' 12 v w x hv rv
  · cases hb : evSs (run P n) cf.body (startL cf.ns pvs) S with
    | none => rw [hb] at h1; cases h1
    | some x =>
      rw [hb] at h1
      exact ⟨F, G, ρ, _, S, x, rl_start r _ hns, rh, hb, ends_of h1 q⟩
end
end Z

set_option Elab.async false
set_option linter.all false
set_option maxRecDepth 100000
set_option maxHeartbeats 2000000
/-! ZX: raise, try. -/
namespace Z
open PySem PySem.Spec PyProof.Rows L2
section
variable {T : Top} {X : Cx} {W : WX} {e : Expr} {es : List Expr} {pos : Pos}
/-- an error's class as its making wants it -/
structure MkOk (T : Top) (prog : Program) (base : Heap) (mg : Str → Option Value) (x : Str) (c : Nat) (k : Nat) : Prop where
  lt : c < T.nc
  ox : OexC T.K (T.ca c)
  hm : mg x = some (.ref (T.ca c))
  ex : ∃ (fI : Addr) (fd : FuncData) (self p fld : Str), PySem.W.findIn T.K (.ref (T.ca c)) "__init__" = some (some (.ref fI)) ∧ PySem.W.typeIn T.K (.ref fI) = some (.type "function") ∧ T.fl c = [fld] ∧
    Binds T.K fd [self, p] [] ∧ FnOk prog T.w T.K mg base (L2.CX prog T.w) k fI fd [self, p] (spI (T.ca c) fld)
theorem del_back {H1 : Hp} {a d : Addr} {o1 o2 o3 : HO} (h : H1 a = none) (hd : d ≠ a) {u : HO} : upd (del (upd (upd (upd H1 a o1) d o2) a o3) a) d u = upd H1 d u := by
  funext b
  by_cases q : b = d
  · subst q; rw [upd_same, upd_same]
  · rw [upd_ne q, upd_ne q]
    by_cases z : b = a
    · subst z; rw [del_same, h]
    · rw [del_ne z, upd_ne z, upd_ne q, upd_ne z]
def isStar : CE → Bool
  | .star _ => true
  | _ => false
theorem evEs_one {R : Rc} {ce : CE} (h : isStar ce = false) (l : Loc) (S : LH) : evEs R [ce] l S = orO (R.E ce l S) fun v S1 => some (.ok [v] S1) := by
  cases ce <;> first
    | rfl
    | cases h
/-- raise X(e) -/
theorem ps_raiseZ {R : Rc} {c k : Nat} {x : Str} {ce : CE} {p cpos : Pos} (hK : X.K = T.K) (hw : X.w = T.w) (hc : X.calm = true) (tk : Takes X W) (M : MkOk T X.prog X.base X.mg x c k) (hr : Room (k + 1) X.A) (hg : Gl X x) (hdb : (x == ("__debug__" : Str)) = false)
    (ns : noStar e = true) (nc : isStar ce = false) (he : PE X e (TZ T W (R.E ce))) : PS X (.Raise (some (.Call (.Name x p) [e] [] cpos)) none pos) (TZS T W (sRaise c (evEs R [ce]))) := by
  obtain ⟨fI, fd, self, pp, fld, h1, h2, h3, h4, h5⟩ := M.ex
  rw [← hK, ← hw] at h5
  refine PS.imp (ps_raise hc tk (pmk_oex (hK ▸ M.ox : OexC X.K (T.ca c)) (hK ▸ h1) (hK ▸ h2) h5 hr (hK ▸ h4) .nil (passes_call tk fun _ _ _ _ z => z.elim) hg M.hm (pa_cons he pa_nil (starEach_plain ns)) hdb (starEach_plain ns) (backTo_plain rfl))) fun D σ H q => ?_
  obtain ⟨F, G, ρ, l, S, o, rl, rh, e, q⟩ := q
  have e : toS l (orO (R.E ce l S) fun v S1 => some (.ok [v] S1)) (fun vs S1 => some (OutS.exn c vs l S1)) = some o := by rw [← evEs_one nc]; exact e
  have e : toS l (R.E ce l S) (fun v S1 => some (OutS.exn c [v] l S1)) = some o := by
    rw [← e]
    cases R.E ce l S with
    | none => rfl
    | some z => cases z <;> rfl
  refine ts_ok rl rh e q fun v S1 F1 ρ1 y H1 e1 ex1 rl1 rh1 r1 hq => ?_
  cases e1
  refine ⟨by simp, fun a ha => ⟨a, y, rfl, upd_same, fun d hd hne => ⟨rfl, d, [(fld, y)], upd_same, ?_, ?_, ?_⟩⟩⟩
  · rw [upd_ne hne, upd_same]
  · rw [upd_ne hne] at hd; exact hd
  · have hd1 : H1 d = none := by rw [upd_ne hne] at hd; exact hd
    rw [del_back ha hne]
    have exn := ext_new (ρ := ρ1) (p := d) (o := .xd [(fld, y)]) (rh1.fnone hd1)
    refine hq _ ρ1 _ _ σ _ exn (rl1.ext exn) (rh_new rh1 hd1) ⟨M.lt, rfl, d, [y], rfl, .cons (r1.ext exn) .nil, ?_⟩
    rw [upd_same, h3]
    rfl
end
end Z

set_option Elab.async false
set_option linter.all false
set_option maxRecDepth 100000
set_option maxHeartbeats 2000000
/-! ZX1: try with several except clauses that name the error (after HandS' ps_try_many, ps_try_as). -/
namespace Z
open PySem PySem.Spec PyProof.Rows L2
abbrev HTs := Addr → Value → Option Addr → TS
/-- what the clauses wish of an exception of the body -/
def wManyAs (K : PySem.W.Frag) (Wout : WX) (D : Ends) : List (Value × Nat × HTs) → WX
  | [] => Wout
  | (c, i, ts) :: r => fun cls d σ H => ∃ b, PySem.W.exmOne K cls c = some b ∧
      (b = true → ∀ a, H a = none → ts a cls d { nx := fun σ' H' => D.nx (σ'.set i none) H', rt := D.rt, bk := fun σ' H' => D.bk (σ'.set i none) H', ct := fun σ' H' => D.ct (σ'.set i none) H' } (σ.set i (some (.ref a))) H) ∧ (b = false → wManyAs K Wout D r cls d σ H)
inductive HdsAs (X : Cx) : List ExceptHandler → List (Value × Nat × HTs) → Prop
  | nil : HdsAs X [] []
  | cons {x n : Str} {c : Value} {i : Nat} {ts : HTs} {b₀ : Stmt} {suite : List Stmt} {np pos' : Pos} {hds : List ExceptHandler} {l : List (Value × Nat × HTs)} (hc : Names X x c) (hi : X.N[i]? = some n) (hln : X.env.kindOf n = some .local)
      (hsu : ∀ (a : Addr) (oe : Obj) (cls : Value) (d : Option Addr) (pn : List (Addr × Obj)), Zc cls d oe → (∃ vs, oe.data = .fields vs) → PSs (X.suite a ((a, oe) :: pn)) (b₀ :: suite) (ts a cls d)) (r : HdsAs X hds l) :
      HdsAs X (.ExceptHandler (some (.Name x np)) (some n) (b₀ :: suite) pos' :: hds) ((c, i, ts) :: l)
section
variable {X : Cx} {body : List Stmt} {h₀ : ExceptHandler} {hds : List ExceptHandler} {l : List (Value × Nat × HTs)} {pos : Pos} {tb : WX → TS} {Wout : WX}
theorem ps_try_manyAs (hs : X.stack = X.env :: X.outer) (hf : X.env.frame = some X.env.locals) (hN : X.N.Nodup) (tk : Takes X Wout)
    (hb : ∀ (W : WX) (pn : List (Addr × Obj)) (xe : Value → Shared → Prop), Takes (X.tr pn xe) W → PassesOwn (model X.prog X.w) X.A X.env xe → PSs (X.tr pn xe) body (tb W))
    (hh : HdsAs X (h₀ :: hds) l) : PS X (.Try body (h₀ :: hds) [] [] pos) (fun D σ H => tb (wManyAs X.K Wout D l) D σ H) := by
  refine ⟨fun pins s σ H D I h => ?_⟩
  have ok := I.ok
  have hfr : X.A.frames = some (X.env :: X.outer) := by rw [ok.frames, hs]
  refine wpAny_Try_except ?_
  refine wpAny_mono ((hb (wManyAs X.K Wout D l) (X.pn ++ pins) (fun e s₁ => wpAny (model X.prog X.w) X.A (noteFrame e X.env) (fun _ s₂ => wpAny (model X.prog X.w) X.A (setFlight e none) (fun _ s₃ =>
    wpAny (model X.prog X.w) X.A (handleBy e X.env (h₀ :: hds)) (SP X pins D) X.xe s₃) X.xe s₂) X.xe s₁) (fun u s' xx => ?_) PassesOwn.looking).run [] s σ H D (I.toTry _) h) (fun f s1 hsp => ?_) (fun e s1 he => he)
  · -- the catch
    obtain ⟨a, B, sI, pins', σ', H', cls, d, rfl, J', nb, up, sky, na, os, ag, w⟩ := xx
    have J : Inv X pins σ' H' sI := J'.ofTry ok
    have sky' : Sky B (X.env :: X.outer) a (Zc cls d) X.env.locals s'.heap := by rw [← hs]; exact sky
    show wpAny (model X.prog X.w) X.A (noteFrame (.ref a) X.env) _ _ _
    refine Sky.land Zc.steady hfr hf sky' fun h3 fl3 up3 => ?_
    have J3 : Inv X pins σ' H' { s' with heap := h3 } := J.landed nb fl3.1 (up.trans up3) os ag
    obtain ⟨oe3, vs3, he3, hz3, hd3⟩ := fl3.there
    have notFr : ∀ {h : Heap} {o : Obj} {vs : Array Value}, h.FunFrames B (X.env :: X.outer) → h.get? a = some o → o.data = .fields vs → a ∉ frs (X.env :: X.outer) := fun {h o vs} ff e dd hm => by
      obtain ⟨_, o', e', hnf⟩ := ff.mem hm
      rw [e] at e'; cases e'
      exact hnf _ dd
    have nfr := notFr fl3.2.2.1 he3 hd3
    have nL : a ≠ X.env.locals := fun z => nfr (List.mem_filterMap.mpr ⟨X.env, List.mem_cons_self, by rw [hf, z]⟩)
    have nF : a ∉ X.fs := fun hm => by
      obtain ⟨e, he, q⟩ := List.mem_filterMap.mp hm
      exact nfr (List.mem_filterMap.mpr ⟨e, List.mem_cons_of_mem _ he, q⟩)
    have S3 := J3.suite he3 hd3 na nL nF
    have go : ∀ {hds' : List ExceptHandler} {l' : List (Value × Nat × HTs)}, HdsAs X hds' l' → wManyAs X.K Wout D l' cls d σ' H' →
        wpAny (model X.prog X.w) X.A (handleBy (.ref a) X.env hds') (SP X pins D) X.xe { s' with heap := h3 } := by
      intro hds' l' hk
      induction hk with
      | nil =>
        intro w
        refine wpAny_handleBy_nil ?_
        obtain ⟨k1, k2, k3, oe, vs, T, oT, ts', he, hz, hd, h1, hr⟩ := id fl3
        unfold PySem.passOn
        refine wpAny_bind (wpAny_field he hd h1 ?_)
        rw [if_neg (show ¬ ((Value.ref T == Value.none) = true) from by simp)]
        have fin : wpAny (model X.prog X.w) X.A (setFlight (.ref a) X.env.frame) (fun _ s4 => wpAny (model X.prog X.w) X.A (throw (.ref a) : Sem PySem.Flow) (SP X pins D) X.xe s4) X.xe { s' with heap := h3 } := by
          rw [hf]
          refine HandSPX.setFlight_upZ fl3 fun h4 hh4 up4 => wpAny_throw (tk _ _ ?_)
          exact ⟨a, B, sI, pins, σ', H', cls, d, rfl, J, nb, (up.trans up3).trans up4, .inr (.inr (by rw [hs]; exact hh4)), na, os, ag, w⟩
        first
          | exact wpAny_bind (wpAny_pure (wpAny_bind fin))
          | exact wpAny_bind fin
      | @cons x n c i ts b₀ suite np pos' hds2 l2 hc hi hln hsu r ih =>
        intro w
        obtain ⟨b, hb1, hyes, hno⟩ := w
        have hloc : L2.Loc X.env.scope n := .inl hln
        refine wpAny_handleBy_cons (codeAny_handlers_test ?_) (by intro q; cases q)
        have LT : PySem.W.Looks (model X.prog X.w) h3 (typeOf (.ref a)) cls := fun A Q E s k q => wpAny_typeOf_ref (k _ _ he3) (by rw [hz3.1]; exact q)
        have LM := PySem.W.exm_one (M := model X.prog X.w) (J3.kIn) LT hb1
        have test : ∀ {Q : Value → Shared → Prop} {E : Value → Shared → Prop}, Q c { s' with heap := h3 } → wpAny (model X.prog X.w) (X.A.mark (some (.ref a))) (eval (.Name x np) X.env) Q E { s' with heap := h3 } := fun {Q E} q => by
          obtain ⟨hg, hdbg, hm | ⟨hm, hv, hnn⟩⟩ := hc
          · exact ld_glob (X := X.suite a ((a, oe3) :: (X.pn ++ pins))) S3 hg hm q hdbg
          · exact ld_blt (X := X.suite a ((a, oe3) :: (X.pn ++ pins))) S3 hg hm hv q hnn hdbg
        refine test (LM.here ?_)
        cases b with
        | true =>
          refine codeAny_handlers_suite_as ?_
          refine HandSPX.lands_againZ fl3 fun h4 fl4 up4 => ?_
          have J4 : Inv X pins σ' H' { s' with heap := h4 } := J.landed nb fl4.1 ((up.trans up3).trans up4) os ag
          obtain ⟨oe4, vs4, he4, hz4, hd4⟩ := fl4.there
          have S4 := J4.suite he4 hd4 na nL nF
          refine store_ok (X := X.suite a ((a, oe4) :: (X.pn ++ pins))) (v := .ref a) S4 hN hi hloc rfl (fun s5 S5 => ?_) (.inr hln)
          refine wpAny_mono ((hsu a oe4 cls d (X.pn ++ pins) hz4 ⟨_, hd4⟩).run [] s5 _ H' _ S5 (hyes rfl a na)) (fun f s6 hsp => ?_) (fun _ _ z => False.elim z)
          have end_ : ∀ {σ6 : L2.St} {H6 : Hp} {Q : Shared → Prop}, Inv (X.suite a ((a, oe4) :: (X.pn ++ pins))) [] σ6 H6 s6 → (∀ s7, Inv X pins (σ6.set i none) H6 s7 → Q s7) →
              wpAny (model X.prog X.w) X.A (do bindName X.env n .none; unbindBehindTheSuite X.env n pos') (fun _ s7 => Q s7) X.xe s6 := fun {σ6 H6 Q} S6 hq => gone_ok (S6.unsuite ok) hN hi hln hq
          cases f with
          | next =>
            obtain ⟨σ6, H6, S6, q6⟩ := hsp
            exact end_ S6 fun s7 J7 => ⟨_, _, J7, q6⟩
          | brk =>
            obtain ⟨σ6, H6, S6, q6⟩ := hsp
            exact end_ S6 fun s7 J7 => ⟨_, _, J7, q6⟩
          | cont =>
            obtain ⟨σ6, H6, S6, q6⟩ := hsp
            exact end_ S6 fun s7 J7 => ⟨_, _, J7, q6⟩
          | ret u =>
            obtain ⟨v6, σ6, H6, S6, r6, q6⟩ := hsp
            exact end_ S6 fun s7 J7 => ⟨_, _, _, J7, r6, q6⟩
        | false =>
          show wpAny _ X.A (handleBy (.ref a) X.env hds2) _ _ _
          exact ih (hno rfl)
    exact go hh w
  · cases f with
    | next =>
      obtain ⟨σ', H', J', q⟩ := hsp
      exact wpAny_execs_nil ⟨σ', H', J'.ofTry ok, q⟩
    | brk =>
      obtain ⟨σ', H', J', q⟩ := hsp
      exact ⟨σ', H', J'.ofTry ok, q⟩
    | cont =>
      obtain ⟨σ', H', J', q⟩ := hsp
      exact ⟨σ', H', J'.ofTry ok, q⟩
    | ret u =>
      obtain ⟨v, σ', H', J', r, q⟩ := hsp
      exact ⟨v, σ', H', J'.ofTry ok, r, q⟩
end
end Z

set_option Elab.async false
set_option linter.all false
set_option maxRecDepth 100000
set_option maxHeartbeats 2000000
/-! ZX2: try, read by the evaluator. -/
namespace Z
open PySem PySem.Spec PyProof.Rows L2
section
variable {T : Top} {X : Cx} {W W0 : WX} {e : Expr} {es : List Expr} {pos : Pos} {i : Nat} {cs : List Nat} {a : Addr} {oe : Obj} {cls : Value} {d : Option Addr} {pn : List (Addr × Obj)}
variable (T) in
/-- what an except suite hands back, read -/
def tHd {α β : Type} (Rel : Hp → Rho → α → β → Prop) (cs : List Nat) (i : Nat) (a : Addr) (cls : Value) (d : Option Addr) (m : List PV → Option α) : L2.St → Hp → (β → Hp → Prop) → Prop := fun σ H Q =>
  ∃ F G ρ S c fs w, RH T F G ρ S H ∧ XRep T F ρ c fs cls d ∧ memN c cs = true ∧ σ[i]? = some (some (.ref a)) ∧ m fs = some w ∧ ∀ F' ρ' x H', Ext F ρ F' ρ' → RH T F' G ρ' S H' → Rel F' ρ' w x → Q x H'
theorem XRep.ext {F F' : Hp} {ρ ρ' : Rho} {c : Nat} {fs : List PV} (h : XRep T F ρ c fs cls d) (e : Ext F ρ F' ρ') : XRep T F' ρ' c fs cls d := let ⟨x0, x1, d0, ys, x2, x3, x4⟩ := h; ⟨x0, x1, d0, ys, x2, x3.ext e, e.f _ _ x4⟩
theorem rl_none {F : Hp} {ρ : Rho} {σ : L2.St} : RL T F ρ (List.replicate σ.length none) σ := by
  refine ⟨fun i v h => ?_, by simp⟩
  rw [nth_get, List.getElem?_replicate] at h
  split at h
  · cases h
  · cases h
theorem clauseOf_cons {c : Nat} {cs : List Nat} {i : Nat} {e : CE} {r : List (List Nat × Nat × CE)} : clauseOf c ((cs, i, e) :: r) = if memN c cs = true then some (i, e) else clauseOf c r := rfl
theorem hd_cst {v : PV} {cc : Const} {j : Nat} (h : cstB v cc = true) : PE (X.suite a ((a, oe) :: pn)) (.Constant cc j pos) (tHd T (Rep T) cs i a cls d fun _ => some v) := by
  refine PE.imp (pe_cstZ (T := T) (W := fun _ _ _ _ => False) h) fun σ H Q q => ?_
  obtain ⟨F, G, ρ, S, c, fs, w, rh, x, hc, hi, hm, q⟩ := q
  cases hm
  exact ⟨F, G, ρ, _, S, .ok v S, rl_none, rh, rfl, fun F' ρ' x H' ex rh' r => q F' ρ' x H' ex rh' r⟩
theorem zip_lookup : ∀ {fl : List Str} {ys : List V} {f : Nat} {n : Str} {y : V}, fl.Nodup → fl[f]? = some n → ys[f]? = some y → (fl.zip ys).lookup n = some y
  | [], _, f, n, y, _, h, _ => by cases f <;> cases h
  | _ :: _, [], f, n, y, _, _, h => by cases f <;> cases h
  | m :: fl, z :: ys, 0, n, y, nd, h1, h2 => by
    have e1 : m = n := by simpa using h1
    have e2 : z = y := by simpa using h2
    subst e1 e2
    simp [List.zip, List.lookup]
  | m :: fl, z :: ys, f + 1, n, y, nd, h1, h2 => by
    have h1 : fl[f]? = some n := by simpa using h1
    have h2 : ys[f]? = some y := by simpa using h2
    rw [List.nodup_cons] at nd
    have hne : (n == m) = false := by
      simp only [beq_eq_false_iff_ne, ne_eq]
      intro e
      exact nd.1 (e ▸ List.mem_of_getElem? h1)
    show List.lookup n ((m, z) :: fl.zip ys) = some y
    simp only [List.lookup, hne]
    exact zip_lookup nd.2 h1 h2
/-- a field of the classes caught -/
def FldOk (T : Top) (cs : List Nat) (f : Nat) (n : Str) : Prop := ∀ c, memN c cs = true → c < T.nc → (T.fl c)[f]? = some n ∧ (T.fl c).Nodup ∧ XfC T.K (T.ca c) ∧ PySem.W.findIn T.K (.ref (T.ca c)) n = some none
theorem hd_fld {f : Nat} {n y : Str} {np : Pos} (hK : X.K = T.K) (hf : FldOk T cs f n) (hN : X.N[i]? = some y) (hv : Vis X.env.scope y) (hdb : (y == ("__debug__" : Str)) = false) (hcd : (y == ("__classdict__" : Str)) = false)
    (hz : Zc cls d oe) (hd : ∃ vs, oe.data = .fields vs) : PE (X.suite a ((a, oe) :: pn)) (.Attribute (.Name y np) n pos) (tHd T (Rep T) cs i a cls d fun fs => nth fs f) := by
  refine ⟨fun pins s σ H Q I q => ?_⟩
  obtain ⟨F, G, ρ, S, c, fs, w, rh, x, hc, hi, hm, q⟩ := q
  obtain ⟨x0, x1, d0, ys, x2, x3, x4⟩ := x
  obtain ⟨g1, g2, g3, g4⟩ := hf c hc x0
  obtain ⟨z, z1, z2⟩ := reps_get' x3 hm
  refine (pe_xf (X := X) (C := T.ca c) (hK ▸ g3 : XfC X.K (T.ca c)) (hK ▸ g4) hz hd (pe_var (X := X.suite a ((a, oe) :: pn)) (i := i) (pos := np) hN hv hdb hcd) (by rfl)).run pins s σ H Q I ?_
  exact ⟨.ref a, hi, rfl, x1, d0, _, z, x2, rh.f _ _ x4, zip_lookup g2 g1 z1, q F ρ z H Ext.refl rh z2⟩
theorem hd_nil : PA (X.suite a ((a, oe) :: pn)) [] (tHd T (Reps T) cs i a cls d fun fs => evH.evHs i fs []) := PA.imp pa_nil fun σ H Q q => by
  obtain ⟨F, G, ρ, S, c, fs, w, rh, x, hc, hi, hm, q⟩ := q
  cases (show some [] = some w from hm)
  exact q F ρ [] H Ext.refl rh .nil
theorem hd_cons {m1 : List PV → Option PV} {m2 : List PV → Option (List PV)} {m : List PV → Option (List PV)} (h1 : PE (X.suite a ((a, oe) :: pn)) e (tHd T (Rep T) cs i a cls d m1)) (h2 : PA (X.suite a ((a, oe) :: pn)) es (tHd T (Reps T) cs i a cls d m2)) (ns : noStar e = true)
    (hm : ∀ fs w, m fs = some w → ∃ v vs, m1 fs = some v ∧ m2 fs = some vs ∧ w = v :: vs) : PA (X.suite a ((a, oe) :: pn)) (e :: es) (tHd T (Reps T) cs i a cls d m) := PA.imp (pa_cons h1 h2 (starEach_plain ns)) fun σ H Q q => by
  obtain ⟨F, G, ρ, S, c, fs, w, rh, x, hc, hi, hmw, q⟩ := q
  obtain ⟨v, vs, e1, e2, rfl⟩ := hm _ _ hmw
  exact ⟨F, G, ρ, S, c, fs, v, rh, x, hc, hi, e1, fun F1 ρ1 y H1 ex1 rh1 r1 => ⟨F1, G, ρ1, S, c, fs, vs, rh1, x.ext ex1, hc, hi, e2, fun F2 ρ2 ys H2 ex2 rh2 r2 => q F2 ρ2 (y :: ys) H2 (ex1.trans ex2) rh2 (.cons (r1.ext ex2) r2)⟩⟩
theorem hd_tup {x1 : Nat} {m2 : List PV → Option (List PV)} {m : List PV → Option PV} (h : PA (X.suite a ((a, oe) :: pn)) es (tHd T (Reps T) cs i a cls d m2)) (hm : ∀ fs w, m fs = some w → ∃ vs, m2 fs = some vs ∧ vs.length ≤ 100 ∧ w = .tup vs) :
    PE (X.suite a ((a, oe) :: pn)) (.Tuple es x1 pos) (tHd T (Rep T) cs i a cls d m) := PE.imp (pe_tupF h) fun σ H Q q => by
  obtain ⟨F, G, ρ, S, c, fs, w, rh, x, hc, hi, hmw, q⟩ := q
  obtain ⟨vs, e1, hl, rfl⟩ := hm _ _ hmw
  refine ⟨F, G, ρ, S, c, fs, vs, rh, x, hc, hi, e1, fun F1 ρ1 ys H1 ex1 rh1 r1 => ⟨by rw [← r1.length, sizeLine_eq]; omega, fun us p hp => ?_⟩⟩
  have exn := ext_new (ρ := ρ1) (p := p) (o := tupO us ys) (rh1.fnone hp)
  exact q _ ρ1 _ _ (ex1.trans exn) (rh_new rh1 hp) (.tup (tupF_new upd_same) (r1.ext exn))
/-- the clauses -/
inductive HsOk (T : Top) (X : Cx) : List ExceptHandler → List (List Nat × Nat × CE) → Prop
  | nil : HsOk T X [] []
  | cons {x n : Str} {h : Nat} {cs : List Nat} {i : Nat} {ce : CE} {ex : Expr} {np rp pos' : Pos} {hds : List ExceptHandler} {hs : List (List Nat × Nat × CE)} (hc : Names X x (.ref (T.ca h))) (hi : X.N[i]? = some n) (hln : X.env.kindOf n = some .local)
      (hex : ∀ c, c < T.nc → PySem.W.exmOne T.K (.ref (T.ca c)) (.ref (T.ca h)) = some (memN c cs))
      (he : ∀ (a : Addr) (oe : Obj) (cls : Value) (d : Option Addr) (pn : List (Addr × Obj)), Zc cls d oe → (∃ vs, oe.data = .fields vs) → PE (X.suite a ((a, oe) :: pn)) ex (tHd T (Rep T) cs i a cls d fun fs => evH i fs ce)) (r : HsOk T X hds hs) :
      HsOk T X (.ExceptHandler (some (.Name x np)) (some n) [.Return (some ex) rp] pos' :: hds) ((cs, i, ce) :: hs)
def hTs (T : Top) : List ExceptHandler → List (List Nat × Nat × CE) → List (Value × Nat × HTs)
  | _, _ => []
theorem HsOk.hds (hK : X.K = T.K) {D : Ends} : ∀ {hds : List ExceptHandler} {hs : List (List Nat × Nat × CE)}, HsOk T X hds hs → ∃ l, HdsAs X hds l ∧
    ∀ {F G : Hp} {ρ : Rho} {c : Nat} {fs : List PV} {l1 : Loc} {S1 : LH} {o : OutS} {cls : Value} {d : Option Addr} {σ : L2.St} {H : Hp}, RL T F ρ l1 σ → RH T F G ρ S1 H → XRep T F ρ c fs cls d →
      (match clauseOf c hs with
        | some (i, e) => match (if Nat.blt i l1.length then evH i fs e else none) with
          | some v => some (OutS.ok (.rt v) l1 S1)
          | _ => none
        | none => some (.exn c fs l1 S1)) = some o → AfterS T W F G ρ o D → wManyAs X.K W D l cls d σ H
  | _, _, .nil => ⟨[], .nil, fun rl rh x e q => by cases e; exact q _ _ _ _ _ _ Ext.refl rl rh x⟩
  | _, _, .cons (h := h) (cs := cs) (i := i) (ce := ce) (hs := hs) hc hi hln hex he r => by
    obtain ⟨l, h1, h2⟩ := HsOk.hds hK (D := D) r
    refine ⟨_, .cons hc hi hln (fun a oe cls d pn hz hd => pss_one (ps_ret (he a oe cls d pn hz hd))) h1, fun {F G ρ c fs l1 S1 o cls d σ H} rl rh x e q => ?_⟩
    have x' := x
    obtain ⟨x0, x1, _⟩ := x'
    refine ⟨memN c cs, by rw [hK, x1]; exact hex c x0, fun hm a na => ?_, fun hm => h2 rl rh x (by rw [← e, clauseOf_cons, hm, if_neg Bool.false_ne_true]) q⟩
    have e : (match (if Nat.blt i l1.length then evH i fs ce else none) with
          | some v => some (OutS.ok (.rt v) l1 S1)
          | _ => none) = some o := by rw [← e, clauseOf_cons, if_pos hm]
    split at e
    · rename_i v hv
      cases e
      split at hv
      · rename_i hlt
        have hlt' : i < l1.length := Nat.blt_eq ▸ hlt
        show tHd T (Rep T) cs i a cls d (fun fs => evH i fs ce) (σ.set i (some (.ref a))) H D.rt
        exact ⟨F, G, ρ, S1, c, fs, v, rh, x, hm, List.getElem?_set_self (by rw [← rl.len]; exact hlt'), hv, fun F' ρ' y H' ex rh' ry => q F' ρ' y H' ex rh' ry⟩
      · cases hv
    · cases e
theorem ps_tryZ {R : Rc} {body : List Stmt} {h₀ : ExceptHandler} {hds : List ExceptHandler} {cb : List CS} {hs : List (List Nat × Nat × CE)} (hK : X.K = T.K) (hst : X.stack = X.env :: X.outer) (hf : X.env.frame = some X.env.locals) (hN : X.N.Nodup) (tk : Takes X W)
    (hb : ∀ (W' : WX) (pn : List (Addr × Obj)) (xe : Value → Shared → Prop), Takes (X.tr pn xe) W' → PassesOwn (model X.prog X.w) X.A X.env xe → PSs (X.tr pn xe) body (TZS T W' (evSs R cb))) (hh : HsOk T X (h₀ :: hds) hs) :
    PS X (.Try body (h₀ :: hds) [] [] pos) (TZS T W (sTry (evSs R cb) hs)) := by
  refine ⟨fun pins s σ H D I q => ?_⟩
  obtain ⟨l, h1, h2⟩ := hh.hds (W := W) hK (D := D)
  refine (ps_try_manyAs (pos := pos) (tb := fun W' => TZS T W' (evSs R cb)) hst hf hN tk hb h1).run pins s σ H D I ?_
  obtain ⟨F, G, ρ, lc, S, o, rl, rh, e, q⟩ := q
  have e : (match evSs R cb lc S with
    | some (.exn c fs l1 S1) => match clauseOf c hs with
      | some (i, e) => match (if Nat.blt i l1.length then evH i fs e else none) with
        | some v => some (OutS.ok (.rt v) l1 S1)
        | _ => none
      | none => some (.exn c fs l1 S1)
    | x => x) = some o := e
  cases hm : evSs R cb lc S with
  | none => rw [hm] at e; cases e
  | some o1 =>
    rw [hm] at e
    refine ⟨F, G, ρ, lc, S, o1, rl, rh, hm, ?_⟩
    cases o1 with
    | ok f l1 S1 =>
      cases e
      cases f <;> exact q
    | exn c fs l1 S1 =>
      exact fun F' ρ' cls d σ' H' ex rl' rh' x => h2 rl' rh' x e (q.later ex)
end
end Z

set_option Elab.async false
set_option linter.all false
set_option maxRecDepth 100000
set_option maxHeartbeats 2000000
/-! ZT: putting in order: the evaluator's order is the model's. -/
namespace Z
open PySem PySem.Spec PyProof.Rows L2 PySem.W
mutual
def toD : PV → PyData
  | .bl b => .bool b
  | .int i => .int i
  | .str s => .str (strV s)
  | .tup xs => .tuple (toDs xs)
  | _ => .none
termination_by structural x => x
def toDs : List PV → List PyData
  | [] => []
  | x :: xs => toD x :: toDs xs
termination_by structural x => x
end
def tkOf : Tk → Int ⊕ List Nat
  | .n i => .inl i
  | .s t => .inr t
theorem b2i_if (b : Bool) : Z.b2i b = if b = true then 1 else 0 := by cases b <;> rfl
mutual
theorem toks_toD : ∀ v : PV, (toks v).map tkOf = keyToks (toD v)
  | .non => rfl
  | .bl b => by show [Sum.inl (Z.b2i b)] = keyToks (.bool b); rw [keyToks, b2i_if]
  | .int i => by show [Sum.inl i] = keyToks (.int i); rw [keyToks]
  | .str s => by
    show [Sum.inr s] = keyToks (.str (strV s))
    rw [keyToks]
  | .tup xs => by
    show (toksAll xs).map tkOf = keyToks (.tuple (toDs xs))
    rw [keyToks]
    exact toksAll_toD xs
  | .lst _ => rfl
  | .dct _ => rfl
  | .loc _ => rfl
  | .fn _ => rfl
  | .exc _ _ => rfl
  | .clo _ _ => rfl
theorem toksAll_toD : ∀ xs : List PV, (toksAll xs).map tkOf = keyToksAll (toDs xs)
  | [] => by show [Sum.inl 0] = keyToksAll []; rw [keyToksAll]
  | x :: xs => by
    show (Tk.n 1 :: (toks x ++ toksAll xs)).map tkOf = keyToksAll (toD x :: toDs xs)
    rw [keyToksAll, List.map_cons, List.map_append, toks_toD x, toksAll_toD xs]
    rfl
end
theorem lts_ltT : ∀ x y : List Nat, lts x y = decide (x < y)
  | [], [] => by simp [lts]
  | [], _ :: _ => by simp [lts]
  | _ :: _, [] => by simp [lts]
  | a :: r, b :: t => by
    unfold lts
    rw [lts_ltT r t]
    by_cases h : a < b
    · rw [if_pos (by rw [Nat.blt_eq]; exact h)]
      simp [List.cons_lt_cons_iff, h]
    · rw [if_neg (by rw [Nat.blt_eq]; exact h)]
      by_cases e : a = b
      · subst e
        rw [if_pos (Nat.beq_refl a)]
        simp [List.cons_lt_cons_iff]
      · rw [if_neg (fun q => e (Nat.eq_of_beq_eq_true q))]
        simp [List.cons_lt_cons_iff, h, e]
theorem tk1_lt (a b : Tk) : tk1 a b = itemLt (tkOf a) (tkOf b) := by
  cases a with
  | n i => cases b <;> rfl
  | s x =>
    cases b with
    | n j => rfl
    | s y => exact lts_ltT x y
theorem tkLt_lt : ∀ a b : List Tk, tkLt a b = PyProof.Rows.lexLt itemOrd (a.map tkOf) (b.map tkOf)
  | [], [] => rfl
  | [], _ :: _ => rfl
  | _ :: _, [] => rfl
  | a :: r, b :: t => by
    rw [List.map_cons, List.map_cons, lex_cons (O := itemOrd)]
    show (if tk1 a b then true else if tk1 b a then false else tkLt r t) = (itemLt (tkOf a) (tkOf b) || (!itemLt (tkOf b) (tkOf a) && _))
    rw [tk1_lt, tk1_lt, tkLt_lt r t]
    cases itemLt (tkOf a) (tkOf b) <;> cases itemLt (tkOf b) (tkOf a) <;> simp
theorem tkLt_data (v w : PV) : tkLt (toks v) (toks w) = dataLt (toD v) (toD w) := by
  unfold dataLt
  rw [tkLt_lt, toks_toD, toks_toD]
mutual
theorem alike_toD : ∀ v w : PV, alikeV v w = true → alike (toD v) (toD w) = true
  | .non, w, h => by cases w <;> first | (show alike .none .none = true; rw [alike]) | (exact absurd (show false = true from h) Bool.false_ne_true)
  | .bl b, w, h => by cases w <;> first | (show alike (.bool _) (.bool _) = true; rw [alike]) | (exact absurd (show false = true from h) Bool.false_ne_true)
  | .int b, w, h => by cases w <;> first | (show alike (.int _) (.int _) = true; rw [alike]) | (exact absurd (show false = true from h) Bool.false_ne_true)
  | .str b, w, h => by cases w <;> first | (show alike (.str _) (.str _) = true; rw [alike]) | (exact absurd (show false = true from h) Bool.false_ne_true)
  | .tup xs, w, h => by
    cases w with
    | tup ys =>
      show alike (.tuple (toDs xs)) (.tuple (toDs ys)) = true
      rw [alike]
      exact alikes_toD xs ys h
    | _ => exact absurd (show false = true from h) Bool.false_ne_true
  | .lst _, w, h => by cases w <;> exact absurd (show false = true from h) Bool.false_ne_true
  | .dct _, w, h => by cases w <;> exact absurd (show false = true from h) Bool.false_ne_true
  | .loc _, w, h => by cases w <;> exact absurd (show false = true from h) Bool.false_ne_true
  | .fn _, w, h => by cases w <;> exact absurd (show false = true from h) Bool.false_ne_true
  | .exc _ _, w, h => by cases w <;> exact absurd (show false = true from h) Bool.false_ne_true
  | .clo _ _, w, h => by cases w <;> exact absurd (show false = true from h) Bool.false_ne_true
theorem alikes_toD : ∀ xs ys : List PV, alikeVs xs ys = true → alikeAll (toDs xs) (toDs ys) = true
  | [], ys, _ => by cases ys <;> (unfold toDs; simp [alikeAll])
  | _ :: _, [], _ => by show alikeAll (_ :: _) [] = true; simp [alikeAll]
  | x :: xs, y :: ys, h => by
    have h' : (if alikeV x y then alikeVs xs ys else false) = true := h
    split at h'
    · rename_i q
      show alikeAll (toD x :: toDs xs) (toD y :: toDs ys) = true
      rw [alikeAll, alike_toD x y q, alikes_toD xs ys h']
      rfl
    · cases h'
end
/-! ### the sort -/
abbrev leD : PV × PV → PV × PV → Bool := dataLe false (fun p : PV × PV => toD p.1)
theorem leD_trans : ∀ a b c : PV × PV, leD a b = true → leD b c = true → leD a c = true := (sortLe_total (listOrd itemOrd) false fun p : PV × PV => keyToks (toD p.1)).trans
theorem leD_total : ∀ a b : PV × PV, (leD a b || leD b a) = true := fun a b => by rw [Bool.or_eq_true]; exact (sortLe_total (listOrd itemOrd) false fun p : PV × PV => keyToks (toD p.1)).total a b
theorem leD_lt (a b : PV × PV) : leD a b = !tkLt (toks b.1) (toks a.1) := by rw [tkLt_data]; rfl
theorem insT_at {p : PV × PV} : ∀ {l1 l2 : List (PV × PV)}, (∀ b ∈ l1, leD p b = false) → (∀ b ∈ l2, leD p b = true) → insT (toks p.1) p.2 ((l1 ++ l2).map fun q => (toks q.1, q.2)) = (l1 ++ p :: l2).map fun q => (toks q.1, q.2)
  | [], [], _, _ => rfl
  | [], b :: l2, _, h2 => by
    have := h2 b List.mem_cons_self
    rw [leD_lt, Bool.not_eq_true'] at this
    show insT (toks p.1) p.2 ((toks b.1, b.2) :: l2.map _) = _
    unfold insT
    rw [this, if_neg Bool.false_ne_true]
    rfl
  | b :: l1, l2, h1, h2 => by
    have := h1 b List.mem_cons_self
    rw [leD_lt, Bool.not_eq_false'] at this
    show insT (toks p.1) p.2 ((toks b.1, b.2) :: (l1 ++ l2).map _) = (toks b.1, b.2) :: (l1 ++ p :: l2).map _
    unfold insT
    rw [if_pos this, insT_at (fun c hc => h1 c (List.mem_cons_of_mem _ hc)) h2]
theorem sortT_merge : ∀ ps : List (PV × PV), sortT (ps.map fun q => (toks q.1, q.2)) = (ps.mergeSort leD).map fun q => (toks q.1, q.2)
  | [] => by simp [sortT]
  | p :: ps => by
    obtain ⟨l1, l2, e1, e2, h⟩ := List.mergeSort_cons leD_trans leD_total p ps
    rw [e1]
    show insT (toks p.1) p.2 (sortT (ps.map _)) = _
    rw [sortT_merge ps, e2]
    refine insT_at (fun b hb => by simpa using h b hb) fun b hb => ?_
    have st := List.pairwise_mergeSort leD_trans leD_total (p :: ps)
    rw [e1, List.pairwise_append] at st
    exact (List.pairwise_cons.mp st.2.1).1 b hb
theorem sortP_merge {ps : List (PV × PV)} {ys : List PV} (h : sortP ps = some ys) : sortOkV (ps.map (·.1)) = true ∧ ys = (ps.mergeSort leD).map (·.2) := by
  unfold sortP at h
  split at h
  · rename_i hok
    cases h
    refine ⟨hok, ?_⟩
    rw [sortT_merge, List.map_map]
    rfl
  · cases h
end Z

set_option Elab.async false
set_option linter.all false
set_option maxRecDepth 100000
set_option maxHeartbeats 2000000
/-! ZT2: sorted. -/
namespace Z
open PySem PySem.Spec PyProof.Rows L2 PySem.W
section
variable {T : Top} {X : Cx} {W : WX} {pins : List (Addr × Obj)} {σ : L2.St} {H : Hp} {s : Shared}
theorem kdl_raw {prog : Program} {w : World} {d : Addr} {es : Array DictEntry} {ep : Nat} (lo : (d == sysModules) = false) : KdlSrc prog w "dict" d d es.size (fun i v => ∃ hi : i < es.size, v = es[i].key) (fun h => h.DictRaw d es ep) where
  type := fun _ hm => hm.typeIs
  there := fun _ hm => by
    obtain ⟨o, ho, _⟩ := hm
    exact ⟨Heap.lt_size ho, Heap.lt_size ho⟩
  keep := fun _ _ hm hk => hm.at fun o e => hk d (.inl rfl) o e
  notList := by decide
  notTuple := by decide
  hint := fun _ _ _ _ hm hq => kdl_hint_dict hm.typeIs hq
  iter := fun _ _ hh hm => ⟨_, _, (fun _ _ hq => wpAny_pyIter_dict_raw lo hm hq), Walks.rawKeys hh _ d (Nat.ne_of_lt (by obtain ⟨o, ho, _⟩ := hm; exact Heap.lt_size ho)) es ep, ⟨⟨_, Heap.get?_push_size _ rfl, rfl, rfl⟩, hm.at fun o e => Heap.get?_push_of_some _ e⟩⟩
/-- data, read -/
theorem reads_D (I : Inv X pins σ H s) (hK : X.K = T.K) {F : Hp} {ρ : Rho} (hF : ∀ a o, F a = some o → H a = some o) : ∀ (n : Nat) {v : PV} {x : V} {u : Value}, dataN n v = true → Rep T F ρ v x → RelV x u → Reads s.heap u (toD v) [] := by
  intro n
  induction n with
  | zero => intro v x u h; cases h
  | succ n ih =>
    intro v x u h r ru
    cases r with
    | non => cases ru; exact .none
    | bl b => cases ru; exact .bool b
    | int i => obtain ⟨t, rfl⟩ := ru; exact .int i t
    | str z hz => obtain ⟨t, rfl⟩ := ru; exact .str _ t
    | @tup a ys xs ht rr =>
      cases ru
      have h' : xs.all (dataN n) = true := h
      obtain ⟨its, rv, ⟨o, h1, h2, m, h3⟩, _⟩ := I.tuple (by rw [hK]; exact (tupF_mono hF ht).1 : SqT X.K H a ys)
      have go : ∀ (xs : List PV) (ys : List V) (its : List Value), xs.all (dataN n) = true → Reps T F ρ xs ys → Vals ys its → ReadsAll s.heap its (toDs xs) [] := by
        intro xs
        induction xs with
        | nil => intro ys its _ q1 q2; cases q1; cases q2; exact .nil
        | cons x xs ihx =>
          intro ys its q q1 q2
          rw [List.all_cons, Bool.and_eq_true] at q
          cases q1 with
          | cons g1 g2 =>
            cases q2 with
            | cons k1 k2 => exact ReadsAll.cons (as := []) (bs := []) (ih q.1 g1 k1) (ihx _ _ q.2 g2 k2)
      exact .tuple h1 h2 h3 (by simpa using go _ _ _ h' rr rv)
    | lst h1 r1 => cases h
    | dct h1 ok r1 => cases h
    | loc h1 => cases h
    | fn k => cases h
theorem depth_D : ∀ (n : Nat) {v : PV}, dataN n v = true → (toD v).depth ≤ n := by
  intro n
  induction n with
  | zero => intro v h; cases h
  | succ n ih =>
    intro v h
    cases v with
    | tup xs =>
      have h' : xs.all (dataN n) = true := h
      show (PyData.tuple (toDs xs)).depth ≤ n + 1
      rw [PyData.depth]
      have go : ∀ xs : List PV, xs.all (dataN n) = true → PyData.depthAll (toDs xs) ≤ n := by
        intro xs
        induction xs with
        | nil => intro _; show PyData.depthAll [] ≤ n; rw [PyData.depthAll]; omega
        | cons x xs ihx =>
          intro q
          rw [List.all_cons, Bool.and_eq_true] at q
          show PyData.depthAll (toD x :: toDs xs) ≤ n
          rw [PyData.depthAll]
          have h1 := ih q.1
          have h2 := ihx q.2
          omega
      have := go xs h'
      omega
    | non => show PyData.depth .none ≤ _; rw [PyData.depth]; omega
    | bl b => show PyData.depth (.bool b) ≤ _; rw [PyData.depth]; omega
    | int b => show PyData.depth (.int b) ≤ _; rw [PyData.depth]; omega
    | str b => show PyData.depth (.str _) ≤ _; rw [PyData.depth]; omega
    | _ => cases h
theorem sortOk_facts {xs : List PV} (h : sortOkV xs = true) : (∀ v ∈ xs, dataN 12 v = true) ∧ AllAlike (xs.map toD) ∧ Sortable (xs.map toD) := by
  unfold sortOkV at h
  rw [Bool.and_eq_true, Bool.and_eq_true, Bool.or_eq_true] at h
  obtain ⟨⟨h1, h2⟩, h3⟩ := h
  refine ⟨fun v hv => List.all_eq_true.mp h1 v hv, ?_, ?_⟩
  · intro d hd d' hd'
    obtain ⟨v, hv, rfl⟩ := List.mem_map.mp hd
    obtain ⟨w, hw, rfl⟩ := List.mem_map.mp hd'
    exact alike_toD v w (List.all_eq_true.mp (List.all_eq_true.mp h3 v hv) w hw)
  · rcases h2 with h2 | h2
    · refine .inl fun d hd => ?_
      obtain ⟨v, hv, rfl⟩ := List.mem_map.mp hd
      have := List.all_eq_true.mp h2 v hv
      cases v with
      | tup ys =>
        cases ys with
        | nil => cases this
        | cons y ys => exact ⟨_, _, rfl⟩
      | _ => cases this
    · refine .inr fun d hd => ?_
      obtain ⟨v, hv, rfl⟩ := List.mem_map.mp hd
      have := List.all_eq_true.mp h2 v hv
      cases v with
      | bl b => exact ⟨fun z => (by cases z), fun xs z => (by cases z)⟩
      | int b => exact ⟨fun z => (by cases z), fun xs z => (by cases z)⟩
      | str b => exact ⟨fun z => (by cases z), fun xs z => (by cases z)⟩
      | _ => cases this
/-- what a value hands out when it is collected: lists, tuples, dicts (their keys) -/
theorem collectZ {F G : Hp} {ρ : Rho} {S : LH} {v : PV} {x : V} {u : Value} {xs : List PV} {Q : List Value → Shared → Prop} {E : Value → Shared → Prop} {A : Around} (hK : X.K = T.K) (hh : A.handled = none) (I : Inv X pins σ H s) (rh : RH T F G ρ S H) (r : Rep T F ρ v x) (ru : RelV x u)
    (hx : collOf (top S v) = some xs) (q : ∀ ys its h' tk, Reps T F ρ xs ys → Vals ys its → (∀ b o, s.heap.get? b = some o → h'.get? b = some o) → ys.length ≤ sizeLine → Q its { s with heap := h', toks := tk }) :
    wpAny (model X.prog X.w) A (collect u) Q E s := by
  have t := top1 rh r
  generalize top S v = tv at t hx
  cases t with
  | @lst a ys xs' h r2 =>
    cases hx
    cases ru
    obtain ⟨its, rv, pl, hz⟩ := I.list (SqL.of (K := X.K) h)
    obtain ⟨o, n, h1, h2, _, h3⟩ := pl
    exact wpAny_collect_seq a (.inl rfl) h1 h2 h3 (fun h' k => by simpa using q ys its h' s.toks r2 rv k hz) (by rw [List.size_toArray, ← rv.length]; exact hz)
  | @tup a ys xs' h r2 =>
    cases hx
    cases ru
    obtain ⟨its, rv, ⟨o, h1, h2, n, h3⟩, hz⟩ := I.tuple (by rw [hK]; exact h.1 : SqT X.K H a ys)
    exact wpAny_collect_seq a (.inr rfl) h1 h2 h3 (fun h' k => by simpa using q ys its h' s.toks r2 rv k hz) (by rw [List.size_toArray, ← rv.length]; exact hz)
  | str z hz => cases hx
  | @dct a es ep kvs h ok r2 =>
    cases hx
    cases ru
    obtain ⟨hs, od, ho, hxd, hdat⟩ := dx_at I.hok h
    have hlen : es.toArray.size = kvs.length := by rw [List.size_toArray]; exact r2.length.symm
    refine PySem.W.kdu_collect (kdl_raw (es := es.toArray) (ep := ep) hs) hh ⟨od, ho, hxd, hdat⟩ (by rw [hlen, sizeLine_eq]; exact ok.len) fun h' tk acc k hacc => ?_
    have ekeys : acc.toList = es.map (·.key) := by
      refine List.ext_getElem? fun i => ?_
      rw [Array.getElem?_toList]
      by_cases hi : i < es.length
      · have hi' : i < acc.size := by rw [hacc.1, List.size_toArray]; exact hi
        obtain ⟨_, e2⟩ := hacc.2 i acc[i] (by simp [hi'])
        rw [List.getElem?_map, List.getElem?_eq_getElem hi]
        simp only [Option.map_some]
        rw [Array.getElem?_eq_getElem hi', e2]
        simp
      · rw [List.getElem?_eq_none (by rw [List.length_map]; omega)]
        have : acc.size = es.length := by rw [hacc.1, List.size_toArray]
        exact Array.getElem?_eq_none (by omega)
    have keys : ∀ {kvs : List (PV × PV)} {es : List DictEntry}, RepD T F ρ kvs es → ∃ ys, Reps T F ρ (kvs.map (·.1)) ys ∧ Vals ys (es.map (·.key)) := by
      intro kvs
      induction kvs with
      | nil => intro es r; cases r; exact ⟨[], .nil, .nil⟩
      | cons p kvs ih =>
        intro es r
        cases r with
        | cons h1 h2 h3 h4 h5 r1 =>
          obtain ⟨ys, g1, g2⟩ := ih r1
          exact ⟨_, .cons h1 g1, .cons h2 g2⟩
    obtain ⟨ys, g1, g2⟩ := keys r2
    rw [ekeys]
    refine q ys _ h' tk g1 g2 k ?_
    rw [← g1.length, List.length_map, sizeLine_eq]
    exact ok.len
  | non => cases hx
  | bl b => cases hx
  | int b => cases hx
  | fn k => cases hx
  | loc => cases hx
/-- values that stand for some -/
abbrev StandP (T : Top) (F : Hp) (ρ : Rho) : Value → PV → Prop := fun u b => ∃ y, Rep T F ρ b y ∧ RelV y u
theorem each_of {F : Hp} {ρ : Rho} : ∀ {xs : List PV} {ys : List V} {us : List Value}, Reps T F ρ xs ys → Vals ys us → EachIs (StandP T F ρ) us xs
  | _, _, _, .nil, .nil => .nil
  | _, _, _, .cons h r, .cons g q => .cons ⟨_, h, g⟩ (each_of r q)
theorem of_each {F : Hp} {ρ : Rho} : ∀ {us : List Value} {xs : List PV}, EachIs (StandP T F ρ) us xs → ∃ ys, Reps T F ρ xs ys ∧ Vals ys us
  | _, _, .nil => ⟨[], .nil, .nil⟩
  | _, _, .cons ⟨y, h, g⟩ r => let ⟨ys, a, b⟩ := of_each r; ⟨y :: ys, .cons h a, .cons g b⟩
theorem each_mapL {α β γ : Type} {R : α → γ → Prop} {f : β → γ} : ∀ {us : List α} {bs : List β}, EachIs R us (bs.map f) → EachIs (fun u b => R u (f b)) us bs
  | us, [], h => by cases h; exact .nil
  | us, b :: bs, h => by
    cases h with
    | cons h r => exact .cons h (each_mapL r)
theorem each_mapR {α β γ : Type} {R : α → γ → Prop} {f : β → γ} : ∀ {us : List α} {bs : List β}, EachIs (fun u b => R u (f b)) us bs → EachIs R us (bs.map f)
  | _, _, .nil => .nil
  | _, _, .cons h r => .cons h (each_mapR r)
/-- sorted(x) -/
theorem blt_sorted {mu : Bool} (hK : X.K = T.K) (hc : X.calm = true) (hu : X.A.units + 64 < cLine) : CallR X (.builtin "sorted") (rBlt T mu .sorted) := by
  intro pins s σ H xs us Q I rv ⟨F, G, ρ, S, vs, o, rh, r, e, q⟩
  obtain ⟨x, ys, rfl, h1, h2⟩ := oneL'_inv e
  obtain ⟨y, rfl, ry⟩ := reps1 r
  obtain ⟨u, rfl, ru⟩ := vals1 rv
  have h1 : (match collOf (top S x) with
    | some xs => sortP (xs.map fun v => (v, v))
    | none => none) = some ys := h1
  split at h1
  · rename_i xs hx
    obtain ⟨hok, rfl⟩ := sortP_merge h1
    have hmap : (xs.map fun v => (v, v)).map (·.1) = xs := by rw [List.map_map]; exact (List.map_congr_left fun _ _ => rfl).trans (List.map_id _)
    rw [hmap] at hok
    obtain ⟨f1, f2, f3⟩ := sortOk_facts hok
    refine PySem.Calls.call_function_entry PyProof.Rows.kind_sorted PyProof.Rows.plain_sorted PyProof.Rows.entry_sorted (PyProof.Rows.args_sorted1 _) ?_
    unfold Builtin.«sorted»
    refine wpAny_bind (m := checkCount "sorted" 1 1 _) (wpAny_pure ?_)
    refine wpAny_bind (collectZ (A := X.A.in1) hK (I.ok.hd hc) I rh ry ru hx fun zs its h' tk rz vz k hz => ?_)
    have I1 : Inv X pins σ H { s with heap := h', toks := tk } := I.kept k
    have hlen : its.length = xs.length := by rw [← vz.length, rz.length]
    refine wpAny_bind (wpAny_newList ?_ (by rw [← vz.length]; exact hz))
    have hoL : (h'.push (seqObj "list" its.toArray 0)).get? h'.objs.size = some (seqObj "list" its.toArray 0) := Heap.get?_push_size _ rfl
    show wpAny _ _ _ _ _ { s with heap := h'.push (seqObj "list" its.toArray 0), toks := tk }
    have I2 : Inv X pins σ H { s with heap := h'.push (seqObj "list" its.toArray 0), toks := tk } := I1.kept (t' := tk) fun b o e => Heap.get?_push_of_some _ e
    have es := each_of rz vz
    refine wpAny_bind (wpAny_holding (list_sort_data (s := { s with heap := h'.push (seqObj "list" its.toArray 0), toks := tk }) (enc := toD) hoL es ?_ f2 f3 (by rw [← hlen, ← vz.length]; exact hz) (fun b hb => ?_) fun out hout eo => ?_))
    · refine (PySem.W.each_mem es).mono fun u b ⟨⟨y, h1, h2⟩, hb⟩ => ⟨[], reads_D I2 hK rh.f 12 (f1 b hb) h1 h2, by simp⟩
    · have := depth_D 12 (f1 b hb)
      show X.A.units + 1 + 1 + (toD b).depth < cLine
      omega
    · have emap : ((xs.map fun v => (v, v)).mergeSort leD).map (·.2) = xs.mergeSort (dataLe false toD) := by
        rw [List.map_mergeSort (s := dataLe false toD) (fun a ha b hb => ?_), List.map_map]
        · congr 1
          exact (List.map_congr_left fun _ _ => rfl).trans (List.map_id _)
        · obtain ⟨v, _, rfl⟩ := List.mem_map.mp ha
          obtain ⟨w, _, rfl⟩ := List.mem_map.mp hb
          rfl
      rw [emap] at h2
      obtain ⟨ws, rw', vw⟩ := of_each eo
      obtain ⟨ep, he'⟩ := PyProof.Rows.sortedHeap_at (vs := its) (out := out.toArray) hoL
      have hp : H h'.objs.size = none := I1.hok.fresh (Nat.le_refl _)
      refine wpAny_pure ⟨_, rfl, .ref h'.objs.size, upd H h'.objs.size (.lst ws), I1.laid (a := h'.objs.size) (t' := tk) (fun b u e => ?_) (Nat.le_refl _) (show ObjOk X.prog X.w _ _ h'.objs.size (.lst ws) from ⟨?_, out, ep, vw, he'⟩), rfl, ?_⟩
      · have hne : b ≠ h'.objs.size := Nat.ne_of_lt (Heap.lt_size e)
        rw [PyProof.Rows.sortedHeap_old hne (Nat.lt_of_lt_of_le (Heap.lt_size e) (by show h'.objs.size ≤ _; rw [Heap.size_push]; exact Nat.le_succ _))]
        exact Heap.get?_push_of_some _ e
      · rw [vw.length, hout, ← hlen, ← vz.length]; exact hz
      · exact mkL_ok rh rw' h2 q hp
  · cases h1
end
end Z

set_option Elab.async false
set_option linter.all false
set_option maxRecDepth 100000
set_option maxHeartbeats 2000000
/-! ZT3: min, max, sum, str, repr. -/
namespace Z
open PySem PySem.Spec PyProof.Rows L2 PySem.W
section
variable {T : Top} {X : Cx} {pins : List (Addr × Obj)} {σ : L2.St} {H : Hp} {s : Shared}
theorem toDs_map : ∀ xs : List PV, toDs xs = xs.map toD
  | [] => rfl
  | x :: xs => by show toD x :: toDs xs = _; rw [toDs_map xs]; rfl
theorem depthAll_D : ∀ {xs : List PV}, (∀ v ∈ xs, dataN 12 v = true) → PyData.depthAll (xs.map toD) ≤ 12
  | [], _ => by rw [List.map_nil, PyData.depthAll]; omega
  | x :: xs, h => by
    rw [List.map_cons, PyData.depthAll]
    have h1 := depth_D 12 (h x List.mem_cons_self)
    have h2 := depthAll_D (xs := xs) fun v hv => h v (List.mem_cons_of_mem _ hv)
    omega
theorem bestOk_facts {xs : List PV} (h : bestOk xs = true) : (∀ v ∈ xs, dataN 12 v = true) ∧ AlikeAll (xs.map toD) := by
  unfold bestOk at h
  rw [Bool.and_eq_true, Bool.and_eq_true] at h
  obtain ⟨⟨h1, h2⟩, h3⟩ := h
  refine ⟨fun v hv => List.all_eq_true.mp h1 v hv, fun d hd d' hd' => ?_, fun d hd => ?_⟩
  · obtain ⟨v, hv, rfl⟩ := List.mem_map.mp hd
    obtain ⟨w, hw, rfl⟩ := List.mem_map.mp hd'
    exact alike_toD v w (List.all_eq_true.mp (List.all_eq_true.mp h3 v hv) w hw)
  · obtain ⟨v, hv, rfl⟩ := List.mem_map.mp hd
    have e1 := List.all_eq_true.mp h1 v hv
    have e2 := List.all_eq_true.mp h2 v hv
    intro z
    cases v with
    | non => cases e2
    | bl b => exact PyData.noConfusion (show PyData.bool b = PyData.none from z)
    | int b => exact PyData.noConfusion (show PyData.int b = PyData.none from z)
    | str b => exact PyData.noConfusion (show PyData.str _ = PyData.none from z)
    | tup b => exact PyData.noConfusion (show PyData.tuple _ = PyData.none from z)
    | _ => cases e1
theorem minT_D : ∀ (r : List PV) (m : PV), toD (minT m r) = minD (toD m) (r.map toD)
  | [], m => rfl
  | a :: r, m => by
    unfold minT
    rw [List.map_cons]
    unfold minD
    rw [List.foldl_cons, ← tkLt_data]
    split
    · exact minT_D r a
    · exact minT_D r m
theorem maxT_D : ∀ (r : List PV) (m : PV), toD (maxT m r) = maxD (toD m) (r.map toD)
  | [], m => rfl
  | a :: r, m => by
    unfold maxT
    rw [List.map_cons]
    unfold maxD
    rw [List.foldl_cons, ← tkLt_data]
    split
    · exact maxT_D r a
    · exact maxT_D r m
theorem minT_mem : ∀ (r : List PV) (m : PV), minT m r ∈ m :: r
  | [], m => List.mem_cons_self
  | a :: r, m => by
    unfold minT
    split
    · exact List.mem_cons_of_mem _ (minT_mem r a)
    · rcases List.mem_cons.mp (minT_mem r m) with z | z
      · rw [z]; exact List.mem_cons_self
      · exact List.mem_cons_of_mem _ (List.mem_cons_of_mem _ z)
theorem maxT_mem : ∀ (r : List PV) (m : PV), maxT m r ∈ m :: r
  | [], m => List.mem_cons_self
  | a :: r, m => by
    unfold maxT
    split
    · exact List.mem_cons_of_mem _ (maxT_mem r a)
    · rcases List.mem_cons.mp (maxT_mem r m) with z | z
      · rw [z]; exact List.mem_cons_self
      · exact List.mem_cons_of_mem _ (List.mem_cons_of_mem _ z)
/-- what reads alike is the same -/
theorem toD_inj : ∀ (n : Nat) {v w : PV}, dataN n v = true → dataN n w = true → toD v = toD w → v = w := by
  intro n
  induction n with
  | zero => intro v w h; cases h
  | succ n ih =>
    intro v w h1 h2 e
    have go : ∀ (xs ys : List PV), xs.all (dataN n) = true → ys.all (dataN n) = true → toDs xs = toDs ys → xs = ys := by
      intro xs
      induction xs with
      | nil => intro ys _ _ e; cases ys with | nil => rfl | cons y ys => cases (show [] = toD y :: toDs ys from e)
      | cons x xs ihx =>
        intro ys q1 q2 e
        cases ys with
        | nil => cases (show toD x :: toDs xs = [] from e)
        | cons y ys =>
          rw [List.all_cons, Bool.and_eq_true] at q1 q2
          have e : toD x :: toDs xs = toD y :: toDs ys := e
          injection e with e1 e2
          rw [ih q1.1 q2.1 e1, ihx ys q1.2 q2.2 e2]
    cases v with
    | non => cases w with
      | non => rfl
      | bl b => cases (show PyData.none = .bool b from e)
      | int b => cases (show PyData.none = .int b from e)
      | str b => cases (show PyData.none = .str _ from e)
      | tup b => cases (show PyData.none = .tuple _ from e)
      | _ => cases h2
    | bl b => cases w with
      | bl c => cases (show PyData.bool b = .bool c from e); rfl
      | non => cases (show PyData.bool b = .none from e)
      | int c => cases (show PyData.bool b = .int c from e)
      | str c => cases (show PyData.bool b = .str _ from e)
      | tup c => cases (show PyData.bool b = .tuple _ from e)
      | _ => cases h2
    | int b => cases w with
      | int c => cases (show PyData.int b = .int c from e); rfl
      | non => cases (show PyData.int b = .none from e)
      | bl c => cases (show PyData.int b = .bool c from e)
      | str c => cases (show PyData.int b = .str _ from e)
      | tup c => cases (show PyData.int b = .tuple _ from e)
      | _ => cases h2
    | str b => cases w with
      | str c =>
        have z : strV b = strV c := PyData.str.inj (show PyData.str (strV b) = .str (strV c) from e)
        rw [strV_inj z]
      | non => cases (show PyData.str _ = .none from e)
      | bl c => cases (show PyData.str _ = .bool c from e)
      | int c => cases (show PyData.str _ = .int c from e)
      | tup c => cases (show PyData.str _ = .tuple _ from e)
      | _ => cases h2
    | tup b => cases w with
      | tup c =>
        have z : toDs b = toDs c := PyData.tuple.inj (show PyData.tuple (toDs b) = .tuple (toDs c) from e)
        rw [go b c h1 h2 z]
      | non => cases (show PyData.tuple _ = .none from e)
      | bl c => cases (show PyData.tuple _ = .bool c from e)
      | int c => cases (show PyData.tuple _ = .int c from e)
      | str c => cases (show PyData.tuple _ = .str _ from e)
      | _ => cases h2
    | _ => cases h1
/-- the items, read -/
theorem reads_all (I : L2.Inv X pins σ H s) (hK : X.K = T.K) {F : Hp} {ρ : Rho} (hF : ∀ a o, F a = some o → H a = some o) : ∀ {xs : List PV} {ys : List V} {its : List Value}, (∀ v ∈ xs, dataN 12 v = true) → Reps T F ρ xs ys → Vals ys its → ReadsAll s.heap its (xs.map toD) []
  | [], _, _, _, r, v => by cases r; cases v; exact .nil
  | x :: xs, _, _, h, r, v => by
    cases r with
    | cons r1 r2 =>
      cases v with
      | cons v1 v2 => exact ReadsAll.cons (as := []) (bs := []) (reads_D I hK hF 12 (h x List.mem_cons_self) r1 v1) (reads_all I hK hF (fun w hw => h w (List.mem_cons_of_mem _ hw)) r2 v2)
/-- min, max: the item found -/
theorem best_item {F G : Hp} {ρ : Rho} {S : LH} (I : L2.Inv X pins σ H s) (hK : X.K = T.K) (rh : RH T F G ρ S H) {xs : List PV} {ys : List V} {its : List Value} {b : PV} {Q : VK} {i : Nat} {v : Value} {h' : Heap} {tk : Nat} {bs : List Addr} (h1 : ∀ v ∈ xs, dataN 12 v = true) (h2 : AlikeAll (xs.map toD)) (ry : Reps T F ρ xs ys) (ru : Vals ys its)
    (hb : b ∈ xs) (hv : its[i]? = some v) (hr : Reads h' v (toD b) bs) (k : ∀ b o, s.heap.get? b = some o → h'.get? b = some o) (q : ∀ y, Rep T F ρ b y → Q y H) : EP X pins σ Q v { s with heap := h', toks := tk } := by
  obtain ⟨y, hy1, hy2⟩ : ∃ y, ys[i]? = some y ∧ RelV y v := by
    have hl := ru.length
    have hi : i < ys.length := by rw [hl]; exact (List.getElem?_eq_some_iff.mp hv).1
    obtain ⟨u, hu1, hu2⟩ := ru.get (List.getElem?_eq_getElem hi)
    rw [hv] at hu1; cases hu1
    exact ⟨_, List.getElem?_eq_getElem hi, hu2⟩
  have hi : i < xs.length := by rw [ry.length]; exact (List.getElem?_eq_some_iff.mp hy1).1
  obtain ⟨y', g1, g2⟩ := reps_get' ry (i := i) (v := xs[i]) (by rw [nth_get]; exact List.getElem?_eq_getElem hi)
  rw [hy1] at g1; cases g1
  have I1 : L2.Inv X pins σ H { s with heap := h', toks := tk } := I.kept k
  have hm : xs[i] ∈ xs := List.getElem_mem hi
  have r2 := reads_D I1 hK rh.f 12 (h1 _ hm) g2 hy2
  have e := alike_unique _ _ _ _ _ (h2.1 _ (List.mem_map_of_mem hb) _ (List.mem_map_of_mem hm)) hr r2
  have e2 := toD_inj 12 (h1 _ hb) (h1 _ hm) e
  exact ⟨y, H, I1, hy2, q y (by rw [e2]; exact g2)⟩
theorem blt_min {mu : Bool} (hK : X.K = T.K) (hc : X.calm = true) (hu : X.A.units + 64 < cLine) : CallR X (.builtin "min") (rBlt T mu .min) := by
  intro pins s σ H zs us Q I rv ⟨F, G, ρ, S, vs, o, rh, r0, e, q⟩
  obtain ⟨x, w, rfl, h1, rfl⟩ := oneV_inv e
  obtain ⟨y, rfl, ry⟩ := reps1 r0
  obtain ⟨u, rfl, ru⟩ := vals1 rv
  have h1 : (match seqOf (top S x) with
    | some (a :: r) => if bestOk (a :: r) then some (minT a r) else none
    | _ => none) = some w := h1
  split at h1
  · rename_i a r hx
    split at h1
    · rename_i hok
      cases h1
      obtain ⟨f1, f2⟩ := bestOk_facts hok
      have hd := depthAll_D f1
      have t := top1 rh ry
      generalize top S x = tv at t hx
      have fin : ∀ y, Rep T F ρ (minT a r) y → Q y H := fun y hy => q _ _ _ _ Ext.refl rh hy
      cases t with
      | @lst p ys xs' h r2 =>
        cases hx
        cases ru
        obtain ⟨its, vv, pl, hz⟩ := I.list (SqL.of (K := X.K) h)
        exact min_list_data (I.ok.hd hc) pl.isList (x := toD a) (xs := r.map toD) (as := []) (reads_all I hK rh.f f1 r2 vv) f2 (by rw [List.map_cons] at hd; omega) fun i v h' tk bs hv hr k =>
          best_item I hK rh f1 f2 r2 vv (minT_mem r a) (by simpa using hv) (by rw [minT_D]; exact hr) k fin
      | @tup p ys xs' h r2 =>
        cases hx
        cases ru
        obtain ⟨its, vv, ⟨o, g1, g2, n, g3⟩, hz⟩ := I.tuple (by rw [hK]; exact h.1 : SqT X.K H p ys)
        exact min_tuple_data (I.ok.hd hc) ⟨o, g1, g2, n, g3⟩ (x := toD a) (xs := r.map toD) (as := []) (reads_all I hK rh.f f1 r2 vv) f2 (by rw [List.map_cons] at hd; omega) fun i v h' tk bs hv hr k =>
          best_item I hK rh f1 f2 r2 vv (minT_mem r a) (by simpa using hv) (by rw [minT_D]; exact hr) k fin
      | _ => cases hx
    · cases h1
  · cases h1
theorem blt_max {mu : Bool} (hK : X.K = T.K) (hc : X.calm = true) (hu : X.A.units + 64 < cLine) : CallR X (.builtin "max") (rBlt T mu .max) := by
  intro pins s σ H zs us Q I rv ⟨F, G, ρ, S, vs, o, rh, r0, e, q⟩
  obtain ⟨x, w, rfl, h1, rfl⟩ := oneV_inv e
  obtain ⟨y, rfl, ry⟩ := reps1 r0
  obtain ⟨u, rfl, ru⟩ := vals1 rv
  have h1 : (match seqOf (top S x) with
    | some (a :: r) => if bestOk (a :: r) then some (maxT a r) else none
    | _ => none) = some w := h1
  split at h1
  · rename_i a r hx
    split at h1
    · rename_i hok
      cases h1
      obtain ⟨f1, f2⟩ := bestOk_facts hok
      have hd := depthAll_D f1
      have t := top1 rh ry
      generalize top S x = tv at t hx
      have fin : ∀ y, Rep T F ρ (maxT a r) y → Q y H := fun y hy => q _ _ _ _ Ext.refl rh hy
      cases t with
      | @lst p ys xs' h r2 =>
        cases hx
        cases ru
        obtain ⟨its, vv, pl, hz⟩ := I.list (SqL.of (K := X.K) h)
        exact max_list_data (I.ok.hd hc) pl.isList (x := toD a) (xs := r.map toD) (as := []) (reads_all I hK rh.f f1 r2 vv) f2 (by rw [List.map_cons] at hd; omega) fun i v h' tk bs hv hr k =>
          best_item I hK rh f1 f2 r2 vv (maxT_mem r a) (by simpa using hv) (by rw [maxT_D]; exact hr) k fin
      | @tup p ys xs' h r2 =>
        cases hx
        cases ru
        obtain ⟨its, vv, ⟨o, g1, g2, n, g3⟩, hz⟩ := I.tuple (by rw [hK]; exact h.1 : SqT X.K H p ys)
        exact max_tuple_data (I.ok.hd hc) ⟨o, g1, g2, n, g3⟩ (x := toD a) (xs := r.map toD) (as := []) (reads_all I hK rh.f f1 r2 vv) f2 (by rw [List.map_cons] at hd; omega) fun i v h' tk bs hv hr k =>
          best_item I hK rh f1 f2 r2 vv (maxT_mem r a) (by simpa using hv) (by rw [maxT_D]; exact hr) k fin
      | _ => cases hx
    · cases h1
  · cases h1
theorem sumL_sum : ∀ {xs : List PV} {n k : Int} {F : Hp} {ρ : Rho} {ys : List V}, sumL n xs = some k → Reps T F ρ xs ys → ∃ ns : List Int, ys = ns.map V.int ∧ k = n + ns.sum
  | [], n, k, F, ρ, ys, h, r => by cases h; cases r; exact ⟨[], rfl, by simp⟩
  | x :: xs, n, k, F, ρ, ys, h, r => by
    cases x with
    | int i =>
      have h : sumL (n + i) xs = some k := h
      cases r with
      | cons r1 r2 =>
        obtain ⟨ns, e1, e2⟩ := sumL_sum h r2
        exact ⟨i :: ns, by rw [rep_int r1, e1]; rfl, by rw [e2, List.sum_cons]; omega⟩
    | _ => cases h
theorem blt_sum {mu : Bool} (hc : X.calm = true) : CallR X (.builtin "sum") (rBlt T mu .sum) := CallR.imp (cr_sum hc) fun xs H Q ⟨F, G, ρ, S, vs, o, rh, r, e, q⟩ => by
  obtain ⟨x, v, rfl, h1, rfl⟩ := oneV_inv e
  obtain ⟨y, rfl, ry⟩ := reps1 r
  have t := top1 rh ry
  generalize top S x = tx at t h1
  cases t with
  | @lst a ys xs h r2 =>
    have h1' : (match sumL 0 xs with | some c => some (PV.int c) | none => none) = some v := h1
    split at h1'
    · rename_i k hk
      cases h1'
      obtain ⟨ns, e1, e2⟩ := sumL_sum hk r2
      subst e1
      refine ⟨a, ns, rfl, .inl (.inl h), ?_⟩
      rw [show ns.sum = k from by omega]
      exact q _ _ _ _ Ext.refl rh (.int _)
    · cases h1'
  | _ => cases h1
theorem intStr_eq (i : Int) : Str.ofString (toString i) = strV (intStr i) := by
  rw [Str.ofString_eq_toList]
  have hn : ∀ n : Nat, (toString n).toList = Nat.toDigits 10 n := fun n => by
    show (Nat.repr n).toList = _
    unfold Nat.repr
    simp
  cases i with
  | ofNat n =>
    have e : toString (Int.ofNat n) = toString n := rfl
    rw [e, hn]
    unfold intStr
    rw [if_neg (show ¬ (Int.ofNat n < 0) from Int.not_lt.mpr (Int.natCast_nonneg n))]
    rfl
  | negSucc n =>
    have e : toString (Int.negSucc n) = "-" ++ toString (n + 1) := rfl
    rw [e, String.toList_append, hn]
    unfold intStr
    rw [if_pos (Int.negSucc_lt_zero n)]
    rfl
theorem digit_lt (n d : Nat) (h : d ∈ digitsN n) : d < 1114112 := by
  unfold digitsN at h
  obtain ⟨c, _, rfl⟩ := List.mem_map.mp h
  have := c.valid
  rcases c.valid with z | z
  · have : c.toNat < 55296 := z
    omega
  · exact z.2
theorem digits_len {i : Int} (h : i.natAbs.log2 < 1920) : (intStr i).length ≤ 16777216 := by
  have h1 := int_text_fits (a := i) h
  have e : (toString i : Str).length = (intStr i).length := by
    show (Str.ofString (toString i)).length = _
    rw [intStr_eq, strV_length]
  rw [e, sizeLine_eq] at h1
  exact h1
theorem okS_int {i : Int} (h : i.natAbs.log2 < 1920) : okS (intStr i) := ⟨digits_len h, fun c hc => by
  unfold intStr at hc
  split at hc
  · rcases List.mem_cons.mp hc with z | z
    · omega
    · exact digit_lt _ _ z
  · exact digit_lt _ _ hc⟩
theorem blt_str {mu : Bool} : CallR X (.type "str") (rBlt T mu .str) := CallR.imp call_str_int fun xs H Q ⟨F, G, ρ, S, vs, o, rh, r, e, q⟩ => by
  obtain ⟨x, v, rfl, h1, rfl⟩ := oneV_inv e
  obtain ⟨y, rfl, ry⟩ := reps1 r
  have t := top1 rh ry
  generalize top S x = tx at t h1
  cases t with
  | int i =>
    have h1' : (if decide (i.natAbs.log2 < 1920) then some (PV.str (intStr i)) else none) = some v := h1
    split at h1'
    · rename_i hl
      cases h1'
      have hl := of_decide_eq_true hl
      refine ⟨i, rfl, hl, ?_⟩
      show Q (.str (Str.ofString (toString i))) H
      rw [intStr_eq]
      exact q _ _ _ _ Ext.refl rh (.str _ (okS_int hl))
    · cases h1'
  | _ => cases h1
theorem printable_plain : ∀ c, c < 127 → 32 ≤ c → Unicode.isPrintable c = true := by decide +kernel
theorem reprText_plain {s : List Nat} (h : s.all plainSign = true) : reprText (strV s) = strV (39 :: s ++ [39]) := by
  have hp : ∀ c ∈ s, 32 ≤ c ∧ c ≤ 126 ∧ c ≠ 39 ∧ c ≠ 92 := fun c hc => by
    have z := List.all_eq_true.mp h c hc
    unfold plainSign at z
    simp only [Bool.and_eq_true, Bool.not_eq_true'] at z
    obtain ⟨⟨⟨z1, z2⟩, z3⟩, z4⟩ := z
    refine ⟨Nat.le_of_ble_eq_true z1, Nat.le_of_ble_eq_true z2, ?_, ?_⟩
    · intro e
      rw [e] at z3
      cases z3
    · intro e
      rw [e] at z4
      cases z4
  have hq : reprQuote (strV s) = 39 := by
    unfold reprQuote
    have : (strV s).cps.contains 39 = false := by
      show s.toArray.contains 39 = false
      rw [List.contains_toArray]
      cases z : s.contains 39 with
      | false => rfl
      | true =>
        exact absurd rfl (hp 39 (by simpa using z)).2.2.1
    rw [this]
    rfl
  have hc : ∀ c ∈ s, Builtin.Str.reprChar 39 c = [c] := fun c hc => by
    obtain ⟨h1, h2, h3, h4⟩ := hp c hc
    unfold Builtin.Str.reprChar
    dsimp only
    rw [if_neg (by simp [h3, h4]), if_neg (by simp; omega), if_neg (by simp; omega), if_neg (by simp; omega), if_pos (printable_plain c (by omega) h1)]
  unfold reprText
  rw [hq]
  show Str.mk ((s.toArray.foldl (fun out c => out ++ (Builtin.Str.reprChar 39 c).toArray) #[39]).push 39) = _
  rw [← Array.foldl_toList]
  have go : ∀ (l : List Nat) (acc : List Nat), (∀ c ∈ l, Builtin.Str.reprChar 39 c = [c]) → l.foldl (fun out c => out ++ (Builtin.Str.reprChar 39 c).toArray) acc.toArray = (acc ++ l).toArray := by
    intro l
    induction l with
    | nil => intro acc _; simp
    | cons c l ih =>
      intro acc hl
      rw [List.foldl_cons, hl c List.mem_cons_self]
      have e : acc.toArray ++ [c].toArray = (acc ++ [c]).toArray := by simp
      rw [e, ih _ fun d hd => hl d (List.mem_cons_of_mem _ hd)]
      simp
  have e2 := go s [39] hc
  have e3 : List.foldl (fun out c => out ++ (Builtin.Str.reprChar 39 c).toArray) #[39] s.toArray.toList = ([39] ++ s).toArray := e2
  rw [e3]
  simp
theorem call_reprS : CallR X (.builtin "repr") (fun xs H Q => (xs = [.non] ∧ Q (.str (Str.ofString "None")) H) ∨ (∃ b : Bool, xs = [.bl b] ∧ Q (.str (if b then Str.ofString "True" else Str.ofString "False")) H) ∨ (∃ i, xs = [.int i] ∧ i.natAbs.log2 < 1920 ∧ Q (.str (Str.ofString (toString i))) H) ∨
    ∃ x, xs = [.str x] ∧ (reprText x).length ≤ sizeLine ∧ Q (.str (reprText x)) H) := by
  intro pins s σ H xs us Q I r h
  rcases h with ⟨rfl, q⟩ | ⟨b, rfl, q⟩ | ⟨i, rfl, hz, q⟩ | ⟨x, rfl, hz, q⟩
  · obtain ⟨u, rfl, r1⟩ := vals1 r
    cases r1
    exact PySem.P.repr_of_none ⟨.str _, H, I.tok _, ⟨_, rfl⟩, q⟩
  · obtain ⟨u, rfl, r1⟩ := vals1 r
    cases r1
    refine PySem.P.repr_of_bool ⟨.str _, H, I.tok _, ⟨_, rfl⟩, ?_⟩
    cases b <;> exact q
  · obtain ⟨u, rfl, t, rfl⟩ := vals1 r
    exact PySem.P.repr_of_int hz ⟨.str _, H, I.tok _, ⟨_, rfl⟩, q⟩
  · obtain ⟨u, rfl, t, rfl⟩ := vals1 r
    exact PySem.P.repr_of_str ⟨.str _, H, I.tok _, ⟨_, rfl⟩, q⟩ hz
theorem blt_repr {mu : Bool} : CallR X (.builtin "repr") (rBlt T mu .repr) := CallR.imp call_reprS fun xs H Q ⟨F, G, ρ, S, vs, o, rh, r, e, q⟩ => by
  obtain ⟨x, v, rfl, h1, rfl⟩ := oneV_inv e
  obtain ⟨y, rfl, ry⟩ := reps1 r
  have t := top1 rh ry
  generalize top S x = tx at t h1
  have okc : ∀ {n : String} {l : List Nat}, Str.ofString n = strV l → okS l → Q (.str (strV l)) H → Q (.str (Str.ofString n)) H := fun e _ q => by rw [e]; exact q
  cases t with
  | non =>
    cases h1
    have e1 : Str.ofString "None" = strV (codes "None") := Str.ofString_eq_toList _
    refine .inl ⟨rfl, ?_⟩
    rw [e1]
    exact q _ _ _ _ Ext.refl rh (.str _ ⟨by decide, by decide⟩)
  | bl b =>
    refine .inr (.inl ⟨b, rfl, ?_⟩)
    cases b with
    | true =>
      cases h1
      have e1 : Str.ofString "True" = strV (codes "True") := Str.ofString_eq_toList _
      rw [if_pos rfl, e1]
      exact q _ _ _ _ Ext.refl rh (.str _ ⟨by decide, by decide⟩)
    | false =>
      cases h1
      have e1 : Str.ofString "False" = strV (codes "False") := Str.ofString_eq_toList _
      rw [if_neg Bool.false_ne_true, e1]
      exact q _ _ _ _ Ext.refl rh (.str _ ⟨by decide, by decide⟩)
  | int i =>
    have h1' : (if decide (i.natAbs.log2 < 1920) then some (PV.str (intStr i)) else none) = some v := h1
    split at h1'
    · rename_i hl
      cases h1'
      have hl := of_decide_eq_true hl
      refine .inr (.inr (.inl ⟨i, rfl, hl, ?_⟩))
      rw [intStr_eq]
      exact q _ _ _ _ Ext.refl rh (.str _ (okS_int hl))
    · cases h1'
  | str z hz =>
    have h1' : (if z.all plainSign && okLen (z.length + 2) then some (PV.str (39 :: z ++ [39])) else none) = some v := h1
    split at h1'
    · rename_i hl
      cases h1'
      rw [Bool.and_eq_true] at hl
      have hlen : z.length + 2 ≤ 16777216 := Nat.le_of_ble_eq_true hl.2
      refine .inr (.inr (.inr ⟨_, rfl, ?_, ?_⟩))
      · rw [reprText_plain hl.1, strV_length, sizeLine_eq]
        simpa using hlen
      · rw [reprText_plain hl.1]
        refine q _ _ _ _ Ext.refl rh (.str _ ⟨by simpa using hlen, fun c hc => ?_⟩)
        rcases List.mem_append.mp hc with c1 | c1
        · rcases List.mem_cons.mp c1 with c2 | c2
          · omega
          · exact hz.2 c c2
        · have : c = 39 := by simpa using c1
          omega
    · cases h1'
  | _ => cases h1
end
end Z

set_option Elab.async false
set_option linter.all false
set_option maxRecDepth 100000
set_option maxHeartbeats 2000000
/-! ZT4: dict(pairs). -/
namespace Z
open PySem PySem.Spec PyProof.Rows L2 PySem.W
section
variable {T : Top} {X : Cx} {pins : List (Addr × Obj)} {σ : L2.St} {H : Hp} {s : Shared}
/-- a pair's values stand for a pair's -/
abbrev PairP (T : Top) (F : Hp) (ρ : Rho) : Value × Value → PV × PV → Prop := fun p q => (∃ x, Rep T F ρ q.1 x ∧ RelV x p.1) ∧ ∃ y, Rep T F ρ q.2 y ∧ RelV y p.2
theorem pairs_of {F : Hp} {ρ : Rho} (I : L2.Inv X pins σ H s) (hK : X.K = T.K) (hF : ∀ a o, F a = some o → H a = some o) : ∀ {xs : List PV} {kvs : List (PV × PV)} {ys : List V} {its : List Value}, pairsOf xs = some kvs → Reps T F ρ xs ys → Vals ys its →
    ∃ (as : List Addr) (ps : List (Value × Value)), its = as.map Value.ref ∧ as.length = ps.length ∧ EachIs (PairP T F ρ) ps kvs ∧ ∀ (j : Nat) (k v : Value), ps[j]? = some (k, v) → ∃ a, as[j]? = some a ∧ PairAt s.heap a k v
  | [], kvs, ys, its, h, r, v => by cases h; cases r; cases v; exact ⟨[], [], rfl, rfl, .nil, fun j k v h => by simp at h⟩
  | x :: xs, kvs, ys, its, h, r, v => by
    unfold pairsOf at h
    split at h
    · rename_i hx
      cases hx
    · rename_i k w r' hx
      cases hx
      split at h
      · rename_i t ht
        cases h
        cases r with
        | cons r1 r2 =>
          cases v with
          | cons v1 v2 =>
            obtain ⟨as, ps, e1, e2, e3, e4⟩ := pairs_of I hK hF ht r2 v2
            cases r1 with
            | @tup a zs _ hT rz =>
              cases v1
              obtain ⟨its2, vv, ⟨o, g1, g2, n, g3⟩, _⟩ := I.tuple (by rw [hK]; exact (tupF_mono hF hT).1 : SqT X.K H a zs)
              cases rz with
              | cons q1 q2 =>
                cases q2 with
                | cons q3 q4 =>
                  cases q4
                  cases vv with
                  | cons w1 w2 =>
                    cases w2 with
                    | cons w3 w4 =>
                      cases w4
                      rename_i ku wu
                      refine ⟨a :: as, (ku, wu) :: ps, by rw [e1]; rfl, by simp [e2], .cons (a := (ku, wu)) (b := (k, w)) ⟨⟨_, q1, w1⟩, _, q3, w3⟩ e3, fun j k' v' hj => ?_⟩
                      cases j with
                      | zero =>
                        have hj : some (ku, wu) = some (k', v') := hj
                        cases hj
                        exact ⟨a, rfl, .inl ⟨o, g1, g2, n, g3⟩⟩
                      | succ j => exact e4 j k' v' (by simpa using hj)
      · cases h
    · cases h
theorem call_dictZ {F G : Hp} {ρ : Rho} {S : LH} {xs : List PV} {kvs res : List (PV × PV)} {ys : List V} {its : List Value} {a : Addr} {Ty : String} {mu : Bool} {o : Out PV} {Q : VK} {W : WX}
    (hK : X.K = T.K) (hw : X.w = T.w) (hc : X.calm = true) (hu : X.A.units + 64 < cLine) (I : L2.Inv X pins σ H s) (rh : RH T F G ρ S H) (hT : Ty = "list" ∨ Ty = "tuple") (hpl : PlainSeq Ty s.heap a its.toArray) (hz : its.length ≤ sizeLine) (rx : Reps T F ρ xs ys) (rv : Vals ys its)
    (hp : pairsOf xs = some kvs) (hs : storeAll [] kvs = some res) {σ' : L2.St} (hm : mkD mu res S = some o) (q : After T W F G ρ σ' o Q) :
    wpAny (model X.prog X.w) X.A (call (.type "dict") [.ref a]) (EP X pins σ Q) X.xe s := by
  obtain ⟨as, ps, e1, e2, e3, e4⟩ := pairs_of I hK rh.f hp rx rv
  have hlen : ps.length = kvs.length := e3.length
  have hli : its.length = ps.length := by rw [e1, List.length_map, e2]
  have items : PairItems s.heap its.toArray (fun j => as.getD j 0) ps := by
    refine ⟨by rw [List.size_toArray, hli], fun j k v hj => ?_⟩
    obtain ⟨b, hb1, hb2⟩ := e4 j k v hj
    have hg : as.getD j 0 = b := by rw [List.getD_eq_getElem?_getD, hb1]; rfl
    have hg' : (fun j => as.getD j 0) j = b := hg
    rw [hg']
    refine ⟨?_, hb2⟩
    rw [List.getElem?_toArray, e1, List.getElem?_map, hb1]
    rfl
  have main : ∀ (P : PairArg X.prog X.w Ty a (a :: (List.range ps.length).map fun j => as.getD j 0) [] ps.length (PairRel ps) (fun h => PlainSeq Ty h a its.toArray ∧ PairItems h its.toArray (fun j => as.getD j 0) ps)),
      wpAny (model X.prog X.w) X.A (call (.type "dict") [.ref a]) (EP X pins σ Q) X.xe s := fun P => by
    have hd : H s.heap.objs.size = none := I.hok.fresh (Nat.le_refl _)
    refine call_dict_arg P ⟨hpl, items⟩ fun s₁ hs₁ hdf ok₁ => ?_
    have I1 : L2.Inv X pins σ (upd H s.heap.objs.size (DX s.heap.objs.size [] 0)) s₁ := by
      rw [hs₁]
      exact I.laid (a := s.heap.objs.size) (o := DX s.heap.objs.size [] 0) (t' := s.toks) (fun _ _ q => Heap.get?_push_of_some _ q) (Nat.le_refl _) (new_empty s.heap I.big)
    generalize hdd : s.heap.objs.size = d at *
    have fd : F d = none := rh.fnone hd
    have hF1 : ∀ es ep a o, F a = some o → upd H d (DX d es ep) a = some o := fun es ep a o e => by rw [upd_ne (ne_of_none e fd)]; exact rh.f a o e
    have at_ : ∀ {h : Heap} {od : Obj} {es : List DictEntry} {ep : Nat} (tk : Nat), (∀ b o, b ≠ d → s₁.heap.get? b = some o → h.get? b = some o) → h.get? d = some od → od.ExactDict → od.data = .dict es.toArray ep → L2.Inv X pins σ (upd H d (DX d es ep)) { s₁ with heap := h, toks := tk } := fun {h od es ep} tk k h1 h2 h3 => by
      have z := I1.write (t' := tk) (x := d) (e := d) (o := DX d es ep) (by rw [upd_same]; exact True.intro) (.inl rfl) k ⟨od, h1⟩ (dx_ok (dx_at I1.hok upd_same).1 h1 h2 h3)
      rw [upd_upd] at z
      exact z
    obtain ⟨_, od0, ho0, hx0, hd0⟩ := dx_at I1.hok (upd_same (H := H) (a := d) (o := DX d [] 0))
    refine updateFrom_arg (A := X.A.in1) (d := d) (Tab := fun i h => (∀ b o, b ≠ d → s₁.heap.get? b = some o → h.get? b = some o) ∧ ∃ od es ep acc, h.get? d = some od ∧ od.ExactDict ∧ od.data = .dict es.toArray ep ∧ RepD T F ρ acc es ∧ DOk acc ∧ acc.length ≤ i ∧ storeAll acc (kvs.drop i) = some res) P .none (I.ok.hd hc) ok₁ hdf
      ⟨fun _ _ _ e => e, od0, [], 0, [], ho0, hx0, hd0, .nil, DOk.nil, Nat.le_refl _, by rw [List.drop_zero]; exact hs⟩ (fun i h tb => ?_) (fun i h h' wr' hd' hw' tb k => ?_) (fun i k v s' Q' E' hi hrel tb _ hq => ?_) fun h' tk tb k => ?_
    · obtain ⟨_, od, es, ep, acc, ho, _⟩ := tb
      exact Heap.lt_size ho
    · obtain ⟨kp, od, es, ep, acc, h1, h2⟩ := tb
      exact ⟨fun b o hb e => k b o (fun hm => by
        rcases hw' b hm with z | z
        · cases z
        · rw [z] at e; cases e) (kp b o hb e), od, es, ep, acc, k _ _ hd' h1, h2⟩
    · obtain ⟨kp, od, es, ep, acc, o1, o2, o3, r1, r2, r3, r4⟩ := tb
      have hik : i < kvs.length := by rw [← hlen]; exact hi
      have hdr : kvs.drop i = kvs[i] :: kvs.drop (i + 1) := by rw [List.drop_eq_getElem_cons]
      rw [hdr] at r4
      have hrel : ps[i]? = some (k, v) := hrel
      obtain ⟨⟨x, x1, x2⟩, y, y1, y2⟩ : PairP T F ρ (k, v) kvs[i] := e3.zip ((k, v), kvs[i]) (List.mem_of_getElem? (i := i) (by rw [List.getElem?_zip_eq_some]; exact ⟨hrel, List.getElem?_eq_getElem hik⟩))
      generalize hkv : kvs[i] = kv at *
      obtain ⟨k0, v0⟩ := kv
      unfold storeAll at r4
      split at r4
      · rename_i hkf
        have hl0 : acc.length + 1 ≤ 16777216 := by
          have := hz
          rw [sizeLine_eq] at this
          omega
        refine d_setH (T := T) (s0 := { s₁ with heap := s'.heap, toks := 0 }) (at_ 0 kp o1 o2 o3) rfl hK hw (hF1 es ep) (by show X.A.units + 1 + 1 + 16 < cLine; omega) upd_same r2 r1 hkf x1 x2 y1 y2 (by rw [sizeLine_eq]; omega) fun h' tk' es' ep' J' sb r' => ?_
        obtain ⟨_, od', g1, g2, g3⟩ := dx_at (J' 0).hok upd_same
        exact hq h' tk' ⟨fun b o hb e => (sb.2 b hb).trans (kp b o hb e), od', es', ep', _, g1, g2, g3, r', r2.store hkf hl0, Nat.le_trans storeK_length (by omega), r4⟩ sb
      · cases r4
    · obtain ⟨kp, od, es, ep, acc, o1, o2, o3, r1, r2, r3, r4⟩ := tb
      rw [hlen, List.drop_length] at r4
      cases (show some acc = some res from r4)
      refine ⟨rfl, .ref d, upd H d (DX d es ep), ?_, rfl, mkD_ok rh r2 r1 hm q hd⟩
      have z := at_ tk kp o1 o2 o3
      rw [hs₁] at z
      rw [hs₁]
      exact z
  rcases hT with z | z
  · subst z; exact main (PairArg.list a _ _ ps)
  · subst z; exact main (PairArg.tuple a _ _ ps)
theorem oneD'_inv {mu : Bool} {f : LH → PV → Option (List (PV × PV))} {vs : List PV} {S : LH} {o : Out PV} (h : oneD' mu f vs S = some o) : ∃ x kvs, vs = [x] ∧ f S (top S x) = some kvs ∧ mkD mu kvs S = some o := by
  unfold oneD' at h
  split at h
  · split at h
    · rename_i x _ kvs hk
      exact ⟨x, kvs, rfl, hk, h⟩
    · cases h
  · cases h
theorem blt_dict {mu : Bool} (hK : X.K = T.K) (hw : X.w = T.w) (hc : X.calm = true) (hu : X.A.units + 64 < cLine) : CallR X (.type "dict") (rBlt T mu .dict) := by
  intro pins s σ H zs us Q I rv ⟨F, G, ρ, S, vs, o, rh, r, e, q⟩
  obtain ⟨x, res, rfl, h1, h2⟩ := oneD'_inv e
  obtain ⟨y, rfl, ry⟩ := reps1 r
  obtain ⟨u, rfl, ru⟩ := vals1 rv
  have t := top1 rh ry
  generalize top S x = tv at t h1
  cases t with
  | @lst a ys xs h r2 =>
    have h1 : (match pairsOf xs with | some kvs => storeAll [] kvs | none => none) = some res := h1
    split at h1
    · rename_i kvs hp
      cases ru
      obtain ⟨its, vv, pl, hz⟩ := I.list (SqL.of (K := X.K) h)
      obtain ⟨ob, n, g1, g2, g3, g4⟩ := pl
      exact call_dictZ hK hw hc hu I rh (.inl rfl) ⟨ob, n, g1, g2, g3, g4⟩ (by rw [← vv.length]; exact hz) r2 vv hp h1 h2 q
    · cases h1
  | @tup a ys xs h r2 =>
    have h1 : (match pairsOf xs with | some kvs => storeAll [] kvs | none => none) = some res := h1
    split at h1
    · rename_i kvs hp
      cases ru
      obtain ⟨its, vv, pl, hz⟩ := I.tuple (by rw [hK]; exact h.1 : SqT X.K H a ys)
      obtain ⟨ob, g1, g2, n, g3⟩ := pl
      have hd : ob.dict = none := by
        obtain ⟨o2, d0, z⟩ := h.2
        have e2 : s.heap.get? a = some o2 := by
          rcases z with z | z
          · exact (I.hok a _ z).1
          · exact I.kIn a o2 (by rw [hK]; exact z)
        rw [g1] at e2; cases e2
        exact d0
      exact call_dictZ hK hw hc hu I rh (.inr rfl) ⟨ob, n, g1, g2, hd, g3⟩ (by rw [← vv.length]; exact hz) r2 vv hp h1 h2 q
    · cases h1
  | _ => cases h1
end
end Z

set_option Elab.async false
set_option linter.all false
set_option maxRecDepth 100000
set_option maxHeartbeats 2000000
/-! ZM: methods. -/
namespace Z
open PySem PySem.Spec PyProof.Rows L2 PySem.W
section
variable {T : Top} {X : Cx} {W : WX} {pins : List (Addr × Obj)} {σ : L2.St} {H : Hp} {s : Shared}
variable (T) in
/-- o.m(vs), o of the kind tag -/
def rMeth (mt : MI) (tag : Nat) : V → List V → Hp → VK → Prop := fun x xs H Q =>
  ∃ F G ρ S pv pvs o, RH T F G ρ S H ∧ Rep T F ρ pv x ∧ Reps T F ρ pvs xs ∧ tagOf (top S pv) = tag ∧ methOp mt pv pvs S = some o ∧ After T (fun _ _ _ _ => False) F G ρ [] o Q
theorem methOp_exn {mt : MI} {x : PV} {vs : List PV} {S : LH} {c : Nat} {fs : List PV} {S' : LH} : methOp mt x vs S ≠ some (.exn c fs S') := fun h => by
  cases mt
  all_goals
    simp only [methOp, mAppend, mGet, mIndex, mRemove, mJoin] at h
    repeat' split at h
    all_goals (cases h; done)
def kindOf : Nat → String
  | 3 => "str"
  | 4 => "tuple"
  | 5 => "list"
  | 6 => "dict"
  | _ => ""
theorem kind_is {F G : Hp} {ρ : Rho} {S : LH} {pv : PV} {x : V} {v : Value} (hK : X.K = T.K) (I : L2.Inv X pins σ H s) (rh : RH T F G ρ S H) (r : Rep T F ρ pv x) (ru : RelV x v) (h3 : 3 ≤ tagOf (top S pv)) :
    s.TypeIs v (kindOf (tagOf (top S pv))) ∧ ∀ a, v = .ref a → ∃ ob, s.heap.get? a = some ob ∧ ob.dict = none := by
  have t := top1 rh r
  generalize top S pv = tv at t h3
  cases t with
  | str z hz =>
    obtain ⟨t, rfl⟩ := ru
    exact ⟨typeIs_str _ _ _, fun a e => by cases e⟩
  | @tup a ys xs h r2 =>
    cases ru
    obtain ⟨its, vv, ⟨ob, g1, g2, n, g3⟩, hz⟩ := I.tuple (by rw [hK]; exact h.1 : SqT X.K H a ys)
    refine ⟨⟨ob, g1, g2⟩, fun b e => ?_⟩
    cases e
    obtain ⟨o2, d0, z⟩ := h.2
    have e2 : s.heap.get? a = some o2 := by
      rcases z with z | z
      · exact (I.hok a _ z).1
      · exact I.kIn a o2 (by rw [hK]; exact z)
    exact ⟨o2, e2, d0⟩
  | @lst a ys xs h r2 =>
    cases ru
    obtain ⟨its, vv, ⟨ob, n, g1, g2, g3, g4⟩, hz⟩ := I.list (SqL.of (K := X.K) h)
    refine ⟨⟨ob, g1, g2⟩, fun b e => ?_⟩
    cases e
    exact ⟨ob, g1, g3⟩
  | @dct a es ep kvs h ok r2 =>
    cases ru
    obtain ⟨hs, od, ho, hxd, hdat⟩ := dx_at I.hok h
    refine ⟨⟨od, ho, hxd.1⟩, fun b e => ?_⟩
    cases e
    exact ⟨od, ho, hxd.2.1⟩
  | non => exact absurd h3 (by show ¬ 3 ≤ 1; omega)
  | bl b => exact absurd h3 (by show ¬ 3 ≤ 2; omega)
  | int i => exact absurd h3 (by show ¬ 3 ≤ 2; omega)
  | loc => exact absurd h3 (by show ¬ 3 ≤ 0; omega)
  | fn k => exact absurd h3 (by show ¬ 3 ≤ 0; omega)
/-- a method -/
def MethOk (T : Top) (X : Cx) (mt : MI) (name : Str) : Prop := ∀ tag, methTag mt tag = true → 3 ≤ tag ∧ ∃ id, PlainAttrs (kindOf tag) ∧ Slot (kindOf tag) name id ∧ typeOf (.builtin id) = pure (.type "method_descriptor") ∧ MtR X id (rMeth T mt tag)
variable {o e : Expr} {es : List Expr} {apos cpos : Pos}
/-- o is no super() -/
def plainBase : Expr → Bool
  | .Call (.Name _ _) [] [] _ => false
  | _ => true
theorem plainBase_ok {o : Expr} (h : plainBase o = true) {name : Str} {env : Env} {w : Sem Value} : attributeBase o name env w = w := by
  unfold plainBase at h
  split at h
  · cases h
  · rename_i hn
    unfold attributeBase
    split
    · rename_i id p pos
      exact absurd rfl (hn _ _ _)
    · rfl
theorem backTo_all {env : Env} {cpos : Pos} : ∀ {es : List Expr}, noStars es = true → (backTo cpos (starEach es env)).all (fun x => !x.1) = true ∧ (backTo cpos (starEach es env)).any (·.1) = false
  | [], _ => ⟨rfl, rfl⟩
  | e :: es, h => by
    unfold noStars at h
    rw [List.all_cons, Bool.and_eq_true] at h
    have h1 := starEach_plain (env := env) (es := es) h.1
    have h2 := backTo_all (cpos := cpos) (env := env) (es := es) (by unfold noStars; exact h.2)
    rw [h1]
    show ((!false) && (backTo cpos (starEach es env)).all (fun x => !x.1)) = true ∧ (false || (backTo cpos (starEach es env)).any (·.1)) = false
    rw [h2.1, h2.2]
    exact ⟨rfl, rfl⟩
theorem pe_methZ {mt : MI} {mo : Ev} {ms : Evs} {name : Str} (hK : X.K = T.K) (M : MethOk T X mt name) (ho : PE X o (TZ T W mo)) (ha : PA X (e :: es) (TZs T W ms)) (hb : plainBase o = true) (ns : noStars (e :: es) = true) (hlen : (e :: es).length < 30) (hline : (apos.endLine == cpos.line) = true) :
    PE X (.Call (.Attribute o name apos) (e :: es) [] cpos) (TZ T W (eMeth mt mo ms)) := by
  refine ⟨fun pins s σ H Q I h => ?_⟩
  obtain ⟨F, G, ρ, l, S, o', rl, rh, ev, q⟩ := h
  have hall := backTo_all (env := X.env) (cpos := cpos) ns
  have h0 := ns
  unfold noStars at h0
  rw [List.all_cons, Bool.and_eq_true] at h0
  have hs := starEach_plain (env := X.env) (es := es) h0.1
  refine wpAny_Call_method_late (plainBase_ok hb) (by rw [hall.1]; show (true && true && decide ((e :: es).length + 0 + 0 < 30)) = true; rw [decide_eq_true (p := (e :: es).length + 0 + 0 < 30) hlen]; rfl) hline rfl (thn (ho.run pins s σ H (fun x H1 => ∃ F1 ρ1 v S1, Ext F ρ F1 ρ1 ∧ RH T F1 G ρ1 S1 H1 ∧ Rep T F1 ρ1 v x ∧ (if methTag mt (tagOf (top S1 v)) then orO (ms l S1) (fun vs S2 => if Nat.beq (tagOf (top S1 v)) (tagOf (top S2 v)) then methOp mt v vs S2 else none) else none) = some o') I ?_) fun v s1 ⟨x, H1, I1, r1, q1⟩ => ?_)
  · exact tz_ok rl rh ev q fun v S1 F1 ρ1 x H1 e1 ex1 rl1 rh1 r1 h1 => ⟨F1, ρ1, v, S1, ex1, rh1, r1, e1⟩
  · obtain ⟨F1, ρ1, pv, S1, ex1, rh1, rp, e1⟩ := q1
    have rl1 := rl.ext ex1
    have q1 := q.later ex1
    split at e1
    · rename_i ht
      obtain ⟨h3, id, m1, m2, m3, m4⟩ := M _ ht
      obtain ⟨k1, k2⟩ := kind_is hK I1 rh1 rp r1 h3
      refine ⟨_, id, m1, m2, m3, k1, k2, ?_⟩
      have hA := ha.run cpos pins s1 σ H1 (fun xs H2 => rMeth T mt (tagOf (top S1 pv)) x xs H2 Q) I1 (tz_ok rl1 rh1 e1 q1 fun vs S2 F2 ρ2 xs H2 e2 ex2 rl2 rh2 r2 h2 => by
        split at e2
        · rename_i hb
          refine ⟨F2, G, ρ2, S2, pv, vs, o', rh2, rp.ext ex2, r2, (Nat.eq_of_beq_eq_true hb).symm, e2, ?_⟩
          cases o' with
          | ok w S3 => exact h2
          | exn c fs S3 => exact absurd e2 methOp_exn
        · cases e2)
      rw [hs] at hA ⊢
      refine Calls.callWith_builtin (by show (false || (backTo cpos (starEach es X.env)).any (·.1)) = false; rw [(backTo_all (by unfold noStars; exact h0.2)).2] <;> rfl) (Calls.evalArgs_plain ?_)
      exact thn hA fun us s2 ⟨vs, H2, I2, r2, q2⟩ => m4 pins s2 σ H2 x vs v us Q I2 r1 r2 q2
    · cases e1
/-! ### the rules -/
theorem tag_at {F G : Hp} {ρ : Rho} {S : LH} {pv : PV} {x : V} (rh : RH T F G ρ S H) (r : Rep T F ρ pv x) : True := True.intro
theorem vals_one {xs : List PV} {ys : List V} {us : List Value} {F : Hp} {ρ : Rho} {k : PV} (r : Reps T F ρ [k] ys) (v : Vals ys us) : ∃ y u, ys = [y] ∧ us = [u] ∧ Rep T F ρ k y ∧ RelV y u := by
  cases r with
  | cons r1 r2 =>
    cases r2
    cases v with
    | cons v1 v2 =>
      cases v2
      exact ⟨_, _, rfl, rfl, r1, v1⟩
theorem loc_list {F G : Hp} {ρ : Rho} {S : LH} {n : Nat} {x : V} {xs : List PV} (rh : RH T F G ρ S H) (r : Rep T F ρ (.loc n) x) (hl : S.live n = some (.lst xs)) : ∃ a ys, x = .ref a ∧ ρ n = some a ∧ H a = some (.lst ys) ∧ Reps T F ρ xs ys := by
  cases r with
  | @loc _ a hr =>
    obtain ⟨a', o, h1, h2, h3, h4, ys, h5, h6⟩ := rh.c n _ hl
    rw [hr] at h1; cases h1
    subst h5
    exact ⟨a, ys, rfl, hr, h4, h6⟩
theorem mtz_append : MtR X "list.append" (rMeth T .append 5) := by
  intro pins s σ H x xs v us Q I rx rv ⟨F, G, ρ, S, pv, pvs, o, rh, r, rs, ht, e0, q⟩
  have e : mAppend pv pvs S = some o := e0
  clear e0
  unfold mAppend at e
  split at e
  · rename_i n
    split at e
    · rename_i k
      split at e
      · rename_i zs hl
        split at e
        · rename_i hz
          cases e
          obtain ⟨a, ys, rfl, hr, hH, rys⟩ := loc_list rh r hl
          obtain ⟨y, u, rfl, rfl, ry, ru⟩ := vals_one (xs := []) rs rv
          have hz' : zs.length + 1 ≤ 16777216 := Nat.le_of_ble_eq_true hz
          refine mt_append pins s σ H _ _ v _ Q I rx (.cons ru .nil) ⟨a, ys, y, rfl, rfl, hH, by rw [← rys.length, sizeLine_eq]; omega, ?_⟩
          exact q _ _ _ _ Ext.refl (rh_put rh hl hr ⟨_, rfl, rys.append (.cons ry .nil)⟩) .non
        · cases e
      · cases e
    · cases e
  · cases e
theorem find_hit {F : Hp} {ρ : Rho} {P : Program} {w : World} {A : Around} {S : LH} {x : PV} {ux : Value}
    (hf : ∀ a c y u, eqv S a x = some c → Rep T F ρ a y → RelV y u → PySem.SeqAt.EqIn P w A s u ux c) :
    ∀ {ys : List PV} {qs : List V} {vs : List Value} {n j : Nat}, findIx S x ys n = some j → Reps T F ρ ys qs → Vals qs vs → ∃ k, j = n + k ∧ Hit P w A s ux vs (some k)
  | [], _, _, n, j, h, .nil, .nil => by cases h
  | a :: r, _, _, n, j, h, .cons r1 rr, .cons v1 vv => by
    rw [findIx] at h
    split at h
    · rename_i h1
      cases h
      exact ⟨0, rfl, .here (hf _ _ _ _ h1 r1 v1)⟩
    · rename_i h1
      obtain ⟨k, e1, ho⟩ := find_hit hf h rr vv
      refine ⟨k + 1, by omega, ?_⟩
      exact .later (o := some k) (hf _ _ _ _ h1 r1 v1) ho
    · cases h
theorem mtz_index5 (hK : X.K = T.K) (hw : X.w = T.w) (hu : X.A.units + 64 < cLine) : MtR X "list.index" (rMeth T .index 5) := by
  intro pins s σ H x xs v us Q I rx rv ⟨F, G, ρ, S, pv, pvs, o, rh, r, rs, ht, e0, q⟩
  have e : mIndex pv pvs S = some o := e0
  clear e0
  unfold mIndex at e
  split at e
  · rename_i k
    obtain ⟨y, u, rfl, rfl, ry, ru⟩ := vals_one (xs := []) rs rv
    have t := top1 rh r
    generalize top S pv = tv at t e ht
    split at e
    · rename_i zs hx
      split at e
      · rename_i j hj
        cases e
        cases t with
        | @lst a ys xs' h r2 =>
          cases hx
          cases rx
          obtain ⟨its, vv, ⟨⟨cls, dd, data, sls⟩, n, ho, hc, hdn, hdt⟩, hz⟩ := I.list (SqL.of (K := X.K) h)
          simp only at hc hdt
          subst hc hdt
          obtain ⟨k', e1, hit⟩ := find_hit (s := s) (P := X.prog) (w := X.w) (A := X.A.in1) (ux := u) (fun a' c y' u' e r' w => eqN_in I hK hw rh (by show X.A.units + 1 + 24 + 16 < cLine; omega) e r' ry w ru) hj r2 vv
          refine call_meetsIn PySem.F.slot_list_index ⟨_, ho, rfl⟩ PySem.F.entry_list_index (PySem.F.args_list_index_2 _ _) (list_indexH a its n dd sls u (by rw [← vv.length]; exact hz) k') ⟨ho, hit, ?_⟩
          refine ⟨.int (k' : Nat), H, I.tok _, ⟨_, rfl⟩, ?_⟩
          have : j = k' := by omega
          subst this
          exact q _ _ _ _ Ext.refl rh (.int _)
        | @tup a ys xs' h r2 => exact absurd ht (by show ¬ 4 = 5; omega)
        | _ => cases hx
      · cases e
    · cases e
  · cases e
theorem mtz_index4 (hK : X.K = T.K) (hw : X.w = T.w) (hu : X.A.units + 64 < cLine) : MtR X "tuple.index" (rMeth T .index 4) := by
  intro pins s σ H x xs v us Q I rx rv ⟨F, G, ρ, S, pv, pvs, o, rh, r, rs, ht, e0, q⟩
  have e : mIndex pv pvs S = some o := e0
  clear e0
  unfold mIndex at e
  split at e
  · rename_i k
    obtain ⟨y, u, rfl, rfl, ry, ru⟩ := vals_one (xs := []) rs rv
    have t := top1 rh r
    generalize top S pv = tv at t e ht
    split at e
    · rename_i zs hx
      split at e
      · rename_i j hj
        cases e
        cases t with
        | @tup a ys xs' h r2 =>
          cases hx
          cases rx
          obtain ⟨its, vv, ⟨⟨cls, dd, data, sls⟩, ho, hc, n, hdt⟩, hz⟩ := I.tuple (by rw [hK]; exact h.1 : SqT X.K H a ys)
          simp only at hc hdt
          subst hc hdt
          obtain ⟨k', e1, hit⟩ := find_hit (s := s) (P := X.prog) (w := X.w) (A := X.A.in1) (ux := u) (fun a' c y' u' e r' w => eqN_in I hK hw rh (by show X.A.units + 1 + 24 + 16 < cLine; omega) e r' ry w ru) hj r2 vv
          refine call_meetsIn PySem.F.slot_tuple_index ⟨_, ho, rfl⟩ PySem.F.entry_tuple_index (PySem.F.args_tuple_index_2 _ _) (tuple_indexH a its n dd sls u k') ⟨ho, hit, ?_⟩
          refine ⟨.int (k' : Nat), H, I.tok _, ⟨_, rfl⟩, ?_⟩
          have : j = k' := by omega
          subst this
          exact q _ _ _ _ Ext.refl rh (.int _)
        | @lst a ys xs' h r2 => exact absurd ht (by show ¬ 5 = 4; omega)
        | _ => cases hx
      · cases e
    · cases e
  · cases e
theorem Reps.erase {F : Hp} {ρ : Rho} : ∀ {xs : List PV} {ys : List V} (j : Nat), Reps T F ρ xs ys → Reps T F ρ (xs.eraseIdx j) (ys.eraseIdx j)
  | _, _, _, .nil => .nil
  | _, _, 0, .cons h r => r
  | _, _, j + 1, .cons h r => .cons h (Reps.erase j r)
theorem mtz_remove (hK : X.K = T.K) (hw : X.w = T.w) (hu : X.A.units + 64 < cLine) : MtR X "list.remove" (rMeth T .remove 5) := by
  intro pins s σ H x xs v us Q I rx rv ⟨F, G, ρ, S, pv, pvs, o, rh, r, rs, ht, e0, q⟩
  have e : mRemove pv pvs S = some o := e0
  clear e0
  unfold mRemove at e
  split at e
  · rename_i n
    split at e
    · rename_i k
      split at e
      · rename_i zs hl
        split at e
        · rename_i j hj
          cases e
          obtain ⟨a, ys, rfl, hr, hH, rys⟩ := loc_list rh r hl
          obtain ⟨y, u, rfl, rfl, ry, ru⟩ := vals_one (xs := []) rs rv
          cases rx
          obtain ⟨z, its, m, vv, hll, ho⟩ := I.lstM hH
          obtain ⟨k', e1, hit⟩ := find_hit (s := s) (P := X.prog) (w := X.w) (A := X.A.in1) (ux := u) (fun a' c y' u' e r' w => eqN_in I hK hw rh (by show X.A.units + 1 + 24 + 16 < cLine; omega) e r' ry w ru) hj rys vv
          have : j = k' := by omega
          subst this
          refine call_meetsIn PySem.F.slot_list_remove ⟨_, ho, rfl⟩ PySem.F.entry_list_remove (PySem.F.args_list_remove_2 _ _) (list_removeH a its m u (by rw [← hll]; exact z) j) ⟨ho, hit, ?_⟩
          have hjl : j < its.length := hit.at.1
          refine ⟨.non, _, I.lset (its' := its.eraseIdx j) (ys := ys.eraseIdx j) hH ho (by simp [Array.eraseIdxIfInBounds, hjl]) (vv.eraseIdx j) (Nat.le_trans (List.length_eraseIdx_le _ _) z), rfl, ?_⟩
          exact q _ _ _ _ Ext.refl (rh_put rh hl hr ⟨_, rfl, rys.erase j⟩) .non
        · cases e
      · cases e
    · cases e
  · cases e
theorem vals_two {ys : List V} {us : List Value} {F : Hp} {ρ : Rho} {k d : PV} (r : Reps T F ρ [k, d] ys) (v : Vals ys us) : ∃ y z u w, ys = [y, z] ∧ us = [u, w] ∧ Rep T F ρ k y ∧ Rep T F ρ d z ∧ RelV y u ∧ RelV z w := by
  cases r with
  | cons r1 r2 =>
    cases r2 with
    | cons r3 r4 =>
      cases r4
      cases v with
      | cons v1 v2 =>
        cases v2 with
        | cons v3 v4 =>
          cases v4
          exact ⟨_, _, _, _, rfl, rfl, r1, r3, v1, v3⟩
/-- d.get(k[, dflt]) of the model -/
theorem get_core {F G : Hp} {ρ : Rho} {S : LH} {a : Addr} {es : List DictEntry} {ep : Nat} {kvs : List (PV × PV)} {k d : PV} {y z : V} {u w : Value} {more : List Value} {Q : VK} (hK : X.K = T.K) (hw : X.w = T.w) (hu : X.A.units + 64 < cLine) (I : L2.Inv X pins σ H s) (rh : RH T F G ρ S H)
    (hF : ∀ a o, H a = some o → H a = some o) (h : H a = some (DX a es ep)) (ok : DOk kvs) (r2 : RepD T F ρ kvs es) (hk : keyFor k kvs = true) (ry : Rep T F ρ k y) (ru : RelV y u) (rz : Rep T F ρ d z) (rw' : RelV z w) (hm : (more = [] ∧ w = .none) ∨ more = [w])
    (q : ∀ x, Rep T F ρ ((lookK k kvs).getD d) x → Q x H) : wpAny (model X.prog X.w) X.A (call (.builtin "dict.get") (.ref a :: u :: more)) (EP X pins σ Q) X.xe s := by
  obtain ⟨k1, k2⟩ := keyFor_sort ok hk
  have hd := (dx_at I.hok h).1
  have fin : ∀ {o1 : Option PV} {w1 : Value} {tk : Nat}, (o1 = none ∧ w1 = w ∨ ∃ v1 y1, o1 = some v1 ∧ Rep T F ρ v1 y1 ∧ RelV y1 w1) → lookK k kvs = o1 → EP X pins σ Q w1 { s with toks := tk } := fun {o1 w1 tk} c e => by
    rcases c with ⟨rfl, rfl⟩ | ⟨v1, y1, rfl, h1, h2⟩
    · exact ⟨z, H, I.tok _, rw', q z (by rw [e]; exact rz)⟩
    · exact ⟨y1, H, I.tok _, h2, q y1 (by rw [e]; exact h1)⟩
  rcases k2 with ⟨kt, kl⟩ | ⟨kt, kl⟩
  · have hmo := (dictOf_leaf I hw h ok kl r2).mapOf
    have hl := look_leaf k1 kt r2 ok.key kl
    have hkey := leaf_is k1 kt ry ru
    rcases hm with ⟨rfl, rfl⟩ | rfl
    · refine call_meetsIn PySem.F.slot_dict_get hmo.typeIs PySem.F.entry_dict_get (PySem.F.args_dict_get_2 _ _) (meets_dict_get _ a hkey hd) ⟨_, hmo, ?_⟩
      rcases hl with ⟨h1, h2⟩ | ⟨v1, y1, u1, h1, h2, h3, h4⟩
      · rw [h2]; exact fin (.inl ⟨rfl, rfl⟩) h1
      · rw [h2]; exact fin (.inr ⟨v1, y1, rfl, h3, h4⟩) h1
    · refine call_meetsIn PySem.F.slot_dict_get hmo.typeIs PySem.F.entry_dict_get (PySem.F.args_dict_get_3 _ _ _) (meets_dict_get_default _ a hkey hd w) ⟨_, hmo, ?_⟩
      rcases hl with ⟨h1, h2⟩ | ⟨v1, y1, u1, h1, h2, h3, h4⟩
      · rw [h2]; exact fin (.inl ⟨rfl, rfl⟩) h1
      · rw [h2]; exact fin (.inr ⟨v1, y1, rfl, h3, h4⟩) h1
  · obtain ⟨al, rfl, rfl⟩ := rep_ref_of_tup kt ry ru
    have hmo : s.heap.DictKeyed (PySem.nestedKind X.prog X.w) a _ := ⟨_, dictOf_tup I hK hw rh.f h ok kl r2, rfl⟩
    have hkey : (PySem.nestedKind X.prog X.w).is s.heap (nk k) al := ⟨nested_of I hK rh.f 8 k _ _ k1 ry rfl, nk_depth 8 k⟩
    have hr : (PySem.nestedKind X.prog X.w).room X.A.in1 := by show X.A.units + 1 + 8 < cLine; omega
    have hl := look_tup (T := T) k1 r2 ok.key
    rcases hm with ⟨rfl, rfl⟩ | rfl
    · refine get_keyed hr hkey hd hmo ?_
      rcases hl with ⟨h1, h2⟩ | ⟨v1, y1, u1, h1, h2, h3, h4⟩
      · rw [h2]; exact fin (.inl ⟨rfl, rfl⟩) h1
      · rw [h2]; exact fin (.inr ⟨v1, y1, rfl, h3, h4⟩) h1
    · refine getOr_keyed hr hkey hd hmo ?_
      rcases hl with ⟨h1, h2⟩ | ⟨v1, y1, u1, h1, h2, h3, h4⟩
      · rw [h2]; exact fin (.inl ⟨rfl, rfl⟩) h1
      · rw [h2]; exact fin (.inr ⟨v1, y1, rfl, h3, h4⟩) h1
theorem mtz_get (hK : X.K = T.K) (hw : X.w = T.w) (hu : X.A.units + 64 < cLine) : MtR X "dict.get" (rMeth T .get 6) := by
  intro pins s σ H x xs v us Q I rx rv ⟨F, G, ρ, S, pv, pvs, o, rh, r, rs, ht, e0, q⟩
  have e : mGet pv pvs S = some o := e0
  clear e0
  unfold mGet at e
  have t := top1 rh r
  generalize top S pv = tv at t e ht
  cases t with
  | @dct a es ep kvs h ok r2 =>
    cases rx
    dsimp only at e
    split at e
    · rename_i k
      split at e
      · rename_i hk
        cases e
        obtain ⟨y, u, rfl, rfl, ry, ru⟩ := vals_one (xs := []) rs rv
        exact get_core hK hw hu I rh (fun _ _ h => h) h ok r2 hk ry ru .non rfl (.inl ⟨rfl, rfl⟩) fun x hx => q _ _ _ _ Ext.refl rh hx
      · cases e
    · rename_i k d
      split at e
      · rename_i hk
        cases e
        obtain ⟨y, z, u, w, rfl, rfl, ry, rz, ru, rw'⟩ := vals_two rs rv
        exact get_core hK hw hu I rh (fun _ _ h => h) h ok r2 hk ry ru rz rw' (.inr rfl) fun x hx => q _ _ _ _ Ext.refl rh hx
      · cases e
    · cases e
  | _ => cases e
theorem cat_strs {F : Hp} {ρ : Rho} : ∀ {xs : List PV} {ts : List (List Nat)} {ys : List V}, catStr xs = some ts → Reps T F ρ xs ys → ys = (ts.map strV).map V.str ∧ ∀ t ∈ ts, okS t
  | [], ts, ys, h, r => by cases h; cases r; exact ⟨rfl, fun t h => by cases h⟩
  | x :: xs, ts, ys, h, r => by
    cases x with
    | str p =>
      have h : (match catStr xs with | some t => some (p :: t) | none => none) = some ts := h
      split at h
      · rename_i t ht
        cases h
        cases r with
        | cons r1 r2 =>
          obtain ⟨e1, e2⟩ := cat_strs ht r2
          obtain ⟨e3, e4⟩ := rep_str r1
          refine ⟨by rw [e1, e3]; rfl, fun q hq => ?_⟩
          rcases List.mem_cons.mp hq with z | z
          · rw [z]; exact e4
          · exact e2 q z
      · cases h
    | _ => cases h
theorem join_strs0 (sep : List Nat) : ∀ ts : List (List Nat), Str.join (strV sep) (ts.map strV) = strV (joinS sep ts)
  | [] => rfl
  | [a] => rfl
  | a :: b :: r => by
    show strV a ++ strV sep ++ Str.join (strV sep) ((b :: r).map strV) = strV (a ++ sep ++ joinS sep (b :: r))
    rw [join_strs0 sep (b :: r), strV_append, strV_append]
theorem join_strs (sep : List Nat) (ts : List (List Nat)) : Txt.join (strV sep) (ts.map strV) = strV (joinS sep ts) := (StrLaws.glued_eq_join _ _).trans (join_strs0 sep ts)
theorem joinS_len (sep : List Nat) : ∀ ts : List (List Nat), (joinS sep ts).length ≤ (ts.map List.length).sum + ts.length * sep.length
  | [] => by simp [joinS]
  | [a] => by simp [joinS]
  | a :: b :: r => by
    have h := joinS_len sep (b :: r)
    show (a ++ sep ++ joinS sep (b :: r)).length ≤ _
    rw [List.length_append, List.length_append, List.map_cons, List.sum_cons, List.length_cons, Nat.succ_mul]
    omega
theorem joinS_mem (sep : List Nat) : ∀ ts : List (List Nat), ∀ c ∈ joinS sep ts, c ∈ sep ∨ ∃ t ∈ ts, c ∈ t
  | [], c, h => by cases h
  | [a], c, h => .inr ⟨a, List.mem_cons_self, h⟩
  | a :: b :: r, c, h => by
    have h : c ∈ a ++ sep ++ joinS sep (b :: r) := h
    rcases List.mem_append.mp h with h | h
    · rcases List.mem_append.mp h with h | h
      · exact .inr ⟨a, List.mem_cons_self, h⟩
      · exact .inl h
    · rcases joinS_mem sep (b :: r) c h with z | ⟨t, z1, z2⟩
      · exact .inl z
      · exact .inr ⟨t, List.mem_cons_of_mem _ z1, z2⟩
theorem mtz_join (hK : X.K = T.K) : MtR X "str.join" (rMeth T .join 3) := by
  intro pins s σ H x xs v us Q I rx rv ⟨F, G, ρ, S, pv, pvs, o, rh, r, rs, ht, e0, q⟩
  have e : mJoin pv pvs S = some o := e0
  clear e0
  unfold mJoin at e
  split at e
  · rename_i sep
    split at e
    · rename_i k
      split at e
      · rename_i zs hz
        split at e
        · rename_i ts hts
          split at e
          · rename_i hl
            cases e
            obtain ⟨e1, e2⟩ := rep_str r
            obtain ⟨y, u, rfl, rfl, ry, ru⟩ := vals_one (xs := []) rs rv
            subst e1
            have hl' : (ts.map List.length).sum + ts.length * sep.length ≤ 16777216 := Nat.le_of_ble_eq_true hl
            have elen : (ts.map strV).map (·.length) = ts.map List.length := by rw [List.map_map]; exact List.map_congr_left fun t _ => strV_length t
            have okj : okS (joinS sep ts) := by
              have hs : ∀ {ys}, Reps T F ρ zs ys → ∀ t ∈ ts, okS t := fun r => (cat_strs hts r).2
              have t := top1 rh ry
              generalize top S k = tv at t hz
              have hall : ∀ t ∈ ts, okS t := by
                cases t with
                | lst h r2 => cases hz; exact hs r2
                | tup h r2 => cases hz; exact hs r2
                | _ => cases hz
              refine ⟨Nat.le_trans (joinS_len sep ts) hl', fun c hc => ?_⟩
              rcases joinS_mem sep ts c hc with z | ⟨t, z1, z2⟩
              · exact e2.2 c z
              · exact (hall t z1).2 c z2
            have t := top1 rh ry
            generalize top S k = tv at t hz
            have fin : Q (.str (Txt.join (strV sep) (ts.map strV))) H := by rw [join_strs]; exact q _ _ _ _ Ext.refl rh (.str _ okj)
            cases t with
            | @lst a ys xs' h r2 =>
              cases hz
              obtain ⟨e3, _⟩ := cat_strs hts r2
              subst e3
              exact mt_join pins s σ H _ _ v _ Q I rx (.cons ru .nil) ⟨_, a, ts.map strV, rfl, rfl, .inl (SqL.of (K := X.K) h), by rw [elen, List.length_map, strV_length]; exact hl', fin⟩
            | @tup a ys xs' h r2 =>
              cases hz
              obtain ⟨e3, _⟩ := cat_strs hts r2
              subst e3
              exact mt_join pins s σ H _ _ v _ Q I rx (.cons ru .nil) ⟨_, a, ts.map strV, rfl, rfl, .inr (by rw [hK]; exact h.1), by rw [elen, List.length_map, strV_length]; exact hl', fin⟩
            | _ => cases hz
          · cases e
        · cases e
      · cases e
    · cases e
  · cases e
/-! ### the methods, by their names -/
theorem meth_append : MethOk T X .append "append" := fun tag h => by
  have e : tag = 5 := Nat.eq_of_beq_eq_true h
  subst e
  exact ⟨by omega, "list.append", PySem.F.plainAttrs_list, PySem.F.slot_list_append, PySem.F.type_list_append, mtz_append⟩
theorem meth_remove (hK : X.K = T.K) (hw : X.w = T.w) (hu : X.A.units + 64 < cLine) : MethOk T X .remove "remove" := fun tag h => by
  have e : tag = 5 := Nat.eq_of_beq_eq_true h
  subst e
  exact ⟨by omega, "list.remove", PySem.F.plainAttrs_list, PySem.F.slot_list_remove, PySem.F.type_list_remove, mtz_remove hK hw hu⟩
theorem meth_get (hK : X.K = T.K) (hw : X.w = T.w) (hu : X.A.units + 64 < cLine) : MethOk T X .get "get" := fun tag h => by
  have e : tag = 6 := Nat.eq_of_beq_eq_true h
  subst e
  exact ⟨by omega, "dict.get", PySem.F.plainAttrs_dict, PySem.F.slot_dict_get, PySem.F.type_dict_get, mtz_get hK hw hu⟩
theorem meth_join (hK : X.K = T.K) : MethOk T X .join "join" := fun tag h => by
  have e : tag = 3 := Nat.eq_of_beq_eq_true h
  subst e
  exact ⟨by omega, "str.join", PySem.F.plainAttrs_str, PySem.F.slot_str_join, PySem.F.type_str_join, mtz_join hK⟩
theorem meth_index (hK : X.K = T.K) (hw : X.w = T.w) (hu : X.A.units + 64 < cLine) : MethOk T X .index "index" := fun tag h => by
  have h : (if Nat.beq tag 5 then true else Nat.beq tag 4) = true := h
  split at h
  · rename_i h5
    have e : tag = 5 := Nat.eq_of_beq_eq_true h5
    subst e
    exact ⟨by omega, "list.index", PySem.F.plainAttrs_list, PySem.F.slot_list_index, PySem.F.type_list_index, mtz_index5 hK hw hu⟩
  · have e : tag = 4 := Nat.eq_of_beq_eq_true h
    subst e
    exact ⟨by omega, "tuple.index", PySem.F.plainAttrs_tuple, PySem.F.slot_tuple_index, PySem.F.type_tuple_index, mtz_index4 hK hw hu⟩
end
end Z

set_option Elab.async false
set_option linter.all false
set_option maxRecDepth 100000
set_option maxHeartbeats 2000000
/-! ZA: a lambda is made (after HandS' lam_make2); a def that tries the lambda that it gets. -/
namespace Z
open PySem PySem.Spec PyProof.Rows L2
section
variable {T : Top} {X : Cx} {pins : List (Addr × Obj)} {σ : L2.St} {H : Hp} {s : Shared}
theorem rh_tab {F G : Hp} {ρ : Rho} {S : LH} {P : Addr} {q : Str} {ps ps' : Array Value} (r : RH T F G ρ S H) (hm : (P, q) ∈ T.tabs) (hu : ∀ p ∈ T.tabs, p.1 = P → p.2 = q) (hP : H P = some (.tbl ps)) (ht : PySem.TriplesOk ps'.toList)
    (ha : ∀ (pos : Pos) (cv : Value), PySem.codeAmong pos ps'.toList = some cv → ∃ c, cv = .ref c ∧ F c = some (LamX.CodeO c q)) : RH T F G ρ S (upd H P (.tbl ps')) := by
  obtain ⟨ps0, _, hF, hG, _⟩ := r.tb _ hm
  have fne : ∀ a o, F a = some o → a ≠ P := fun a o e z => by rw [z, hF] at e; cases e
  have gne : ∀ a o, G a = some o → a ≠ P := fun a o e z => by rw [z, hG] at e; cases e
  refine ⟨fun a o e => by rw [upd_ne (fne a o e)]; exact r.f a o e, fun a o e => by rw [upd_ne (gne a o e)]; exact r.g a o e, r.fg, fun n c e => ?_, r.z, r.inj, r.dom, r.nx, fun p hp => ?_⟩
  · obtain ⟨a, o, h1, h2, h3, h4, h5⟩ := r.c n c e
    exact ⟨a, o, h1, h2, h3, by rw [upd_ne (fun z => h5.no_tbl ps (Option.some.inj (h4.symm.trans (by rw [z]; exact hP))))]; exact h4, h5⟩
  · obtain ⟨ps1, h1, h2, h3, h4, h5⟩ := r.tb p hp
    by_cases hb : p.1 = P
    · exact ⟨ps', by rw [hb, upd_same], h2, h3, ht, by rw [hu p hp hb]; exact ha⟩
    · exact ⟨ps1, by rw [upd_ne hb]; exact h1, h2, h3, h4, h5⟩
theorem lam_makeZ {F G : Hp} {ρ : Rho} {S : LH} {c P : Addr} {params : Arguments} {body : Expr} {scope : Scope} {pos : Pos} {E : Value → Shared → Prop} {Q : Value → Shared → Prop} (I : Inv X pins σ H s) (rh : RH T F G ρ S H) (TB : LamX.TabB X.base X.mg c P) (hcode : X.env.code = .ref c)
    (hm : (P, X.env.qual ++ "<lambda>") ∈ T.tabs) (hu : ∀ p ∈ T.tabs, p.1 = P → p.2 = X.env.qual ++ "<lambda>") (hdef : defaultsOf params X.env = ([], [])) (hfree : ∀ y ∈ scope.names, y.2 = .free → ∃ c, X.env.cells.lookup y.1 = some c)
    (h : ∀ (f c' : Addr) (pm ctv : Value) (F1 H1 : Hp) (s' : Shared), Inv X pins σ H1 s' → Ext F ρ F1 ρ → RH T F1 G ρ S H1 →
      s'.heap.get? f = some (PySem.W.kla_obj "<lambda>" (X.env.qual ++ "<lambda>") params body scope (cloFrom X.env.cells scope.names []) pm c' ctv) → H1 f = none → f ∉ frs X.stack → s.heap.objs.size ≤ f → F1 c' = some (LamX.CodeO c' (X.env.qual ++ "<lambda>")) → Q (.ref f) s') :
    wpAny (model X.prog X.w) X.A (eval (.Lambda params body scope pos) X.env) Q E s := by
  obtain ⟨ps, hP, hFP, hGP, ht, ha⟩ := rh.tb _ hm
  refine PySem.W.kla_eval hdef ?_
  have bP : s.heap.BuiltinsAt X.mg P := TB.bm.keeps I.bk
  have hP' : s.heap.get? P = some { cls := .none, data := .fields ps } := I.hok P _ hP
  have nofr : ∀ f, s.heap.objs.size ≤ f → f ∉ frs X.stack := fun f hf z => by
    rcases List.mem_cons.mp (I.stkSub _ z) with e | e
    · have h1 := I.lt
      rw [← e] at h1
      exact Nat.lt_irrefl _ (Nat.lt_of_lt_of_le h1 hf)
    · exact I.nofs hf e
  cases hc : codeAmong pos ps.toList with
  | none =>
    refine PySem.W.kla_makeFunction (mg := X.mg) (c := c) (P := P) (ps := ps) (closure_ok hfree) I.ok.glob (I.mod.glob.keeps I.bk) hcode (TB.code.keeps I.bk) hP' ht hc TB.gP bP fun c' ctv h' tk hx hge hlt hrec htb => ?_
    obtain ⟨c2, oc, vs, t, e2, hoc, hd, hv⟩ := hrec
    cases e2
    have hsz : s.heap.objs.size ≤ h'.objs.size := Nat.le_trans hge (Nat.le_of_lt hlt)
    have nC : H c' = none := I.hok.fresh hge
    have nPc : P ≠ c' := ne_of_none hP nC
    have I1 := LamX.inv_table (t' := tk) (more := #[rawInt pos.line, rawInt pos.col, .ref c']) (h' := h'.push (PySem.W.kla_obj "<lambda>" (X.env.qual ++ "<lambda>") params body scope (cloFrom X.env.cells scope.names []) ((X.mg "__name__").getD .none) c' ctv)) I hP
      (fun b o hb e => Heap.get?_push_of_some _ (hx b o hb e)) (Heap.get?_push_of_some _ htb) hge ⟨oc, vs, t, Heap.get?_push_of_some _ hoc, hd, hv⟩
    have eL : (ps ++ #[rawInt pos.line, rawInt pos.col, .ref c']).toList = ps.toList ++ [rawInt pos.line, rawInt pos.col, .ref c'] := by simp
    have eH : upd (upd H P (.tbl (ps ++ #[rawInt pos.line, rawInt pos.col, .ref c']))) c' (LamX.CodeO c' (X.env.qual ++ "<lambda>")) = upd (upd H c' (LamX.CodeO c' (X.env.qual ++ "<lambda>"))) P (.tbl (ps ++ #[rawInt pos.line, rawInt pos.col, .ref c'])) := by
      funext b
      by_cases hb : b = c'
      · subst hb; rw [upd_same, upd_ne nPc.symm, upd_same]
      · rw [upd_ne hb]
        by_cases hb2 : b = P
        · subst hb2; rw [upd_same, upd_same]
        · rw [upd_ne hb2, upd_ne hb2, upd_ne hb]
    have ex : Ext F ρ (upd F c' (LamX.CodeO c' (X.env.qual ++ "<lambda>"))) ρ := ext_new (rh.fnone nC)
    have rh1 : RH T (upd F c' (LamX.CodeO c' (X.env.qual ++ "<lambda>"))) G ρ S (upd (upd H c' (LamX.CodeO c' (X.env.qual ++ "<lambda>"))) P (.tbl (ps ++ #[rawInt pos.line, rawInt pos.col, .ref c']))) := by
      refine rh_tab (rh_new rh nC) hm hu (by rw [upd_ne nPc]; exact hP) (by rw [eL]; exact PySem.TriplesOk_snoc _ _ _ _ ht) fun p' cv hcv => ?_
      rw [eL] at hcv
      rcases LamX.among_app _ ht hcv with z | z
      · obtain ⟨c0, e1, e2⟩ := ha p' cv z
        exact ⟨c0, e1, ex.f _ _ e2⟩
      · exact ⟨c', z, upd_same⟩
    rw [eH] at I1
    refine h h'.objs.size c' ((X.mg "__name__").getD .none) ctv _ _ _ I1 ex rh1 (Heap.get?_push_size _ rfl) ?_ (nofr _ hsz) hsz upd_same
    have n1 : h'.objs.size ≠ c' := Nat.ne_of_gt hlt
    have n2 : h'.objs.size ≠ P := Nat.ne_of_gt (Nat.lt_of_lt_of_le (Heap.lt_size hP') hsz)
    rw [upd_ne n2, upd_ne n1]
    exact I.hok.fresh hsz
  | some cv =>
    obtain ⟨c', e, hco⟩ := ha pos cv hc
    subst e
    refine PySem.W.kla_makeFunctionHit (mg := X.mg) (c := c) (P := P) (ps := ps) (closure_ok hfree) I.ok.glob (I.mod.glob.keeps I.bk) hcode (TB.code.keeps I.bk) hP' ht hc bP fun ctv h' tk hx hsz => ?_
    have I1 : Inv X pins σ H { s with heap := h'.push (PySem.W.kla_obj "<lambda>" (X.env.qual ++ "<lambda>") params body scope (cloFrom X.env.cells scope.names []) ((X.mg "__name__").getD .none) c' ctv), toks := tk } := I.kept fun b o e => Heap.get?_push_of_some _ (hx b o e)
    exact h h'.objs.size c' ((X.mg "__name__").getD .none) ctv F H _ I1 Ext.refl rh (Heap.get?_push_size _ rfl) (I.hok.fresh hsz) (nofr _ hsz) hsz hco
end
end Z
namespace Z
open PySem PySem.Spec PyProof.Rows L2
section
variable {T : Top} {X : Cx} {pins : List (Addr × Obj)} {σ : L2.St} {H : Hp} {s : Shared}
/-- x(), in the def that got the lambda -/
theorem actZ {CXg : CXT} {Eg : XK} {Ng : List Str} {qg : Str} {sg : Scope} {g f c' : Addr} {cdg pm ctv : Value} {params : Arguments} {body : Expr} {scope : Scope} {k i : Nat} {a : Str} {pn : List (Addr × Obj)} {xe : Value → Shared → Prop} {W' : WX} {m : Ev} {p1 p2 : Pos}
    (I : Inv X pins σ H s) (L : LamX.LamS X.env.scope scope) (hf : s.heap.get? f = some (PySem.W.kla_obj "<lambda>" (X.env.qual ++ "<lambda>") params body scope (cloFrom X.env.cells scope.names []) pm c' ctv)) (hfn : H f = none) (hfr : f ∉ frs X.stack)
    (hbind : bindArgs (PySem.W.kla_fn "<lambda>" (X.env.qual ++ "<lambda>") params body scope (cloFrom X.env.cells scope.names []) pm (.ref c') ctv) ⟨[], []⟩ = pure [])
    (tk : Takes ((cxOf CXg X.prog X.w X.K X.mg X.base Ng qg sg g cdg X.A X.stack s H Eg).tr pn xe) W') (hr : Room (k + 1) (X.A.deeper (envOfC qg sg s.heap.objs.size g cdg)))
    (hbody : ∀ (A : Around) (outer : List Env) (s : Shared) (H : Hp) (E : XK), Room k (A.deeper (LamX.lamEnv X scope s.heap.objs.size f c')) → PE (LamX.lamCx X A outer s H E scope f c') body (TZ T (fun cls d _ H => E cls d H) m))
    (hN : Ng[i]? = some a) (hv : Vis sg a) (hd : (a == ("__debug__" : Str)) = false) (hcd : (a == ("__classdict__" : Str)) = false) :
    PE ((cxOf CXg X.prog X.w X.K X.mg X.base Ng qg sg g cdg X.A X.stack s H Eg).tr pn xe) (.Call (.Name a p1) [] [] p2)
      (fun σZ HZ Q => σZ[i]? = some (some (.ref f)) ∧ HZ c' = some (LamX.CodeO c' (X.env.qual ++ "<lambda>")) ∧ TZ T (fun cls d _ H' => W' cls d σZ H') m σ HZ Q) := by
  refine ⟨fun pinsZ sZ σZ HZ Q IZ h => ?_⟩
  obtain ⟨hs, hc, ht⟩ := h
  refine wpAny_Call_Name_kw (thn ((pe_var (pos := p1) (i := i) hN hv hd hcd).run pinsZ sZ σZ HZ (fun v H1 => v = .ref f ∧ H1 = HZ) IZ ⟨.ref f, hs, rfl, rfl⟩) fun u s1 ⟨v, H1, I1, r1, q1⟩ => ?_)
  obtain ⟨ev, eH⟩ := q1
  subst ev
  rw [eH] at I1
  obtain rfl : u = Value.ref f := r1
  have of1 : s1.heap.get? f = some (PySem.W.kla_obj "<lambda>" (X.env.qual ++ "<lambda>") params body scope (cloFrom X.env.cells scope.names []) pm c' ctv) := I1.base.keep f _ hf hfn hfr (fun z => nomatch (show f ∈ ([] : List Addr) from z))
  refine PySem.W.callWith_F0 ⟨_, _, _, _, of1⟩ ?_
  have un : Un (frs X.stack) [] H HZ s.heap s1.heap := I1.base
  obtain ⟨⟨oc, vs, t, hoc, hdc, hvc⟩, _, _⟩ := I1.hok c' _ hc
  have rc : codeAny (model X.prog X.w) (X.A.deeper (envOfC qg sg s.heap.objs.size g cdg)) (.call (.ref f) ⟨[], []⟩) (CR (L2.CX X.prog X.w) (envOfC qg sg s.heap.objs.size g cdg :: X.stack) X.prog X.w HZ s1 Q (WE W' σZ)) s1 := by
    refine PySem.W.kla_callFunE hr.depth of1 rfl L.co L.gen rfl ⟨c', oc, vs, t, rfl, hoc, hdc, hvc⟩ ?_
    rw [hbind]
    refine wpAny_pure (wpAny_newFunctionEnv (fun y hy => (L.own y hy).2) (fun y hy => absurd hy (by simp)) (fun h₁ hns hsb => ⟨I1.nolimit.fresh _ hsb, ?_⟩) L.kind)
    show codeAny _ _ (.expr body (LamX.lamEnv X scope s1.heap.objs.size f c')) _ _
    have kp : ∀ b o, s1.heap.get? b = some o → h₁.get? b = some o := fun b o e => hsb.extBut b o (Nat.ne_of_lt (Heap.lt_size e)) (Heap.get?_push_of_some _ e)
    have J : Inv (LamX.lamCx X (X.A.deeper (envOfC qg sg s.heap.objs.size g cdg)) (envOfC qg sg s.heap.objs.size g cdg :: X.stack) s1 HZ (WE W' σZ) scope f c') [] σ HZ { s1 with heap := h₁, toks := s1.toks + ([] : List (Str × Value)).length } :=
      LamX.lam_start2 I L I1.env0 hr.hd un hns kp
    refine PySem.W.kla_codeExpr (wpAny_mono ((hbody _ _ s1 HZ (WE W' σZ) (hr.deeper _)).run [] _ _ HZ Q J ht) (fun v s' hq => ?_) fun e s' hq => hq)
    obtain ⟨w', H', J', rv, q⟩ := hq
    exact ⟨w', H', J'.os, J'.bare, J'.base, J'.hok, rv, q⟩
  refine wpAny_call (codeAny_mono rc fun r s' hq => ?_)
  cases r with
  | error e => exact passAt tk σZ pinsZ HZ s1 e s' I1 hq
  | ok fl =>
    cases fl with
    | ret u => exact I1.after hq
    | next => exact False.elim hq
    | brk => exact False.elim hq
    | cont => exact False.elim hq
end
end Z

set_option Elab.async false
set_option linter.all false
set_option maxRecDepth 100000
set_option maxHeartbeats 2000000
/-! ZA2: x(lambda: body) of a def that tries what it gets (after HandS' pe_lamcall). -/
namespace Z
open PySem PySem.Spec PyProof.Rows L2
section
variable {T : Top} {X : Cx} {W : WX}
theorem toldR_exn {ns cc : Nat} {hs : List (List Nat × Nat × CE)} {fs : List PV} {S1 : LH} {o : Out PV} (e : toldR ns hs (some (.exn cc fs S1)) = some o) :
    ∃ i ce v, clauseOf cc hs = some (i, ce) ∧ (if Nat.blt i ns then evH i fs ce else none) = some v ∧ o = .ok v S1 := by
  unfold toldR at e
  dsimp only at e
  split at e
  · rename_i i ce hce
    split at e
    · rename_i v hv
      cases e
      exact ⟨i, ce, v, hce, hv, rfl⟩
    · cases e
  · cases e
theorem pe_toldZ {x a : Str} {g c P : Addr} {k ns j : Nat} {hs : List (List Nat × Nat × CE)} {pg : Arguments} {sg : Scope} {dV kV doc pm cdv ct oc : Value} {an od : Option Addr} {osl : Array (Option Value)} {Ng : List Str} {h₀ : ExceptHandler} {hds : List ExceptHandler} {m : Ev}
    {params : Arguments} {body : Expr} {scope : Scope} {p lpos pos p1 p2 p3 p4 p5 p6 : Pos} (hK : X.K = T.K) (hg : Gl X x) (hm : X.mg x = some (.ref g)) (hk : PySem.W.keepIn X.K (.ref g) = true)
    (lk : X.K.lookup g = some ⟨oc, od, .func (PySem.W.fnOf x x pg [.Try [.Expr (.Call (.Name a p1) [] [] p2) p3, .Return (some (.Constant .none j p4)) p5] (h₀ :: hds) [] [] p6] sg dV kV doc pm an cdv ct), osl⟩) (hcg : PySem.W.codeIn X.K cdv x = true)
    (hb : L2.Binds X.K (PySem.W.fnOf x x pg [.Try [.Expr (.Call (.Name a p1) [] [] p2) p3, .Return (some (.Constant .none j p4)) p5] (h₀ :: hds) [] [] p6] sg dV kV doc pm an cdv ct) [a] []) (Sg : FnScope Ng [a] sg) (hNg : Ng[0]? = some a) (hva : Vis sg a) (hNd : Ng.Nodup) (hns : ns = Ng.length)
    (hh : ∀ (A : Around) (outer : List Env) (s : Shared) (H : Hp), HsOk T (cxOf C8.CX0 X.prog X.w X.K X.mg X.base Ng x sg g cdv A outer s H C8.E0).nox (h₀ :: hds) hs)
    (TB : LamX.TabB X.base X.mg c P) (hcode : X.env.code = .ref c) (hmT : (P, X.env.qual ++ "<lambda>") ∈ T.tabs) (hu : ∀ p ∈ T.tabs, p.1 = P → p.2 = X.env.qual ++ "<lambda>") (hr : Room (k + 2) X.A) (L : LamX.LamS X.env.scope scope) (hdef : defaultsOf params X.env = ([], []))
    (hbind : ∀ (q : Str) (cl : List (Str × Addr)) (pm cv ctv : Value), bindArgs (PySem.W.kla_fn "<lambda>" q params body scope cl pm cv ctv) ⟨[], []⟩ = pure [])
    (hbody : ∀ (A : Around) (outer : List Env) (s : Shared) (H : Hp) (E : XK) (f c' : Addr), Room k (A.deeper (LamX.lamEnv X scope s.heap.objs.size f c')) → PE (LamX.lamCx X A outer s H E scope f c') body (TZ T (fun cls d _ H => E cls d H) m))
    (hdb : (x == ("__debug__" : Str)) = false) (hd : (a == ("__debug__" : Str)) = false) (hcd : (a == ("__classdict__" : Str)) = false) :
    PE X (.Call (.Name x p) [.Lambda params body scope lpos] [] pos) (TZ T W fun l S => toldR ns hs (m l S)) := by
  refine ⟨fun pins s σ H Q I h => ?_⟩
  obtain ⟨F, G, ρ, l, S, o, rl, rh, e, q⟩ := h
  refine wpAny_Call_Name_kw (ld_glob I hg hm ?_ hdb)
  refine PySem.W.callWith_K (h₀ := X.base) I.ok.mod.kin hk ?_ (by rfl) (by rfl)
  show wpAny _ _ (spliced ((false, eval (.Lambda params body scope lpos) X.env) :: backTo pos (starEach [] X.env))) _ _ s
  refine Calls.spliced_cons (lam_makeZ I rh TB hcode hmT hu hdef (L.has I.ok) fun f c' pm' ctv F1 H1 s' I1 ex1 rh1 hf hfn hfr _ hco => ?_)
  refine Calls.spliced_nil ⟨I1.kIn, ?_⟩
  have rl1 := rl.ext ex1
  have q1 := q.later ex1
  have rc : codeAny (model X.prog X.w) X.A (.call (.ref g) ⟨[.ref f], []⟩) (CR C8.CX0 X.stack X.prog X.w H1 s' Q C8.E0) s' := by
    refine LamX.run_ofS (N := Ng) (ps := [a]) (us := [.ref f]) (vs := [.ref f]) lk hcg Sg hr I1.env0 (hb s' [.ref f] I1.kIn rfl) (.cons rfl .nil) rfl fun hr' => ?_
    have hZ := hh X.A X.stack s' H1
    obtain ⟨lh, g1, g2⟩ := HsOk.hds (X := (cxOf C8.CX0 X.prog X.w X.K X.mg X.base Ng x sg g cdv X.A X.stack s' H1 C8.E0).nox) (W := fun _ _ _ _ => False) (D := { nx := fun _ H' => Q .non H', rt := Q }) hK hZ
    have st0 : (L2.start Ng [V.ref f])[0]? = some (some (V.ref f)) := rfl
    have stl : (L2.start Ng [V.ref f]).length = ns := by
      rw [hns]
      have : 0 < Ng.length := (List.getElem?_eq_some_iff.mp hNg).1
      simp [L2.start]
      omega
    refine ⟨_, (pss_one (ps_try_manyAs (pos := p6) (X := (cxOf C8.CX0 X.prog X.w X.K X.mg X.base Ng x sg g cdv X.A X.stack s' H1 C8.E0).nox)
      (tb := fun W' D σZ HZ => σZ = L2.start Ng [V.ref f] ∧ HZ c' = some (LamX.CodeO c' (X.env.qual ++ "<lambda>")) ∧ TZ T (fun cls d _ H' => W' cls d σZ H') m σ HZ fun _ H' => D.rt .non H')
      rfl rfl hNd LamX.takes0 (fun W' pn xe tk _ => ?_) g1)).nox, ?_⟩
    · have hc := actZ (i := 0) (CXg := C8.CX0) (Eg := C8.E0) (p1 := p1) (p2 := p2) I1 L hf hfn hfr (hbind _ _ _ _ _) tk hr' (fun A outer s H E hr2 => hbody A outer s H E f c' hr2) hNg hva hd hcd
      refine ⟨fun pins2 s2 σ2 H2 D I2 h2 => ?_⟩
      obtain ⟨rfl, h22, h23⟩ := h2
      exact (pss_cons (ps_expr (pos := p3) hc) (pss_one (ps_ret (pos := p5) pe_non))).run pins2 s2 _ H2 D I2 ⟨st0, h22, h23⟩
    · refine ⟨rfl, rh1.f _ _ hco, ?_⟩
      have e : toldR ns hs (m l S) = some o := e
      cases hml : m l S with
      | none => rw [hml] at e; cases e
      | some o1 =>
        rw [hml] at e
        refine ⟨F1, G, ρ, l, S, o1, rl1, rh1, hml, ?_⟩
        cases o1 with
        | ok v S1 =>
          cases e
          exact fun F' ρ' y H' ex' rh' r' => q1 F' ρ' .non H' ex' rh' .non
        | exn cc fs S1 =>
          intro F' ρ' cls d H' ex' rh' x'
          obtain ⟨i, ce, v, hce, hv, rfl⟩ := toldR_exn e
          refine g2 (c := cc) (fs := fs) (S1 := S1) (l1 := List.replicate (L2.start Ng [V.ref f]).length none) (o := .ok (.rt v) (List.replicate (L2.start Ng [V.ref f]).length none) S1) rl_none rh' x' ?_ ?_
          · rw [List.length_replicate, stl, hce]
            dsimp only
            rw [hv]
          · exact fun F2 ρ2 y H2 ex2 rh2 r2 => q1 F2 ρ2 y H2 (ex'.trans ex2) rh2 r2
  refine wpAny_call (codeAny_mono rc fun r s2 hq => ?_)
  cases r with
  | error e => exact (show False from hq).elim
  | ok fl =>
    cases fl with
    | ret u => exact I1.after hq
    | next => exact False.elim hq
    | brk => exact False.elim hq
    | cont => exact False.elim hq
end
end Z

set_option Elab.async false
set_option linter.all false
set_option maxRecDepth 100000
set_option maxHeartbeats 2000000
/-! ZA3: a lambda with parameters is run (after HandS' lam_start2, pe_act). -/
namespace Z
open PySem PySem.Spec PyProof.Rows L2
/-- parameters, captured names; names of its own that comprehensions write -/
structure LamP (sc scope : Scope) (ps : List Str) : Prop where
  kind : scope.kind = .function
  co : scope.isCoroutine = false
  gen : scope.isGenerator = false
  cell : ∀ y ∈ scope.names, y.2 ≠ .cell
  par : ∀ p ∈ ps, scope.names.lookup p = some .local
  nd : ps.Nodup
  free : ∀ y ∈ scope.names, y.2 = .free → sc.names.lookup y.1 = some .cell ∨ sc.names.lookup y.1 = some .free
/-- the captured names: where they stand in the maker -/
structure CapN (N : List Str) (scope : Scope) (cn : List Str) (caps : List Nat) : Prop where
  len : cn.length = caps.length
  at_ : ∀ (j : Nat) (y : Str) (i : Nat), cn[j]? = some y → caps[j]? = some i → N[i]? = some y ∧ scope.names.lookup y = some .free
def lamCxP (X : Cx) (N : List Str) (A : Around) (outer : List Env) (s : Shared) (H : Hp) (E : XK) (scope : Scope) (f c' : Addr) : Cx := { LamX.lamCx X A outer s H E scope f c' with N := N }
theorem LamP.has {X : Cx} {scope : Scope} {ps : List Str} (L : LamP X.env.scope scope ps) (ok : X.Ok) : ∀ y ∈ scope.names, y.2 = .free → ∃ c, X.env.cells.lookup y.1 = some c := fun y hy e => by
  rcases L.free y hy e with k | k
  · exact ok.has _ (.inl k)
  · exact ok.has _ (.inr k)
theorem lookup_nd {α : Type} : ∀ {l : List (Str × α)} {k : Str} {v : α}, (l.map (·.1)).Nodup → (k, v) ∈ l → l.lookup k = some v
  | [], _, _, _, h => by cases h
  | (a, b) :: l, k, v, nd, h => by
    rw [List.map_cons, List.nodup_cons] at nd
    rcases List.mem_cons.mp h with e | e
    · cases e
      simp [List.lookup]
    · have hne : (k == a) = false := by
        simp only [beq_eq_false_iff_ne, ne_eq]
        intro z
        exact nd.1 (by rw [← z]; exact List.mem_map_of_mem (f := (·.1)) e)
      simp only [List.lookup, hne]
      exact lookup_nd nd.2 e
theorem lookup_par {ps : List Str} {us : List Value} {i : Nat} {y : Str} {u : Value} (nd : ps.Nodup) (h1 : ps[i]? = some y) (h2 : us[i]? = some u) : (ps.zip us).reverse.lookup y = some u := by
  refine lookup_nd ?_ ?_
  · rw [List.map_reverse]
    have sub : ∀ (ps : List Str) (us : List Value), ((ps.zip us).map (·.1)).Sublist ps := by
      intro ps
      induction ps with
      | nil => intro us; simp
      | cons p ps ih =>
        intro us
        cases us with
        | nil => simp
        | cons u us => simpa using ih us
    have hs := sub ps us
    have h3 : ((ps.zip us).map (·.1)).Nodup := hs.nodup nd
    exact List.pairwise_reverse.mpr (h3.imp fun h => Ne.symm h)
  · rw [List.mem_reverse]
    exact List.mem_of_getElem? (i := i) (by rw [List.getElem?_zip_eq_some]; exact ⟨h1, h2⟩)
section
variable {X : Cx} {pins : List (Addr × Obj)} {σ : L2.St} {H HZ : Hp} {s s1 : Shared}
theorem lamP_start {A : Around} {outer : List Env} {E : XK} {scope : Scope} {ps cn own : List Str} {caps : List Nat} {xs zs : List V} {us : List Value} {f c' : Addr} {h₁ : Heap} {tk : Nat} (I : Inv X pins σ H s) (L : LamP X.env.scope scope ps) (C : CapN X.N scope cn caps)
    (e0 : Env0 X.prog X.w X.K X.mg X.base A outer s1 HZ) (hd : A.handled = none) (rx : Vals xs us) (hl : xs.length = ps.length) (hz : zs.length = caps.length) (hzs : ∀ (j i : Nat) (z : V), caps[j]? = some i → zs[j]? = some z → σ[i]? = some (some z))
    (un : Un (frs X.stack) [] H HZ s.heap s1.heap) (hns : h₁.Ns s1.heap.objs.size fun y => (ps.zip us).reverse.lookup y) (kp : ∀ b o, s1.heap.get? b = some o → h₁.get? b = some o) :
    Inv (lamCxP X (ps ++ cn ++ own) A outer s1 HZ E scope f c') [] ((xs ++ zs).map some ++ List.replicate own.length none) HZ { s1 with heap := h₁, toks := tk } := by
  have hfree := L.has I.ok
  have cm : ∀ {y c}, (cloFrom X.env.cells scope.names []).lookup y = some c → X.env.cells.lookup y = some c := fun {y c} e => by
    rcases cloFrom_mem (PySem.mem_of_lookup e) with hm | ⟨h1, h2⟩
    · cases hm
    · obtain ⟨c1, hc⟩ := hfree _ h1 rfl
      have hc : X.env.cells.lookup y = some c1 := hc
      have e2 : c = c1 := by
        rw [h2, hc] <;> rfl
      rw [e2]
      exact hc
  have look : ∀ {y}, scope.names.lookup y = some .free → ∃ c, (cloFrom X.env.cells scope.names []).lookup y = some c := fun {y} hl => by
    have hy : (y, NameKind.free) ∈ scope.names := PySem.mem_of_lookup hl
    exact mem_lookup (cloFrom_has (cells := X.env.cells) (acc := []) hy)
  have cellK : ∀ {c : Addr} {v : Option Value}, H c = none → s.heap.IsCell c v → h₁.IsCell c v := fun {c v} n ⟨o, ho, hd⟩ => by
    obtain ⟨sl, q⟩ := un.any ho n (by simp)
    exact ⟨_, kp _ _ q, hd⟩
  have noA : ∀ b : Addr, b ∉ (lamCxP X (ps ++ cn ++ own) A outer s1 HZ E scope f c').ex := fun b z => absurd (show b ∈ ([] : List Addr) from z) (by simp)
  refine ⟨⟨e0.mod, L.kind, rfl, rfl, Nat.le_refl _, fun y z c e1 e2 => I.ok.inj y z c (cm e1) (cm e2), fun y hy => ?_, fun y c z _ => ?_, fun _ => hd, Around.frames_deeper e0.frames, .inr ⟨rfl, rfl⟩, fun b z => absurd z (noA b), e0.bs, e0.bsz, fun b _ _ => noA b,
      fun b z => absurd z (noA b), e0.funs, e0.frf⟩,
    rfl, e0.bare, Un.kept kp, ⟨_, hns, fun i y v e1 e2 e3 => ?_⟩, fun y c e => ?_, e0.hok.fresh (Nat.le_refl _), fun y c e => ?_, fun q hq => absurd (show q ∈ ([] : List (Addr × Obj)) ++ [] from hq) (by simp), e0.hok.kept kp, ?_⟩
  · have hy : scope.names.lookup y = some .cell ∨ scope.names.lookup y = some .free := hy
    rcases hy with hy | hy
    · exact absurd rfl (L.cell _ (PySem.mem_of_lookup hy))
    · exact look hy
  · have z : false = true := z
    cases z
  · have e1 : (ps ++ cn ++ own)[i]? = some y := e1
    have hlu := rx.length
    by_cases hi : i < ps.length
    · have a1 : ps[i]? = some y := by
        rw [List.getElem?_append_left (by rw [List.length_append]; omega), List.getElem?_append_left hi] at e1
        exact e1
      have a2 : xs[i]? = some v := by
        rw [List.getElem?_append_left (by rw [List.length_map, List.length_append]; omega), List.getElem?_map, List.getElem?_append_left (by omega)] at e2
        simpa using e2
      obtain ⟨u, b1, b2⟩ := rx.get a2
      exact ⟨u, b2, .inl ⟨L.par y (List.mem_of_getElem? a1), lookup_par L.nd a1 b1⟩⟩
    · by_cases hj : i < ps.length + cn.length
      · have a1 : cn[i - ps.length]? = some y := by
          rw [List.getElem?_append_left (by rw [List.length_append]; omega), List.getElem?_append_right (by omega)] at e1
          exact e1
        have a2 : zs[i - ps.length]? = some v := by
          rw [List.getElem?_append_left (by rw [List.length_map, List.length_append]; have := C.len; omega), List.getElem?_map, List.getElem?_append_right (by omega)] at e2
          rw [hl] at e2
          simpa using e2
        obtain ⟨k, hk⟩ : ∃ k, caps[i - ps.length]? = some k := ⟨_, List.getElem?_eq_getElem (by have := C.len; omega)⟩
        obtain ⟨c1, c2⟩ := C.at_ _ _ _ a1 hk
        have c3 := hzs _ _ _ hk a2
        obtain ⟨m, hn, hl2⟩ := I.loc
        have hvis : Vis X.env.scope y := (L.free _ (PySem.mem_of_lookup c2) rfl).elim (fun k => .inr (.inl k)) (fun k => .inr (.inr k))
        obtain ⟨w', r, q⟩ := hl2 k y v c1 c3 hvis
        obtain ⟨d2, h2⟩ := look c2
        refine ⟨w', r, .inr ⟨.inr c2, d2, h2, ?_⟩⟩
        have c4 := cm h2
        rcases q with ⟨k', _⟩ | ⟨_, c5, e', z⟩
        · have k' : X.env.scope.names.lookup y = some .local := k'
          rcases L.free _ (PySem.mem_of_lookup c2) rfl with k2 | k2 <;> rw [show X.env.scope.names.lookup y = _ from k2] at k' <;> cases k'
        · rw [c4] at e'
          cases e'
          exact cellK (I.freeC y _ c4) z
      · rw [List.getElem?_append_right (by rw [List.length_map, List.length_append]; have := C.len; omega), List.getElem?_replicate] at e2
        split at e2
        · cases e2
        · cases e2
  · obtain ⟨w', z⟩ := I.cell y c (cm e)
    exact ⟨w', cellK (I.freeC y c (cm e)) z⟩
  · obtain ⟨v, o, ho, hd⟩ := I.cell y c (cm e)
    exact un.free c o ho (I.freeC y c (cm e)) (by simp)
  · show _ = (ps ++ cn ++ own).length
    simp only [List.length_append, List.length_map, List.length_replicate]
    have := C.len
    omega
end
end Z
namespace Z
open PySem PySem.Spec PyProof.Rows L2
section
variable {T : Top} {X : Cx} {pins : List (Addr × Obj)} {σ : L2.St} {H : Hp} {s : Shared}
theorem capsOf_at {F : Hp} {ρ : Rho} {l : Loc} : ∀ {caps : List Nat} {cs : List PV}, RL T F ρ l σ → capsOf caps l = some cs → ∃ zs, Reps T F ρ cs zs ∧ zs.length = caps.length ∧ ∀ (j i : Nat) (z : V), caps[j]? = some i → zs[j]? = some z → σ[i]? = some (some z)
  | [], cs, rl, h => by cases h; exact ⟨[], .nil, rfl, fun j i z h => by simp at h⟩
  | k :: caps, cs, rl, h => by
    unfold capsOf at h
    split at h
    · rename_i v hv
      split at h
      · rename_i t ht
        cases h
        obtain ⟨zs, h1, h2, h3⟩ := capsOf_at rl ht
        have hv : nth l k = some (some v) := by
          unfold getV at hv
          split at hv
          · rename_i w hw
            cases hv; exact hw
          · cases hv
        obtain ⟨x, g1, g2⟩ := rl.v k v hv
        refine ⟨x :: zs, .cons g2 h1, by simp [h2], fun j i z e1 e2 => ?_⟩
        cases j with
        | zero =>
          have e1 : k = i := by simpa using e1
          have e2 : x = z := by simpa using e2
          subst e1 e2
          exact g1
        | succ j => exact h3 j i z (by simpa using e1) (by simpa using e2)
      · cases h
    · cases h
theorem rl_lam {F : Hp} {ρ : Rho} {vs cs : List PV} {xs zs : List V} (r : Reps T F ρ vs xs) (q : Reps T F ρ cs zs) (n : Nat) : RL T F ρ (vs.map some ++ cs.map some ++ List.replicate n none) ((xs ++ zs).map some ++ List.replicate n none) := by
  have rq := r.append q
  have hl := rq.length
  refine ⟨fun i v h => ?_, ?_⟩
  · rw [← List.map_append, nth_get] at h
    by_cases hi : i < (vs ++ cs).length
    · rw [List.getElem?_append_left (by rw [List.length_map]; exact hi), List.getElem?_map] at h
      have hv : (vs ++ cs)[i]? = some v := by simpa using h
      obtain ⟨x, h1, h2⟩ := reps_get' rq (by rw [nth_get]; exact hv)
      refine ⟨x, ?_, h2⟩
      rw [List.getElem?_append_left (by rw [List.length_map, ← hl]; exact hi), List.getElem?_map, h1]
      rfl
    · rw [List.getElem?_append_right (by rw [List.length_map]; omega), List.getElem?_replicate] at h
      split at h
      · cases h
      · cases h
  · rw [← List.map_append]
    simp only [List.length_append, List.length_map, List.length_replicate] at hl ⊢
    omega
/-- a lambda called in its maker, its object pinned -/
theorem lam_call {A : Around} {scope : Scope} {ps cn own : List Str} {caps : List Nat} {vs cs : List PV} {xs zs : List V} {us : List Value} {f c' : Addr} {pm ctv : Value} {params : Arguments} {body : Expr} {k : Nat} {m : Ev} {F G : Hp} {ρ : Rho} {S S1 : LH} {w : PV}
    (I : Inv X pins σ H s) (L : LamP X.env.scope scope ps) (C : CapN X.N scope cn caps) (hA : A.frames = some X.stack) (hr : Room (k + 1) A)
    (of1 : s.heap.get? f = some (PySem.W.kla_obj "<lambda>" (X.env.qual ++ "<lambda>") params body scope (cloFrom X.env.cells scope.names []) pm c' ctv))
    (hbind : bindArgs (PySem.W.kla_fn "<lambda>" (X.env.qual ++ "<lambda>") params body scope (cloFrom X.env.cells scope.names []) pm (.ref c') ctv) ⟨us, []⟩ = pure (ps.zip us))
    (hbody : ∀ (A : Around) (outer : List Env) (s : Shared) (H : Hp) (E : XK), Room k (A.deeper (LamX.lamEnv X scope s.heap.objs.size f c')) → PE (lamCxP X (ps ++ cn ++ own) A outer s H E scope f c') body (TZ T (fun cls d _ H => E cls d H) m))
    (rh : RH T F G ρ S H) (hco : F c' = some (LamX.CodeO c' (X.env.qual ++ "<lambda>"))) (rv : Reps T F ρ vs xs) (ru : Vals xs us) (hl : xs.length = ps.length) (rc : Reps T F ρ cs zs) (hz : zs.length = caps.length) (hzs : ∀ (j i : Nat) (z : V), caps[j]? = some i → zs[j]? = some z → σ[i]? = some (some z))
    (hm : m (vs.map some ++ cs.map some ++ List.replicate own.length none) S = some (.ok w S1)) :
    wpAny (model X.prog X.w) A (call (.ref f) us) (fun z s' => ∃ F' ρ' y H', Inv X pins σ H' s' ∧ Ext F ρ F' ρ' ∧ RH T F' G ρ' S1 H' ∧ Rep T F' ρ' w y ∧ RelV y z) (fun _ _ => False) s := by
  obtain ⟨⟨oc, vs', t, hoc, hdc, hvc⟩, _, _⟩ := I.hok c' _ (rh.f _ _ hco)
  have e0 : Env0 X.prog X.w X.K X.mg X.base A X.stack s H := { I.env0 with frames := hA }
  have rc' : codeAny (model X.prog X.w) A (.call (.ref f) ⟨us, []⟩) (CR (L2.CX X.prog X.w) X.stack X.prog X.w H s (fun y H' => ∃ F' ρ', Ext F ρ F' ρ' ∧ RH T F' G ρ' S1 H' ∧ Rep T F' ρ' w y) fun _ _ _ => False) s := by
    refine PySem.W.kla_callFunE hr.depth of1 rfl L.co L.gen rfl ⟨c', oc, vs', t, rfl, hoc, hdc, hvc⟩ ?_
    rw [hbind]
    refine wpAny_pure (wpAny_newFunctionEnv (fun y hy => L.cell y hy) (fun y hy => L.par y.1 (List.of_mem_zip (a := y.1) (b := y.2) hy).1) (fun h₁ hns hsb => ⟨I.nolimit.fresh _ hsb, ?_⟩) L.kind)
    show codeAny _ _ (.expr body (LamX.lamEnv X scope s.heap.objs.size f c')) _ _
    have kp : ∀ b o, s.heap.get? b = some o → h₁.get? b = some o := fun b o e => hsb.extBut b o (Nat.ne_of_lt (Heap.lt_size e)) (Heap.get?_push_of_some _ e)
    have J : Inv (lamCxP X (ps ++ cn ++ own) A X.stack s H (fun _ _ _ => False) scope f c') [] ((xs ++ zs).map some ++ List.replicate own.length none) H { s with heap := h₁, toks := s.toks + (ps.zip us).length } :=
      lamP_start I L C e0 hr.hd ru hl hz hzs Un.refl hns kp
    refine PySem.W.kla_codeExpr (wpAny_mono ((hbody _ _ s H (fun _ _ _ => False) (hr.deeper _)).run [] _ _ H (fun y H' => ∃ F' ρ', Ext F ρ F' ρ' ∧ RH T F' G ρ' S1 H' ∧ Rep T F' ρ' w y) J ⟨F, G, ρ, _, S, .ok w S1, rl_lam rv rc own.length, rh, hm, ?_⟩) (fun v s' hq => ?_) fun e s' hq => hq)
    · exact fun F' ρ' y H' ex' rh' r' => ⟨F', ρ', ex', rh', r'⟩
    · obtain ⟨w', H', J', rv, q⟩ := hq
      exact ⟨w', H', J'.os, J'.bare, J'.base, J'.hok, rv, q⟩
  refine wpAny_call (codeAny_mono rc' fun r s' hq => ?_)
  cases r with
  | error e =>
    have hq : L2.CX X.prog X.w X.stack H s (fun _ _ _ => False) e s' := hq
    obtain ⟨_, _, _, _, _, _, _, _, _, _, _, _, hE⟩ := hq
    exact hE.elim
  | ok fl =>
    cases fl with
    | ret u =>
      obtain ⟨y, H', I', ry, F', ρ', g1, g2, g3⟩ := I.after hq
      exact ⟨F', ρ', y, H', I', g1, g2, g3, ry⟩
    | next => exact False.elim hq
    | brk => exact False.elim hq
    | cont => exact False.elim hq
end
end Z

set_option Elab.async false
set_option linter.all false
set_option maxRecDepth 100000
set_option maxHeartbeats 2000000
/-! ZA4: sorted by keys that a run of ours tells (after KE.SortKeyHeap). -/
namespace Z
open PySem PySem.Spec PyProof.Rows L2 PySem.W
section
variable {T : Top} {X : Cx} {pins : List (Addr × Obj)} {σ : L2.St} {H : Hp} {s : Shared}
/-- f(x) is what g tells -/
def KeyR (T : Top) (X : Cx) (P : List (Addr × Obj)) (σ : L2.St) (A : Around) (f : Value) (F0 : Hp) (ρ0 : Rho) (g : PV → LH → Option (Out PV)) : Prop :=
  ∀ (Pk : List (Addr × Obj)) (s : Shared) (H F G : Hp) (ρ : Rho) (S : LH) (v : PV) (x : V) (u : Value) (w : PV) (S1 : LH), Inv X (Pk ++ P) σ H s → Ext F0 ρ0 F ρ → RH T F G ρ S H → Rep T F ρ v x → RelV x u → g v S = some (.ok w S1) →
    wpAny (model X.prog X.w) A (call f [u]) (fun z s' => ∃ F' ρ' y H', Inv X (Pk ++ P) σ H' s' ∧ Ext F ρ F' ρ' ∧ RH T F' G ρ' S1 H' ∧ Rep T F' ρ' w y ∧ RelV y z) (fun _ _ => False) s
theorem keysBy_cons {g : PV → LH → Option (Out PV)} {v : PV} {r : List PV} {S S2 : LH} {ks : List (PV × PV)} (h : keysBy g (v :: r) S = some (ks, S2)) : ∃ kv S1 t, g v S = some (.ok kv S1) ∧ keysBy g r S1 = some (t, S2) ∧ ks = (kv, v) :: t := by
  unfold keysBy at h
  split at h
  · rename_i kv S1 h1
    split at h
    · rename_i t S2' h2
      cases h
      exact ⟨kv, S1, t, h1, h2, rfl⟩
    · cases h
  · cases h
theorem keysBy_snd {g : PV → LH → Option (Out PV)} : ∀ {xs : List PV} {S S2 : LH} {ks : List (PV × PV)}, keysBy g xs S = some (ks, S2) → ks.map (·.2) = xs
  | [], S, S2, ks, h => by cases h; rfl
  | v :: r, S, S2, ks, h => by
    obtain ⟨kv, S1, t, _, h2, rfl⟩ := keysBy_cons h
    rw [List.map_cons, keysBy_snd h2]
/-- a pinned record turns, stays pinned -/
theorem Inv_repin {kS : Addr} {o o' : Obj} {h' : Heap} {t' : Nat} (I : L2.Inv X ((kS, o) :: pins) σ H s) (fp : FpOk X pins (fun _ => none) kS) (k : ∀ b u, b ≠ kS → s.heap.get? b = some u → h'.get? b = some u) (e : h'.get? kS = some o') (d : ∀ v, o'.data ≠ .cell v) :
    L2.Inv X ((kS, o') :: pins) σ H { s with heap := h', toks := t' } := by
  obtain ⟨g1, g2, g3, g4, _⟩ := I.pin (kS, o) (List.mem_append_right _ List.mem_cons_self)
  have I0 : L2.Inv X pins σ H s := I.pins_of fun p hp => I.pin p (List.mem_append_right _ (List.mem_cons_of_mem _ hp))
  have I1 : L2.Inv X pins σ H { s with heap := h', toks := t' } := I0.turnedL (t' := t') (ch := [kS]) (fun b u hb e => k b u (fun z => hb (by simp [z])) e) (fun b hb => by
    have : b = kS := by simpa using hb
    subst this
    exact ⟨g2, fp.2⟩)
  refine I1.pins_of fun p hp => ?_
  rcases List.mem_cons.mp hp with z | z
  · subst z
    exact ⟨e, g2, g3, g4, d⟩
  · exact I1.pin p (List.mem_append_right _ z)
theorem key_rest {A : Around} {f : Value} {F G : Hp} {ρ : Rho} {S S2 : LH} {g : PV → LH → Option (Out PV)} {xs : List PV} {ks : List (PV × PV)} {ys : List V} {its : List Value} {kS a : Addr} {e1 : Nat} {P : PySem.Fin → Shared → Prop} {E : Value → Shared → Prop}
    (hK : X.K = T.K) (K : KeyR T X ((a, seqObj "list" #[] e1) :: pins) σ A f F ρ g) (I : L2.Inv X ((kS, seqObj "list" #[] 0) :: (a, seqObj "list" #[] e1) :: pins) σ H s) (rh : RH T F G ρ S H) (fpk : FpOk X ((a, seqObj "list" #[] e1) :: pins) (fun _ => none) kS)
    (hks : keysBy g xs S = some (ks, S2)) (hok : sortOkV (ks.map (·.1)) = true) (ry : Reps T F ρ xs ys) (ru : Vals ys its) (hZ : its.length ≤ sizeLine) (hu : A.units + 12 < cLine)
    (h : ∀ h' tk out c H' F' ρ' s0, L2.Inv X pins σ H' s0 → H' a = none → H' kS = none → s0.heap.get? a = some (seqObj "list" #[] e1) → (∀ b o, b ≠ a → b ≠ kS → s0.heap.get? b = some o → h'.get? b = some o) → h'.get? a = some (seqObj "list" (List.toArray out) c) → Ext F ρ F' ρ' → RH T F' G ρ' S2 H' → out.length = its.length →
      (∃ ws, Reps T F' ρ' ((ks.mergeSort leD).map (·.2)) ws ∧ Vals ws out) → P (.done (.ret .none)) { s0 with heap := h', toks := tk }) :
    wpAny (model X.prog X.w) A (ksk_rest a f false its.toArray e1 (.ref kS)) P E s := by
  have hlx : xs.length = its.length := by rw [ry.length, ru.length]
  have hlk : ks.length = xs.length := by rw [← keysBy_snd hks, List.length_map]
  unfold ksk_rest
  refine wpAny_bind (wpAny_rule ?_)
  first
    | rw [List.forIn_toArray]
    | (rw [← Array.forIn_toList]; simp only [List.toList_toArray])
    | rw [← Array.forIn_toList]
  refine wpAny_bind (ksk_fold (fun i s' => ∃ F' ρ' S' H' kA e zs rest, L2.Inv X ((kS, seqObj "list" kA e) :: (a, seqObj "list" #[] e1) :: pins) σ H' s' ∧ Ext F ρ F' ρ' ∧ RH T F' G ρ' S' H' ∧ Vals zs kA.toList ∧ Reps T F' ρ' ((ks.take i).map (·.1)) zs ∧
      keysBy g (xs.drop i) S' = some (rest, S2) ∧ ks = ks.take i ++ rest) its 0 s ⟨F, ρ, S, H, #[], 0, [], ks, I, Ext.refl, rh, .nil, by rw [List.take_zero]; exact .nil, by rw [List.drop_zero]; exact hks, by rw [List.take_zero]; rfl⟩ ?step ?done)
  case step =>
    rintro j x s' hx ⟨F', ρ', S', H', kA, e, zs, rest, I', ex', rh', vz, rz, hk, hcat⟩
    simp only [Nat.zero_add] at rz hk hcat ⊢
    have hj : j < its.length := (List.getElem?_eq_some_iff.mp hx).1
    have hd : xs.drop j = xs[j]'(by omega) :: xs.drop (j + 1) := by rw [List.drop_eq_getElem_cons]
    rw [hd] at hk
    obtain ⟨kv, S1, t, e1', e2', rfl⟩ := keysBy_cons hk
    obtain ⟨y, hy1, hy2⟩ := reps_get' ry (i := j) (v := xs[j]'(by omega)) (by rw [nth_get]; exact List.getElem?_eq_getElem (by omega))
    obtain ⟨u, hu1, hu2⟩ := ru.get hy1
    rw [hx] at hu1; cases hu1
    refine wpAny_bind (wpAny_attempt (wpAny_mono (K [(kS, seqObj "list" kA e)] s' H' F' G ρ' S' _ y x kv S1 I' ex' rh' (hy2.ext ex') hu2 e1') (fun v s'' he => ?_) fun _ _ hF => hF.elim))
    obtain ⟨F2, ρ2, y2, H2, I2, ex2, rh2, ry2, rv2⟩ := he
    try dsimp only
    have nk2 : s''.heap.get? kS = some (seqObj "list" kA e) := (I2.pin (kS, seqObj "list" kA e) (List.mem_append_right _ List.mem_cons_self)).1
    have hsz : kA.size ≤ its.length := by
      have h1 := vz.length
      have h2 := rz.length
      rw [List.length_map, List.length_take] at h2
      have h3 : kA.toList.length = kA.size := Array.length_toList
      omega
    have s1 := Heap.SameBut.update s''.heap kS (Obj.mapSeq (·.push v))
    obtain ⟨c2, hc2⟩ : ∃ c2, (s''.heap.update kS (Obj.mapSeq (·.push v))).get? kS = some (seqObj "list" (kA.push v) c2) := ⟨_, get?_update_seq nk2 (·.push v)⟩
    have ea : (kA.push v).toList = kA.toList ++ [v] := by simp
    refine wpAny_bind (listUpdate_at nk2 rfl ?_ (Nat.le_trans hsz hZ) (Nat.le_trans (Nat.le_of_eq (Array.size_push ..)) (Nat.succ_le_succ (Nat.le_trans hsz hZ))))
    refine wpAny_pure ⟨rfl, F2, ρ2, S1, H2, kA.push v, c2, zs ++ [y2], t, Inv_repin I2 fpk (fun b u hb e => (s1.2 b hb).trans e) hc2 (fun v z => by cases z), ex'.trans ex2, rh2, ?_, ?_, e2', ?_⟩
    · rw [ea]
      exact vz.append (.cons rv2 .nil)
    · have et : ks.take (j + 1) = ks.take j ++ [(kv, xs[j]'(by omega))] := by
        have hkj : ks[j]? = some (kv, xs[j]'(by omega)) := by
          have hl : (ks.take j).length = j := by rw [List.length_take]; omega
          have h0 : ks[j]? = (ks.take j ++ (kv, xs[j]'(by omega)) :: t)[j]? := congrArg (fun l => l[j]?) hcat
          rw [h0, List.getElem?_append_right (by omega), hl, Nat.sub_self]
          rfl
        rw [List.take_add_one, hkj]
        rfl
      rw [et, List.map_append]
      exact (rz.ext ex2).append (.cons ry2 .nil)
    · have et : ks.take (j + 1) = ks.take j ++ [(kv, xs[j]'(by omega))] := by
        have hkj : ks[j]? = some (kv, xs[j]'(by omega)) := by
          have hl : (ks.take j).length = j := by rw [List.length_take]; omega
          have h0 : ks[j]? = (ks.take j ++ (kv, xs[j]'(by omega)) :: t)[j]? := congrArg (fun l => l[j]?) hcat
          rw [h0, List.getElem?_append_right (by omega), hl, Nat.sub_self]
          rfl
        rw [List.take_add_one, hkj]
        rfl
      rw [et, List.append_assoc]
      exact hcat
  case done =>
    rintro s' ⟨F', ρ', S', H', kA, e, zs, rest, I', ex', rh', vz, rz, hk, hcat⟩
    simp only [Nat.zero_add] at rz hk hcat
    rw [← hlx, List.drop_length] at hk
    cases (show some ([], S') = some (rest, S2) from hk)
    rw [← hlx, ← hlk, List.take_length] at rz
    obtain ⟨f1, f2, f3⟩ := sortOk_facts hok
    have ekeys : EachIs (fun v d => ∃ as, Reads s'.heap v d as) kA.toList ((ks.map (·.1)).map toD) := by
      have go : ∀ {ps : List PV} {zs : List V} {us : List Value}, (∀ p ∈ ps, dataN 12 p = true) → Reps T F' ρ' ps zs → Vals zs us → EachIs (fun v d => ∃ as, Reads s'.heap v d as) us (ps.map toD) := by
        intro ps
        induction ps with
        | nil => intro zs us _ q1 q2; cases q1; cases q2; exact .nil
        | cons p ps ih =>
          intro zs us q q1 q2
          cases q1 with
          | cons g1 g2 =>
            cases q2 with
            | cons k1 k2 => exact .cons ⟨[], reads_D I' hK rh'.f 12 (q _ List.mem_cons_self) g1 k1⟩ (ih (fun p hp => q p (List.mem_cons_of_mem _ hp)) g2 k2)
      exact go (fun p hp => f1 p hp) rz vz
    have hsz : kA.size = its.length := by
      have h1 := vz.length
      have h2 := rz.length
      rw [List.length_map] at h2
      have h3 : kA.toList.length = kA.size := Array.length_toList
      omega
    obtain ⟨nk, _⟩ := I'.pin (kS, seqObj "list" kA e) (List.mem_append_right _ List.mem_cons_self)
    obtain ⟨na, _⟩ := I'.pin (a, seqObj "list" #[] e1) (List.mem_append_right _ (List.mem_cons_of_mem _ List.mem_cons_self))
    try dsimp only
    refine wpAny_bind (listItems_at nk rfl ?_)
    have hka : kS ≠ a := fun z => fpk.2.2.2.2.2 (a, seqObj "list" #[] e1) (List.mem_append_right _ List.mem_cons_self) z.symm
    have hD : ∀ d, d ∈ (ks.map (·.1)).map toD → A.units + d.depth < cLine := fun d hd => by
      obtain ⟨p, hp, rfl⟩ := List.mem_map.mp hd
      have := depth_D 12 (f1 p hp)
      omega
    refine keyH_end (κ := dataKind s'.heap ((ks.map (·.1)).map toD)) (h₁ := hideAll s'.heap [kS]) (s := s') (fun b o hb e => of_hideAll _ e) (hideAll_none _ (by simp)) nk na hka (SortsAt.data (s := s') ekeys f2 f3 hD) hsz hZ fun h3 tk3 c k3 n3 => ?_
    have ko : KeyedOut false ((ks.map (·.1)).map toD) its (sortVals (dataKind s'.heap ((ks.map (·.1)).map toD)) false kA.toList its) := ⟨s'.heap, kA.toList, f2, rfl, ekeys⟩
    have I0 : L2.Inv X pins σ H' s' := I'.pins_of fun p hp => I'.pin p (List.mem_append_right _ (List.mem_cons_of_mem _ (List.mem_cons_of_mem _ hp)))
    refine h h3 tk3 _ c H' F' ρ' s' I0 (I'.pin (a, seqObj "list" #[] e1) (List.mem_append_right _ (List.mem_cons_of_mem _ List.mem_cons_self))).2.1 (I'.pin (kS, seqObj "list" kA e) (List.mem_append_right _ List.mem_cons_self)).2.1 na (fun b o hb hb2 e => k3 b o hb (hideAll_get _ e (by simpa using hb2))) n3 ex' rh' ?_ ?_
    · rw [ko.length (by rw [List.length_map, List.length_map, hlk, hlx])]
    · have es : EachIs (fun (u : Value) (p : PV × PV) => ∃ y, Rep T F' ρ' p.2 y ∧ RelV y u) its ks := by
        have e0 := each_of (ry.ext ex') ru
        rw [← keysBy_snd hks] at e0
        exact each_mapL e0
      have e2 : (ks.map (·.1)).map toD = ks.map fun p => toD p.1 := by rw [List.map_map]; rfl
      rw [e2] at ko
      have e3 := keyedOut_each (fun p : PV × PV => toD p.1) ko es
      rw [e2]
      have e4 : ks.mergeSort leD = ks.mergeSort (dataLe false fun p : PV × PV => toD p.1) := rfl
      rw [e4]
      exact of_each (each_mapR e3)
end
end Z

set_option Elab.async false
set_option linter.all false
set_option maxRecDepth 100000
set_option maxHeartbeats 2000000
/-! ZA5: sorted(e, key=lambda x: ..). -/
namespace Z
open PySem PySem.Spec PyProof.Rows L2 PySem.W
section
variable {T : Top} {X : Cx} {pins : List (Addr × Obj)} {σ : L2.St} {H : Hp} {s : Shared}
theorem call_sortedK {W : WX} {F G : Hp} {ρ : Rho} {S S2 : LH} {x : PV} {y : V} {u : Value} {xs vs : List PV} {ks : List (PV × PV)} {g : PV → LH → Option (Out PV)} {qf : Addr} {mu : Bool} {o : Out PV} {Q : VK}
    (hK : X.K = T.K) (hc : X.calm = true) (hu : X.A.units + 64 < cLine) (K : ∀ a e1, KeyR T X ((a, seqObj "list" #[] e1) :: pins) σ X.A.in1.in1 (.ref qf) F ρ g) (I : L2.Inv X pins σ H s) (rh : RH T F G ρ S H) (rv : Rep T F ρ x y) (ru : RelV y u)
    (hx : collOf (top S x) = some xs) (hks : keysBy g xs S = some (ks, S2)) (hs : sortP ks = some vs) (hm : mkL mu vs S2 = some o) (q : After T W F G ρ σ o Q) :
    wpAny (model X.prog X.w) X.A (call (.builtin "sorted") [u] [(Str.ofString "key", .ref qf)]) (EP X pins σ Q) X.xe s := by
  obtain ⟨hok, rfl⟩ := sortP_merge hs
  refine call_function_entry_kw PyProof.Rows.kind_sorted PyProof.Rows.plain_sorted PyProof.Rows.entry_sorted (ksk_s1 _ _) ?_
  unfold Builtin.«sorted»
  refine wpAny_bind (m := checkCount "sorted" 1 1 _) (wpAny_pure ?_)
  refine wpAny_bind (collectZ (A := X.A.in1) hK (I.ok.hd hc) I rh rv ru hx fun ys its h' tk ry vz k hz => ?_)
  have I1 : L2.Inv X pins σ H { s with heap := h', toks := tk } := I.kept k
  have hZ : its.length ≤ sizeLine := by rw [← vz.length]; exact hz
  refine wpAny_bind (wpAny_newList ?_ hZ)
  have ha : H h'.objs.size = none := I1.hok.fresh (Nat.le_refl _)
  have fa : FpOk X pins H h'.objs.size := I1.fpOk (s := { s with heap := h', toks := tk }) (Nat.le_refl _) ha
  have hoL : (h'.push (seqObj "list" its.toArray 0)).get? h'.objs.size = some (seqObj "list" its.toArray 0) := Heap.get?_push_size _ rfl
  have I2 : L2.Inv X pins σ H { s with heap := h'.push (seqObj "list" its.toArray 0), toks := tk } := I1.kept (t' := tk) fun b o e => Heap.get?_push_of_some _ e
  show wpAny _ _ _ _ _ { s with heap := h'.push (seqObj "list" its.toArray 0), toks := tk }
  refine wpAny_bind (wpAny_holding (wpAny_call_entry_kw slot_list_sort ⟨_, hoL, rfl⟩ entry_list_sort ?_ (ksk_l1 _ _)))
  rw [ksk_t1]
  show wpAny (model X.prog X.w) X.A.in1.in1 _ _ _ _
  generalize hh2 : h'.push (seqObj "list" its.toArray 0) = h2 at hoL I2
  have hsz2 : h2.objs.size = h'.objs.size + 1 := by rw [← hh2, size_push']
  generalize ea : h'.objs.size = a at *
  obtain ⟨e1, ho1⟩ : ∃ e1, (h2.update a (Obj.mapSeq fun _ => (#[] : Array Value))).get? a = some (seqObj "list" #[] e1) := ⟨_, get?_update_seq hoL fun _ => #[]⟩
  have s1 := Heap.SameBut.update h2 a (Obj.mapSeq fun _ => (#[] : Array Value))
  have I3 : L2.Inv X pins σ H { s with heap := h2.update a (Obj.mapSeq fun _ => (#[] : Array Value)), toks := tk } := L2.Inv.turnedL (s := { s with heap := h2, toks := tk }) (t' := tk) (ch := [a]) I2 (fun b u hb e => (s1.2 b (fun z => hb (by simp [z]))).trans e) (fun b hb => by
    have : b = a := by simpa using hb
    subst this
    exact fa)
  unfold ksk_tree
  refine wpAny_bind (listItems_at hoL rfl ?_)
  refine wpAny_bind (listUpdate_at hoL rfl ?_ (by rw [List.size_toArray]; exact hZ) (Nat.zero_le _))
  refine wpAny_bind (seqEpoch_at ho1 rfl ?_)
  refine wpAny_bind (wpAny_newTuple ?_ (by show its.length ≤ _; exact hZ))
  refine wpAny_bind (wpAny_newList ?_ (Nat.zero_le _))
  refine wpAny_holding ?_
  generalize hh3 : (h2.update a (Obj.mapSeq fun _ => (#[] : Array Value))) = h3 at ho1 I3
  have hsz3 : h3.objs.size = h'.objs.size + 1 := by rw [← hh3, Heap.size_update, hsz2, ea]
  show wpAny _ _ (ksk_rest a (.ref qf) false its.toArray e1 (.ref (h3.push (seqObj "tuple" its.toArray 0)).objs.size)) _ _ { s with heap := (h3.push (seqObj "tuple" its.toArray 0)).push (seqObj "list" #[] 0), toks := tk }
  have I4 : L2.Inv X pins σ H { s with heap := h3.push (seqObj "tuple" its.toArray 0), toks := tk } := I3.kept (t' := tk) fun b o e => Heap.get?_push_of_some _ e
  have hk : H (h3.push (seqObj "tuple" its.toArray 0)).objs.size = none := I4.hok.fresh (Nat.le_refl _)
  have fk : FpOk X pins H (h3.push (seqObj "tuple" its.toArray 0)).objs.size := I4.fpOk (s := { s with heap := h3.push (seqObj "tuple" its.toArray 0), toks := tk }) (Nat.le_refl _) hk
  have hsz4 : (h3.push (seqObj "tuple" its.toArray 0)).objs.size = a + 2 := by rw [size_push', hsz3, ea]
  have I5 : L2.Inv X pins σ H { s with heap := (h3.push (seqObj "tuple" its.toArray 0)).push (seqObj "list" #[] 0), toks := tk } := I4.kept (t' := tk) fun b o e => Heap.get?_push_of_some _ e
  have hnk : ((h3.push (seqObj "tuple" its.toArray 0)).push (seqObj "list" #[] 0)).get? (h3.push (seqObj "tuple" its.toArray 0)).objs.size = some (seqObj "list" #[] 0) := Heap.get?_push_size _ rfl
  have hna : ((h3.push (seqObj "tuple" its.toArray 0)).push (seqObj "list" #[] 0)).get? a = some (seqObj "list" #[] e1) := Heap.get?_push_of_some _ (Heap.get?_push_of_some _ ho1)
  generalize hh5 : (h3.push (seqObj "tuple" its.toArray 0)).push (seqObj "list" #[] 0) = h5 at *
  generalize hkS : (h3.push (seqObj "tuple" its.toArray 0)).objs.size = kS at *
  have I6 : L2.Inv X ((kS, seqObj "list" #[] 0) :: (a, seqObj "list" #[] e1) :: pins) σ H { s with heap := h5, toks := tk } := I5.pins_of fun p hp => by
    rcases List.mem_cons.mp hp with z | z
    · subst z
      exact ⟨hnk, fk.1, fk.2.1, fk.2.2.1, fun v z => by cases z⟩
    · rcases List.mem_cons.mp z with z | z
      · subst z
        exact ⟨hna, fa.1, fa.2.1, fa.2.2.1, fun v z => by cases z⟩
      · exact I5.pin p (List.mem_append_right _ z)
  refine key_rest hK (K a e1) I6 rh ⟨rfl, fk.2.1, fk.2.2.1, fk.2.2.2.1, fk.2.2.2.2.1, fun p hp => ?_⟩ hks hok ry vz hZ (by show X.A.units + 1 + 1 + 12 < cLine; omega) fun hf tkf out c H' F' ρ' s0 J ja jk _ kf na' ex' rh' hlo ⟨ws, rws, vws⟩ => ⟨_, rfl, ?_⟩
  · rcases List.mem_append.mp hp with z | z
    · exact fk.2.2.2.2.2 p (List.mem_append_left _ z)
    · rcases List.mem_cons.mp z with z | z
      · subst z
        show a ≠ kS
        omega
      · exact fk.2.2.2.2.2 p (List.mem_append_right _ z)
  · have J1 : L2.Inv X pins σ H' { s0 with heap := hf, toks := tkf } := L2.Inv.turnedL (s := s0) (t' := tkf) (ch := [a, kS]) J (fun b u hb e => kf b u (fun z => hb (by simp [z])) (fun z => hb (by simp [z])) e) (fun b hb => by
      rcases List.mem_cons.mp hb with z | z
      · subst z; exact ⟨ja, fa.2⟩
      · have : b = kS := by simpa using z
        subst this
        exact ⟨jk, fk.2⟩)
    have J2 : L2.Inv X pins σ (upd H' a (.lst ws)) { s0 with heap := hf, toks := tkf } := L2.Inv.take (s := { s0 with heap := hf, toks := tkf }) (t' := tkf) (h' := hf) J1 (fun b u _ e => e) ⟨ja, fa.2⟩ ⟨by rw [vws.length, hlo]; exact hZ, out, c, vws, na'⟩
    refine wpAny_pure ⟨_, rfl, .ref a, _, J2, rfl, ?_⟩
    exact mkL_ok rh' rws hm (q.later ex') ja
end
end Z
namespace Z
open PySem PySem.Spec PyProof.Rows L2 PySem.W
section
variable {T : Top} {X : Cx} {W : WX} {e : Expr}
theorem pe_sortkZ {mu : Bool} {ma m : Ev} {g : List PV → PV → LH → Option (Out PV)} {x : Str} {c P : Addr} {k : Nat} {params : Arguments} {body : Expr} {scope : Scope} {ps cn own : List Str} {caps : List Nat} {p kpos lpos pos : Pos}
    (hK : X.K = T.K) (hc : X.calm = true) (hg : Gl X x) (hm : X.mg x = none) (hv : bootBuiltins x = some (.builtin "sorted")) (hn : x ≠ "__name__") (hdb : (x == ("__debug__" : Str)) = false) (he : PE X e (TZ T W ma)) (ns : noStar e = true)
    (TB : LamX.TabB X.base X.mg c P) (hcode : X.env.code = .ref c) (hmT : (P, X.env.qual ++ "<lambda>") ∈ T.tabs) (hu : ∀ p ∈ T.tabs, p.1 = P → p.2 = X.env.qual ++ "<lambda>") (hr : Room (k + 2) X.A) (L : LamP X.env.scope scope ps) (hps : ps.length = 1) (C : CapN X.N scope cn caps) (hdef : defaultsOf params X.env = ([], []))
    (hbind : ∀ (q : Str) (cl : List (Str × Addr)) (pm cv ctv u : Value), bindArgs (PySem.W.kla_fn "<lambda>" q params body scope cl pm cv ctv) ⟨[u], []⟩ = pure (ps.zip [u]))
    (hbody : ∀ (A : Around) (outer : List Env) (s : Shared) (H : Hp) (E : XK) (f c' : Addr), Room k (A.deeper (LamX.lamEnv X scope s.heap.objs.size f c')) → PE (lamCxP X (ps ++ cn ++ own) A outer s H E scope f c') body (TZ T (fun cls d _ H => E cls d H) m))
    (hgm : ∀ cs v S o, cs.length = caps.length → g cs v S = some o → m ([v].map some ++ cs.map some ++ List.replicate own.length none) S = some o) :
    PE X (.Call (.Name x p) [e] [⟨some "key", .Lambda params body scope lpos, kpos⟩] pos) (TZ T W (eSortk mu ma caps g)) := by
  refine ⟨fun pins s σ H Q I h => ?_⟩
  obtain ⟨F, G, ρ, l, S, o, rl, rh, ev, q⟩ := h
  have hst := starEach_plain (env := X.env) (es := []) ns
  refine wpAny_Call_Name_kw (ld_blt I hg hm hv ?_ hn hdb)
  refine callWith_kw (thn ((pa_cons he pa_nil hst).run pos pins s σ H (fun ys H1 => ∃ F1 ρ1 y v S1, ys = [y] ∧ Ext F ρ F1 ρ1 ∧ RH T F1 G ρ1 S1 H1 ∧ Rep T F1 ρ1 v y ∧ (match capsOf caps l with
      | some cs => match collOf (top S1 v) with
        | some xs => match keysBy (g cs) xs S1 with
          | some (ks, S2) => match sortP ks with
            | some ys => mkL mu ys S2
            | none => none
          | none => none
        | none => none
      | none => none) = some o) I ?_) fun us s1 ⟨vs, H1, I1, rvs, q1⟩ => ?_) (by rw [hst] <;> rfl) (by rw [hst] <;> rfl) (by rfl) (by rfl)
  · exact tz_ok rl rh ev q fun v S1 F1 ρ1 x H1 e1 ex1 rl1 rh1 r1 h1 => ⟨F1, ρ1, x, v, S1, rfl, ex1, rh1, r1, e1⟩
  · obtain ⟨F1, ρ1, y, v, S1, rfl, ex1, rh1, r1, e1⟩ := q1
    obtain ⟨u, rfl, ru⟩ := vals1 rvs
    have rl1 := rl.ext ex1
    show wpAny _ _ (evalAll [do let v ← eval (.Lambda params body scope lpos) X.env; standAt pos; pure v]) _ _ s1
    refine wpAny_evalAll_cons (wpAny_bind (lam_makeZ I1 rh1 TB hcode hmT hu hdef (L.has I1.ok) fun f c' pm ctv F2 H2 s2 I2 ex2 rh2 hf hfn hfr hsz hco => wpAny_bind (wpAny_standAt (wpAny_pure (wpAny_evalAll_nil ?_)))))
    show wpAny _ _ (call (.builtin "sorted") [u] [(Str.ofString "key", .ref f)]) _ _ _
    split at e1
    · rename_i cs hcs
      obtain ⟨zs, z1, z2, z3⟩ := capsOf_at rl1 hcs
      split at e1
      · rename_i xs hxs
        split at e1
        · rename_i ks S2 hks
          split at e1
          · rename_i ws hws
            have I3 : L2.Inv X ((f, PySem.W.kla_obj "<lambda>" (X.env.qual ++ "<lambda>") params body scope (cloFrom X.env.cells scope.names []) pm c' ctv) :: pins) σ H2 s2 := I2.pins_of fun p hp => by
              rcases List.mem_cons.mp hp with z | z
              · subst z
                exact ⟨hf, hfn, Nat.ne_of_gt (Nat.lt_of_lt_of_le I1.lt hsz), I1.nofs hsz, fun v z => by cases z⟩
              · exact I2.pin p (List.mem_append_right _ z)
            have hA : X.A.in1.in1.frames = some X.stack := I1.ok.frames
            have hrA : Room (k + 1) X.A.in1.in1 := ⟨hr.hd, by have := hr.dp; show X.A.depth + 3 * (k + 1) + 5 < _; omega, by have := hr.un; show X.A.units + 1 + 1 + 16 * (k + 1) + 200 < _; omega⟩
            refine wpAny_mono (call_sortedK hK hc hr.units (fun a e1 Pk s3 H3 F3 G3 ρ3 S3 v3 x3 u3 w3 S4 J ex3 rh3 rv3 ru3 hg3 => ?_) I3 rh2 (r1.ext ex2) ru hxs hks hws e1 (q.later (ex1.trans ex2))) (fun z s4 hz => ?_) fun _ _ z => z
            · refine lam_call (vs := [v3]) (xs := [x3]) (us := [u3]) (zs := zs) (cs := cs) (own := own) J L C hA hrA (J.pin (f, _) (List.mem_append_right _ (List.mem_append_right _ (List.mem_cons_of_mem _ List.mem_cons_self)))).1 (hbind _ _ _ _ _ _) (fun A outer s H E hr2 => hbody A outer s H E f c' hr2) rh3 (ex3.f _ _ hco) (.cons rv3 .nil) (.cons ru3 .nil) (by rw [hps]; rfl)
                (z1.ext (ex2.trans ex3)) z2 z3 (hgm _ _ _ _ (by rw [z1.length, z2]) hg3)
            · obtain ⟨y4, H4, I4, ry4, q4⟩ := hz
              exact ⟨y4, H4, I4.pins_of fun p hp => I4.pin p (List.mem_append_right _ (List.mem_cons_of_mem _ hp)), ry4, q4⟩
          · cases e1
        · cases e1
      · cases e1
    · cases e1
end
end Z

set_option Elab.async false
set_option linter.all false
set_option maxRecDepth 100000
set_option maxHeartbeats 2000000
/-! ZQ0: side conditions of the rules, from plain tests. -/
namespace Z
open PySem PySem.Spec PyProof.Rows L2
def isCompE : Expr → Bool
  | .ListComp _ _ _ _ => true
  | .SetComp _ _ _ _ => true
  | .DictComp _ _ _ _ _ => true
  | _ => false
theorem swaps_no {e : Expr} (h : isCompE e = false) {t : Option Expr} {l : Nat} {env : Env} : swapsWith e t l env = pure false := by
  unfold swapsWith
  cases e <;> first | rfl | cases h
theorem swaps_sole {t e : Expr} (h : isCompE e = false) {l : Nat} {env : Env} : swapsWithSole [t] e l env = pure false := swaps_no (t := some t) h
/-- the target is no name: nothing swaps -/
theorem swaps_noName {e t : Expr} {l : Nat} {env : Env} (h : ∀ x p, t ≠ .Name x p) : swapsWithSole [t] e l env = pure false := by
  show swapsWith e (some t) l env = pure false
  unfold swapsWith
  cases e
  case ListComp | SetComp | DictComp =>
    cases t <;> first | rfl | (exact absurd rfl (h _ _))
  all_goals rfl
theorem swaps_dct {k v : Expr} {gens : List Comprehension} {scope : Scope} {pos py : Pos} {y : Str} {env : Env} {line : Nat} (hb : env.blockKind = .function) (hy : env.kindOf y = some .local) (hl : py.line = pos.line)
    (hn : (scope.names.any fun x => x.1 == y && (x.2 == .local || x.2 == .cell)) = false) : swapsWith (.DictComp k v gens scope pos) (some (.Name y py)) line env = pure true := by
  have h1 : (env.blockKind == ScopeKind.function) = true := by rw [hb]; rfl
  have h2 : (env.kindOf y == some NameKind.local) = true := by rw [hy]; rfl
  have h3 : (py.line == pos.line) = true := by rw [hl]; simp
  show (pure (env.blockKind == ScopeKind.function && env.kindOf y == some NameKind.local && py.line == pos.line && !(scope.names.any fun x => x.1 == y && (x.2 == .local || x.2 == .cell))) : Sem Bool) = pure true
  rw [h1, h2, h3, hn]
  rfl
theorem each_one {t : Expr} (h : noStar t = true) {env : Env} : (assignEach [t] env).map (·.2) = [assign t env] := by
  cases t <;> first | rfl | cases h
theorem each_plain {env : Env} : ∀ {ts : List Expr}, ts.all noStar = true → assignEach ts env = ts.map fun t => (false, assign t env)
  | [], _ => rfl
  | t :: ts, h => by
    rw [List.all_cons, Bool.and_eq_true] at h
    have ih := each_plain (env := env) (ts := ts) h.2
    have e1 : assignEach (t :: ts) env = (false, assign t env) :: assignEach ts env := by
      cases t <;> first | rfl | cases h.1
    rw [e1, ih]
    rfl
theorem each_no {env : Env} {ts : List Expr} (h : ts.all noStar = true) : (assignEach ts env).findIdx? (·.1) = none := by
  rw [each_plain h, List.findIdx?_eq_none_iff]
  intro x hx
  obtain ⟨t, _, rfl⟩ := List.mem_map.mp hx
  rfl
theorem each_len {env : Env} {ts : List Expr} (h : ts.all noStar = true) : (assignEach ts env).length = ts.length := by rw [each_plain h, List.length_map]
def isSetE : Expr → Bool
  | .Set _ _ _ => true
  | _ => false
theorem folded_no {e : Expr} (h : isSetE e = false) (env : Env) (x : Value) : foldedSetIterable e env x = pure x := by
  unfold foldedSetIterable
  cases e <;> first | rfl | cases h
def isSliceE : Expr → Bool
  | .Slice _ _ _ _ => true
  | _ => false
theorem plainIx_of {e : Expr} (h : isSliceE e = false) : PlainIx e := PlainIx.of fun a b st p z => by rw [z] at h; cases h
theorem asg_sub {o i : Expr} {pos : Pos} {env : Env} (h : isSliceE i = false) (v : Value) : assign (.Subscript o i pos) env v = (do
      let ov ← holding [v] (eval o env)
      let iv ← holding [v, ov] (eval i env)
      standAt pos
      holding [v, ov, iv] (setItem ov iv v)
      release [v, ov, iv] []) := by
  cases i <;> first | rfl | cases h
/-- no name, or none of the kind local -/
def offName (sc : Scope) : Expr → Bool
  | .Name x _ => !(sc.names.lookup x == some .local)
  | _ => true
def isTupE : Expr → Bool
  | .Tuple _ _ _ => true
  | _ => false
def isSeqE : Expr → Bool
  | .Tuple _ _ _ => true
  | .List _ _ => true
  | _ => false
theorem stores_one {t e : Expr} {env : Env} (h : isSeqE t = false) : swappedStores [t] e env = pure none := by
  unfold swappedStores
  cases t <;> first | rfl | cases h
theorem stores_val {ts : List Expr} {k : Nat} {p : Pos} {e : Expr} {env : Env} (h : isTupE e = false) : swappedStores [.Tuple ts k p] e env = pure none := by
  unfold swappedStores
  cases e <;> first | rfl | cases h
theorem filterMap_len {α β : Type} {f : α → Option β} : ∀ {l : List α}, (∃ a ∈ l, f a = none) → (l.filterMap f).length < l.length
  | [], h => by obtain ⟨a, h, _⟩ := h; cases h
  | a :: l, h => by
    rw [List.filterMap_cons]
    cases hf : f a with
    | none =>
      dsimp only
      have := List.length_filterMap_le f l
      rw [List.length_cons]
      omega
    | some b =>
      dsimp only
      obtain ⟨c, h1, h2⟩ := h
      rcases List.mem_cons.mp h1 with z | z
      · subst z; rw [hf] at h2; cases h2
      · have := filterMap_len ⟨c, z, h2⟩
        rw [List.length_cons, List.length_cons]
        omega
theorem stores_off {ts vs : List Expr} {k k2 : Nat} {p p2 : Pos} {env : Env} (h : ts.any (offName env.scope) = true) : swappedStores [.Tuple ts k p] (.Tuple vs k2 p2) env = pure none := by
  obtain ⟨t, h1, h2⟩ := List.any_eq_true.mp h
  unfold swappedStores
  dsimp only [pure_bind]
  split
  · rfl
  · split
    · rfl
    · have hl := filterMap_len (f := fun x => match x with
        | .Name id pos => if (env.kindOf id == some NameKind.local && pos.line == ((Option.map (fun x => x.pos.line) ts.head?).getD 0)) = true then some id else none
        | _ => none) (l := ts) ⟨t, h1, by
          cases t with
          | Name x p =>
            have h2 : (!(env.scope.names.lookup x == some .local)) = true := h2
            have : (env.kindOf x == some NameKind.local) = false := by simpa [Env.kindOf] using h2
            dsimp only
            rw [this]
            rfl
          | _ => rfl⟩
      have hne : ((List.filterMap (fun x => match x with
        | Expr.Name id pos => if (env.kindOf id == some NameKind.local && pos.line == ((Option.map (fun x => x.pos.line) ts.head?).getD 0)) = true then some id else none
        | _ => none) ts).length != ts.length) = true := by
        rw [bne_iff_ne]
        exact Nat.ne_of_lt hl
      rw [if_pos]
      rw [Bool.or_eq_true]
      exact .inl hne
theorem stores_two {a b : Expr} {x y : Str} {px py pt : Pos} {kt k2 : Nat} {pt2 : Pos} {env : Env} (hb : env.blockKind = .function) (hx : env.scope.names.lookup x = some .local) (hy : env.scope.names.lookup y = some .local) (hxy : (x == y) = false) (hl : (py.line == px.line) = true)
    (ns : noStars [a, b] = true) (h1 : [a, b].all (foldedForSure 8) = false) (h2 : [a, b].all (constantsAlone 8) = false) : swappedStores [.Tuple [.Name x px, .Name y py] kt pt] (.Tuple [a, b] k2 pt2) env = pure (some [x, y]) := by
  have kx : (env.kindOf x == some NameKind.local) = true := by unfold Env.kindOf; rw [hx]; rfl
  have ky : (env.kindOf y == some NameKind.local) = true := by unfold Env.kindOf; rw [hy]; rfl
  have hst : ([a, b].any fun x => match x with | .Starred .. => true | _ => false) = false := by
    unfold noStars at ns
    simp only [List.all_cons, List.all_nil, Bool.and_true, Bool.and_eq_true] at ns
    have h1 : ∀ e : Expr, noStar e = true → (match e with | .Starred .. => true | _ => false) = false := fun e h => by
      cases e <;> first | rfl | cases h
    simp only [List.any_cons, List.any_nil, Bool.or_false]
    rw [h1 a ns.1, h1 b ns.2]
    rfl
  have fm : (List.filterMap (fun t => match t with
        | Expr.Name id pos => if (env.kindOf id == some NameKind.local && pos.line == ((Option.map (fun x => x.pos.line) ([Expr.Name x px, Expr.Name y py]).head?).getD 0)) = true then some id else none
        | _ => none) [Expr.Name x px, Expr.Name y py]) = [x, y] := by
    have l1 : ((Option.map (fun x => x.pos.line) ([Expr.Name x px, Expr.Name y py]).head?).getD 0) = px.line := rfl
    rw [l1, List.filterMap_cons, List.filterMap_cons]
    dsimp only
    rw [kx, ky, hl, beq_self_eq_true]
    rfl
  have dd : ([x, y].eraseDups.length != [x, y].length) = false := by
    have : [x, y].eraseDups = [x, y] := by
      have hyx : (y == x) = false := by
        rw [beq_eq_false_iff_ne] at hxy ⊢
        exact fun e => hxy e.symm
      simp [List.eraseDups_cons, hyx]
    rw [this]
    rfl
  unfold swappedStores
  dsimp only [pure_bind]
  refine (if_neg (by rw [hb]; simp)).trans ?_
  refine (if_neg (fun z => Bool.false_ne_true (hst.symm.trans z))).trans ?_
  refine (if_neg ?_).trans ?_
  rotate_left
  · refine (if_neg (by rw [h1]; exact Bool.false_ne_true)).trans ?_
    refine (if_neg (by rw [h2]; exact Bool.false_ne_true)).trans ?_
    exact congrArg (fun l => pure (some l)) fm
  · intro z
    rw [Bool.or_eq_true] at z
    rcases z with z | z
    · have z' : ([x, y].length != [Expr.Name x px, Expr.Name y py].length) = true := by rw [← fm]; exact z
      cases z'
    · have z' : ([x, y].eraseDups.length != [x, y].length) = true := by rw [← fm]; exact z
      rw [dd] at z'
      cases z'
end Z

set_option Elab.async false
set_option linter.all false
set_option maxRecDepth 100000
set_option maxHeartbeats 2000000
/-! ZQ: the checker: that a compiled text is that of a tree. -/
namespace Z
open PySem PySem.Spec PyProof.Rows L2
structure Cfg where
  fns : List (Str × Nat)
  blts : List Str
  glbs : List (Str × Nat)
  cls : List (Str × Nat)
  tolds : List (Str × Nat)
  /-- the names of their own of lambdas -/
  lown : List (Nat × List Str)
def glB (sc : Scope) (x : Str) : Bool := decide (sc.names.lookup x = some .globalImplicit) && !(x == ("__debug__" : Str))
def visB (sc : Scope) (x : Str) : Bool := match sc.names.lookup x with
  | some .local => true
  | some .cell => true
  | some .free => true
  | _ => false
def varC (N : List Str) (sc : Scope) (i : Nat) (x : Str) : Bool := decide (N[i]? = some x) && visB sc x && !(x == ("__debug__" : Str)) && !(x == ("__classdict__" : Str))
def bltB (D : Cfg) (sc : Scope) (x : Str) : Bool := glB sc x && D.blts.contains x && !(x == ("__name__" : Str))
/-- a builtin: its name -/
def bltName : BI → Option Str
  | .len => some "len"
  | .all => some "all"
  | .any => some "any"
  | .sum => some "sum"
  | .min => some "min"
  | .max => some "max"
  | .sorted => some "sorted"
  | .tuple => some "tuple"
  | .list => some "list"
  | .dict => some "dict"
  | .str => some "str"
  | .int => some "int"
  | .repr => some "repr"
  | _ => none
def methName : MI → Option Str
  | .append => some "append"
  | .remove => some "remove"
  | .get => some "get"
  | .index => some "index"
  | .join => some "join"
  | _ => none
def tyN : Ty → Str
  | .int => "int"
  | .bool => "bool"
  | .str => "str"
  | .tuple => "tuple"
  | .list => "list"
  | .dict => "dict"
abbrev CkE := CE → Expr → Bool
def allF : Str → Bool := fun _ => true
def noF : Str → Bool := fun _ => false
def cellF (scope : Scope) : Str → Bool := fun x => scope.names.lookup x == some .cell
section
variable (r : CkE)
def oneA : CE → Expr → Bool
  | .star c, .Starred e _ => r c e
  | c, e => !(isStarC c) && noStar e && r c e
def argsC : List CE → List Expr → Bool
  | [], [] => true
  | c :: cs, e :: es => oneA r c e && argsC cs es
  | _, _ => false
def optC : Option CE → Option Expr → Bool
  | none, none => true
  | some c, some e => r c e
  | _, _ => false
def keysC : List CE → List CE → List (Option Expr) → List Expr → Bool
  | [], [], [], [] => true
  | k :: ks, v :: vs, some ke :: kes, ve :: ves => r k ke && r v ve && keysC ks vs kes ves
  | _, _, _, _ => false
mutual
def ckT (N : List Str) (sc : Scope) (fa : Str → Bool) : CT → Expr → Bool
  | .nm i, .Name x _ => decide (N[i]? = some x) && (decide (sc.names.lookup x = some .local) || (fa x && decide (sc.names.lookup x = some .cell)))
  | .tup ts, .Tuple es _ _ => es.all noStar && ckTs N sc fa ts es
  | .sub co ci, .Subscript o i _ => r co o && r ci i && !(isSliceE i)
  | _, _ => false
termination_by structural x => x
def ckTs (N : List Str) (sc : Scope) (fa : Str → Bool) : List CT → List Expr → Bool
  | [], [] => true
  | t :: ts, e :: es => ckT N sc fa t e && ckTs N sc fa ts es
  | _, _ => false
termination_by structural x => x
end
def ckI (D : Cfg) (sc : Scope) (tg : Expr) : CI → Expr → Bool
  | .val c, e => r c e
  | .range1 c, .Call (.Name x _) [e] [] _ => (x == ("range" : Str)) && bltB D sc x && noStar e && r c e
  | .zip2 a b, .Call (.Name x _) [ea, eb] [] _ => (x == ("zip" : Str)) && bltB D sc x && noStar ea && noStar eb && isTupE tg && r a ea && r b eb
  | .values c, .Call (.Attribute e m ap) [] [] cp => (m == ("values" : Str)) && plainBase e && (ap.endLine == cp.line) && r c e
  | _, _ => false
def ckIfs : Option CE → List Expr → Bool
  | none, [] => true
  | some c, [e] => r c e
  | _, _ => false
def ckGs (D : Cfg) (N : List Str) (sc : Scope) (fa : Str → Bool) : List CG → List Comprehension → Bool
  | [], [] => true
  | .mk t it ifs :: gs, ⟨tg, iter, ifs', a⟩ :: gens => decide (a = 0) && !(isSetE iter) && ckI r D sc tg it iter && ckT r N sc fa t tg && ckIfs r ifs ifs' && (slotsT t).all (fun j => !((slotsGs gs).contains j)) && ckGs D N sc fa gs gens
  | _, _ => false
end
/-- a comprehension: rO without, rI within -/
def ckComp (rO rI : CkE) (D : Cfg) (N : List Str) (sc scope : Scope) (own : List Nat) : List CG → List Comprehension → Bool
  | .mk t it ifs :: gs, ⟨tg, iter, ifs', a⟩ :: gens => blkC N sc scope (own.map fun i => (N.getD i "", i)) && decide (a = 0) && !(isSetE iter) && ckI rO D sc tg it iter && ckT rI N (relS scope sc) (cellF scope) t tg && ckIfs rI ifs ifs' &&
      (slotsT t).all (fun j => !((slotsGs gs).contains j)) && ((slotsT t) ++ (slotsGs gs)).all (fun j => own.contains j) && ckGs rI D N (relS scope sc) (cellF scope) gs gens
  | _, _ => false
def noParams : Arguments → Bool
  | ⟨[], [], none, [], [], none, []⟩ => true
  | _ => false
def lamPB (sc scope : Scope) (ps : List Str) : Bool :=
  decide (scope.kind = .function) && !scope.isCoroutine && !scope.isGenerator && scope.names.all (fun y => !decide (y.2 = .cell) && (!decide (y.2 = .free) || decide (sc.names.lookup y.1 = some .cell) || decide (sc.names.lookup y.1 = some .free))) && ps.all fun p => decide (scope.names.lookup p = some .local)
def capsB (N : List Str) (scope : Scope) (caps : List Nat) : Bool := caps.all fun i => decide (i < N.length) && decide (scope.names.lookup (N.getD i "") = some .free)
def ownL (D : Cfg) (k : Nat) : List Str := (D.lown.lookup k).getD []
abbrev Ck := List Str → Scope → Bool → CkE
def stepCk (P : Prog) (D : Cfg) (rec : Ck) (N : List Str) (sc : Scope) (lm : Bool) (ce : CE) (ast : Expr) : Bool :=
  match ast with
  | .BoolOp _ [a] _ => rec N sc lm ce a
  | ast => match ce with
    | .var i => match ast with
      | .Name x _ => varC N sc i x
      | _ => false
    | .cst v => match ast with
      | .Constant c _ _ => cstB v c
      | _ => false
    | .glb g => match ast with
      | .Name x _ => glB sc x && decide (D.glbs.lookup x = some g)
      | _ => false
    | .tup es => match ast with
      | .Tuple es' _ _ => argsC (rec N sc lm) es es'
      | _ => false
    | .lst _ es => match ast with
      | .List es' _ => argsC (rec N sc lm) es es'
      | _ => false
    | .dct _ ks vs => match ast with
      | .Dict kes ves _ => keysC (rec N sc lm) ks vs kes ves && decide (kes.length ≤ 15)
      | _ => false
    | .bin _ op a b => match ast with
      | .BinOp ea o eb _ => decide (o = opOf op) && rec N sc lm a ea && rec N sc lm b eb
      | _ => false
    | .neg a => match ast with
      | .UnaryOp .USub ea _ => rec N sc lm a ea
      | _ => false
    | .not a => match ast with
      | .UnaryOp .Not ea _ => rec N sc lm a ea
      | _ => false
    | .cmp op a b => match ast with
      | .Compare ea [o] [eb] _ => decide (o = coOf op) && !(behindInMarks (coOf op) eb) && rec N sc lm a ea && rec N sc lm b eb
      | _ => false
    | .cmp2 op op' a b c => match ast with
      | .Compare ea [o, o'] [eb, ec] _ => decide (o = coOf op) && decide (o' = coOf op') && !(lastMarks [coOf op, coOf op'] [eb, ec]) && rec N sc lm a ea && rec N sc lm b eb && rec N sc lm c ec
      | _ => false
    | .and a b => match ast with
      | .BoolOp .And (ea :: eb :: es) p => rec N sc lm a ea && rec N sc lm b (.BoolOp .And (eb :: es) p)
      | _ => false
    | .or a b => match ast with
      | .BoolOp .Or (ea :: eb :: es) p => rec N sc lm a ea && rec N sc lm b (.BoolOp .Or (eb :: es) p)
      | _ => false
    | .ite c a b => match ast with
      | .IfExp ec ea eb _ => rec N sc lm c ec && rec N sc lm a ea && rec N sc lm b eb
      | _ => false
    | .idx a i => match ast with
      | .Subscript ea ei _ => !(isSliceE ei) && rec N sc lm a ea && rec N sc lm i ei
      | _ => false
    | .slc _ a lo hi => match ast with
      | .Subscript ea (.Slice el eh none _) _ => rec N sc lm a ea && optC (rec N sc lm) lo el && optC (rec N sc lm) hi eh
      | _ => false
    | .rev _ a => match ast with
      | .Subscript ea (.Slice none none (some (.UnaryOp .USub (.Constant (.int 1) _ _) _)) _) _ => rec N sc lm a ea
      | _ => false
    | .call f es => match ast with
      | .Call (.Name x _) (e :: es') [] _ => glB sc x && decide (D.fns.lookup x = some f) && noStars (e :: es') && argsC (rec N sc lm) es (e :: es')
      | _ => false
    | .blt _ b es => match ast with
      | .Call (.Name x _) (e :: es') [] _ => decide (bltName b = some x) && bltB D sc x && noStars (e :: es') && argsC (rec N sc lm) es (e :: es')
      | _ => false
    | .isi a t => match ast with
      | .Call (.Name x _) [e, .Name y _] [] _ => (x == ("isinstance" : Str)) && bltB D sc x && decide (y = tyN t) && bltB D sc y && noStar e && rec N sc lm a e
      | _ => false
    | .meth m o es => match ast with
      | .Call (.Attribute eo name ap) (e :: es') [] cp => decide (methName m = some name) && plainBase eo && noStars (e :: es') && decide ((e :: es').length < 30) && (ap.endLine == cp.line) && rec N sc lm o eo && argsC (rec N sc lm) es (e :: es')
      | _ => false
    | .sortk _ a fn k caps => match ast with
      | .Call (.Name x _) [e] [⟨some ky, .Lambda ⟨[], [⟨p, none, _⟩], none, [], [], none, []⟩ body scope _, _⟩] _ => (x == ("sorted" : Str)) && (ky == ("key" : Str)) && bltB D sc x && noStar e && lm && !fn && rec N sc lm a e &&
          lamPB sc scope [p] && capsB N scope caps && (match nth P.lams k with
            | some (np, ns, b) => Nat.beq np 1 && Nat.beq ns (1 + caps.length + (ownL D k).length) && rec ([p] ++ caps.map (fun i => N.getD i "") ++ ownL D k) scope false b body && decide (([p] ++ caps.map (fun i => N.getD i "") ++ ownL D k).Nodup)
            | none => false)
      | _ => false
    | .told k b => match ast with
      | .Call (.Name x _) [.Lambda ps body scope _] [] _ => glB sc x && decide (D.tolds.lookup x = some k) && lm && noParams ps && LamX.lamSB sc scope && rec N scope false b body
      | _ => false
    | .lc _ e gs own => match ast with
      | .ListComp ee gens scope _ => ckComp (rec N sc lm) (rec N (relS scope sc) lm) D N sc scope own gs gens && rec N (relS scope sc) lm e ee
      | _ => false
    | .dc _ k v gs own => match ast with
      | .DictComp ke ve gens scope _ => ckComp (rec N sc lm) (rec N (relS scope sc) lm) D N sc scope own gs gens && rec N (relS scope sc) lm k ke && rec N (relS scope sc) lm v ve
      | _ => false
    | _ => false
def ckE (P : Prog) (D : Cfg) : Nat → Ck
  | 0 => fun _ _ _ _ _ => false
  | m + 1 => stepCk P D (ckE P D m)
/-! ### statements -/
def storesC (sc : Scope) (tg v : Expr) : Bool := match tg with
  | .Tuple ts _ _ => !(isTupE v) || ts.any (offName sc)
  | .List _ _ => false
  | _ => true
/-- name = a comprehension on one line -/
def swapC (sc scope : Scope) (x : Str) (px pv : Pos) : Bool := decide (sc.kind = .function) && decide (sc.names.lookup x = some .local) && decide (px.line = pv.line) && !(scope.names.any fun y => y.1 == x && (y.2 == .local || y.2 == .cell))
abbrev CkS := CS → Stmt → Bool
def ckSs (r : CkS) : List CS → List Stmt → Bool
  | [], [] => true
  | c :: cs, s :: ss => r c s && ckSs r cs ss
  | _, _ => false
def asgC (P : Prog) (D : Cfg) (rE : Ck) (N : List Str) (sc : Scope) (lm : Bool) (t : CT) (e : CE) (tg v : Expr) : Bool :=
  if isCompE v then (match t with
    | .nm i => match tg with
      | .Name x px => match e with
        | .lc _ b gs own => match v with
          | .ListComp ee gens scope pv => decide (N[i]? = some x) && swapC sc scope x px pv && ckComp (rE N sc lm) (rE N (relS scope sc) lm) D N sc scope own gs gens && rE N (relS scope sc) lm b ee
          | _ => false
        | .dc _ k w gs own => match v with
          | .DictComp ke ve gens scope pv => decide (N[i]? = some x) && swapC sc scope x px pv && ckComp (rE N sc lm) (rE N (relS scope sc) lm) D N sc scope own gs gens && rE N (relS scope sc) lm k ke && rE N (relS scope sc) lm w ve
          | _ => false
        | _ => false
      | _ => false
    | _ => false)
  else noStar tg && storesC sc tg v && ckT (rE N sc lm) N sc allF t tg && rE N sc lm e v
def stepCkS (P : Prog) (D : Cfg) (rE : Ck) (rec : CkS) (N : List Str) (sc : Scope) (lm : Bool) (cs : CS) (st : Stmt) : Bool :=
  match cs with
  | .asg t e => match st with
    | .Assign [tg] v _ => asgC P D rE N sc lm t e tg v
    | _ => false
  | .par ts es => match ts with
    | [.nm i, .nm j] => match st with
      | .Assign [.Tuple [.Name x px, .Name y py] _ _] (.Tuple [a, b] _ _) _ => decide (N[i]? = some x) && decide (N[j]? = some y) && !(Nat.beq i j) && decide (sc.kind = .function) && decide (sc.names.lookup x = some .local) && decide (sc.names.lookup y = some .local) && !(x == y) &&
          (py.line == px.line) && noStars [a, b] && !([a, b].all (foldedForSure 8)) && !([a, b].all (constantsAlone 8)) && argsC (rE N sc lm) es [a, b]
      | _ => false
    | _ => false
  | .expr e => match st with
    | .Expr v _ => !(isCompE v) && rE N sc lm e v
    | _ => false
  | .ifs c a b => match st with
    | .If ec sa sb _ => rE N sc lm c ec && ckSs rec a sa && ckSs rec b sb
    | _ => false
  | .for_ t it b => match st with
    | .For tg iter sb [] _ => !(isSetE iter) && ckI (rE N sc lm) D sc tg it iter && ckT (rE N sc lm) N sc allF t tg && ckSs rec b sb
    | _ => false
  | .while_ c b => match st with
    | .While ec sb [] _ => rE N sc lm c ec && ckSs rec b sb
    | _ => false
  | .ret e => match st with
    | .Return (some v) _ => rE N sc lm e v
    | _ => false
  | .raise c es => match es with
    | [e] => match st with
      | .Raise (some (.Call (.Name x _) [v] [] _)) none _ => glB sc x && decide (D.cls.lookup x = some c) && noStar v && !(isStar e) && rE N sc lm e v
      | _ => false
    | _ => false
  | .brk => match st with
    | .Break _ => true
    | _ => false
  | .cont => match st with
    | .Continue _ => true
    | _ => false
  | .pass => match st with
    | .Pass _ => true
    | _ => false
  | _ => false
def ckS (P : Prog) (D : Cfg) (N : List Str) (sc : Scope) (lm : Bool) : Nat → CkS
  | 0 => fun _ _ => false
  | m + 1 => stepCkS P D (ckE P D m) (ckS P D N sc lm m) N sc lm
end Z

set_option Elab.async false
set_option linter.all false
set_option maxRecDepth 100000
set_option maxHeartbeats 2000000
/-! ZQ1: the checker's parts are sound. -/
namespace Z
open PySem PySem.Spec PyProof.Rows L2
section
variable {T : Top} {X : Cx} {W : WX} {R : Rc} {r : CkE}
theorem andT {a b : Bool} (h : (a && b) = true) : a = true ∧ b = true := by simpa using h
theorem notT {a : Bool} (h : (!a) = true) : a = false := by simpa using h
theorem isStarC_star {c : CE} : isStarC c = true ↔ ∃ d, c = .star d := by
  cases c <;> simp [isStarC]
theorem args_ok (hK : X.K = T.K) (hr : ∀ c e, r c e = true → PE X e (TZ T W (R.E c))) : ∀ {cs : List CE} {es : List Expr}, argsC r cs es = true → PA X es (TZs T W (evEs R cs))
  | [], [], _ => pa_nilZ
  | c :: cs, e :: es, h => by
    obtain ⟨h1, h2⟩ := andT (show (oneA r c e && argsC r cs es) = true from h)
    have ih := args_ok hK hr h2
    by_cases hs : isStarC c = true
    · obtain ⟨d, rfl⟩ := isStarC_star.mp hs
      unfold oneA at h1
      split at h1
      · rename_i c' e' p hc
        cases hc
        exact pa_starZ hK (hr _ _ h1) ih
      · rename_i hx
        simp [isStarC] at h1
    · have hs' : isStarC c = false := by simpa using hs
      unfold oneA at h1
      split at h1
      · simp [isStarC] at hs'
      · obtain ⟨h3, h4⟩ := andT h1
        obtain ⟨h5, h6⟩ := andT h3
        exact pa_consZ h6 hs' (hr _ _ h4) ih
theorem opt_ok (hr : ∀ c e, r c e = true → PE X e (TZ T W (R.E c))) {c : Option CE} {e : Option Expr} (h : optC r c e = true) : PO X e (TZg T RelO1 W (evO R c)) := by
  cases c with
  | none => cases e with
    | none => exact po_noneZ
    | some e => cases h
  | some c => cases e with
    | none => cases h
    | some e => exact po_someZ (hr _ _ h)
theorem keys_ok {pos : Pos} (hr : ∀ c e, r c e = true → PE X e (TZ T W (R.E c))) : ∀ {ks vs : List CE} {kes : List (Option Expr)} {ves : List Expr}, keysC r ks vs kes ves = true →
    PPz T X W pos kes ves (evKs R ks vs) ∧ kes.all (·.isSome) = true ∧ kes.length = ves.length
  | [], [], [], [], _ => ⟨ppz_nil, rfl, rfl⟩
  | k :: ks, v :: vs, some ke :: kes, ve :: ves, h => by
    obtain ⟨h1, h2⟩ := andT (show (r k ke && r v ve && keysC r ks vs kes ves) = true from h)
    obtain ⟨h3, h4⟩ := andT h1
    obtain ⟨i1, i2, i3⟩ := keys_ok (pos := pos) hr h2
    exact ⟨ppz_cons (hr _ _ h3) (hr _ _ h4) i1, by rw [List.all_cons, i2]; rfl, by rw [List.length_cons, List.length_cons, i3]⟩
  | [], [], [], _ :: _, h => by cases h
  | [], [], _ :: _, _, h => by cases h
  | [], _ :: _, _, _, h => by cases h
  | _ :: _, [], _, _, h => by cases h
  | _ :: _, _ :: _, [], _, h => by cases h
  | _ :: _, _ :: _, none :: _, _, h => by cases h
  | _ :: _, _ :: _, some _ :: _, [], h => by cases h
theorem ifs_ok (hr : ∀ c e, r c e = true → PT X e (TZt T W (testM (R.E c)))) {c : Option CE} {es : List Expr} (h : ckIfs r c es = true) : PTs X es (TZt T W (tOO R c)) := by
  cases c with
  | none => cases es with
    | nil =>
      refine ⟨fun pins s σ H Q I q => pts_nil.run pins s σ H Q I ?_⟩
      obtain ⟨F, G, ρ, l, S, o, rl, rh, e, q⟩ := q
      cases (show some (Out.ok true S) = some o from e)
      exact q F ρ true H Ext.refl rh rfl
    | cons e es => cases h
  | some c => match es, h with
    | [e], h => exact pts_one (hr c e h)
/-- how a walk's items stand -/
def relOf (T : Top) : CI → Hp → Rho → PV → V → Prop
  | .zip2 _ _ => RepW T
  | _ => Rep T
theorem ckI_ok {D : Cfg} {sc : Scope} {tg iter : Expr} {ci : CI} (hK : X.K = T.K) (hsc : X.env.scope = sc) (hb : ∀ x, D.blts.contains x = true → X.mg x = none) (hr : ∀ c e, r c e = true → PE X e (TZ T W (R.E c))) (h : ckI r D sc tg ci iter = true) :
    PI X tg iter (TZI T (relOf T ci) W (srcOf R ci)) ∧ (∀ a b, ci = .zip2 a b → isTupE tg = true) := by
  have hgl : ∀ {x : Str}, bltB D sc x = true → Gl X x ∧ X.mg x = none := fun {x} h => by
    unfold bltB glB at h
    obtain ⟨h1, _⟩ := andT h
    obtain ⟨h2, h3⟩ := andT h1
    obtain ⟨h4, _⟩ := andT h2
    refine ⟨?_, hb x h3⟩
    show X.env.scope.names.lookup x = some .globalImplicit
    rw [hsc]
    exact of_decide_eq_true h4
  unfold ckI at h
  split at h
  · exact ⟨pi_valZ hK (hr _ _ h), fun a b z => by cases z⟩
  · rename_i c x p e pos
    obtain ⟨h1, h2⟩ := andT h
    obtain ⟨h3, h4⟩ := andT h1
    obtain ⟨h5, h6⟩ := andT h3
    have hx : x = "range" := by simpa using h5
    subst hx
    obtain ⟨g1, g2⟩ := hgl h6
    exact ⟨pi_rngZ g1 g2 h4 (hr _ _ h2), fun a b z => by cases z⟩
  · rename_i a b x p ea eb pos
    obtain ⟨h1, h2⟩ := andT h
    obtain ⟨h3, h4⟩ := andT h1
    obtain ⟨h5, h6⟩ := andT h3
    obtain ⟨h7, h8⟩ := andT h5
    obtain ⟨h9, h10⟩ := andT h7
    obtain ⟨h11, h12⟩ := andT h9
    have hx : x = "zip" := by simpa using h11
    subst hx
    obtain ⟨g1, g2⟩ := hgl h12
    refine ⟨?_, fun _ _ _ => h6⟩
    cases tg with
    | Tuple es k tp => exact pi_zipZ hK g1 g2 h10 h8 (hr _ _ h4) (hr _ _ h2)
    | _ => cases h6
  · rename_i c e m ap cp
    obtain ⟨h1, h2⟩ := andT h
    obtain ⟨h3, h4⟩ := andT h1
    obtain ⟨h5, h6⟩ := andT h3
    have hx : m = "values" := by simpa using h5
    subst hx
    exact ⟨pi_valsZ (hr _ _ h2) (plainBase_ok h6) h4, fun a b z => by cases z⟩
  · cases h
end
end Z

set_option Elab.async false
set_option linter.all false
set_option maxRecDepth 100000
set_option maxHeartbeats 2000000
/-! ZQ2: targets and comprehensions checked. -/
namespace Z
open PySem PySem.Spec PyProof.Rows L2
section
variable {T : Top} {X : Cx} {W : WX} {R : Rc} {r : CkE} {N : List Str} {sc : Scope} {fa : Str → Bool}
/-- what targets ask of the context -/
structure TgX (T : Top) (X : Cx) (N : List Str) (sc : Scope) (fa : Str → Bool) : Prop where
  K : X.K = T.K
  w : X.w = T.w
  nm : X.N = N
  nd : N.Nodup
  scp : X.env.scope = sc
  calm : X.calm = true
  un : X.A.units + 96 < cLine
  fn : ∀ x, fa x = true → X.fn x = true
mutual
theorem ckT_ok (C : TgX T X N sc fa) (hr : ∀ c e, r c e = true → PE X e (TZ T W (R.E c))) : ∀ (t : CT) (e : Expr), ckT r N sc fa t e = true → PG X e (TZG T (Rep T) (slotsT t) (asgT R t))
  | .nm i, .Name x p, h => by
    unfold ckT at h
    obtain ⟨h1, h2⟩ := andT h
    have hi : X.N[i]? = some x := by rw [C.nm]; exact of_decide_eq_true h1
    rw [Bool.or_eq_true] at h2
    rcases h2 with h2 | h2
    · have hx : X.env.scope.names.lookup x = some .local := by rw [C.scp]; exact of_decide_eq_true h2
      exact pg_nmZ (by rw [C.nm]; exact C.nd) hi (.inl hx) (.inr hx)
    · obtain ⟨h3, h4⟩ := andT h2
      have hx : X.env.scope.names.lookup x = some .cell := by rw [C.scp]; exact of_decide_eq_true h4
      exact pg_nmZ (by rw [C.nm]; exact C.nd) hi (.inr hx) (.inl (C.fn x h3))
  | .tup ts, .Tuple es k p, h => by
    unfold ckT at h
    obtain ⟨h1, h2⟩ := andT h
    obtain ⟨i1, i2⟩ := ckTs_ok C hr ts es h2 h1
    exact pg_tupZ C.K C.calm i1 (by rw [each_len h1, i2]) (each_no h1)
  | .sub co ci, .Subscript o i p, h => by
    unfold ckT at h
    obtain ⟨h1, h2⟩ := andT h
    obtain ⟨h3, h4⟩ := andT h1
    exact pg_subZ C.K C.w (by have := C.un; omega) (hr _ _ h3) (hr _ _ h4) (asg_sub (notT h2))
termination_by structural x => x
theorem ckTs_ok (C : TgX T X N sc fa) (hr : ∀ c e, r c e = true → PE X e (TZ T W (R.E c))) : ∀ (ts : List CT) (es : List Expr), ckTs r N sc fa ts es = true → es.all noStar = true → PGs X es (TZG T (Reps T) (slotsTs ts) (asgTs R ts)) ∧ es.length = ts.length
  | [], [], _, _ => ⟨pgs_nilZ, rfl⟩
  | t :: ts, e :: es, h, hn => by
    unfold ckTs at h
    obtain ⟨h1, h2⟩ := andT h
    rw [List.all_cons, Bool.and_eq_true] at hn
    obtain ⟨i1, i2⟩ := ckTs_ok C hr ts es h2 hn.2
    exact ⟨pgs_consZ (ckT_ok C hr t e h1) i1 (by rw [each_plain (ts := e :: es) (by rw [List.all_cons, hn.1, hn.2]; rfl), each_plain hn.2]; rfl), by rw [List.length_cons, List.length_cons, i2]⟩
termination_by structural x => x
end
/-- a target of a walk -/
theorem ckTR_ok (C : TgX T X N sc fa) (hr : ∀ c e, r c e = true → PE X e (TZ T W (R.E c))) {ci : CI} {t : CT} {e : Expr} (h : ckT r N sc fa t e = true) (hz : ∀ a b, ci = .zip2 a b → isTupE e = true) : PG X e (TZG T (relOf T ci) (slotsT t) (asgT R t)) := by
  cases ci with
  | zip2 a b =>
    have ht := hz a b rfl
    cases e with
    | Tuple es k p =>
      cases t with
      | tup ts =>
        unfold ckT at h
        obtain ⟨h1, h2⟩ := andT h
        obtain ⟨i1, i2⟩ := ckTs_ok C hr ts es h2 h1
        exact pg_tupW C.K C.calm i1 (by rw [each_len h1, i2]) (each_no h1)
      | nm i => unfold ckT at h; cases h
      | sub a b => unfold ckT at h; cases h
    | _ => cases ht
  | _ => exact ckT_ok C hr t e h
theorem ckGs_ok {D : Cfg} {B : Cx → Prop} {W0 : WX} (hB : ∀ Y, B Y → TgX T Y N sc fa ∧ (∀ x, D.blts.contains x = true → Y.mg x = none) ∧ ∀ c e, r c e = true → PZ T Y W0 e (R.E c)) :
    ∀ (gs : List CG) (gens : List Comprehension), ckGs r D N sc fa gs gens = true → GsOk T R W0 B gens gs
  | [], [], _ => .nil
  | .mk t it ifs :: gs, ⟨tg, iter, ifs', a⟩ :: gens, h => by
    unfold ckGs at h
    obtain ⟨h, h8⟩ := andT h
    obtain ⟨h, h7⟩ := andT h
    obtain ⟨h, h6⟩ := andT h
    obtain ⟨h, h5⟩ := andT h
    obtain ⟨h, h4⟩ := andT h
    obtain ⟨h1, h3⟩ := andT h
    have ha : a = 0 := of_decide_eq_true h1
    subst ha
    have hI : ∀ Y, B Y → _ := fun Y hY => ckI_ok (iter := iter) (tg := tg) (hB Y hY).1.K (hB Y hY).1.scp (hB Y hY).2.1 (fun c e q => ((hB Y hY).2.2 c e q).v) h4
    refine .cons (fun Y hY => (hI Y hY).1) (fun Y hY => ckTR_ok (hB Y hY).1 (fun c e q => ((hB Y hY).2.2 c e q).v) h5 (hI Y hY).2) (fun Y hY => ifs_ok (fun c e q => ((hB Y hY).2.2 c e q).t) h6) (fun env x => folded_no (notT h3) env x) (fun j hj z => ?_) (ckGs_ok hB gs gens h8)
    have := List.all_eq_true.mp h7 j hj
    rw [Bool.not_eq_true'] at this
    rw [List.contains_iff_mem.mpr z] at this
    cases this
  | [], _ :: _, h => by cases h
  | .mk _ _ _ :: _, [], h => by cases h
theorem comp_ok {rO rI : CkE} {D : Cfg} {scope : Scope} {own : List Nat} {W0 : WX} (fz : FrzOk R) (C : TgX T X N sc fa) (hb : ∀ x, D.blts.contains x = true → X.mg x = none) (hO : ∀ c e, rO c e = true → PE X e (TZ T W (R.E c)))
    (hB : ∀ Y, BlkX X scope Y → TgX T Y N (relS scope sc) (cellF scope) ∧ (∀ x, D.blts.contains x = true → Y.mg x = none) ∧ ∀ c e, rI c e = true → PZ T Y W0 e (R.E c)) {gs : List CG} {gens : List Comprehension} (h : ckComp rO rI D N sc scope own gs gens = true) :
    ∃ t it ifs gs' tg iter ifs' gens', gs = .mk t it ifs :: gs' ∧ gens = ⟨tg, iter, ifs', 0⟩ :: gens' ∧ CompOk T X R W W0 tg iter ifs' gens' scope (own.map fun i => (N.getD i "", i)) t it ifs gs' := by
  unfold ckComp at h
  split at h
  · rename_i t it ifs gs' tg iter ifs' a gens'
    obtain ⟨h, h9⟩ := andT h
    obtain ⟨h, h8⟩ := andT h
    obtain ⟨h, h7⟩ := andT h
    obtain ⟨h, h6⟩ := andT h
    obtain ⟨h, h5⟩ := andT h
    obtain ⟨h, h4⟩ := andT h
    obtain ⟨h, h3⟩ := andT h
    obtain ⟨h1, h2⟩ := andT h
    have ha : a = 0 := of_decide_eq_true h2
    subst ha
    obtain ⟨hi, hz⟩ := ckI_ok (iter := iter) (tg := tg) C.K C.scp hb hO h4
    refine ⟨t, it, ifs, gs', tg, iter, ifs', gens', rfl, rfl, ⟨fz, C.calm, by rw [C.nm]; exact C.nd, by rw [C.nm, C.scp]; exact blkOk_by h1, ckGs_ok hB gs' gens' h9, fun j hj z => ?_, fun i hi => ?_, fun x => folded_no (notT h3) _ x, relOf T it, hi, fun Y hY => ckTR_ok (hB Y hY).1 (fun c e q => ((hB Y hY).2.2 c e q).v) h5 hz, fun Y hY => ifs_ok (fun c e q => ((hB Y hY).2.2 c e q).t) h6⟩⟩
    · have := List.all_eq_true.mp h7 j hj
      rw [Bool.not_eq_true'] at this
      rw [List.contains_iff_mem.mpr z] at this
      cases this
    · have := List.all_eq_true.mp h8 i hi
      rw [List.map_map]
      have e : ((fun p : Str × Nat => p.2) ∘ fun i => (N.getD i "", i)) = id := rfl
      rw [e, List.map_id]
      exact List.contains_iff_mem.mp this
  · cases h
end
end Z

set_option Elab.async false
set_option linter.all false
set_option maxRecDepth 100000
set_option maxHeartbeats 2000000
/-! ZQ3: what the checker asks of the context; builtins, methods, lambdas checked. -/
namespace Z
open PySem PySem.Spec PyProof.Rows L2
section
variable (T : Top) (P : Prog) (D : Cfg)
/-- the defs at a level -/
def FnsOk (prog : Program) (base : Heap) (mg : Str → Option Value) (j : Nat) : Prop := ∀ x i, D.fns.lookup x = some i → ∃ fd ps np, FnOk prog T.w T.K mg base (L2.CX prog T.w) j (T.fa i) fd ps (spZ T np ((run P j).F i)) ∧ mg x = some (.ref (T.fa i)) ∧
  PySem.W.keepIn T.K (.ref (T.fa i)) = true ∧ Binds T.K fd ps [] ∧ ∀ vs S o, (run P j).F i vs S = some o → vs.length = np
/-- a def that tries the lambda it gets -/
def ToldOk (prog : Program) (base : Heap) (mg : Str → Option Value) (x : Str) (k : Nat) : Prop :=
  ∃ (a : Str) (g : Addr) (ns j : Nat) (hs : List (List Nat × Nat × CE)) (pg : Arguments) (sg : Scope) (dV kV doc pm cdv ct oc : Value) (an od : Option Addr) (osl : Array (Option Value)) (Ng : List Str) (h₀ : ExceptHandler) (hds : List ExceptHandler) (p1 p2 p3 p4 p5 p6 : Pos),
    nth P.tolds k = some (ns, hs) ∧ mg x = some (.ref g) ∧ PySem.W.keepIn T.K (.ref g) = true ∧
    T.K.lookup g = some ⟨oc, od, .func (PySem.W.fnOf x x pg [.Try [.Expr (.Call (.Name a p1) [] [] p2) p3, .Return (some (.Constant .none j p4)) p5] (h₀ :: hds) [] [] p6] sg dV kV doc pm an cdv ct), osl⟩ ∧ PySem.W.codeIn T.K cdv x = true ∧
    L2.Binds T.K (PySem.W.fnOf x x pg [.Try [.Expr (.Call (.Name a p1) [] [] p2) p3, .Return (some (.Constant .none j p4)) p5] (h₀ :: hds) [] [] p6] sg dV kV doc pm an cdv ct) [a] [] ∧ FnScope Ng [a] sg ∧ Ng[0]? = some a ∧ Vis sg a ∧ Ng.Nodup ∧ ns = Ng.length ∧
    (∀ (A : Around) (outer : List Env) (s : Shared) (H : Hp), HsOk T (cxOf C8.CX0 prog T.w T.K mg base Ng x sg g cdv A outer s H C8.E0).nox (h₀ :: hds) hs) ∧ (a == ("__debug__" : Str)) = false ∧ (a == ("__classdict__" : Str)) = false
structure TopS (prog : Program) (base : Heap) (mg : Str → Option Value) : Prop where
  blts : ∀ x, D.blts.contains x = true → mg x = none
  glbs : ∀ x g, D.glbs.lookup x = some g → ∃ u y v, mg x = some u ∧ RelV y u ∧ (∀ F ρ, Rep T F ρ v y) ∧ nth P.glbs g = some v
  cls : ∀ x c, D.cls.lookup x = some c → MkOk T prog base mg x c 1
  tolds : ∀ x k, D.tolds.lookup x = some k → ToldOk T P prog base mg x k
structure CxZ (n : Nat) (N : List Str) (sc : Scope) (lm : Bool) (fa : Str → Bool) (X : Cx) : Prop where
  tg : TgX T X N sc fa
  rm : Room n X.A
  top : TopS T P D X.prog X.base X.mg
  fns : ∀ j, j < n → FnsOk T P D X.prog X.base X.mg j
  lam : lm = true → ∃ c Pt, X.env.code = .ref c ∧ LamX.TabB X.base X.mg c Pt ∧ (Pt, X.env.qual ++ "<lambda>") ∈ T.tabs ∧ ∀ p ∈ T.tabs, p.1 = Pt → p.2 = X.env.qual ++ "<lambda>"
/-- the claim about expressions at a level -/
def ClE (n : Nat) : Prop := ∀ (m : Nat) (N : List Str) (sc : Scope) (lm : Bool) (fa : Str → Bool) (ce : CE) (ast : Expr) (X : Cx) (W : WX), CxZ T P D n N sc lm fa X → Takes X W → ckE P D m N sc lm ce ast = true → PZ T X W ast ((run P n).E ce)
end
section
variable {T : Top} {P : Prog} {D : Cfg} {n : Nat} {N : List Str} {sc scope : Scope} {lm : Bool} {fa : Str → Bool} {X : Cx} {W : WX}
theorem room_un {k : Nat} {A : Around} (r : Room k A) : A.units + 96 < cLine := by have := r.un; omega
theorem CxZ.mono {k : Nat} (C : CxZ T P D n N sc lm fa X) (h : k ≤ n) : CxZ T P D k N sc lm fa X := ⟨C.tg, C.rm.mono h, C.top, fun j hj => C.fns j (by omega), C.lam⟩
theorem CxZ.blk {Y : Cx} (C : CxZ T P D n N sc lm fa X) (h : BlkX X scope Y) : CxZ T P D n N (relS scope sc) lm (cellF scope) Y := by
  obtain ⟨s, H, Cc, cl, fp, rfl⟩ := h
  refine ⟨⟨C.tg.K, C.tg.w, C.tg.nm, C.tg.nd, ?_, C.tg.calm, C.tg.un, fun x z => z⟩, C.rm, C.top, C.fns, C.lam⟩
  show relabel scope X.env = relS scope sc
  rw [← C.tg.scp]
  rfl
theorem CxZ.lamT {k : Nat} {A : Around} {outer : List Env} {s : Shared} {H : Hp} {E : XK} {f c' : Addr} (C : CxZ T P D n N sc lm fa X) (hk : k ≤ n) (hr : Room k (A.deeper (LamX.lamEnv X scope s.heap.objs.size f c'))) : CxZ T P D k N scope false noF (LamX.lamCx X A outer s H E scope f c') :=
  ⟨⟨C.tg.K, C.tg.w, C.tg.nm, C.tg.nd, rfl, rfl, room_un hr, fun x z => by cases z⟩, hr, C.top, fun j hj => C.fns j (by omega), fun z => by cases z⟩
theorem CxZ.lamP {k : Nat} {N' : List Str} {A : Around} {outer : List Env} {s : Shared} {H : Hp} {E : XK} {f c' : Addr} (C : CxZ T P D n N sc lm fa X) (hk : k ≤ n) (hN : N'.Nodup) (hr : Room k (A.deeper (LamX.lamEnv X scope s.heap.objs.size f c'))) : CxZ T P D k N' scope false noF (lamCxP X N' A outer s H E scope f c') :=
  ⟨⟨C.tg.K, C.tg.w, rfl, hN, rfl, rfl, room_un hr, fun x z => by cases z⟩, hr, C.top, fun j hj => C.fns j (by omega), fun z => by cases z⟩
theorem lam_takes {A : Around} {outer : List Env} {s : Shared} {H : Hp} {E : XK} {f c' : Addr} : Takes (LamX.lamCx X A outer s H E scope f c') (fun cls d _ H => E cls d H) := takes_of rfl rfl rfl rfl
theorem lamP_takes {N' : List Str} {A : Around} {outer : List Env} {s : Shared} {H : Hp} {E : XK} {f c' : Addr} : Takes (lamCxP X N' A outer s H E scope f c') (fun cls d _ H => E cls d H) := takes_of rfl rfl rfl rfl
theorem gl_of {x : Str} (hs : X.env.scope = sc) (h : glB sc x = true) : Gl X x ∧ (x == ("__debug__" : Str)) = false := by
  unfold glB at h
  obtain ⟨h1, h2⟩ := andT h
  refine ⟨?_, notT h2⟩
  show X.env.scope.names.lookup x = some .globalImplicit
  rw [hs]
  exact of_decide_eq_true h1
theorem blt_of {x : Str} (C : CxZ T P D n N sc lm fa X) (h : bltB D sc x = true) : Gl X x ∧ (x == ("__debug__" : Str)) = false ∧ X.mg x = none ∧ x ≠ "__name__" := by
  unfold bltB at h
  obtain ⟨h1, h2⟩ := andT h
  obtain ⟨h3, h4⟩ := andT h1
  obtain ⟨g1, g2⟩ := gl_of C.tg.scp h3
  exact ⟨g1, g2, C.top.blts x h4, by simpa using notT h2⟩
theorem vis_of {x : Str} (h : visB sc x = true) : Vis sc x := by
  unfold visB at h
  split at h
  · exact .inl (by assumption)
  · exact .inr (.inl (by assumption))
  · exact .inr (.inr (by assumption))
  · cases h
/-- a run that tells nothing -/
theorem pz_none {e : Expr} {m : Ev} (h : ∀ l S, m l S = none) : PZ T X W e m :=
  ⟨⟨fun pins s σ H Q I ⟨F, G, ρ, l, S, o, rl, rh, e, q⟩ => by rw [h] at e; cases e⟩, ⟨fun pins s σ H Q I ⟨F, G, ρ, l, S, o, rl, rh, e, q⟩ => by unfold testM at e; rw [h] at e; cases e⟩, fun _ => ⟨by
    intros
    rename_i q0
    obtain ⟨F, G, ρ, l, S, o, rl, rh, e, q⟩ := q0
    unfold testM at e; rw [h] at e; cases e⟩⟩
end
end Z

set_option Elab.async false
set_option linter.all false
set_option maxRecDepth 100000
set_option maxHeartbeats 2000000
/-! ZQ4: calls of builtins, methods; sorts and trials by lambdas, checked. -/
namespace Z
open PySem PySem.Spec PyProof.Rows L2
section
variable {T : Top} {P : Prog} {D : Cfg} {n : Nat} {N : List Str} {sc scope : Scope} {lm : Bool} {fa : Str → Bool} {X : Cx} {W : WX} {R : Rc} {r : CkE}
theorem bb_len : bootBuiltins "len" = some (.builtin "len") := by decide +kernel
theorem bb_all : bootBuiltins "all" = some (.builtin "all") := by decide +kernel
theorem bb_any : bootBuiltins "any" = some (.builtin "any") := by decide +kernel
theorem bb_sum : bootBuiltins "sum" = some (.builtin "sum") := by decide +kernel
theorem bb_min : bootBuiltins "min" = some (.builtin "min") := by decide +kernel
theorem bb_max : bootBuiltins "max" = some (.builtin "max") := by decide +kernel
theorem bb_sorted : bootBuiltins "sorted" = some (.builtin "sorted") := by decide +kernel
theorem bb_repr : bootBuiltins "repr" = some (.builtin "repr") := by decide +kernel
theorem bb_isi : bootBuiltins "isinstance" = some (.builtin "isinstance") := by decide +kernel
theorem bt_tuple : bootBuiltins "tuple" = some (.type "tuple") := by decide +kernel
theorem bt_list : bootBuiltins "list" = some (.type "list") := by decide +kernel
theorem bt_dict : bootBuiltins "dict" = some (.type "dict") := by decide +kernel
theorem bt_str : bootBuiltins "str" = some (.type "str") := by decide +kernel
theorem bt_int : bootBuiltins "int" = some (.type "int") := by decide +kernel
theorem bt_bool : bootBuiltins "bool" = some (.type "bool") := by decide +kernel
theorem bt_ty (t : Ty) : bootBuiltins (tyN t) = some (.type (tyName t)) := by
  cases t with
  | int => exact bt_int
  | bool => exact bt_bool
  | str => exact bt_str
  | tuple => exact bt_tuple
  | list => exact bt_list
  | dict => exact bt_dict
theorem blt_pe {mu : Bool} {b : BI} {x : Str} {p pos : Pos} {e : Expr} {es : List Expr} {ms : Evs} (C : CxZ T P D n N sc lm fa X) (hx : bltName b = some x) (hb : bltB D sc x = true) (ns : noStars (e :: es) = true) (ha : PA X (e :: es) (TZs T W ms)) : PE X (.Call (.Name x p) (e :: es) [] pos) (TZ T W (eBlt mu b ms)) := by
  obtain ⟨g1, g2, g3, g4⟩ := blt_of C hb
  have hu := C.tg.un
  have hu64 : X.A.units + 64 < cLine := by omega
  cases b <;> first
    | (cases hx; done)
    | skip
  all_goals cases hx
  · exact pe_bltZ (blt_len C.tg.K C.tg.w) g1 g3 bb_len g4 g2 ns ha
  · exact pe_bltZ (blt_all C.tg.calm) g1 g3 bb_all g4 g2 ns ha
  · exact pe_bltZ (blt_any C.tg.calm) g1 g3 bb_any g4 g2 ns ha
  · exact pe_bltZ (blt_sum C.tg.calm) g1 g3 bb_sum g4 g2 ns ha
  · exact pe_bltZ (blt_min C.tg.K C.tg.calm hu64) g1 g3 bb_min g4 g2 ns ha
  · exact pe_bltZ (blt_max C.tg.K C.tg.calm hu64) g1 g3 bb_max g4 g2 ns ha
  · exact pe_bltZ (blt_sorted C.tg.K C.tg.calm hu64) g1 g3 bb_sorted g4 g2 ns ha
  · exact pe_bltTyZ (blt_tuple C.tg.K) g1 g3 bt_tuple g4 g2 ns ha
  · exact pe_bltTyZ (blt_list C.tg.K) g1 g3 bt_list g4 g2 ns ha
  · exact pe_bltTyZ (blt_dict C.tg.K C.tg.w C.tg.calm hu64) g1 g3 bt_dict g4 g2 ns ha
  · exact pe_bltTyZ blt_str g1 g3 bt_str g4 g2 ns ha
  · exact pe_bltTyZ blt_int g1 g3 bt_int g4 g2 ns ha
  · exact pe_bltZ blt_repr g1 g3 bb_repr g4 g2 ns ha
theorem meth_pe {mt : MI} {name : Str} (C : CxZ T P D n N sc lm fa X) (hx : methName mt = some name) : MethOk T X mt name := by
  have hu := C.tg.un
  have hu64 : X.A.units + 64 < cLine := by omega
  cases mt <;> first
    | (cases hx; done)
    | skip
  all_goals cases hx
  · exact meth_append
  · exact meth_get C.tg.K C.tg.w hu64
  · exact meth_index C.tg.K C.tg.w hu64
  · exact meth_remove C.tg.K C.tg.w hu64
  · exact meth_join C.tg.K
theorem lamP_by {sc scope : Scope} {ps : List Str} (h : lamPB sc scope ps = true) (nd : ps.Nodup) : LamP sc scope ps := by
  unfold lamPB at h
  simp only [Bool.and_eq_true, Bool.or_eq_true, Bool.not_eq_true', decide_eq_true_eq, decide_eq_false_iff_not, List.all_eq_true] at h
  obtain ⟨⟨⟨⟨h1, h2⟩, h3⟩, h4⟩, h5⟩ := h
  refine ⟨h1, h2, h3, fun y hy => (h4 y hy).1, h5, nd, fun y hy e => ?_⟩
  rcases (h4 y hy).2 with (z | z) | z
  · exact absurd e z
  · exact .inl z
  · exact .inr z
theorem caps_by {N : List Str} {scope : Scope} {caps : List Nat} (h : capsB N scope caps = true) : CapN N scope (caps.map fun i => N.getD i "") caps := by
  refine ⟨by rw [List.length_map], fun j y i h1 h2 => ?_⟩
  rw [List.getElem?_map, h2] at h1
  have e : N.getD i "" = y := by simpa using h1
  have q := List.all_eq_true.mp h i (List.mem_of_getElem? h2)
  obtain ⟨q1, q2⟩ := andT q
  have hlt := of_decide_eq_true q1
  rw [← e]
  refine ⟨?_, of_decide_eq_true q2⟩
  rw [List.getD_eq_getElem?_getD, List.getElem?_eq_getElem hlt]
  rfl
theorem noParams_is {a : Arguments} (h : noParams a = true) : a = ⟨[], [], none, [], [], none, []⟩ := by
  unfold noParams at h
  split at h
  · rfl
  · cases h
theorem low_eq {ns : Nat} {hs : List (List Nat × Nat × CE)} {b : CE} (k : Nat) : (fun l S => toldR ns hs (eLow (run P (k + 1)) b l S)) = fun l S => toldR ns hs ((run P k).E b l S) := by
  funext l S
  have e : (run P (k + 1)).S (.expr b) l S = toS l ((run P k).E b l S) fun _ S1 => some (.ok .nx l S1) := rfl
  unfold eLow
  rw [e]
  cases (run P k).E b l S with
  | none => rfl
  | some o => cases o <;> rfl
theorem bind_one (q : Str) (cl : List (Str × Addr)) (pm cv ctv u : Value) (py : Str) (pp : Pos) (body : Expr) (scope : Scope) :
    bindArgs (PySem.W.kla_fn "<lambda>" q ⟨[], [⟨py, none, pp⟩], none, [], [], none, []⟩ body scope cl pm cv ctv) ⟨[u], []⟩ = pure ([py].zip [u]) := by
  unfold bindArgs
  simp [List.lookup, seqItems?]
  rfl
theorem told_pe {k : Nat} {x : Str} {kk m : Nat} {b : CE} {params : Arguments} {body : Expr} {p lpos pos : Pos} (C : CxZ T P D (k + 2) N sc true fa X) (tk : Takes X W) (cl : ClE T P D k) (hg : glB sc x = true) (hk : D.tolds.lookup x = some kk) (hp : noParams params = true)
    (hl : LamX.lamSB sc scope = true) (hb : ckE P D m N scope false b body = true) : PE X (.Call (.Name x p) [.Lambda params body scope lpos] [] pos) (TZ T W (eTold P kk (eLow (run P (k + 1)) b))) := by
  obtain ⟨g1, g2⟩ := gl_of C.tg.scp hg
  obtain ⟨a, g, ns, j, hs, pg, sg, dV, kV, doc, pm, cdv, ct, oc, an, od, osl, Ng, h₀, hds, p1, p2, p3, p4, p5, p6, t1, t2, t3, t4, t5, t6, t7, t8, t9, t10, t11, t12, t13, t14⟩ := C.top.tolds x kk hk
  obtain ⟨c, Pt, l1, l2, l3, l4⟩ := C.lam rfl
  rw [noParams_is hp]
  have e : eTold P kk (eLow (run P (k + 1)) b) = fun l S => toldR ns hs ((run P k).E b l S) := by
    rw [← low_eq]
    funext l S
    unfold eTold
    rw [t1]
  rw [e]
  refine pe_toldZ (k := k) (Ng := Ng) C.tg.K g1 t2 (by rw [C.tg.K]; exact t3) (by rw [C.tg.K]; exact t4) (by rw [C.tg.K]; exact t5) (by rw [C.tg.K]; exact t6) t7 t8 t9 t10 t11 (fun A outer s H => by rw [C.tg.K, C.tg.w]; exact t12 A outer s H) l2 l1 l3 l4 C.rm (by rw [C.tg.scp]; exact LamX.lamS_by hl) rfl (fun _ _ _ _ _ => rfl)
    (fun A outer s H E f c' hr => ?_) g2 t13 t14
  exact (cl m N scope false noF b body _ _ (C.lamT (by omega) hr) lam_takes hb).v
theorem sort_pe {k : Nat} {x py ky : Str} {kk m np ns : Nat} {b : CE} {mu : Bool} {caps : List Nat} {e body : Expr} {p kpos lpos pos pp : Pos} {ma : Ev} (C : CxZ T P D (k + 2) N sc true fa X) (tk : Takes X W) (cl : ClE T P D k) (hx : x = "sorted") (hky : ky = "key") (hb : bltB D sc x = true) (nst : noStar e = true)
    (he : PE X e (TZ T W ma)) (hl : lamPB sc scope [py] = true) (hc : capsB N scope caps = true) (hn : nth P.lams kk = some (np, ns, b)) (h1 : np = 1) (h2 : ns = 1 + caps.length + (ownL D kk).length) (hbd : ckE P D m ([py] ++ caps.map (fun i => N.getD i "") ++ ownL D kk) scope false b body = true)
    (hnd : ([py] ++ caps.map (fun i => N.getD i "") ++ ownL D kk).Nodup) :
    PE X (.Call (.Name x p) [e] [⟨some ky, .Lambda ⟨[], [⟨py, none, pp⟩], none, [], [], none, []⟩ body scope lpos, kpos⟩] pos) (TZ T W (eSortk mu ma caps (keyF (run P (k + 1)) false kk))) := by
  obtain ⟨g1, g2, g3, g4⟩ := blt_of C hb
  obtain ⟨c, Pt, l1, l2, l3, l4⟩ := C.lam rfl
  subst hx hky
  refine pe_sortkZ (m := (run P k).E b) (own := ownL D kk) (cn := caps.map fun i => N.getD i "") C.tg.K C.tg.calm g1 g3 bb_sorted g4 g2 he nst l2 l1 l3 l4 C.rm (by rw [C.tg.scp]; exact lamP_by hl (by simp)) rfl (by rw [C.tg.nm]; exact caps_by hc) rfl (fun _ _ _ _ _ _ => bind_one _ _ _ _ _ _ _ _ _ _) (fun A outer s H E f c' hr => ?_) fun cs v S o hcl ho => ?_
  · exact (cl m _ scope false noF b body _ _ (C.lamP (by omega) hnd hr) lamP_takes hbd).v
  · have ho : stepL P (run P k) kk cs [v] S = some o := ho
    unfold stepL at ho
    rw [hn] at ho
    dsimp only at ho
    split at ho
    · have e : ns - [v].length - cs.length = (ownL D kk).length := by
        rw [h2, hcl]
        show 1 + caps.length + (ownL D kk).length - 1 - caps.length = _
        omega
      rw [e] at ho
      exact ho
    · cases ho
end
end Z

set_option Elab.async false
set_option linter.all false
set_option maxRecDepth 100000
set_option maxHeartbeats 4000000
/-! ZQ5: expressions that pass the checker do what the evaluator tells. -/
namespace Z
open PySem PySem.Spec PyProof.Rows L2
section
variable {T : Top} {P : Prog} {D : Cfg}
theorem clE_zero : ClE T P D 0 := fun m N sc lm fa ce ast X W C tk h => pz_none fun l S => rfl
theorem xe_none {Y : Cx} : Takes Y (fun _ _ _ _ => False) := LamX.takes0
theorem clE_succ {n : Nat} (IH : ∀ k, k ≤ n → ClE T P D k) : ClE T P D (n + 1) := by
  intro m
  induction m with
  | zero => intro N sc lm fa ce ast X W C tk h; cases h
  | succ m ihm =>
    intro N sc lm fa ce ast X W C tk h
    replace h : stepCk P D (ckE P D m) N sc lm ce ast = true := h
    have hz : ∀ c e, ckE P D m N sc lm c e = true → PZ T X W e ((run P n).E c) := fun c e q => IH n (Nat.le_refl n) m N sc lm fa c e X W (C.mono (Nat.le_succ n)) tk q
    have hr : ∀ c e, ckE P D m N sc lm c e = true → PE X e (TZ T W ((run P n).E c)) := fun c e q => (hz c e q).v
    have hu := C.tg.un
    have hu16 : X.A.units + 16 < cLine := by omega
    have hblk : ∀ {scope : Scope} (Y : Cx), BlkX X scope Y → TgX T Y N (relS scope sc) (cellF scope) ∧ (∀ x, D.blts.contains x = true → Y.mg x = none) ∧ ∀ c e, ckE P D m N (relS scope sc) lm c e = true → PZ T Y (fun _ _ _ _ => False) e ((run P n).E c) := fun {scope} Y hY =>
      have CY := (C.mono (Nat.le_succ n)).blk hY
      ⟨CY.tg, CY.top.blts, fun c e q => IH n (Nat.le_refl n) m N _ lm (cellF scope) c e Y _ CY xe_none q⟩
    unfold stepCk at h
    split at h
    · rename_i op a pos
      exact pz_one (ihm N sc lm fa ce a X W C tk h)
    · rename_i hne
      cases ce with
      | var i =>
        dsimp only at h
        split at h
        · rename_i x pos
          obtain ⟨h1, h2⟩ := andT (show (decide (N[i]? = some x) && visB sc x && !(x == ("__debug__" : Str)) && !(x == ("__classdict__" : Str))) = true from h)
          obtain ⟨h3, h4⟩ := andT h1
          obtain ⟨h5, h6⟩ := andT h3
          exact PZ.plain (pe_varZ (by rw [C.tg.nm]; exact of_decide_eq_true h5) (by rw [C.tg.scp]; exact vis_of h6) (notT h4) (notT h2)) rfl
        · cases h
      | cst v =>
        dsimp only at h
        split at h
        · exact PZ.plain (pe_cstZ h) rfl
        · cases h
      | glb g =>
        dsimp only at h
        split at h
        · obtain ⟨h1, h2⟩ := andT h
          obtain ⟨g1, g2⟩ := gl_of C.tg.scp h1
          obtain ⟨u, y, v, q1, q2, q3, q4⟩ := C.top.glbs _ _ (of_decide_eq_true h2)
          exact PZ.plain (pe_glbZ g1 q1 q2 q3 q4 g2) rfl
        · cases h
      | tup es =>
        dsimp only at h
        split at h
        · exact PZ.plain (pe_tupZ (args_ok C.tg.K hr h)) rfl
        · cases h
      | lst mu es =>
        dsimp only at h
        split at h
        · exact PZ.plain (pe_lstZ (args_ok C.tg.K hr h)) rfl
        · cases h
      | dct mu ks vs =>
        dsimp only at h
        split at h
        · rename_i kes ves pos
          obtain ⟨h1, h2⟩ := andT h
          obtain ⟨i1, i2, i3⟩ := keys_ok (pos := pos) hr h1
          cases kes with
          | nil =>
            cases ves with
            | nil =>
              cases ks with
              | nil => cases vs with
                | nil => exact PZ.plain (pe_dct0Z (R := run P n)) rfl
                | cons v vs => cases h1
              | cons k ks => cases vs <;> cases h1
            | cons v vs => cases i3
          | cons k kes => exact PZ.plain (pe_dctZ C.tg.K C.tg.w hu16 i1 i2 i3 (by intro z; cases z) (of_decide_eq_true h2)) rfl
        · cases h
      | star e => dsimp only at h; cases h
      | bin mu op a b =>
        dsimp only at h
        split at h
        · obtain ⟨h1, h2⟩ := andT h
          obtain ⟨h3, h4⟩ := andT h1
          have e := of_decide_eq_true h3
          subst e
          exact PZ.plain (pe_binZ C.tg.K (hr _ _ h4) (hr _ _ h2)) rfl
        · cases h
      | neg a =>
        dsimp only at h
        split at h
        · exact PZ.plain (pe_negZ (hr _ _ h)) rfl
        · cases h
      | not a =>
        dsimp only at h
        split at h
        · exact pz_not (hz _ _ h)
        · cases h
      | cmp op a b =>
        dsimp only at h
        split at h
        · obtain ⟨h1, h2⟩ := andT h
          obtain ⟨h3, h4⟩ := andT h1
          obtain ⟨h5, h6⟩ := andT h3
          have e := of_decide_eq_true h5
          subst e
          exact ⟨pe_cmpZ C.tg.K C.tg.w hu op (hr _ _ h4) (hr _ _ h2) (notT h6), pt_cmpZ C.tg.K C.tg.w hu op (hr _ _ h4) (hr _ _ h2) (notT h6), fun z => by cases z⟩
        · cases h
      | cmp2 op op' a b c =>
        dsimp only at h
        split at h
        · obtain ⟨h1, h2⟩ := andT h
          obtain ⟨h3, h4⟩ := andT h1
          obtain ⟨h5, h6⟩ := andT h3
          obtain ⟨h7, h8⟩ := andT h5
          obtain ⟨h9, h10⟩ := andT h7
          have e := of_decide_eq_true h9
          have e' := of_decide_eq_true h10
          subst e e'
          exact ⟨pe_chainZ C.tg.K C.tg.w hu op op' (hr _ _ h6) (hr _ _ h4) (hr _ _ h2) (notT h8), pt_chainZ C.tg.K C.tg.w hu op op' (hr _ _ h6) (hr _ _ h4) (hr _ _ h2) (notT h8), fun z => by cases z⟩
        · cases h
      | and a b =>
        dsimp only at h
        split at h
        · obtain ⟨h1, h2⟩ := andT h
          exact pz_and (hz _ _ h1) (hz _ _ h2)
        · cases h
      | or a b =>
        dsimp only at h
        split at h
        · obtain ⟨h1, h2⟩ := andT h
          exact pz_or (hz _ _ h1) (hz _ _ h2)
        · cases h
      | ite c a b =>
        dsimp only at h
        split at h
        · obtain ⟨h1, h2⟩ := andT h
          obtain ⟨h3, h4⟩ := andT h1
          exact pz_ite (hz _ _ h3) (hz _ _ h4) (hz _ _ h2)
        · cases h
      | idx a i =>
        dsimp only at h
        split at h
        · obtain ⟨h1, h2⟩ := andT h
          obtain ⟨h3, h4⟩ := andT h1
          exact PZ.plain (pe_ixZ C.tg.K C.tg.w hu16 (hr _ _ h4) (hr _ _ h2) (plainIx_of (notT h3))) rfl
        · cases h
      | slc mu a lo hi =>
        dsimp only at h
        split at h
        · obtain ⟨h1, h2⟩ := andT h
          obtain ⟨h3, h4⟩ := andT h1
          exact PZ.plain (pe_slcZ C.tg.K (hr _ _ h3) (opt_ok hr h4) (opt_ok hr h2)) rfl
        · cases h
      | rev mu a =>
        dsimp only at h
        split at h
        · exact PZ.plain (pe_revZ C.tg.K (hr _ _ h)) rfl
        · cases h
      | call f es =>
        dsimp only at h
        split at h
        · obtain ⟨h1, h2⟩ := andT h
          obtain ⟨h3, h4⟩ := andT h1
          obtain ⟨h5, h6⟩ := andT h3
          obtain ⟨g1, g2⟩ := gl_of C.tg.scp h5
          obtain ⟨fd, ps, np, q1, q2, q3, q4, q5⟩ := C.fns n (Nat.lt_succ_self n) _ _ (of_decide_eq_true h6)
          exact PZ.plain (pe_callZ (by rw [C.tg.K, C.tg.w]; exact q1) q5 tk (C.rm.mono (Nat.le_succ n)) g1 q2 (by rw [C.tg.K]; exact q3) (by rw [C.tg.K]; exact q4) (args_ok C.tg.K hr h2) g2 h4) rfl
        · cases h
      | callv i es => dsimp only at h; cases h
      | blt mu b es =>
        dsimp only at h
        split at h
        · obtain ⟨h1, h2⟩ := andT h
          obtain ⟨h3, h4⟩ := andT h1
          obtain ⟨h5, h6⟩ := andT h3
          exact PZ.plain (blt_pe C (of_decide_eq_true h5) h6 h4 (args_ok C.tg.K hr h2)) rfl
        · cases h
      | isi a t =>
        dsimp only at h
        split at h
        · obtain ⟨h1, h2⟩ := andT h
          obtain ⟨h3, h4⟩ := andT h1
          obtain ⟨h5, h6⟩ := andT h3
          obtain ⟨h7, h8⟩ := andT h5
          obtain ⟨h9, h10⟩ := andT h7
          rename_i x p e y p2 pos
          have e1 : x = "isinstance" := by simpa using h9
          subst e1
          have e2 := of_decide_eq_true h8
          subst e2
          obtain ⟨g1, g2, g3, g4⟩ := blt_of C h10
          obtain ⟨k1, k2, k3, k4⟩ := blt_of C h6
          exact PZ.plain (pe_isiZ C.tg.K g1 g3 k1 k3 (bt_ty t) k4 k2 h4 bb_isi (hr _ _ h2)) rfl
        · cases h
      | meth mt o es =>
        dsimp only at h
        split at h
        · obtain ⟨h, h7⟩ := andT h
          obtain ⟨h, h6⟩ := andT h
          obtain ⟨h, h5⟩ := andT h
          obtain ⟨h, h4⟩ := andT h
          obtain ⟨h, h3⟩ := andT h
          obtain ⟨h1, h2⟩ := andT h
          exact PZ.plain (pe_methZ C.tg.K (meth_pe C (of_decide_eq_true h1)) (hr _ _ h6) (args_ok C.tg.K hr h7) h2 h3 (of_decide_eq_true h4) h5) rfl
        · cases h
      | sortk mu a fn k caps =>
        dsimp only at h
        split at h
        · rename_i x p e ky py pp body scope lpos kpos pos
          obtain ⟨h, h10⟩ := andT h
          obtain ⟨h, h9⟩ := andT h
          obtain ⟨h, h8⟩ := andT h
          obtain ⟨h, h7⟩ := andT h
          obtain ⟨h, h6⟩ := andT h
          obtain ⟨h, h5⟩ := andT h
          obtain ⟨h, h4⟩ := andT h
          obtain ⟨h, h3⟩ := andT h
          obtain ⟨h1, h2⟩ := andT h
          have e5 : lm = true := h5
          subst e5
          have e6 : fn = false := notT h6
          subst e6
          cases n with
          | zero =>
            refine pz_none fun l S => ?_
            rfl
          | succ n =>
            split at h10
            · rename_i np ns b hnl
              obtain ⟨h10, h14⟩ := andT h10
              obtain ⟨h10, h13⟩ := andT h10
              obtain ⟨h11, h12⟩ := andT h10
              exact PZ.plain (sort_pe C tk (IH n (Nat.le_succ n)) (by simpa using h1) (by simpa using h2) h3 h4 (hr _ _ h7) h8 h9 hnl (Nat.eq_of_beq_eq_true h11) (Nat.eq_of_beq_eq_true h12) h13 (of_decide_eq_true h14)) rfl
            · cases h10
        · cases h
      | lam k caps => dsimp only at h; cases h
      | told k b =>
        dsimp only at h
        split at h
        · rename_i x p ps body scope lpos pos
          obtain ⟨h, h6⟩ := andT h
          obtain ⟨h, h5⟩ := andT h
          obtain ⟨h, h4⟩ := andT h
          obtain ⟨h, h3⟩ := andT h
          obtain ⟨h1, h2⟩ := andT h
          have e3 : lm = true := h3
          subst e3
          cases n with
          | zero =>
            refine pz_none fun l S => ?_
            show eTold P k (eLow (run P 0) b) l S = none
            unfold eTold
            split
            · rfl
            · rfl
          | succ n => exact PZ.plain (told_pe C tk (IH n (Nat.le_succ n)) h1 (of_decide_eq_true h2) h4 h5 h6) rfl
        · cases h
      | lc mu e gs own =>
        dsimp only at h
        split at h
        · rename_i ee gens scope pos
          obtain ⟨h1, h2⟩ := andT h
          obtain ⟨t, it, ifs, gs', tg, iter, ifs', gens', rfl, rfl, co⟩ := comp_ok (W := W) (W0 := fun _ _ _ _ => False) (frzOk P n) C.tg C.top.blts hr hblk h1
          have z := pe_lcN (pos := pos) (mu := mu) co fun Y hY => ((hblk Y hY).2.2 _ _ h2).v
          rw [List.map_map, show ((fun p : Str × Nat => p.2) ∘ fun i => (N.getD i "", i)) = id from rfl, List.map_id] at z
          exact PZ.plain z rfl
        · cases h
      | dc mu k v gs own =>
        dsimp only at h
        split at h
        · rename_i ke ve gens scope pos
          obtain ⟨h1, h3⟩ := andT h
          obtain ⟨h1, h2⟩ := andT h1
          obtain ⟨t, it, ifs, gs', tg, iter, ifs', gens', rfl, rfl, co⟩ := comp_ok (W := W) (W0 := fun _ _ _ _ => False) (frzOk P n) C.tg C.top.blts hr hblk h1
          have z := pe_dcN (pos := pos) (mu := mu) C.tg.K C.tg.w hu16 co (fun Y hY => ((hblk Y hY).2.2 _ _ h2).v) fun Y hY => ((hblk Y hY).2.2 _ _ h3).v
          rw [List.map_map, show ((fun p : Str × Nat => p.2) ∘ fun i => (N.getD i "", i)) = id from rfl, List.map_id] at z
          exact PZ.plain z rfl
        · cases h
      | fld a f => dsimp only at h; cases h
theorem clE_all : ∀ n, ClE T P D n := by
  have : ∀ n, ∀ k, k ≤ n → ClE T P D k := by
    intro n
    induction n with
    | zero => intro k hk; have : k = 0 := by omega
              subst this; exact clE_zero
    | succ n ih =>
      intro k hk
      by_cases h : k ≤ n
      · exact ih k h
      · have : k = n + 1 := by omega
        subst this
        exact clE_succ ih
  exact fun n => this n n (Nat.le_refl n)
end
end Z

set_option Elab.async false
set_option linter.all false
set_option maxRecDepth 100000
set_option maxHeartbeats 4000000
/-! ZQ6: statements that pass the checker; defs; all levels. -/
namespace Z
open PySem PySem.Spec PyProof.Rows L2
section
variable {T : Top} {P : Prog} {D : Cfg}
/-- what statements ask besides -/
structure CxS (X : Cx) : Prop where
  pass : PassesOwn (model X.prog X.w) X.A X.env X.xe
def ClS (T : Top) (P : Prog) (D : Cfg) (n : Nat) : Prop := ∀ (m : Nat) (N : List Str) (sc : Scope) (lm : Bool) (cs : CS) (st : Stmt) (X : Cx) (W : WX), CxZ T P D n N sc lm allF X → CxS X → Takes X W → ckS P D N sc lm m cs st = true → PS X st (TZS T W ((run P n).S cs))
theorem ps_none {X : Cx} {W : WX} {st : Stmt} {m : Sv} (h : ∀ l S, m l S = none) : PS X st (TZS T W m) := ⟨fun pins s σ H D I ⟨F, G, ρ, l, S, o, rl, rh, e, q⟩ => by rw [h] at e; cases e⟩
theorem sss_ok {X : Cx} {W : WX} {R : Rc} {r : CkS} (hr : ∀ c s, r c s = true → PS X s (TZS T W (R.S c))) : ∀ {cs : List CS} {ss : List Stmt}, ckSs r cs ss = true → PSs X ss (TZS T W (evSs R cs))
  | [], [], _ => pss_nilZ
  | c :: cs, s :: ss, h => by
    obtain ⟨h1, h2⟩ := andT (show (r c s && ckSs r cs ss) = true from h)
    exact pss_consZ (hr _ _ h1) (sss_ok hr h2)
theorem stores_of {sc : Scope} {tg v : Expr} {env : Env} (hs : env.scope = sc) (h : storesC sc tg v = true) : swappedStores [tg] v env = pure none := by
  unfold storesC at h
  split at h
  · rename_i ts k p
    rw [Bool.or_eq_true] at h
    rcases h with h | h
    · exact stores_val (notT h)
    · cases v with
      | Tuple vs k2 p2 => exact stores_off (by rw [hs]; exact h)
      | _ => exact stores_val rfl
  · cases h
  · rename_i h1 h2
    refine stores_one ?_
    cases tg with
    | Tuple ts k p => exact absurd rfl (h1 _ _ _)
    | List ts p => exact absurd rfl (h2 _ _)
    | _ => rfl
theorem fn_block {env : Env} {sc : Scope} (hs : env.scope = sc) (h : decide (sc.kind = .function) = true) : env.blockKind = .function := by
  have e := of_decide_eq_true h
  unfold Env.blockKind
  rw [hs, e]
  rfl
theorem swap_of {scope sc : Scope} {x : Str} {px pv : Pos} {env : Env} (hs : env.scope = sc) (h : swapC sc scope x px pv = true) :
    env.blockKind = .function ∧ env.kindOf x = some .local ∧ px.line = pv.line ∧ (scope.names.any fun y => y.1 == x && (y.2 == .local || y.2 == .cell)) = false := by
  unfold swapC at h
  obtain ⟨h, h4⟩ := andT h
  obtain ⟨h, h3⟩ := andT h
  obtain ⟨h1, h2⟩ := andT h
  refine ⟨fn_block hs h1, ?_, of_decide_eq_true h3, notT h4⟩
  show env.scope.names.lookup x = some .local
  rw [hs]
  exact of_decide_eq_true h2
theorem asg_nm {n : Nat} {i : Nat} {m : Ev} : sAsg (run P n) (.nm i) m = sAsg (run P (n + 1)) (.nm i) m := rfl
theorem own_map {N : List Str} (own : List Nat) : (own.map fun i => (N.getD i "", i)).map (·.2) = own := by
  rw [List.map_map, show ((fun p : Str × Nat => p.2) ∘ fun i => (N.getD i "", i)) = id from rfl, List.map_id]
theorem asg_pe {n m : Nat} {N : List Str} {sc : Scope} {lm : Bool} {t : CT} {e : CE} {tg v : Expr} {pos : Pos} {X : Cx} {W : WX} (C : CxZ T P D (n + 1) N sc lm allF X) (tk : Takes X W)
    (h : asgC P D (ckE P D m) N sc lm t e tg v = true) : PS X (.Assign [tg] v pos) (TZS T W (sAsg (run P n) t ((run P n).E e))) := by
  have CL := clE_all (T := T) (P := P) (D := D)
  have hz : ∀ k, k ≤ n → ∀ c e, ckE P D m N sc lm c e = true → PZ T X W e ((run P k).E c) := fun k hk c e q => CL k m N sc lm allF c e X W (C.mono (by omega)) tk q
  have hr : ∀ k, k ≤ n → ∀ c e, ckE P D m N sc lm c e = true → PE X e (TZ T W ((run P k).E c)) := fun k hk c e q => (hz k hk c e q).v
  have hu16 : X.A.units + 16 < cLine := by have := C.tg.un; omega
  have hblk : ∀ k, k ≤ n → ∀ {scope : Scope} (Y : Cx), BlkX X scope Y → TgX T Y N (relS scope sc) (cellF scope) ∧ (∀ x, D.blts.contains x = true → Y.mg x = none) ∧ ∀ c e, ckE P D m N (relS scope sc) lm c e = true → PZ T Y (fun _ _ _ _ => False) e ((run P k).E c) := fun k hk {scope} Y hY =>
    have CY := (C.mono (k := k) (by omega)).blk hY
    ⟨CY.tg, CY.top.blts, fun c e q => CL k m N _ lm (cellF scope) c e Y _ CY xe_none q⟩
  unfold asgC at h
  split at h
  · split at h
    · rename_i i
      split at h
      · rename_i x px
        split at h
        · rename_i mu b gs own
          split at h
          · rename_i ee gens scope pv _
            obtain ⟨h, h4⟩ := andT h
            obtain ⟨h, h3⟩ := andT h
            obtain ⟨h1, h2⟩ := andT h
            cases n with
            | zero => exact ps_none fun l S => rfl
            | succ n =>
              obtain ⟨t, it, ifs, gs', tg, iter, ifs', gens', rfl, rfl, co⟩ := comp_ok (W := W) (W0 := fun _ _ _ _ => False) (frzOk P n) C.tg C.top.blts (hr n (by omega)) (hblk n (by omega)) h3
              obtain ⟨s1, s2, s3, s4⟩ := swap_of C.tg.scp h2
              have hi : X.N[i]? = some x := by rw [C.tg.nm]; exact of_decide_eq_true h1
              have z := ps_setLcN (spos := pos) (py := px) (pos := pv) (mu := mu) hi s2 (swaps_true s1 s2 s3 s4) co fun Y hY => ((hblk n (by omega) Y hY).2.2 _ _ h4).v
              rw [own_map] at z
              exact z
          · cases h
        · rename_i mu k w gs own
          split at h
          · rename_i ke ve gens scope pv _
            obtain ⟨h, h5⟩ := andT h
            obtain ⟨h, h4⟩ := andT h
            obtain ⟨h, h3⟩ := andT h
            obtain ⟨h1, h2⟩ := andT h
            cases n with
            | zero => exact ps_none fun l S => rfl
            | succ n =>
              obtain ⟨t, it, ifs, gs', tg, iter, ifs', gens', rfl, rfl, co⟩ := comp_ok (W := W) (W0 := fun _ _ _ _ => False) (frzOk P n) C.tg C.top.blts (hr n (by omega)) (hblk n (by omega)) h3
              obtain ⟨s1, s2, s3, s4⟩ := swap_of C.tg.scp h2
              have hi : X.N[i]? = some x := by rw [C.tg.nm]; exact of_decide_eq_true h1
              have z := ps_setDcN (spos := pos) (py := px) (pos := pv) (mu := mu) C.tg.K C.tg.w hu16 hi s2 (swaps_dct s1 s2 s3 s4) co (fun Y hY => ((hblk n (by omega) Y hY).2.2 _ _ h4).v) fun Y hY => ((hblk n (by omega) Y hY).2.2 _ _ h5).v
              rw [own_map] at z
              exact z
          · cases h
        · cases h
      · cases h
    · cases h
  · rename_i hc
    obtain ⟨h, h4⟩ := andT h
    obtain ⟨h, h3⟩ := andT h
    obtain ⟨h1, h2⟩ := andT h
    have hc' : isCompE v = false := by simpa using hc
    exact ps_asgZ (hr n (Nat.le_refl n) _ _ h4) (ckT_ok C.tg (hr n (Nat.le_refl n)) t tg h3) (swaps_sole hc') (stores_of C.tg.scp h2) (each_one h1)
theorem clS_zero : ClS T P D 0 := fun m N sc lm cs st X W C CS tk h => ps_none fun l S => rfl
theorem clS_succ {n : Nat} (IH : ClS T P D n) : ClS T P D (n + 1) := by
  intro m N sc lm cs st X W C CS tk h
  cases m with
  | zero => cases h
  | succ m =>
    replace h : stepCkS P D (ckE P D m) (ckS P D N sc lm m) N sc lm cs st = true := h
    have CL := clE_all (T := T) (P := P) (D := D)
    have hz : ∀ c e, ckE P D m N sc lm c e = true → PZ T X W e ((run P n).E c) := fun c e q => CL n m N sc lm allF c e X W (C.mono (Nat.le_succ n)) tk q
    have hr : ∀ c e, ckE P D m N sc lm c e = true → PE X e (TZ T W ((run P n).E c)) := fun c e q => (hz c e q).v
    have hs : ∀ c s, ckS P D N sc lm m c s = true → PS X s (TZS T W ((run P n).S c)) := fun c s q => IH m N sc lm c s X W (C.mono (Nat.le_succ n)) CS tk q
    unfold stepCkS at h
    cases cs with
    | asg t e =>
      dsimp only at h
      split at h
      · exact asg_pe C tk h
      · cases h
    | par ts es =>
      dsimp only at h
      split at h
      · rename_i i j
        split at h
        · rename_i x px y py kt pt a b k2 pt2 pos
          obtain ⟨h, h12⟩ := andT h
          obtain ⟨h, h11⟩ := andT h
          obtain ⟨h, h10⟩ := andT h
          obtain ⟨h, h9⟩ := andT h
          obtain ⟨h, h8⟩ := andT h
          obtain ⟨h, h7⟩ := andT h
          obtain ⟨h, h6⟩ := andT h
          obtain ⟨h, h5⟩ := andT h
          obtain ⟨h, h4⟩ := andT h
          obtain ⟨h, h3⟩ := andT h
          obtain ⟨h1, h2⟩ := andT h
          have hij : i ≠ j := fun e => by rw [e, Nat.beq_refl] at h3; cases h3
          have hx : X.env.scope.names.lookup x = some .local := by rw [C.tg.scp]; exact of_decide_eq_true h5
          have hy : X.env.scope.names.lookup y = some .local := by rw [C.tg.scp]; exact of_decide_eq_true h6
          exact ps_parZ C.tg.calm (by rw [C.tg.nm]; exact C.tg.nd) (by rw [C.tg.nm]; exact of_decide_eq_true h1) (by rw [C.tg.nm]; exact of_decide_eq_true h2) hij hx hy (args_ok C.tg.K hr h12)
            (stores_two (fn_block C.tg.scp h4) hx hy (notT h7) h8 h9 (notT h10) (notT h11)) (swaps_noName fun x p z => by cases z)
        · cases h
      · cases h
    | aug i op e => dsimp only at h; cases h
    | expr e =>
      dsimp only at h
      split at h
      · obtain ⟨h1, h2⟩ := andT h
        exact ps_exprZ (hr _ _ h2) (swaps_no (notT h1))
      · cases h
    | ifs c a b =>
      dsimp only at h
      split at h
      · obtain ⟨h, h3⟩ := andT h
        obtain ⟨h1, h2⟩ := andT h
        exact ps_ifZ (hz _ _ h1).t (sss_ok hs h2) (sss_ok hs h3)
      · cases h
    | for_ t it b =>
      dsimp only at h
      split at h
      · rename_i tg iter sb pos
        obtain ⟨h, h4⟩ := andT h
        obtain ⟨h, h3⟩ := andT h
        obtain ⟨h1, h2⟩ := andT h
        obtain ⟨i1, i2⟩ := ckI_ok C.tg.K C.tg.scp C.top.blts hr h2
        exact ps_forZ CS.pass C.tg.calm i1 (ckTR_ok C.tg hr h3 i2) (sss_ok hs h4) (folded_no (notT h1) _)
      · cases h
    | while_ c b =>
      dsimp only at h
      split at h
      · obtain ⟨h1, h2⟩ := andT h
        exact ps_whileZ CS.pass (hz _ _ h1).t (sss_ok hs h2)
      · cases h
    | ret e =>
      dsimp only at h
      split at h
      · exact ps_retZ (hr _ _ h)
      · cases h
    | raise c es =>
      dsimp only at h
      split at h
      · rename_i e
        split at h
        · rename_i x p v cp pos
          obtain ⟨h, h5⟩ := andT h
          obtain ⟨h, h4⟩ := andT h
          obtain ⟨h, h3⟩ := andT h
          obtain ⟨h1, h2⟩ := andT h
          cases n with
          | zero =>
              refine ps_none fun l S => ?_
              show sRaise c (evEs (run P 0) [e]) l S = none
              unfold sRaise
              rw [evEs_one (notT h4)]
              rfl
          | succ n =>
            obtain ⟨g1, g2⟩ := gl_of C.tg.scp h1
            exact ps_raiseZ C.tg.K C.tg.w C.tg.calm tk (C.top.cls _ _ (of_decide_eq_true h2)) (C.rm.mono (by omega)) g1 g2 h3 (notT h4) (hr _ _ h5)
        · cases h
      · cases h
    | try_ b hs => dsimp only at h; cases h
    | brk =>
      dsimp only at h
      split at h
      · exact ps_brkZ
      · cases h
    | cont =>
      dsimp only at h
      split at h
      · exact ps_contZ
      · cases h
    | pass =>
      dsimp only at h
      split at h
      · exact ps_passZ
      · cases h
theorem clS_all : ∀ n, ClS T P D n
  | 0 => clS_zero
  | n + 1 => clS_succ (clS_all n)
end
end Z

set_option Elab.async false
set_option linter.all false
set_option maxRecDepth 100000
set_option maxHeartbeats 4000000
/-! ZQ7: defs that pass the checker keep their promises, at all levels. -/
namespace Z
open PySem PySem.Spec PyProof.Rows L2
section
variable (T : Top) (P : Prog) (D : Cfg)
/-- one def -/
def DefOk (base : Heap) (mg : Str → Option Value) (x : Str) (i : Nat) : Prop := ∃ (params : Arguments) (body : List Stmt) (scope : Scope) (N ps : List Str) (fd : FuncData) (lm : Bool) (m : Nat) (cf : CFn),
  FunD T.K x x params body scope [] [] (T.fa i) fd ∧ mg x = some (.ref (T.fa i)) ∧ Binds T.K fd ps [] ∧ FnScope N ps scope ∧ nth P.fns i = some cf ∧ cf.np = ps.length ∧ cf.ns = N.length ∧ ckSs (ckS P D N scope lm m) cf.body body = true ∧
  (lm = true → ∃ c Pt, fd.code = .ref c ∧ LamX.TabB base mg c Pt ∧ (Pt, (envOfC x scope 0 0 .none).qual ++ "<lambda>") ∈ T.tabs ∧ ∀ p ∈ T.tabs, p.1 = Pt → p.2 = (envOfC x scope 0 0 .none).qual ++ "<lambda>")
end
section
variable {T : Top} {P : Prog} {D : Cfg} {prog : Program} {base : Heap} {mg : Str → Option Value}
theorem cx_of {n : Nat} {N : List Str} {x : Str} {scope : Scope} {lm : Bool} {f : Addr} {cdv : Value} {A : Around} {outer : List Env} {s : Shared} {H : Hp} {E : XK} (top : TopS T P D prog base mg) (fns : ∀ j, j < n → FnsOk T P D prog base mg j) (nd : N.Nodup) (hr : Room n (A.deeper (envOfC x scope s.heap.objs.size f cdv)))
    (hl : lm = true → ∃ c Pt, cdv = .ref c ∧ LamX.TabB base mg c Pt ∧ (Pt, (envOfC x scope 0 0 .none).qual ++ "<lambda>") ∈ T.tabs ∧ ∀ p ∈ T.tabs, p.1 = Pt → p.2 = (envOfC x scope 0 0 .none).qual ++ "<lambda>") :
    CxZ T P D n N scope lm allF (cxOf (L2.CX prog T.w) prog T.w T.K mg base N x scope f cdv A outer s H E) ∧ CxS (cxOf (L2.CX prog T.w) prog T.w T.K mg base N x scope f cdv A outer s H E) ∧
      Takes (cxOf (L2.CX prog T.w) prog T.w T.K mg base N x scope f cdv A outer s H E) (fun cls d _ H => E cls d H) :=
  ⟨⟨⟨rfl, rfl, rfl, nd, rfl, rfl, room_un hr, fun _ _ => rfl⟩, hr, top, fns, fun z => by
      obtain ⟨c, Pt, h1, h2, h3, h4⟩ := hl z
      exact ⟨c, Pt, h1, h2, h3, h4⟩⟩, ⟨passes_of rfl⟩, takes_of rfl rfl rfl rfl⟩
theorem fns_step (top : TopS T P D prog base mg) (defs : ∀ x i, D.fns.lookup x = some i → DefOk T P D base mg x i) {n : Nat} (IH : ∀ j, j < n → FnsOk T P D prog base mg j) : FnsOk T P D prog base mg n := by
  intro x i hi
  obtain ⟨params, body, scope, N, ps, fd, lm, m, cf, F, hm, hb, Sc, hcf, hnp, hns, hck, hl⟩ := defs x i hi
  obtain ⟨oc, od, dV, kV, doc, pm, an, cdv, ct, osl, rfl, lk, hcd, _, _⟩ := F.ex
  refine ⟨_, ps, cf.np, ?_, hm, F.kp, hb, fun vs S o ho => ?_⟩
  · cases n with
    | zero =>
      refine ⟨fun vs H Q E h => ?_, fun A outer s H args us vs Q E hr e0 hbt hv h => ?_⟩
      · obtain ⟨_, _, _, _, _, _, _, _, _, e, _⟩ := h
        cases e
      · obtain ⟨_, _, _, _, _, _, _, _, _, e, _⟩ := h
        cases e
    | succ n =>
      refine fnZ lk hcd Sc hcf hnp hns fun A outer s H E hr => ?_
      obtain ⟨c1, c2, c3⟩ := cx_of (f := T.fa i) (outer := outer) (H := H) (E := E) top (fun j hj => IH j (by omega)) Sc.nd hr hl
      exact sss_ok (fun c st q => clS_all n m N scope lm c st _ _ c1 c2 c3 q) hck
  · cases n with
    | zero => cases ho
    | succ n => exact (stepF_inv hcf ho).1
theorem fns_all (top : TopS T P D prog base mg) (defs : ∀ x i, D.fns.lookup x = some i → DefOk T P D base mg x i) : ∀ n, FnsOk T P D prog base mg n := by
  have : ∀ n, ∀ j, j < n → FnsOk T P D prog base mg j := by
    intro n
    induction n with
    | zero => intro j hj; omega
    | succ n ih =>
      intro j hj
      exact fns_step top defs fun k hk => ih k (by omega)
  exact fun n => this (n + 1) n (by omega)
end
end Z

set_option Elab.async false
set_option linter.all false
set_option maxRecDepth 100000
set_option maxHeartbeats 4000000
/-! ZQ8: a law: its first line, then what the evaluator tells. -/
namespace Z
open PySem PySem.Spec PyProof.Rows L2
/-- draw = [script[:63], 0, 0] -/
def lawFirst : Stmt → Bool
  | .Assign [.Name x _] (.List [.Subscript (.Name y _) (.Slice none (some (.Constant (.int i) _ _)) none _) _, .Constant (.int j) _ _, .Constant (.int k) _ _] _) _ => (x == ("draw" : Str)) && (y == ("script" : Str)) && decide (i = 63) && decide (j = 0) && decide (k = 0)
  | _ => false
def lawS (xs : List PV) : LH := ⟨1, [(0, .lst [.lst xs, .int 0, .int 0])], []⟩
def lawL (n di : Nat) : Loc := setL (some (.loc 0)) (List.replicate n none) di
def spLaw (T : Top) : Sp := fun vs H Q _ => ∃ (a : Addr) (ns : List Int), vs = [.ref a] ∧ ns.length ≤ 63 ∧ SqL T.K H a (ns.map V.int) ∧ (∀ p ∈ T.tabs, H p.1 = some (.tbl #[])) ∧ ∀ H', Q (.bl true) H'
section
variable {T : Top} {P : Prog} {D : Cfg} {prog : Program} {base : Heap} {mg : Str → Option Value} {X : Cx}
theorem reps_ints {F : Hp} {ρ : Rho} : ∀ ns : List Int, Reps T F ρ (ns.map PV.int) (ns.map V.int)
  | [] => .nil
  | n :: ns => .cons (.int n) (reps_ints ns)
theorem cut63 {ns : List Int} (h : ns.length ≤ 63) : cutV (ns.map V.int) none (some 63) = ns.map V.int := by
  unfold cutV
  have h1 : HT.sIx (ns.map V.int).length 0 none = 0 := rfl
  have h2 : HT.sIx (ns.map V.int).length (ns.map V.int).length (some 63) = (ns.map V.int).length := by
    rw [← clamp_eq]
    unfold clampI
    dsimp only
    rw [if_neg (by decide)]
    show min (63 : Int).toNat _ = _
    rw [List.length_map]
    have : (63 : Int).toNat = 63 := rfl
    omega
  rw [h1, h2, List.drop_zero, Nat.sub_zero, List.take_length]
theorem law_first {st : Stmt} {N : List Str} {sc : Scope} {di : Nat} (C : TgX T X N sc allF) (h : lawFirst st = true) (h0 : N[0]? = some ("script" : Str)) (hd : N[di]? = some ("draw" : Str)) (hv : Vis sc "script") (hl : L2.Loc sc "draw") :
    PS X st (fun D σ H => ∃ (a : Addr) (ns : List Int), σ[0]? = some (some (.ref a)) ∧ ns.length ≤ 63 ∧ SqL X.K H a (ns.map V.int) ∧ ∀ p1 p2, H p1 = none → H p2 = none → p1 ≠ p2 → D.nx (σ.set di (some (.ref p2))) (upd (upd H p1 (.lst (ns.map V.int))) p2 (.lst [.ref p1, .int 0, .int 0]))) := by
  unfold lawFirst at h
  split at h
  · rename_i x p1 y p2 i j1 q1 q2 q3 j j2 q4 k j3 q5 q6 q7
    obtain ⟨h, e5⟩ := andT h
    obtain ⟨h, e4⟩ := andT h
    obtain ⟨h, e3⟩ := andT h
    obtain ⟨e1, e2⟩ := andT h
    have e1 : x = "draw" := by simpa using e1
    have e2 : y = "script" := by simpa using e2
    have e3 : i = 63 := of_decide_eq_true e3
    have e4 : j = 0 := of_decide_eq_true e4
    have e5 : k = 0 := of_decide_eq_true e5
    subst e1 e2 e3 e4 e5
    refine PS.imp (ps_asg (pe_lst (pa_cons (pe_slice sl_list (pe_var (i := 0) (by rw [C.nm]; exact h0) (by rw [C.scp]; exact hv) (by decide) (by decide)) po_none (po_some pe_int)) (pa_cons pe_int (pa_cons pe_int pa_nil)))) (pg_name (by rw [C.nm]; exact C.nd) (by rw [C.nm]; exact hd) (by rw [C.scp]; exact hl) (.inl (C.fn _ rfl)))) fun D σ H q => ?_
    obtain ⟨a, ns, g1, g2, g3, g4⟩ := q
    refine ⟨.ref a, g1, 63, rfl, a, ns.map V.int, rfl, g3, fun p hp => ?_⟩
    rw [cut63 g2]
    refine ⟨by rw [sizeLine_eq]; show 3 ≤ _; omega, fun p2 hp2 => ?_⟩
    have hne : p ≠ p2 := fun z => by rw [z, upd_same] at hp2; cases hp2
    exact g4 p p2 hp (by rw [upd_ne hne.symm] at hp2; exact hp2) hne
  · cases h
theorem law_ok {fa : Addr} {fd : FuncData} {params : Arguments} {st : Stmt} {rest : List Stmt} {scope : Scope} {N : List Str} {lm : Bool} {m n di : Nat} {cr : List CS} (F : FunD T.K "law" "law" params (st :: rest) scope [] [] fa fd) (Sc : FnScope N ["script"] scope) (top : TopS T P D prog base mg) (fns : ∀ j, FnsOk T P D prog base mg j)
    (hf : lawFirst st = true) (hd : N[di]? = some ("draw" : Str)) (hl : L2.Loc scope "draw") (hck : ckSs (ckS P D N scope lm m) cr rest = true)
    (lam : lm = true → ∃ c Pt, fd.code = .ref c ∧ LamX.TabB base mg c Pt ∧ (Pt, (envOfC "law" scope 0 0 .none).qual ++ "<lambda>") ∈ T.tabs ∧ ∀ p ∈ T.tabs, p.1 = Pt → p.2 = (envOfC "law" scope 0 0 .none).qual ++ "<lambda>")
    (hrun : ∀ ns : List Int, ns.length ≤ 63 → ∃ l S, evSs (run P n) cr (lawL N.length di) (lawS (ns.map .int)) = some (.ok (.rt (.bl true)) l S)) :
    FnOk prog T.w T.K mg base (L2.CX prog T.w) (n + 1) fa fd ["script"] (spLaw T) := by
  obtain ⟨oc, od, dV, kV, doc, pm, an, cdv, ct, osl, rfl, lk, hcd, _, _⟩ := F.ex
  refine fn_of lk hcd Sc (fun vs H Q E ⟨a, ns, e, _⟩ => by rw [e]; rfl) fun A outer s H vs Q E hr hsp => ?_
  obtain ⟨c1, c2, c3⟩ := cx_of (f := fa) (outer := outer) (H := H) (E := E) top (fun j _ => fns j) Sc.nd hr lam
  have h0 : N[0]? = some ("script" : Str) := by
    have := Sc.pre
    cases N with
    | nil => cases this
    | cons x N =>
      have e : [x] = [("script" : Str)] := by simpa using this
      cases e
      rfl
  have hv : Vis scope "script" := by
    rcases Sc.par "script" (by simp) with z | z
    · exact .inl z
    · exact .inr (.inl z)
  refine ⟨_, pss_cons (law_first c1.tg hf h0 hd hv hl) (sss_ok (fun c st q => clS_all n m N scope lm c st _ _ c1 c2 c3 q) hck), ?_⟩
  obtain ⟨a, ns, rfl, hns, hS, htb, hq⟩ := hsp
  refine ⟨a, ns, rfl, hns, hS, fun p1 p2 hp1 hp2 hne => ?_⟩
  obtain ⟨l, S, he⟩ := hrun ns hns
  have hlen : (L2.start N [V.ref a]).length = N.length := by
    have := (List.getElem?_eq_some_iff.mp h0).1
    simp [L2.start]
    omega
  have hF : (fun b => if b = p1 then some (HO.lst (ns.map V.int)) else none : Hp) p1 = some (.lst (ns.map V.int)) := if_pos rfl
  refine ⟨fun b => if b = p1 then some (.lst (ns.map V.int)) else none, fun _ => none, fun k => if k = 0 then some p2 else none, lawL N.length di, lawS (ns.map .int), .ok (.rt (.bl true)) l S, ?_, ⟨fun b o e => ?_, fun b o e => (by cases e), fun _ _ _ => rfl, fun k c e => ?_, fun k c _ e => (by cases e), fun k k' b e1 e2 => ?_, fun k b e => ?_, fun k hk => ?_, fun p hp => ?_⟩, he, fun F' ρ' x H' _ _ r => ?_⟩
  · unfold lawL
    rw [← hlen]
    exact rl_none.set (.loc (if_pos rfl))
  · by_cases hb : b = p1
    · have e : (if b = p1 then some (HO.lst (ns.map V.int)) else none) = some o := e
      rw [if_pos hb] at e
      cases e
      rw [hb, upd_ne hne, upd_same]
    · have e : (if b = p1 then some (HO.lst (ns.map V.int)) else none) = some o := e
      rw [if_neg hb] at e
      cases e
  · have e : getC k [(0, Cell.lst [.lst (ns.map .int), .int 0, .int 0])] = some c := e
    rw [getC_cons] at e
    by_cases hk : k = 0
    · rw [if_pos hk] at e
      cases e
      exact ⟨p2, .lst [.ref p1, .int 0, .int 0], if_pos hk, if_neg (Ne.symm hne), rfl, upd_same, _, rfl, .cons (.lst hF (reps_ints ns)) (.cons (.int 0) (.cons (.int 0) .nil))⟩
    · rw [if_neg hk] at e
      cases e
  · have f1 : k = 0 := by
      by_cases h : k = 0
      · exact h
      · have e1 : (if k = 0 then some p2 else none) = some b := e1
        rw [if_neg h] at e1; cases e1
    have f2 : k' = 0 := by
      by_cases h : k' = 0
      · exact h
      · have e2 : (if k' = 0 then some p2 else none) = some b := e2
        rw [if_neg h] at e2; cases e2
    rw [f1, f2]
  · have f1 : k = 0 := by
      by_cases h : k = 0
      · exact h
      · have e : (if k = 0 then some p2 else none) = some b := e
        rw [if_neg h] at e; cases e
    subst f1
    exact .inl ⟨_, rfl⟩
  · have hk' : 1 ≤ k := hk
    exact if_neg (by omega)
  · have h1 : p.1 ≠ p1 := fun z => by have := htb p hp; rw [z, hp1] at this; cases this
    have h2 : p.1 ≠ p2 := fun z => by have := htb p hp; rw [z, hp2] at this; cases this
    exact ⟨#[], by rw [upd_ne h2, upd_ne h1]; exact htb p hp, if_neg h1, rfl, True.intro, fun pos cv hc => by
      have z : PySem.codeAmong pos [] = some cv := hc
      simp [PySem.codeAmong] at z⟩
  · cases r
    exact hq H'
end
end Z

set_option Elab.async false
set_option linter.all false
set_option maxRecDepth 100000
set_option maxHeartbeats 4000000
/-! ZH0: the facts of a row's top, from plain tests: how arguments bind. -/
namespace Z
open PySem PySem.Spec PyProof.Rows L2
/-- positional parameters alone, no default -/
def plainPs (ps : List Str) : Arguments → Bool
  | ⟨[], args, none, [], [], none, []⟩ => decide (args.map (·.arg) = ps)
  | _ => false
theorem lookup_zip : ∀ {ps : List Str} {us : List Value} {i : Nat} {y : Str} {u : Value}, ps.Nodup → ps[i]? = some y → us[i]? = some u → (ps.zip us).lookup y = some u
  | [], _, i, _, _, _, h, _ => by cases i <;> cases h
  | _ :: _, [], i, _, _, _, _, h => by cases i <;> cases h
  | p :: ps, v :: us, 0, y, u, nd, h1, h2 => by
    have e1 : p = y := by simpa using h1
    have e2 : v = u := by simpa using h2
    subst e1 e2
    simp [List.zip, List.lookup]
  | p :: ps, v :: us, i + 1, y, u, nd, h1, h2 => by
    have h1 : ps[i]? = some y := by simpa using h1
    have h2 : us[i]? = some u := by simpa using h2
    rw [List.nodup_cons] at nd
    have hne : (y == p) = false := by
      simp only [beq_eq_false_iff_ne, ne_eq]
      intro e
      exact nd.1 (e ▸ List.mem_of_getElem? h1)
    show List.lookup y ((p, v) :: ps.zip us) = some u
    simp only [List.lookup, hne]
    exact lookup_zip nd.2 h1 h2
theorem filter_zip {ps : List Str} {us : List Value} (nd : ps.Nodup) (hl : us.length = ps.length) : (ps.filterMap fun n => ((ps.zip us).lookup n).map (n, ·)) = ps.zip us := by
  have go : ∀ (k : Nat), k ≤ ps.length → ((ps.drop k).filterMap fun n => ((ps.zip us).lookup n).map (n, ·)) = (ps.drop k).zip (us.drop k) := by
    intro k hk
    generalize hj : ps.length - k = j
    induction j generalizing k with
    | zero =>
      have : ps.length ≤ k := by omega
      rw [List.drop_eq_nil_of_le this]
      rfl
    | succ j ih =>
      have hlt : k < ps.length := by omega
      have hlu : k < us.length := by omega
      rw [List.drop_eq_getElem_cons hlt, List.drop_eq_getElem_cons hlu, List.filterMap_cons, lookup_zip nd (List.getElem?_eq_getElem hlt) (List.getElem?_eq_getElem hlu)]
      dsimp only [Option.map_some]
      rw [ih (k + 1) (by omega) (by omega)]
      rfl
  simpa using go 0 (Nat.zero_le _)
theorem all_there {ps : List Str} {us : List Value} (nd : ps.Nodup) (hl : us.length = ps.length) : ∀ n ∈ ps, ((ps.zip us).lookup n).isNone = false := fun n hn => by
  obtain ⟨i, hi, e⟩ := List.mem_iff_getElem.mp hn
  rw [lookup_zip nd (i := i) (y := n) (u := us[i]'(by omega)) (by rw [List.getElem?_eq_getElem hi, e]) (List.getElem?_eq_getElem (by omega))]
  rfl
theorem bind_plain {x qual : Str} {params : Arguments} {body : List Stmt} {scope : Scope} {kV doc pm cdv ct : Value} {an : Option Addr} {ps : List Str} (h : plainPs ps params = true) (nd : ps.Nodup) {us : List Value} (hl : us.length = ps.length) :
    bindArgs (PySem.W.fnOf x qual params body scope .none kV doc pm an cdv ct) ⟨us, []⟩ = pure (ps.zip us) := by
  unfold plainPs at h
  split at h
  · rename_i args
    have e := of_decide_eq_true h
    subst e
    have hm : ((args.map (·.arg)).filter fun n => (((args.map (·.arg)).zip us).lookup n).isNone) = [] := by
      rw [List.filter_eq_nil_iff]
      intro n hn
      rw [all_there nd hl n hn]
      exact Bool.false_ne_true
    have hg : ¬ (us.length > (args.map (·.arg)).length) := by omega
    have e0 : seqItems? Value.none = pure none := rfl
    unfold bindArgs
    dsimp only [PySem.W.fnOf, List.map_nil, List.nil_append]
    generalize hps : List.map (fun x : Arg => x.arg) args = ps at *
    have hlt : ¬ (ps.length < us.length) := by omega
    have htake : ps.take ps.length = ps := List.take_length
    simp only [e0, pure_bind, List.forIn_nil, Option.getD_none, List.length_nil, Nat.sub_zero, htake, hm, List.append_nil, List.drop_length, List.zip_nil_right, List.zip_nil_left, List.isEmpty_nil, filter_zip nd hl, List.drop_nil, Nat.zero_sub]
    simp [hlt, hm, filter_zip nd hl]
  · cases h
end Z

set_option Elab.async false
set_option linter.all false
set_option maxRecDepth 100000
set_option maxHeartbeats 4000000
/-! ZH1: facts of a row's top: constants, classes of errors. -/
namespace Z
open PySem PySem.Spec PyProof.Rows L2
/-! ### constants -/
def okSB (s : List Nat) : Bool := decide (s.length ≤ 16777216) && s.all fun c => decide (c < 1114112)
theorem okSB_ok {s : List Nat} (h : okSB s = true) : okS s := by
  obtain ⟨h1, h2⟩ := andT h
  exact ⟨of_decide_eq_true h1, fun c hc => of_decide_eq_true (List.all_eq_true.mp h2 c hc)⟩
def valsB (f : PV → Value → Bool) : List PV → List Value → Bool
  | [], [] => true
  | v :: vs, u :: us => f v u && valsB f vs us
  | _, _ => false
def valB (K : PySem.W.Frag) : Nat → PV → Value → Bool
  | 0, _, _ => false
  | n + 1, v, u => match v with
    | .non => (match u with
      | .none => true
      | _ => false)
    | .bl b => (match u with
      | .bool c => b == c
      | _ => false)
    | .int i => (match u with
      | .int j _ => decide (j = i)
      | _ => false)
    | .str s => (match u with
      | .str z _ => decide (z = strV s) && okSB s
      | _ => false)
    | .tup xs => (match u with
      | .ref a => (match K.lookup a with
        | some ⟨.type c, none, .seq its _, _⟩ => decide (c = "tuple") && decide (its.size ≤ sizeLine) && valsB (valB K n) xs its.toList
        | _ => false)
      | _ => false)
    | _ => false
theorem valB_ok {T : Top} : ∀ (n : Nat) {v : PV} {u : Value}, valB T.K n v u = true → ∃ y, RelV y u ∧ ∀ F ρ, Rep T F ρ v y := by
  intro n
  induction n with
  | zero => intro v u h; cases h
  | succ n ih =>
    intro v u h
    have go : ∀ (vs : List PV) (us : List Value), valsB (valB T.K n) vs us = true → ∃ ys, Vals ys us ∧ ∀ F ρ, Reps T F ρ vs ys := by
      intro vs
      induction vs with
      | nil => intro us h; cases us with
        | nil => exact ⟨[], .nil, fun _ _ => .nil⟩
        | cons u us => cases h
      | cons v vs ihv =>
        intro us h
        cases us with
        | nil => cases h
        | cons u us =>
          obtain ⟨h1, h2⟩ := andT (show (valB T.K n v u && valsB (valB T.K n) vs us) = true from h)
          obtain ⟨y, g1, g2⟩ := ih h1
          obtain ⟨ys, g3, g4⟩ := ihv us h2
          exact ⟨y :: ys, .cons g1 g3, fun F ρ => .cons (g2 F ρ) (g4 F ρ)⟩
    cases v with
    | non => cases u with
      | none => exact ⟨.non, rfl, fun _ _ => .non⟩
      | _ => cases h
    | bl b => cases u with
      | bool c =>
        have e : b = c := eq_of_beq h
        subst e
        exact ⟨.bl b, rfl, fun _ _ => .bl b⟩
      | _ => cases h
    | int i => cases u with
      | int j t =>
        have e : j = i := of_decide_eq_true h
        subst e
        exact ⟨.int j, ⟨t, rfl⟩, fun _ _ => .int j⟩
      | _ => cases h
    | str s => cases u with
      | str z t =>
        obtain ⟨h1, h2⟩ := andT (show (decide (z = strV s) && okSB s) = true from h)
        have e : z = strV s := of_decide_eq_true h1
        subst e
        exact ⟨.str (strV s), ⟨t, rfl⟩, fun _ _ => .str s (okSB_ok h2)⟩
      | _ => cases h
    | tup xs => cases u with
      | ref a =>
        have h : (match T.K.lookup a with
        | some ⟨.type c, none, .seq its _, _⟩ => decide (c = "tuple") && decide (its.size ≤ sizeLine) && valsB (valB T.K n) xs its.toList
        | _ => false) = true := h
        split at h
        · rename_i c its m sl hlk
          obtain ⟨h1, h2⟩ := andT h
          obtain ⟨h3, h4⟩ := andT h1
          have e : c = "tuple" := of_decide_eq_true h3
          subst e
          obtain ⟨ys, g1, g2⟩ := go xs _ h2
          exact ⟨.ref a, rfl, fun F ρ => .tup ⟨.inr ⟨_, its, m, hlk, rfl, rfl, of_decide_eq_true h4, g1⟩, _, rfl, .inr hlk⟩ (g2 F ρ)⟩
        · cases h
      | _ => cases h
    | _ => cases h
def glbV (K : PySem.W.Frag) (x : Str) (v : PV) : Bool := match PySem.W.nsIn K mainGlobals x with
  | some (some u) => valB K 8 v u
  | _ => false
theorem glbV_ok {T : Top} {h : Heap} {mg : Str → Option Value} {x : Str} {v : PV} (X : T.K.In h) (G : h.Ns mainGlobals mg) (c : glbV T.K x v = true) : ∃ u y, mg x = some u ∧ RelV y u ∧ ∀ F ρ, Rep T F ρ v y := by
  unfold glbV at c
  split at c
  · rename_i u hu
    obtain ⟨y, g1, g2⟩ := valB_ok 8 c
    exact ⟨u, y, PySem.W.mg_of X G hu, g1, g2⟩
  · cases c
end Z

set_option Elab.async false
set_option linter.all false
set_option maxRecDepth 100000
set_option maxHeartbeats 4000000
/-! ZH2: the classes of errors: they are made, their field is read, they are told apart. -/
namespace Z
open PySem PySem.Spec PyProof.Rows L2 PySem.W
def oexB (K : Frag) (C : Addr) : Bool := (match K.lookup C with
  | some ⟨.type "type", _, .cls cd, sl⟩ => (match cd.mro, sl.toList with
    | .ref C' :: bm, [_, _, _, _, some (.builtin n), _] => C' == C && n == "ValueError.__new__" && !cd.hasDel && cd.hasDict && PySem.HandSPX.refsVE bm
    | _, _ => false)
  | _ => false) && decide (findIn K (.ref C) "__setattr__" = some (some (.builtin "object.__setattr__"))) && decide (subIn K (.ref C) (.type "BaseException") = some true) && decide (typeIn K (.ref C) = some (.type "type")) && keepIn K (.ref C)
theorem oexB_ok {K : Frag} {C : Addr} (q : oexB K C = true) : OexC K C := by
  unfold oexB at q
  obtain ⟨q, q5⟩ := andT q
  obtain ⟨q, q4⟩ := andT q
  obtain ⟨q, q3⟩ := andT q
  obtain ⟨q, q2⟩ := andT q
  refine ⟨?_, of_decide_eq_true q2, of_decide_eq_true q3, of_decide_eq_true q4, q5⟩
  split at q
  · rename_i dd cd sl ho
    split at q
    · rename_i C' bm k0 k1 k2 k3 n k5 hm hs
      simp only [Bool.and_eq_true, beq_iff_eq, Bool.not_eq_true'] at q
      obtain ⟨⟨⟨⟨rfl, rfl⟩, hdel⟩, hdi⟩, ht⟩ := q
      obtain ⟨nm, bs, mro, ns, qn, hd, sn, sub, ab, col, del⟩ := cd
      dsimp only at hm hdel hdi
      subst hm hdel hdi
      have hsl : sl = #[k0, k1, k2, k3, some (.builtin "ValueError.__new__"), k5] := by
        obtain ⟨l⟩ := sl
        simp only at hs
        rw [hs]
      subst hsl
      exact ⟨nm, qn, ns, bs, bm, sn, sub, ab, col, dd, k0, k1, k2, k3, k5, ho, ht⟩
    · cases q
  · cases q
def initScB (ps : List Str) (sc : Scope) : Bool := decide (sc.kind = .function) && !sc.isCoroutine && !sc.isGenerator && decide ps.Nodup && ps.all (fun x => decide (sc.names.lookup x = some .local)) && sc.names.all (fun y => !decide (y.2 = .cell) && (!decide (y.2 = .free) || decide (y.1 = ("__class__" : Str)))) &&
  decide (sc.names.lookup ("__class__" : Str) = some .free) && decide (sc.names.lookup ("super" : Str) = some .globalImplicit)
theorem initScB_ok {ps : List Str} {sc : Scope} (h : initScB ps sc = true) : InitS ps sc := by
  unfold initScB at h
  simp only [Bool.and_eq_true, Bool.or_eq_true, Bool.not_eq_true', decide_eq_true_eq, decide_eq_false_iff_not, List.all_eq_true] at h
  obtain ⟨⟨⟨⟨⟨⟨⟨h1, h2⟩, h3⟩, h4⟩, h5⟩, h6⟩, h7⟩, h8⟩ := h
  exact ⟨h1, h2, h3, h4, h5, fun y hy => (h6 y hy).1, fun y hy e => (h6 y hy).2.elim (fun z => absurd e z) id, h7, h8⟩
/-- the text of such an __init__ -/
def initBody (fld : Str) (self x : Str) : List Stmt → Bool
  | [.Expr (.Call (.Attribute (.Call (.Name su _) [] [] _) ini p2) [.Constant (.str _) _ _] [] p4) _, .Assign [.Attribute (.Name self' _) fl _] (.Name x' _) _] =>
    decide (su = "super") && decide (ini = "__init__") && decide (self' = self) && decide (x' = x) && decide (fl = fld) && (p2.endLine == p4.line)
  | _ => false
theorem initBody_inv {fld self x : Str} {body : List Stmt} (h : initBody fld self x body = true) : ∃ (p0 p1 p2 p3 p4 p5 q0 q1 q2 q3 : Pos) (msg : Str) (j : Nat),
    body = [.Expr (.Call (.Attribute (.Call (.Name "super" p0) [] [] p1) "__init__" p2) [.Constant (.str msg) j p3] [] p4) p5, .Assign [.Attribute (.Name self q0) fld q1] (.Name x q2) q3] ∧ (p2.endLine == p4.line) = true := by
  unfold initBody at h
  split at h
  · simp only [Bool.and_eq_true, decide_eq_true_eq] at h
    obtain ⟨⟨⟨⟨⟨rfl, rfl⟩, rfl⟩, rfl⟩, rfl⟩, h6⟩ := h
    exact ⟨_, _, _, _, _, _, _, _, _, _, _, _, rfl, h6⟩
  · cases h
def initFd (main : Str) (K : Frag) (C : Addr) (fld : Str) : FuncData → Bool
  | ⟨name, qual, ⟨[], [⟨self, none, _⟩, ⟨x, none, _⟩], none, [], [], none, []⟩, .stmts body, scope, globals, [(cl, cc)], .none, _, _, _, _, .ref cA, _, builtins⟩ =>
    decide (name = "__init__") && initBody fld self x body && decide (globals = mainGlobals) && decide (cl = "__class__") && decide (builtins = builtinsNs) && codeIn K (.ref cA) qual && initScB [self, x] scope &&
      (match K.lookup cA with
        | some ⟨_, _, .fields vs, _⟩ => (match (vs[2]? : Option Value) with
          | some (.str file _) => main == file
          | _ => false)
        | _ => false) &&
      (match K.lookup cc with
        | some ⟨_, _, .cell (some (.ref C')), _⟩ => decide (C' = C)
        | _ => false) && ([self, x].all fun z => !(z == ("__debug__" : Str)) && !(z == ("__classdict__" : Str)))
  | _ => false
def initB (main : Str) (K : Frag) (C : Addr) (fld : Str) : Bool := (match findIn K (.ref C) "__init__" with
  | some (some (.ref f)) => decide (typeIn K (.ref f) = some (.type "function")) && (match K.lookup f with
    | some ⟨_, _, .func fd, _⟩ => initFd main K C fld fd
    | _ => false)
  | _ => false) && decide (ks_superIn K C C "__init__" = some (some (.builtin veI))) && decide (subIn K (.ref C) (.type "ValueError") = some true) && decide (subIn K (.ref C) (.ref C) = some true) && decide (nsIn K cStatics "thirdparty.any" = some none) && decide (findIn K (.ref C) fld = some none)
theorem bind_two {q : Str} {self x : Str} {b1 b2 : Pos} {body : List Stmt} {scope : Scope} {cc : Addr} {kV doc pm cdv ct : Value} {an : Option Addr} (nd : [self, x].Nodup) {us : List Value} (hl : us.length = 2) :
    bindArgs (fnI q ⟨[], [⟨self, none, b1⟩, ⟨x, none, b2⟩], none, [], [], none, []⟩ body scope cc .none kV doc pm an cdv ct) ⟨us, []⟩ = pure ([self, x].zip us) := by
  have h := bind_plain (x := "__init__") (qual := q) (params := ⟨[], [⟨self, none, b1⟩, ⟨x, none, b2⟩], none, [], [], none, []⟩) (body := body) (scope := scope) (kV := kV) (doc := doc) (pm := pm) (cdv := cdv) (ct := ct) (an := an) (ps := [self, x]) (by unfold plainPs; exact decide_eq_true rfl) nd hl
  exact h
section
variable {T : Top} {prog : Program} {base : Heap} {mg : Str → Option Value}
theorem init_mk {main : Str} {C : Addr} {fld : Str} (hm : prog.main.file = main) (htop : (prog.main.scope.names.lookup ("super" : Str)).isSome = false) (hsup : mg "super" = none) (O : OexC T.K C) (h : initB main T.K C fld = true) (k : Nat) :
    ∃ (fI : Addr) (fd : FuncData) (self p : Str), findIn T.K (.ref C) "__init__" = some (some (.ref fI)) ∧ typeIn T.K (.ref fI) = some (.type "function") ∧ Binds T.K fd [self, p] [] ∧ FnOk prog T.w T.K mg base (L2.CX prog T.w) (k + 1) fI fd [self, p] (spI C fld) := by
  unfold initB at h
  obtain ⟨h, h6⟩ := andT h
  obtain ⟨h, h5⟩ := andT h
  obtain ⟨h, h4⟩ := andT h
  obtain ⟨h, h3⟩ := andT h
  obtain ⟨h, h2⟩ := andT h
  split at h
  · rename_i f hf
    obtain ⟨h1, h⟩ := andT h
    split at h
    · rename_i oc od fd osl hlk
      unfold initFd at h
      split at h
      · rename_i name qual self b1 x b2 body scope globals cl cc kV doc pm an cA ct builtins
        obtain ⟨h, a10⟩ := andT h
        obtain ⟨h, a9⟩ := andT h
        obtain ⟨h, a8⟩ := andT h
        obtain ⟨h, a7⟩ := andT h
        obtain ⟨h, a6⟩ := andT h
        obtain ⟨h, a5⟩ := andT h
        obtain ⟨h, a4⟩ := andT h
        obtain ⟨h, a3⟩ := andT h
        obtain ⟨a1, a2⟩ := andT h
        have e1 := of_decide_eq_true a1
        have e3 := of_decide_eq_true a3
        have e4 := of_decide_eq_true a4
        have e5 := of_decide_eq_true a5
        subst e1 e3 e4 e5
        obtain ⟨p0, p1, p2, p3, p4, p5, q0, q1, q2, q3, msg, j, eb, c6⟩ := initBody_inv a2
        have S := initScB_ok a7
        split at a8
        · rename_i o1 o2 vsA o3 hA
          split at a8
          · rename_i file tf hAf
            split at a9
            · rename_i r1 r2 C' r3 hcc
              have e9 := of_decide_eq_true a9
              subst e9
              subst eb
              have lk : T.K.lookup f = some ⟨oc, od, .func (fnI qual ⟨[], [⟨self, none, b1⟩, ⟨x, none, b2⟩], none, [], [], none, []⟩ [.Expr (.Call (.Attribute (.Call (.Name "super" p0) [] [] p1) "__init__" p2) [.Constant (.str msg) j p3] [] p4) p5, .Assign [.Attribute (.Name self q0) fld q1] (.Name x q2) q3] scope cc .none kV doc pm an (.ref cA) ct), osl⟩ := hlk
              refine ⟨f, _, self, x, hf, of_decide_eq_true h1, .all fun us hl => bind_two S.nd hl, fn_init (ar := ⟨self, none, b1⟩) O lk a6 hA rfl hAf (by rw [hm]; exact a8) htop rfl rfl ⟨_, hcc, rfl⟩ hsup (of_decide_eq_true h2) (of_decide_eq_true h3) (of_decide_eq_true h4) (of_decide_eq_true h5) (of_decide_eq_true h6) S c6 fun z hz => ?_⟩
              have := List.all_eq_true.mp a10 z hz
              obtain ⟨g1, g2⟩ := andT this
              exact ⟨notT g1, notT g2⟩
            · cases a9
          · cases a8
        · cases a8
      · cases h
    · cases h
  · cases h
end
end Z

set_option Elab.async false
set_option linter.all false
set_option maxRecDepth 100000
set_option maxHeartbeats 4000000
/-! ZH3: except clauses, checked. -/
namespace Z
open PySem PySem.Spec PyProof.Rows L2 PySem.W
abbrev ClsL := List (Str × List Str)
def fldB (cl : ClsL) (cs : List Nat) (f : Nat) (n : Str) : Bool := cs.all fun c => match cl[c]? with
  | some (_, [fl]) => decide (f = 0) && decide (fl = n)
  | _ => false
def oneHE (cl : ClsL) (cs : List Nat) (i : Nat) (nm : Str) : CE → Expr → Bool
  | .cst v, .Constant c _ _ => cstB v c
  | .fld (.var j) f, .Attribute (.Name y _) n _ => Nat.beq i j && decide (y = nm) && fldB cl cs f n
  | _, _ => false
def listHE (cl : ClsL) (cs : List Nat) (i : Nat) (nm : Str) : List CE → List Expr → Bool
  | [], [] => true
  | c :: r, e :: es => oneHE cl cs i nm c e && noStar e && listHE cl cs i nm r es
  | _, _ => false
def ckHE (cl : ClsL) (cs : List Nat) (i : Nat) (nm : Str) (ce : CE) (e : Expr) : Bool := match ce with
  | .tup es => (match e with
    | .Tuple es' _ _ => listHE cl cs i nm es es' && decide (es.length ≤ 100)
    | _ => false)
  | ce => oneHE cl cs i nm ce e
def ckHs (cl : ClsL) (cn : List (Str × Nat)) (subs : List (List Nat)) (N : List Str) (sc : Scope) : List (List Nat × Nat × CE) → List ExceptHandler → Bool
  | [], [] => true
  | (cs, i, ce) :: hs, .ExceptHandler (some (.Name x _)) (some n) [.Return (some ex) _] _ :: hds => glB sc x && (match cn.lookup x with
      | some h => decide (subs[h]? = some cs)
      | none => false) && decide (N[i]? = some n) && decide (sc.names.lookup n = some .local) && !(n == ("__debug__" : Str)) && !(n == ("__classdict__" : Str)) && ckHE cl cs i n ce ex && ckHs cl cn subs N sc hs hds
  | _, _ => false
/-- what the classes of a top tell -/
structure ClsOk (T : Top) (mg : Str → Option Value) (cl : ClsL) (cn : List (Str × Nat)) (subs : List (List Nat)) : Prop where
  nc : T.nc = cl.length
  fl : ∀ c, T.fl c = (cl.getD c ("", [])).2
  gl : ∀ x h, cn.lookup x = some h → mg x = some (.ref (T.ca h))
  ex : ∀ h cs, subs[h]? = some cs → ∀ c, c < T.nc → PySem.W.exmOne T.K (.ref (T.ca c)) (.ref (T.ca h)) = some (memN c cs)
  one : ∀ c x fl, cl[c]? = some (x, [fl]) → XfC T.K (T.ca c) ∧ PySem.W.findIn T.K (.ref (T.ca c)) fl = some none
section
variable {T : Top} {mg : Str → Option Value} {cl : ClsL} {cn : List (Str × Nat)} {subs : List (List Nat)} {X : Cx} {N : List Str} {sc : Scope}
theorem memN_mem : ∀ {c : Nat} {cs : List Nat}, memN c cs = true → c ∈ cs
  | c, [], h => by cases h
  | c, a :: r, h => by
    unfold memN at h
    split at h
    · rename_i e
      rw [Nat.eq_of_beq_eq_true e]
      exact List.mem_cons_self
    · exact List.mem_cons_of_mem _ (memN_mem h)
theorem fld_ok (C : ClsOk T mg cl cn subs) {cs : List Nat} {f : Nat} {n : Str} (h : fldB cl cs f n = true) : FldOk T cs f n := fun c hc hlt => by
  have q := List.all_eq_true.mp h c (memN_mem hc)
  split at q
  · rename_i x fl hcl
    obtain ⟨q1, q2⟩ := andT q
    have e1 := of_decide_eq_true q1
    have e2 := of_decide_eq_true q2
    subst e1 e2
    obtain ⟨g1, g2⟩ := C.one c x fl hcl
    have hf : T.fl c = [fl] := by
      rw [C.fl, List.getD_eq_getElem?_getD, hcl]
      rfl
    rw [hf]
    exact ⟨rfl, by simp, g1, g2⟩
  · cases q
variable {i : Nat} {cs : List Nat} {nm : Str} {a : Addr} {oe : Obj} {cls : Value} {d : Option Addr} {pn : List (Addr × Obj)}
theorem oneHE_ok (C : ClsOk T mg cl cn subs) (hK : X.K = T.K) (hN : X.N[i]? = some nm) (hv : Vis X.env.scope nm) (hdb : (nm == ("__debug__" : Str)) = false) (hcd : (nm == ("__classdict__" : Str)) = false) (hz : Zc cls d oe) (hd : ∃ vs, oe.data = .fields vs) {ce : CE} {e : Expr} (h : oneHE cl cs i nm ce e = true) :
    PE (X.suite a ((a, oe) :: pn)) e (tHd T (Rep T) cs i a cls d fun fs => evH i fs ce) := by
  unfold oneHE at h
  split at h
  · exact hd_cst h
  · rename_i j f y p n p2
    obtain ⟨h, h3⟩ := andT h
    obtain ⟨h1, h2⟩ := andT h
    have e1 := Nat.eq_of_beq_eq_true h1
    have e2 := of_decide_eq_true h2
    subst e1 e2
    have e : (fun fs : List PV => evH i fs (.fld (.var i) f)) = fun fs => nth fs f := by
      funext fs
      show (if Nat.beq i i then nth fs f else none) = _
      rw [Nat.beq_refl, if_pos rfl]
    rw [e]
    exact hd_fld hK (fld_ok C h3) hN hv hdb hcd hz hd
  · cases h
theorem evHs_cons {i : Nat} {fs : List PV} {c : CE} {r : List CE} {w : List PV} (h : evH.evHs i fs (c :: r) = some w) : ∃ v vs, evH i fs c = some v ∧ evH.evHs i fs r = some vs ∧ w = v :: vs := by
  cases c with
  | cst v =>
    have h : (match evH.evHs i fs r with | some t => some (v :: t) | none => none) = some w := h
    split at h
    · rename_i t ht
      cases h
      exact ⟨v, t, rfl, ht, rfl⟩
    · cases h
  | fld e f =>
    cases e with
    | var j =>
      have h : (if Nat.beq i j then (match nth fs f with
        | some v => match evH.evHs i fs r with
          | some t => some (v :: t)
          | none => none
        | none => none) else none) = some w := h
      split at h
      · rename_i hb
        split at h
        · rename_i v hv
          split at h
          · rename_i t ht
            cases h
            refine ⟨v, t, ?_, ht, rfl⟩
            show (if Nat.beq i j then nth fs f else none) = some v
            rw [if_pos hb]
            exact hv
          · cases h
        · cases h
      · cases h
    | _ => cases h
  | _ => cases h
theorem listHE_ok (C : ClsOk T mg cl cn subs) (hK : X.K = T.K) (hN : X.N[i]? = some nm) (hv : Vis X.env.scope nm) (hdb : (nm == ("__debug__" : Str)) = false) (hcd : (nm == ("__classdict__" : Str)) = false) (hz : Zc cls d oe) (hd : ∃ vs, oe.data = .fields vs) : ∀ {ces : List CE} {es : List Expr}, listHE cl cs i nm ces es = true →
    PA (X.suite a ((a, oe) :: pn)) es (tHd T (Reps T) cs i a cls d fun fs => evH.evHs i fs ces)
  | [], [], _ => hd_nil
  | c :: r, e :: es, h => by
    obtain ⟨h, h3⟩ := andT (show (oneHE cl cs i nm c e && noStar e && listHE cl cs i nm r es) = true from h)
    obtain ⟨h1, h2⟩ := andT h
    exact hd_cons (oneHE_ok C hK hN hv hdb hcd hz hd h1) (listHE_ok C hK hN hv hdb hcd hz hd h3) h2 fun fs w hw => evHs_cons hw
theorem evHs_len {i : Nat} {fs : List PV} : ∀ {ces : List CE} {w : List PV}, evH.evHs i fs ces = some w → w.length = ces.length
  | [], w, h => by cases h; rfl
  | c :: r, w, h => by
    obtain ⟨v, vs, _, h2, rfl⟩ := evHs_cons h
    rw [List.length_cons, List.length_cons, evHs_len h2]
theorem ckHE_ok (C : ClsOk T mg cl cn subs) (hK : X.K = T.K) (hN : X.N[i]? = some nm) (hv : Vis X.env.scope nm) (hdb : (nm == ("__debug__" : Str)) = false) (hcd : (nm == ("__classdict__" : Str)) = false) (hz : Zc cls d oe) (hd : ∃ vs, oe.data = .fields vs) {ce : CE} {e : Expr} (h : ckHE cl cs i nm ce e = true) :
    PE (X.suite a ((a, oe) :: pn)) e (tHd T (Rep T) cs i a cls d fun fs => evH i fs ce) := by
  unfold ckHE at h
  split at h
  · rename_i es
    split at h
    · rename_i es' k p
      obtain ⟨h1, h2⟩ := andT h
      refine hd_tup (listHE_ok C hK hN hv hdb hcd hz hd h1) fun fs w hw => ?_
      have hw : (match evH.evHs i fs es with | some vs => some (PV.tup vs) | none => none) = some w := hw
      split at hw
      · rename_i vs hvs
        cases hw
        exact ⟨vs, hvs, by rw [evHs_len hvs]; exact of_decide_eq_true h2, rfl⟩
      · cases hw
    · cases h
  · exact oneHE_ok C hK hN hv hdb hcd hz hd h
theorem ckHs_ok (C : ClsOk T mg cl cn subs) (hK : X.K = T.K) (hN : X.N = N) (hsc : X.env.scope = sc) (hmg : X.mg = mg) : ∀ {hs : List (List Nat × Nat × CE)} {hds : List ExceptHandler}, ckHs cl cn subs N sc hs hds = true → HsOk T X hds hs
  | [], [], _ => .nil
  | (cs, i, ce) :: hs, .ExceptHandler (some (.Name x _)) (some n) [.Return (some ex) _] _ :: hds, h => by
    unfold ckHs at h
    obtain ⟨h, h8⟩ := andT h
    obtain ⟨h, h7⟩ := andT h
    obtain ⟨h, h6⟩ := andT h
    obtain ⟨h, h5⟩ := andT h
    obtain ⟨h, h4⟩ := andT h
    obtain ⟨h, h3⟩ := andT h
    obtain ⟨h1, h2⟩ := andT h
    obtain ⟨g1, g2⟩ := gl_of hsc h1
    have hn : X.env.scope.names.lookup n = some .local := by rw [hsc]; exact of_decide_eq_true h4
    have hNi : X.N[i]? = some n := by rw [hN]; exact of_decide_eq_true h3
    split at h2
    · rename_i k hk
      have hs' := of_decide_eq_true h2
      exact .cons ⟨g1, g2, .inl (by rw [hmg]; exact C.gl _ _ hk)⟩ hNi hn (C.ex k cs hs') (fun a oe cls d pn hz hd => ckHE_ok C hK hNi (.inl hn) (notT h5) (notT h6) hz hd h7) (ckHs_ok C hK hN hsc hmg h8)
    · cases h2
end
end Z

set_option Elab.async false
set_option linter.all false
set_option maxRecDepth 100000
set_option maxHeartbeats 4000000
/-! ZH4: a row's top by one sheet: what is looked at, what follows. -/
namespace Z
open PySem PySem.Spec PyProof.Rows L2
/-! ### what the head looks at: also the model's own table of what stays -/
def asY (g : Addr → Option Obj) (n : Nat) : List Addr := PySem.cStatics :: He.asD g n
def obsY (n : Nat) (fn : List He.DefD) (tf : List He.Defn) (ex : PySem.W.Frag → Bool) (g : Addr → Option Obj) : He.AlX :=
  let K := He.frT g (asY g n)
  (He.obsT [] fn [] K, ex K && He.tabsB g tf K)
theorem saysY_of {n : Nat} {fn : List He.DefD} {tf : List He.Defn} {ex : PySem.W.Frag → Bool} {w : World} {h : Heap} (e : obsY n fn tf ex h.get? = He.valX fn [] w) : He.SaysX [] fn [] tf ex w h (He.frT h.get? (asY h.get? n)) := by
  obtain ⟨m, t⟩ := andT (congrArg Prod.snd e)
  have em : ∀ p ∈ tf, PySem.W.codeHdIn (He.frT h.get? (asY h.get? n)) (He.cT (He.frT h.get? (asY h.get? n)) p).1 (He.cT (He.frT h.get? (asY h.get? n)) p).2 = true ∧ ∃ o, h.get? (He.cT (He.frT h.get? (asY h.get? n)) p).2 = some o ∧ He.emptyTab o = true := fun p hp => by
    obtain ⟨q1, q2⟩ := andT (List.all_eq_true.mp t p hp)
    split at q2
    · exact ⟨q1, _, by assumption, q2⟩
    · cases q2
  refine ⟨congrArg Prod.fst e, m, fun p hp => (em p hp).1, fun p hp => ?_, fun p hp => ?_⟩
  · obtain ⟨o, g1, g2⟩ := (em p hp).2
    exact He.frT_none g1 g2
  · obtain ⟨o, g1, g2⟩ := (em p hp).2
    rw [g1, He.emptyTab_eq g2]
def hookY (n : Nat) (fn : List He.DefD) (tf : List He.Defn) (ex : PySem.W.Frag → Bool) : PySem.W.Hook where
  α := He.AlX
  obs := fun s => obsY n fn tf ex s.heap.get?
  val := fun w => He.valX fn [] w
  says := fun w h => ∃ K : PySem.W.Frag, K.In h ∧ He.SaysX [] fn [] tf ex w h K
  of := fun _ _ e => ⟨_, He.frT_in, saysY_of e⟩
  keeps := fun _ _ _ ⟨K, hK, c⟩ k => ⟨K, hK.keeps k, c.t, c.more, c.hd, c.out, fun p hp => k _ _ (c.empty p hp)⟩
theorem obsY_eq {n : Nat} {fn : List He.DefD} {tf : List He.Defn} {ex : PySem.W.Frag → Bool} {g : Addr → Option Obj} {s : Shared} (h : ∀ a, g a = s.heap.get? a) : obsY n fn tf ex g = (hookY n fn tf ex).obs s := by
  rw [show g = s.heap.get? from funext h]
  rfl
structure FnS where
  name : Str
  params : Arguments
  body : List Stmt
  scope : Scope
  N : List Str
  ps : List Str
  lm : Bool
structure Sheet where
  P : Prog
  D : Cfg
  cl : ClsL
  cn : List (Str × Nat)
  subs : List (List Nat)
  fns : List FnS
  /-- the file -/
  main : Str
namespace Sheet
variable (S : Sheet)
def dfn (d : FnS) : He.DefD := ⟨(d.name, none), d.name, d.name, d.params, d.body, d.scope, [], []⟩
def fn : List He.DefD := S.fns.map dfn
def lamq (d : FnS) : Str := (envOfC d.name d.scope 0 0 .none).qual ++ "<lambda>"
def tf : List He.Defn := (S.fns.filter (·.lm)).map fun d => (d.name, none)
def nameF (i : Nat) : Str := match S.fns[i]? with
  | some d => d.name
  | none => ""
def clsAt (c : Nat) : Str × List Str := S.cl.getD c ("", [])
def tabs (K : PySem.W.Frag) : List (Addr × Str) := (S.fns.filter (·.lm)).map fun d => ((He.cT K (d.name, none)).2, lamq d)
def top (prog : Program) (w : World) (K : PySem.W.Frag) : Top := ⟨prog, w, K, fun i => He.ga K (S.nameF i), fun c => He.ga K (S.clsAt c).1, fun c => (S.clsAt c).2, S.cl.length, S.tabs K⟩
/-- a class -/
def clsB (K : PySem.W.Frag) (x : Str) (fl : List Str) : Bool := (He.Fa.glo x).ok K && oexB K (He.ga K x) && (match fl with
  | [f] => initB S.main K (He.ga K x) f && xfB K (He.ga K x) && decide (PySem.W.findIn K (.ref (He.ga K x)) f = some none)
  | _ => true)
def subB (K : PySem.W.Frag) : Bool := (List.range S.subs.length).all fun h => (List.range S.cl.length).all fun c => decide (PySem.W.exmOne K (.ref (He.ga K (S.clsAt c).1)) (.ref (He.ga K (S.clsAt h).1)) = some (memN c (S.subs.getD h [])))
def glbB (K : PySem.W.Frag) : Bool := S.D.glbs.all fun p => match nth S.P.glbs p.2 with
  | some v => glbV K p.1 v
  | none => false
/-- what is looked at besides the defs -/
def ex (K : PySem.W.Frag) : Bool := (S.fns.all fun d => (He.Fa.glo d.name).ok K) && (S.cl.all fun p => S.clsB K p.1 p.2) && S.subB K && (S.D.blts.all fun x => (He.Fa.free x).ok K) && S.glbB K && (He.Fa.free "super").ok K && decide ((S.tabs K).map (·.1)).Nodup
/-- what the text alone tells -/
def cnB : Bool := S.cn.all fun p => decide ((S.clsAt p.2).1 = p.1) && decide (p.2 < S.cl.length)
def clsD : Bool := S.D.cls.all fun p => match S.cl[p.2]? with
  | some (x, [_]) => decide (x = p.1)
  | _ => false
def toldB (x : Str) (k : Nat) (d : FnS) : Bool := decide (d.name = x) && (match d.body with
  | [.Try [.Expr (.Call (.Name a _) [] [] _) _, .Return (some (.Constant .none _ _)) _] (h :: hds) [] [] _] => (match nth S.P.tolds k with
    | some (ns, hs) => plainPs [a] d.params && C8.scC d.N [a] d.scope && decide (d.N[0]? = some a) && visB d.scope a && decide (ns = d.N.length) && ckHs S.cl S.cn S.subs d.N d.scope hs (h :: hds) && !(a == ("__debug__" : Str)) && !(a == ("__classdict__" : Str))
    | none => false)
  | _ => false)
def toldsB : Bool := S.D.tolds.all fun p => S.fns.any fun d => S.toldB p.1 p.2 d
def defB (x : Str) (i : Nat) (d : FnS) : Bool := decide (d.name = x) && C8.scC d.N d.ps d.scope && plainPs d.ps d.params && (match nth S.P.fns i with
  | some cf => decide (cf.np = d.ps.length) && decide (cf.ns = d.N.length) && ckSs (ckS S.P S.D d.N d.scope d.lm 60) cf.body d.body
  | none => false)
def defsB : Bool := S.D.fns.all fun p => match S.fns[p.2]? with
  | some d => S.defB p.1 p.2 d
  | none => false
end Sheet
section
variable {S : Sheet} {prog : Program} {w : World} {K : PySem.W.Frag} {base : Heap} {mg : Str → Option Value}
theorem ex_parts (h : S.ex K = true) : (∀ d ∈ S.fns, (He.Fa.glo d.name).ok K = true) ∧ (∀ p ∈ S.cl, S.clsB K p.1 p.2 = true) ∧ S.subB K = true ∧ (∀ x ∈ S.D.blts, (He.Fa.free x).ok K = true) ∧ S.glbB K = true ∧ (He.Fa.free "super").ok K = true ∧ ((S.tabs K).map (·.1)).Nodup := by
  unfold Sheet.ex at h
  obtain ⟨h, h7⟩ := andT h
  obtain ⟨h, h6⟩ := andT h
  obtain ⟨h, h5⟩ := andT h
  obtain ⟨h, h4⟩ := andT h
  obtain ⟨h, h3⟩ := andT h
  obtain ⟨h1, h2⟩ := andT h
  exact ⟨List.all_eq_true.mp h1, List.all_eq_true.mp h2, h3, List.all_eq_true.mp h4, h5, h6, of_decide_eq_true h7⟩
theorem clsAt_of {c : Nat} {p : Str × List Str} (h : S.cl[c]? = some p) : S.clsAt c = p := by
  unfold Sheet.clsAt
  rw [List.getD_eq_getElem?_getD, h]
  rfl
theorem cls_parts {x : Str} {fl : List Str} (h : S.clsB K x fl = true) : (He.Fa.glo x).ok K = true ∧ OexC K (He.ga K x) ∧ ∀ f, fl = [f] → initB S.main K (He.ga K x) f = true ∧ XfC K (He.ga K x) ∧ PySem.W.findIn K (.ref (He.ga K x)) f = some none := by
  unfold Sheet.clsB at h
  obtain ⟨h, h3⟩ := andT h
  obtain ⟨h1, h2⟩ := andT h
  refine ⟨h1, oexB_ok h2, fun f e => ?_⟩
  subst e
  obtain ⟨h3, h5⟩ := andT h3
  obtain ⟨h3, h4⟩ := andT h3
  exact ⟨h3, xfB_ok h4, of_decide_eq_true h5⟩
theorem clsOk_of (X : K.In base) (G : base.Ns mainGlobals mg) (h : S.ex K = true) (hc : S.cnB = true) : ClsOk (S.top prog w K) mg S.cl S.cn S.subs := by
  obtain ⟨e1, e2, e3, e4, e5, e6, e7⟩ := ex_parts h
  refine ⟨rfl, fun c => rfl, fun x hh hx => ?_, fun hh cs hs c hlt => ?_, fun c x fl hcl => ?_⟩
  · have := List.all_eq_true.mp hc _ (PySem.mem_of_lookup hx)
    obtain ⟨q1, q2⟩ := andT this
    have q1 : (S.clsAt hh).1 = x := of_decide_eq_true q1
    have q2 : hh < S.cl.length := of_decide_eq_true q2
    have hm := e2 _ (List.getElem_mem q2)
    have e : S.clsAt hh = S.cl[hh] := clsAt_of (List.getElem?_eq_getElem q2)
    obtain ⟨g1, _, _⟩ := cls_parts hm
    rw [← e, q1] at g1
    show mg x = some (.ref (He.ga K (S.clsAt hh).1))
    rw [q1]
    exact He.glo_ok X G g1
  · have hlt' : hh < S.subs.length := (List.getElem?_eq_some_iff.mp hs).1
    have q := List.all_eq_true.mp e3 hh (List.mem_range.mpr hlt')
    have q2 := of_decide_eq_true (List.all_eq_true.mp q c (List.mem_range.mpr hlt))
    rw [List.getD_eq_getElem?_getD, hs] at q2
    exact q2
  · obtain ⟨_, _, g⟩ := cls_parts (e2 _ (List.mem_of_getElem? hcl))
    obtain ⟨_, g2, g3⟩ := g fl rfl
    have e : S.clsAt c = (x, [fl]) := clsAt_of hcl
    refine ⟨?_, ?_⟩
    · show XfC K (He.ga K (S.clsAt c).1)
      rw [e]
      exact g2
    · show PySem.W.findIn K (.ref (He.ga K (S.clsAt c).1)) fl = some none
      rw [e]
      exact g3
theorem told_of (X : K.In base) (G : base.Ns mainGlobals mg) (hF : ∀ d ∈ S.fns, ∃ fd, FunD K d.name d.name d.params d.body d.scope [] [] (He.ga K d.name) fd) (h : S.ex K = true) (hc : S.cnB = true) {x : Str} {k : Nat} {d : FnS} (hd : d ∈ S.fns) (ht : S.toldB x k d = true) : ToldOk (S.top prog w K) S.P prog base mg x k := by
  have CO := clsOk_of (prog := prog) (w := w) X G h hc
  obtain ⟨e1, _⟩ := ex_parts h
  obtain ⟨fd, F⟩ := hF d hd
  obtain ⟨name, params, body, scope, N, ps, lm⟩ := d
  unfold Sheet.toldB at ht
  obtain ⟨t0, tb⟩ := andT ht
  clear ht
  replace t0 : name = x := of_decide_eq_true t0
  subst t0
  dsimp only at tb F
  split at tb
  · rename_i a p1 p2 p3 j p4 p5 hh hds p6
    split at tb
    · rename_i ns hs hk
      obtain ⟨ht, t8⟩ := andT tb
      obtain ⟨ht, t7⟩ := andT ht
      obtain ⟨ht, t6⟩ := andT ht
      obtain ⟨ht, t5⟩ := andT ht
      obtain ⟨ht, t4⟩ := andT ht
      obtain ⟨ht, t3⟩ := andT ht
      obtain ⟨t1, t2⟩ := andT ht
      have Sc := C8.fnScope_by t2
      have hb : Binds K fd [a] [] := F.bindsN fun kV doc pm an cdv ct us hl => bind_plain t1 (by simp) hl
      obtain ⟨oc, od, dV, kV, doc, pm, an, cdv, ct, osl, rfl, lk, hcd, _, _⟩ := F.ex
      exact ⟨a, He.ga K name, ns, j, hs, params, scope, dV, kV, doc, pm, cdv, ct, oc, an, od, osl, N, hh, hds, p1, p2, p3, p4, p5, p6, hk, He.glo_ok X G (e1 _ hd), F.kp, lk, hcd, hb, Sc, of_decide_eq_true t3, vis_of t4, Sc.nd, of_decide_eq_true t5, fun A outer s H => ckHs_ok CO rfl rfl rfl rfl t6, notT t7, notT t8⟩
    · cases tb
  · cases tb
theorem top_of (hm : prog.main.file = S.main) (htop : (prog.main.scope.names.lookup ("super" : Str)).isSome = false) (X : K.In base) (G : base.Ns mainGlobals mg) (hF : ∀ d ∈ S.fns, ∃ fd, FunD K d.name d.name d.params d.body d.scope [] [] (He.ga K d.name) fd)
    (h : S.ex K = true) (hc : S.cnB = true) (hcd : S.clsD = true) (ht : S.toldsB = true) : TopS (S.top prog w K) S.P S.D prog base mg := by
  obtain ⟨e1, e2, e3, e4, e5, e6, e7⟩ := ex_parts h
  refine ⟨fun x hx => ?_, fun x g hg => ?_, fun x c hx => ?_, fun x k hk => ?_⟩
  · exact He.free_ok X G (e4 x (List.contains_iff_mem.mp hx))
  · have q := List.all_eq_true.mp e5 _ (PySem.mem_of_lookup hg)
    dsimp only at q
    split at q
    · rename_i v hv
      obtain ⟨u, y, g1, g2, g3⟩ := glbV_ok (T := S.top prog w K) X G q
      exact ⟨u, y, v, g1, g2, g3, hv⟩
    · cases q
  · have q := List.all_eq_true.mp hcd _ (PySem.mem_of_lookup hx)
    dsimp only at q
    split at q
    · rename_i y fl hcl
      have q : y = x := of_decide_eq_true q
      subst q
      obtain ⟨g0, g1, g⟩ := cls_parts (e2 _ (List.mem_of_getElem? hcl))
      obtain ⟨g2, g3, g4⟩ := g fl rfl
      have e : S.clsAt c = (y, [fl]) := clsAt_of hcl
      have ec : (S.top prog w K).ca c = He.ga K y := by
        show He.ga K (S.clsAt c).1 = _
        rw [e]
      have O : OexC (S.top prog w K).K ((S.top prog w K).ca c) := by rw [ec]; exact g1
      have I : initB S.main (S.top prog w K).K ((S.top prog w K).ca c) fl = true := by rw [ec]; exact g2
      obtain ⟨fI, fd, self, p, i1, i2, i3, i4⟩ := init_mk (prog := prog) (base := base) (mg := mg) hm htop (He.free_ok X G e6) O I 0
      exact ⟨(List.getElem?_eq_some_iff.mp hcl).1, O, by rw [ec]; exact He.glo_ok X G g0, fI, fd, self, p, fl, i1, i2, by show (S.clsAt c).2 = _; rw [e], i3, i4⟩
    · cases q
  · have q := List.all_eq_true.mp ht _ (PySem.mem_of_lookup hk)
    obtain ⟨d, hd, q⟩ := List.any_eq_true.mp q
    exact told_of X G hF h hc hd q
theorem nodup_key {l : List (Addr × Str)} (h : (l.map (·.1)).Nodup) {a : Addr} {x y : Str} (h1 : (a, x) ∈ l) (h2 : (a, y) ∈ l) : x = y := by
  induction l with
  | nil => cases h1
  | cons p l ih =>
    rw [List.map_cons, List.nodup_cons] at h
    rcases List.mem_cons.mp h1 with e1 | h1
    · rcases List.mem_cons.mp h2 with e2 | h2
      · rw [← e1] at e2
        cases e2
        rfl
      · exact absurd (List.mem_map.mpr ⟨_, h2, by rw [← e1]⟩) h.1
    · rcases List.mem_cons.mp h2 with e2 | h2
      · exact absurd (List.mem_map.mpr ⟨_, h1, by rw [← e2]⟩) h.1
      · exact ih h.2 h1 h2
theorem lam_of (h : S.ex K = true) {d : FnS} (hd : d ∈ S.fns) {fd : FuncData} (F : FunD K d.name d.name d.params d.body d.scope [] [] (He.ga K d.name) fd) (hT : ∀ p ∈ S.tf, LamX.TabB base mg (He.cT K p).1 (He.cT K p).2) :
    d.lm = true → ∃ c Pt, fd.code = .ref c ∧ LamX.TabB base mg c Pt ∧ (Pt, (envOfC d.name d.scope 0 0 .none).qual ++ "<lambda>") ∈ (S.top prog w K).tabs ∧ ∀ p ∈ (S.top prog w K).tabs, p.1 = Pt → p.2 = (envOfC d.name d.scope 0 0 .none).qual ++ "<lambda>" := fun hl => by
  obtain ⟨e1, e2, e3, e4, e5, e6, e7⟩ := ex_parts h
  obtain ⟨oc, od, dV, kV, doc, pm, an, cdv, ct, osl, rfl, lk, hcd, _, _⟩ := F.ex
  obtain ⟨c, rfl⟩ := He.codeIn_ref hcd
  have hco : He.codeOf K (d.name, none) = c := He.codeOf_eq (p := (d.name, none)) lk rfl
  have hmem : d ∈ S.fns.filter (·.lm) := List.mem_filter.mpr ⟨hd, hl⟩
  have hT1 := hT (d.name, none) (List.mem_map.mpr ⟨d, hmem, rfl⟩)
  have hin : ((He.cT K (d.name, none)).2, Sheet.lamq d) ∈ S.tabs K := List.mem_map.mpr ⟨d, hmem, rfl⟩
  refine ⟨c, (He.cT K (d.name, none)).2, rfl, ?_, hin, fun p hp ep => ?_⟩
  · have e : (He.cT K (d.name, none)).1 = c := hco
    rw [← e]
    exact hT1
  · obtain ⟨pa, pb⟩ := p
    have ep : pa = (He.cT K (d.name, none)).2 := ep
    subst ep
    exact nodup_key e7 hp hin
theorem defs_of (X : K.In base) (G : base.Ns mainGlobals mg) (hF : ∀ d ∈ S.fns, ∃ fd, FunD K d.name d.name d.params d.body d.scope [] [] (He.ga K d.name) fd) (h : S.ex K = true) (hT : ∀ p ∈ S.tf, LamX.TabB base mg (He.cT K p).1 (He.cT K p).2) (hdf : S.defsB = true) :
    ∀ x i, S.D.fns.lookup x = some i → DefOk (S.top prog w K) S.P S.D base mg x i := fun x i hx => by
  obtain ⟨e1, _⟩ := ex_parts h
  have q := List.all_eq_true.mp hdf _ (PySem.mem_of_lookup hx)
  dsimp only at q
  split at q
  · rename_i d hd
    have hd' := List.mem_of_getElem? hd
    unfold Sheet.defB at q
    obtain ⟨q, q4⟩ := andT q
    obtain ⟨q, q3⟩ := andT q
    obtain ⟨q1, q2⟩ := andT q
    have q1 : d.name = x := of_decide_eq_true q1
    subst q1
    split at q4
    · rename_i cf hcf
      obtain ⟨q4, q6⟩ := andT q4
      obtain ⟨q4, q5⟩ := andT q4
      obtain ⟨fd, F⟩ := hF d hd'
      have Sc := C8.fnScope_by q2
      have hn : ∃ z, d.ps.Nodup := ⟨trivial, by rw [← Sc.pre]; exact Sc.nd.sublist (List.take_sublist _ _)⟩
      obtain ⟨_, hn⟩ := hn
      have hb : Binds K fd d.ps [] := F.bindsN fun kV doc pm an cdv ct us hl => bind_plain q3 hn hl
      have ef : (S.top prog w K).fa i = He.ga K d.name := by
        show He.ga K (S.nameF i) = _
        unfold Sheet.nameF
        rw [hd]
      refine ⟨d.params, d.body, d.scope, d.N, d.ps, fd, d.lm, 60, cf, by rw [ef]; exact F, by rw [ef]; exact He.glo_ok X G (e1 d hd'), hb, Sc, hcf, of_decide_eq_true q4, of_decide_eq_true q5, q6, lam_of h hd' F hT⟩
    · cases q4
  · cases q
end
end Z

set_option Elab.async false
set_option linter.all false
set_option maxRecDepth 100000
set_option maxHeartbeats 4000000
/-! ZH5: a law of such a row, from its sheet and the evaluator's run. -/
namespace Z
open PySem PySem.Spec PyProof.Rows L2
def lawB (S : Sheet) (d : FnS) (di : Nat) (cr : List CS) : Bool := decide (d.name = ("law" : Str)) && C8.scC d.N ["script"] d.scope && plainPs ["script"] d.params && (match d.body with
  | st :: rest => lawFirst st && ckSs (ckS S.P S.D d.N d.scope d.lm 60) cr rest
  | [] => false) && decide (d.N[di]? = some ("draw" : Str)) && (decide (d.scope.names.lookup ("draw" : Str) = some .local) || decide (d.scope.names.lookup ("draw" : Str) = some .cell))
/-- all that the text alone tells -/
structure SheetOk (S : Sheet) (d : FnS) (di : Nat) (cr : List CS) : Prop where
  mem : d ∈ S.fns
  cn : S.cnB = true
  cls : S.clsD = true
  tolds : S.toldsB = true
  defs : S.defsB = true
  law : lawB S d di cr = true
theorem funs_of {S : Sheet} {ts : List He.Tab} {w : World} {h : Heap} {K : PySem.W.Frag} (c : He.SaysX [] S.fn ts S.tf S.ex w h K) : ∀ d ∈ S.fns, ∃ fd, FunD K d.name d.name d.params d.body d.scope [] [] (He.ga K d.name) fd := fun d hd =>
  He.SaysD.defs c.t.d (d := Sheet.dfn d) (List.mem_map.mpr ⟨d, hd, rfl⟩)
theorem law_at {S : Sheet} {d : FnS} {di n : Nat} {cr : List CS} {l : PySem.W.OpenLaw} {ts : List He.Tab} {w : World} {h : Heap} {K : PySem.W.Frag} {mg : Str → Option Value} {fa : Addr} (ok : SheetOk S d di cr)
    (hm : l.prog.main.file = S.main) (htop : (l.prog.main.scope.names.lookup ("super" : Str)).isSome = false) (X : K.In h) (G : h.Ns mainGlobals mg) (hmg : mg ("law" : Str) = some (.ref fa)) (c : He.SaysX [] S.fn ts S.tf S.ex w h K)
    (hrun : ∀ ns : List Int, ns.length ≤ 63 → ∃ l S', evSs (run S.P n) cr (lawL d.N.length di) (lawS (ns.map .int)) = some (.ok (.rt (.bl true)) l S')) :
    LamX.LawAtS l w K (L2.CX l.prog w) (n + 1) 63 "script" mg fa h := by
  have hF := funs_of c
  obtain ⟨e1, _⟩ := ex_parts c.more
  obtain ⟨name, params, body, scope, N, ps, lm⟩ := d
  have hl := ok.law
  unfold lawB at hl
  obtain ⟨hl, l6⟩ := andT hl
  obtain ⟨hl, l5⟩ := andT hl
  obtain ⟨hl, l4⟩ := andT hl
  obtain ⟨hl, l3⟩ := andT hl
  obtain ⟨l1, l2⟩ := andT hl
  replace l1 : name = "law" := of_decide_eq_true l1
  subst l1
  dsimp only at l2 l3 l4 l5 l6
  have hmem := ok.mem
  obtain ⟨fd, F⟩ := hF _ hmem
  dsimp only at F
  have ea : fa = He.ga K "law" := by
    have e := hmg.symm.trans (He.glo_ok X G (e1 _ hmem))
    cases e
    rfl
  subst ea
  cases body with
  | nil => cases l4
  | cons st rest =>
    obtain ⟨l7, l8⟩ := andT (show (lawFirst st && ckSs (ckS S.P S.D N scope lm 60) cr rest) = true from l4)
    have Sc := C8.fnScope_by l2
    refine ⟨fd, S.tf.map (He.cT K), spLaw (S.top l.prog w K), fun p hp => ?_, fun p hp => ?_, fun p hp => ?_, fun s u => ?_, fun H a ns hlen _ hT hS => ?_, fun base XB GB hT => ?_⟩
    · obtain ⟨q, hq, rfl⟩ := List.mem_map.mp hp
      exact c.empty q hq
    · obtain ⟨q, hq, rfl⟩ := List.mem_map.mp hp
      exact c.out q hq
    · obtain ⟨q, hq, rfl⟩ := List.mem_map.mp hp
      exact PySem.W.codeHd_of_K X (c.hd q hq)
    · exact (FunD.bindsA (ps := ["script"]) F fun kV doc pm an cdv ct us hl => bind_plain l3 (by simp) hl) s [u] rfl
    · refine ⟨a, ns, rfl, hlen, hS, fun p hp => ?_, fun _ => rfl⟩
      obtain ⟨q, hq, rfl⟩ := List.mem_map.mp hp
      exact hT (He.cT K (q.name, none)) (List.mem_map.mpr ⟨(q.name, none), List.mem_map.mpr ⟨q, hq, rfl⟩, rfl⟩)
    · have hT' : ∀ p ∈ S.tf, LamX.TabB base mg (He.cT K p).1 (He.cT K p).2 := fun p hp => hT _ (List.mem_map.mpr ⟨p, hp, rfl⟩)
      have top := top_of (prog := l.prog) (w := w) hm htop XB GB hF c.more ok.cn ok.cls ok.tolds
      have fns := fns_all top (defs_of (prog := l.prog) (w := w) XB GB hF c.more hT' ok.defs)
      exact law_ok (T := S.top l.prog w K) (P := S.P) (D := S.D) (prog := l.prog) (N := N) (lm := lm) (m := 60) (di := di) F Sc top fns l7 (of_decide_eq_true l5) ((Bool.or_eq_true_iff.mp l6).imp of_decide_eq_true of_decide_eq_true) l8 (lam_of c.more hmem F hT') hrun
end Z

set_option Elab.async false
set_option linter.all false
set_option maxRecDepth 1000000
set_option maxHeartbeats 4000000
namespace Z.k31
open PySem PySem.Spec PyProof.Rows L2 Z
abbrev pw : Program := PySem.Challenge.pw_settledways_k31_whole_relations_refused
def top (i : Nat) : Stmt := pw.main.body.getD i (.Pass ⟨0, 0, 0, 0⟩)
def names : List (List PySem.Str) := [["thing"],
  ["thing", "least", "most"],
  ["thing", "many"],
  ["thing", "sign"],
  ["things", "one", "other"],
  ["thing", "one"],
  ["houses", "thing", "one", "other", "length"],
  ["thing", "one"],
  ["houses", "thing", "one", "other", "told"],
  ["thing", "houses", "one"],
  ["houses", "thing", "one", "other", "reflector"],
  ["thing"],
  ["thing"],
  ["thing", "one", "other"],
  ["thing", "one", "told", "part", "pair", "other"],
  ["thing"],
  ["relations", "house", "other", "pays", "peers"],
  ["kind", "wish", "late", "told"],
  ["thing", "one", "told"],
  ["routers", "ways", "links", "relations", "wishes", "houses", "one", "other", "borders", "speaker", "hearer", "kind", "net"],
  ["relations", "pays", "left", "found", "pair", "one", "free", "house", "other", "way", "ring", "at"],
  ["relations", "thing", "houses", "part", "pair", "one", "other"],
  ["relations", "thing", "one", "other"],
  ["relations", "houses", "signs", "one", "other"],
  ["script", "k"],
  ["cell", "k", "bound", "primes"],
  ["cell", "k", "bound", "power", "lap", "remains", "small"],
  ["draw", "bound", "at", "cell"],
  ["draw", "things"],
  ["work", "e"],
  ["script", "draw", "fine", "wrong", "one", "bad", "kind", "first", "wish", "due", "told", "routers", "wishes", "links", "net", "maps", "ring", "some"]]
def f0 : CFn := ⟨1, 1, [.ret (.and (.isi (.var 0) .int) (.not (.isi (.var 0) .bool)))]⟩
def f1 : CFn := ⟨3, 3, [.ret (.and (.call 0 [(.var 0)]) (.cmp2 .le .le (.var 1) (.var 0) (.var 2)))]⟩
def f2 : CFn := ⟨2, 2, [.ret (.and (.isi (.var 0) .tuple) (.cmp .eq (.blt false .len [(.var 0)]) (.var 1)))]⟩
def f3 : CFn := ⟨1, 2, [.ifs (.or (.not (.isi (.var 0) .str)) (.or (.not (.cmp2 .le .le (.cst (.int 1)) (.blt false .len [(.var 0)]) (.glb 2))) (.cmp .notin (.idx (.var 0) (.cst (.int 0))) (.glb 0)))) [.ret (.cst (.bl false))] [], .ret (.blt false .all [(.lc false (.or (.cmp .isin (.var 1) (.glb 0)) (.cmp .isin (.var 1) (.glb 1))) [.mk (.nm 1) (.val (.var 0)) none] [1])])]⟩
def f4 : CFn := ⟨1, 3, [.ret (.blt false .all [(.lc false (.cmp .lt (.var 1) (.var 2)) [.mk (.tup [(.nm 1), (.nm 2)]) (.zip2 (.var 0) (.slc false (.var 0) (some (.cst (.int 1))) none)) none] [1, 2])])]⟩
def f5 : CFn := ⟨1, 2, [.ifs (.or (.not (.isi (.var 0) .tuple)) (.not (.cmp2 .le .le (.cst (.int 1)) (.blt false .len [(.var 0)]) (.glb 3)))) [.ret (.cst (.bl false))] [], .ifs (.not (.blt false .all [(.lc false (.and (.call 2 [(.var 1), (.cst (.int 2))]) (.and (.call 3 [(.idx (.var 1) (.cst (.int 0)))]) (.call 3 [(.idx (.var 1) (.cst (.int 1)))]))) [.mk (.nm 1) (.val (.var 0)) none] [1])])) [.ret (.cst (.bl false))] [], .ret (.call 4 [(.lc false (.idx (.var 1) (.cst (.int 0))) [.mk (.nm 1) (.val (.var 0)) none] [1])])]⟩
def f6 : CFn := ⟨2, 5, [.ifs (.or (.not (.call 2 [(.var 1), (.cst (.int 3))])) (.or (.not (.call 1 [(.idx (.var 1) (.cst (.int 2))), (.cst (.int 1)), (.glb 4)])) (.not (.blt false .all [(.lc false (.call 3 [(.var 2)]) [.mk (.nm 2) (.val (.slc false (.var 1) none (some (.cst (.int 2))))) none] [2])])))) [.ret (.cst (.bl false))] [], .asg (.tup [(.nm 2), (.nm 3), (.nm 4)]) (.var 1), .ret (.and (.cmp .isin (.var 2) (.var 0)) (.and (.cmp .isin (.var 3) (.var 0)) (.and (.cmp .lt (.var 2) (.var 3)) (.cmp .eq (.idx (.var 0) (.var 2)) (.idx (.var 0) (.var 3))))))]⟩
def f7 : CFn := ⟨1, 2, [.ret (.and (.call 2 [(.var 0), (.glb 5)]) (.blt false .all [(.lc false (.or (.cmp .isnone (.var 1) (.cst .non)) (.call 1 [(.var 1), (.cst (.int 0)), (.bin false .sub (.glb 5) (.cst (.int 1)))])) [.mk (.nm 1) (.val (.var 0)) none] [1])]))]⟩
def f8 : CFn := ⟨2, 5, [.ifs (.or (.not (.call 2 [(.var 1), (.cst (.int 3))])) (.or (.not (.blt false .all [(.lc false (.call 3 [(.var 2)]) [.mk (.nm 2) (.val (.slc false (.var 1) none (some (.cst (.int 2))))) none] [2])])) (.not (.call 7 [(.idx (.var 1) (.cst (.int 2)))])))) [.ret (.cst (.bl false))] [], .asg (.tup [(.nm 2), (.nm 3), (.nm 4)]) (.var 1), .ret (.and (.cmp .isin (.var 2) (.var 0)) (.and (.cmp .isin (.var 3) (.var 0)) (.cmp .ne (.idx (.var 0) (.var 2)) (.idx (.var 0) (.var 3)))))]⟩
def f9 : CFn := ⟨1, 3, [.ifs (.or (.not (.call 2 [(.var 0), (.cst (.int 4))])) (.not (.call 5 [(.idx (.var 0) (.cst (.int 0)))]))) [.ret (.cst (.bl false))] [], .asg (.nm 1) (.blt false .dict [(.idx (.var 0) (.cst (.int 0)))]), .ifs (.or (.not (.isi (.idx (.var 0) (.cst (.int 1))) .tuple)) (.not (.blt false .all [(.lc false (.call 6 [(.var 1), (.var 2)]) [.mk (.nm 2) (.val (.idx (.var 0) (.cst (.int 1)))) none] [2])]))) [.ret (.cst (.bl false))] [], .ifs (.or (.not (.isi (.idx (.var 0) (.cst (.int 2))) .tuple)) (.not (.blt false .all [(.lc false (.call 8 [(.var 1), (.var 2)]) [.mk (.nm 2) (.val (.idx (.var 0) (.cst (.int 2)))) none] [2])]))) [.ret (.cst (.bl false))] [], .ifs (.or (.not (.call 4 [(.lc false (.slc false (.var 2) none (some (.cst (.int 2)))) [.mk (.nm 2) (.val (.idx (.var 0) (.cst (.int 1)))) none] [2])])) (.not (.call 4 [(.lc false (.slc false (.var 2) none (some (.cst (.int 2)))) [.mk (.nm 2) (.val (.idx (.var 0) (.cst (.int 2)))) none] [2])]))) [.ret (.cst (.bl false))] [], .ret (.call 10 [(.var 1), (.idx (.var 0) (.cst (.int 3)))])]⟩
def f10 : CFn := ⟨2, 5, [.ifs (.or (.not (.isi (.var 1) .tuple)) (.not (.blt false .all [(.lc false (.call 2 [(.var 2), (.cst (.int 2))]) [.mk (.nm 2) (.val (.var 1)) none] [2])]))) [.ret (.cst (.bl false))] [], .ifs (.not (.blt false .all [(.lc false (.and (.call 3 [(.idx (.var 2) (.cst (.int 0)))]) (.and (.call 3 [(.idx (.var 2) (.cst (.int 1)))]) (.and (.cmp .isin (.idx (.var 2) (.cst (.int 0))) (.var 0)) (.cmp .isin (.idx (.var 2) (.cst (.int 1))) (.var 0))))) [.mk (.nm 2) (.val (.var 1)) none] [2])])) [.ret (.cst (.bl false))] [], .ifs (.or (.not (.blt false .all [(.lc false (.cmp .eq (.idx (.var 0) (.var 2)) (.idx (.var 0) (.var 3))) [.mk (.tup [(.nm 2), (.nm 3)]) (.val (.var 1)) none] [2, 3])])) (.not (.call 4 [(.var 1)]))) [.ret (.cst (.bl false))] [], .ret (.not (.blt false .any [(.lc false (.cmp .eq (.var 3) (.idx (.var 2) (.cst (.int 0)))) [.mk (.nm 2) (.val (.var 1)) none, .mk (.tup [(.nm 4), (.nm 3)]) (.val (.var 1)) none] [2, 4, 3])]))]⟩
def f11 : CFn := ⟨1, 1, [.ifs (.not (.call 9 [(.var 0)])) [.raise 1 [(.var 0)]] []]⟩
def f12 : CFn := ⟨1, 1, [.ret (.and (.call 2 [(.var 0), (.cst (.int 2))]) (.and (.call 3 [(.idx (.var 0) (.cst (.int 0)))]) (.call 3 [(.idx (.var 0) (.cst (.int 1)))])))]⟩
def f13 : CFn := ⟨1, 3, [.ifs (.or (.not (.isi (.var 0) .tuple)) (.not (.blt false .all [(.lc false (.call 12 [(.var 1)]) [.mk (.nm 1) (.val (.var 0)) none] [1])]))) [.ret (.cst (.bl false))] [], .ret (.and (.call 4 [(.var 0)]) (.blt false .all [(.lc false (.cmp .ne (.var 1) (.var 2)) [.mk (.tup [(.nm 1), (.nm 2)]) (.val (.var 0)) none] [1, 2])]))]⟩
def f14 : CFn := ⟨1, 6, [.ifs (.or (.not (.call 2 [(.var 0), (.cst (.int 2))])) (.not (.blt false .all [(.lc false (.call 13 [(.var 1)]) [.mk (.nm 1) (.val (.var 0)) none] [1])]))) [.ret (.cst (.bl false))] [], .asg (.nm 2) (.lc false (.blt false .tuple [(.blt false .sorted [(.var 4)])]) [.mk (.nm 3) (.val (.var 0)) none, .mk (.nm 4) (.val (.var 3)) none] [3, 4]), .ret (.and (.blt false .all [(.lc false (.cmp .lt (.var 1) (.var 5)) [.mk (.tup [(.nm 1), (.nm 5)]) (.val (.idx (.var 0) (.cst (.int 1)))) none] [1, 5])]) (.cmp .eq (.blt false .len [(.dc false (.var 1) (.cst (.bl true)) [.mk (.nm 1) (.val (.var 2)) none] [1])]) (.blt false .len [(.var 2)])))]⟩
def f15 : CFn := ⟨1, 1, [.ifs (.not (.call 14 [(.var 0)])) [.raise 2 [(.var 0)]] []]⟩
def f16 : CFn := ⟨3, 5, [.expr (.call 15 [(.var 0)]), .asg (.tup [(.nm 3), (.nm 4)]) (.var 0), .ifs (.cmp .isin (.tup [(.var 2), (.var 1)]) (.var 3)) [.ret (.cst (.str [99,117,115,116,111,109,101,114]))] [], .ifs (.cmp .isin (.tup [(.var 1), (.var 2)]) (.var 3)) [.ret (.cst (.str [112,114,111,118,105,100,101,114]))] [], .ret (.ite (.cmp .isin (.blt false .tuple [(.blt false .sorted [(.tup [(.var 1), (.var 2)])])]) (.var 4)) (.cst (.str [112,101,101,114])) (.cst .non))]⟩
def f17 : CFn := ⟨2, 4, [.ifs (.cmp .notin (.var 0) (.glb 6)) [.raise 2 [(.var 0)]] [], .ifs (.not (.call 1 [(.var 1), (.cst (.int 0)), (.cst (.int 2))])) [.raise 2 [(.var 1)]] [], .asg (.nm 2) (.bin false .add (.bin false .add (.cst (.int 1)) (.bin false .mul (.cst (.int 3)) (.meth .index (.glb 6) [(.var 0)]))) (.var 1)), .ret (.blt false .tuple [(.lc false (.ite (.or (.cmp .eq (.var 0) (.cst (.str [112,114,111,118,105,100,101,114]))) (.cmp .le (.var 3) (.cst (.int 3)))) (.var 2) (.cst .non)) [.mk (.nm 3) (.range1 (.cst (.int 10))) none] [3])])]⟩
def f18 : CFn := ⟨1, 3, [.ifs (.or (.not (.isi (.var 0) .dict)) (.not (.blt false .all [(.lc false (.call 12 [(.var 1)]) [.mk (.nm 1) (.val (.var 0)) none] [1])]))) [.ret (.cst (.bl false))] [], .ret (.blt false .all [(.lc false (.call 1 [(.var 2), (.cst (.int 0)), (.cst (.int 2))]) [.mk (.nm 2) (.values (.var 0)) none] [2])])]⟩
def f19 : CFn := ⟨5, 13, [.expr (.call 15 [(.var 3)]), .ifs (.not (.call 18 [(.var 4)])) [.raise 2 [(.var 4)]] [], .expr (.call 11 [(.tup [(.var 0), (.var 1), (.tup []), (.tup [])])]), .asg (.nm 5) (.blt false .dict [(.var 0)]), .ifs (.or (.not (.call 13 [(.var 2)])) (.not (.blt false .all [(.lc false (.and (.cmp .isin (.var 6) (.var 5)) (.cmp .isin (.var 7) (.var 5))) [.mk (.tup [(.nm 6), (.nm 7)]) (.val (.var 2)) none] [6, 7])]))) [.raise 2 [(.var 2)]] [], .asg (.nm 8) (.lst true []), .for_ (.tup [(.nm 6), (.nm 7)]) (.val (.var 2)) [.for_ (.tup [(.nm 9), (.nm 10)]) (.val (.tup [(.tup [(.var 6), (.var 7)]), (.tup [(.var 7), (.var 6)])])) [.asg (.nm 11) (.call 16 [(.var 3), (.idx (.var 5) (.var 10)), (.idx (.var 5) (.var 9))]), .ifs (.cmp .isnone (.var 11) (.cst .non)) [.raise 2 [(.tup [(.var 6), (.var 7)])]] [], .expr (.meth .append (.var 8) [(.tup [(.var 9), (.var 10), (.call 17 [(.var 11), (.meth .get (.var 4) [(.tup [(.idx (.var 5) (.var 10)), (.idx (.var 5) (.var 9))]), (.cst (.int 0))])])])])]], .asg (.nm 12) (.tup [(.var 0), (.var 1), (.blt false .tuple [(.sortk false (.var 8) false 0 [])]), (.tup [])]), .expr (.call 11 [(.var 12)]), .ret (.var 12)]⟩
def f20 : CFn := ⟨1, 12, [.expr (.call 15 [(.var 0)]), .asg (.nm 1) (.idx (.var 0) (.cst (.int 0))), .asg (.tup [(.nm 2), (.nm 3)]) (.tup [(.blt true .sorted [(.dc false (.var 5) (.cst (.bl true)) [.mk (.nm 4) (.val (.tup [(.star (.var 1)), (.star (.idx (.var 0) (.cst (.int 1))))])) none, .mk (.nm 5) (.val (.var 4)) none] [4, 5])]), (.lst true [])]), .while_ (.cmp .ne (.var 2) (.lst false [])) [.asg (.nm 6) (.lc false (.var 7) [.mk (.nm 7) (.val (.var 2)) (some (.not (.blt false .any [(.lc false (.and (.cmp .eq (.var 8) (.var 7)) (.cmp .isin (.var 5) (.var 2))) [.mk (.tup [(.nm 5), (.nm 8)]) (.val (.var 1)) none] [5, 8])])))] [7]), .ifs (.cmp .eq (.var 6) (.lst false [])) [.asg (.nm 9) (.lst true [(.idx (.var 2) (.cst (.int 0)))]), .while_ (.cmp .notin (.idx (.var 9) (.neg (.cst (.int 1)))) (.slc false (.var 9) none (some (.neg (.cst (.int 1)))))) [.expr (.meth .append (.var 9) [(.idx (.lc false (.var 5) [.mk (.tup [(.nm 5), (.nm 8)]) (.val (.var 1)) (some (.and (.cmp .eq (.var 8) (.idx (.var 9) (.neg (.cst (.int 1))))) (.cmp .isin (.var 5) (.var 2))))] [5, 8]) (.cst (.int 0)))])], .asg (.nm 10) (.rev false (.slc false (.var 9) (some (.meth .index (.var 9) [(.idx (.var 9) (.neg (.cst (.int 1))))])) (some (.neg (.cst (.int 1)))))), .asg (.nm 11) (.meth .index (.var 10) [(.blt false .min [(.var 10)])]), .ret (.tup [(.cst (.str [114,105,110,103])), (.tup [(.star (.slc false (.var 10) (some (.var 11)) none)), (.star (.slc false (.var 10) none (some (.var 11))))])])] [], .expr (.meth .append (.var 3) [(.idx (.var 6) (.cst (.int 0)))]), .expr (.meth .remove (.var 2) [(.idx (.var 6) (.cst (.int 0)))])], .ret (.tup [(.cst (.str [111,114,100,101,114])), (.blt false .tuple [(.var 3)])])]⟩
def f21 : CFn := ⟨2, 7, [.expr (.call 15 [(.var 0)]), .asg (.nm 2) (.blt false .sorted [(.dc false (.var 5) (.cst (.bl true)) [.mk (.nm 3) (.val (.var 0)) none, .mk (.nm 4) (.val (.var 3)) none, .mk (.nm 5) (.val (.var 4)) none] [3, 4, 5])]), .ifs (.or (.not (.isi (.var 1) .tuple)) (.or (.cmp .ne (.blt false .len [(.var 1)]) (.blt false .len [(.var 2)])) (.not (.blt false .all [(.lc false (.cmp .isin (.var 5) (.var 1)) [.mk (.nm 5) (.val (.var 2)) none] [5])])))) [.ret (.cst (.bl false))] [], .ret (.blt false .all [(.lc false (.cmp .lt (.meth .index (.var 1) [(.var 5)]) (.meth .index (.var 1) [(.var 6)])) [.mk (.tup [(.nm 5), (.nm 6)]) (.val (.idx (.var 0) (.cst (.int 0)))) none] [5, 6])])]⟩
def f22 : CFn := ⟨2, 4, [.expr (.call 15 [(.var 0)]), .ifs (.or (.not (.isi (.var 1) .tuple)) (.or (.cmp .lt (.blt false .len [(.var 1)]) (.cst (.int 2))) (.cmp .ne (.blt false .len [(.dc false (.blt false .repr [(.var 2)]) (.cst (.bl true)) [.mk (.nm 2) (.val (.var 1)) none] [2])]) (.blt false .len [(.var 1)])))) [.ret (.cst (.bl false))] [], .ret (.blt false .all [(.lc false (.cmp .isin (.tup [(.var 2), (.var 3)]) (.idx (.var 0) (.cst (.int 0)))) [.mk (.tup [(.nm 2), (.nm 3)]) (.zip2 (.var 1) (.tup [(.star (.slc false (.var 1) (some (.cst (.int 1))) none)), (.idx (.var 1) (.cst (.int 0)))])) none] [2, 3])])]⟩
def f23 : CFn := ⟨2, 5, [.expr (.call 15 [(.var 0)]), .asg (.nm 2) (.dct false [(.cst (.str [112,114,111,118,105,100,101,114])), (.cst (.str [112,101,101,114])), (.cst (.str [99,117,115,116,111,109,101,114])), (.cst .non)] [(.cst (.str [117])), (.cst (.str [112])), (.cst (.str [100])), (.cst (.str [63]))]), .ret (.meth .join (.cst (.str [])) [(.lc false (.idx (.var 2) (.call 16 [(.var 0), (.var 3), (.var 4)])) [.mk (.tup [(.nm 3), (.nm 4)]) (.zip2 (.var 1) (.slc false (.var 1) (some (.cst (.int 1))) none)) none] [3, 4])])]⟩
def f24 : CFn := ⟨2, 2, [.ifs (.cmp .lt (.var 1) (.blt false .len [(.var 0)])) [.ret (.idx (.var 0) (.var 1))] [], .ret (.cst (.int 0))]⟩
def f25 : CFn := ⟨3, 4, [.asg (.nm 3) (.tup [(.cst (.int 1000003)), (.cst (.int 1000033)), (.cst (.int 1000037)), (.cst (.int 1000039)), (.cst (.int 1000081)), (.cst (.int 1000099)), (.cst (.int 1000117)), (.cst (.int 1000121)), (.cst (.int 1000133)), (.cst (.int 1000151)), (.cst (.int 1000159)), (.cst (.int 1000171)), (.cst (.int 1000183)), (.cst (.int 1000187)), (.cst (.int 1000193)), (.cst (.int 1000199))]), .ret (.bin false .mod (.bin false .mod (.blt false .int [(.bin false .add (.bin false .mul (.var 0) (.cst (.int 48271))) (.bin false .mul (.var 1) (.cst (.int 69621))))]) (.idx (.var 3) (.bin false .mod (.blt false .int [(.var 1)]) (.cst (.int 16))))) (.var 2))]⟩
def f26 : CFn := ⟨3, 7, [.asg (.nm 3) (.cst (.int 1)), .for_ (.nm 4) (.range1 (.bin false .mod (.blt false .int [(.var 1)]) (.cst (.int 24)))) [.asg (.nm 3) (.bin false .mul (.var 3) (.cst (.int 1009)))], .asg (.nm 5) (.bin false .fdiv (.bin false .sub (.var 0) (.bin false .pow (.cst (.int 10)) (.cst (.int 18)))) (.var 3)), .ifs (.cmp .gt (.var 5) (.cst (.int 0))) [.ret (.bin false .mod (.bin false .mod (.blt false .int [(.var 5)]) (.cst (.int 1009))) (.var 2))] [], .asg (.nm 6) (.bin false .mod (.blt false .int [(.var 0)]) (.cst (.int 1000003))), .ret (.bin false .mod (.call 25 [(.bin false .mul (.bin false .add (.var 6) (.bin false .mul (.cst (.int 977)) (.var 1))) (.bin false .add (.bin false .add (.var 6) (.bin false .mul (.cst (.int 31)) (.var 1))) (.cst (.int 5)))), (.bin false .add (.bin false .mod (.blt false .int [(.var 1)]) (.cst (.int 9))) (.cst (.int 1))), (.cst (.int 999983))]) (.var 2))]⟩
def f27 : CFn := ⟨2, 4, [.asg (.sub (.var 0) (.cst (.int 2))) (.bin false .add (.idx (.var 0) (.cst (.int 2))) (.cst (.int 1))), .asg (.nm 2) (.bin false .fdiv (.idx (.var 0) (.cst (.int 2))) (.cst (.int 12))), .asg (.nm 3) (.bin false .add (.call 24 [(.idx (.var 0) (.cst (.int 0))), (.bin false .add (.idx (.var 0) (.cst (.int 1))) (.var 2))]) (.bin false .mul (.cst (.int 31)) (.var 2))), .ret (.call 26 [(.var 3), (.bin false .add (.bin false .mod (.blt false .int [(.idx (.var 0) (.cst (.int 2)))]) (.cst (.int 12))) (.cst (.int 1))), (.var 1)])]⟩
def f28 : CFn := ⟨2, 2, [.ret (.idx (.var 1) (.call 27 [(.var 0), (.blt false .len [(.var 1)])]))]⟩
def f29 : CFn := ⟨0, 0, []⟩
def f30 : CFn := ⟨1, 18, [.asg (.nm 2) (.tup [(.tup [(.tup [(.cst (.str [104])), (.cst (.str [107]))]), (.tup [(.cst (.str [109])), (.cst (.str [107]))])]), (.tup [(.tup [(.cst (.str [104])), (.cst (.str [109]))])])]), .asg (.nm 3) (.lst false [(.cst .non), (.tup []), (.slc false (.var 2) none (some (.cst (.int 1)))), (.blt false .list [(.var 2)]), (.tup [(.blt false .list [(.idx (.var 2) (.cst (.int 0)))]), (.idx (.var 2) (.cst (.int 1)))]), (.tup [(.rev false (.idx (.var 2) (.cst (.int 0)))), (.tup [])]), (.tup [(.tup [(.tup [(.cst (.str [104])), (.cst (.str [104]))])]), (.tup [])]), (.tup [(.tup [(.tup [(.cst (.str [104])), (.cst (.str [107]))]), (.tup [(.cst (.str [107])), (.cst (.str [104]))])]), (.tup [])]), (.tup [(.tup [(.tup [(.cst (.str [104])), (.cst (.str [107]))])]), (.tup [(.tup [(.cst (.str [104])), (.cst (.str [107]))])])]), (.tup [(.tup []), (.tup [(.tup [(.cst (.str [107])), (.cst (.str [104]))])])])]), .asg (.nm 3) (.bin false .add (.var 3) (.lst false [(.tup [(.tup [(.tup [(.cst (.str [72])), (.cst (.str [107]))])]), (.tup [])]), (.tup [(.tup [(.tup [(.cst (.str [104]))])]), (.tup [])]), (.tup [(.tup [(.tup [(.cst (.str [104])), (.cst .non)])]), (.tup [])]), (.tup [(.tup [(.lst false [(.cst (.str [104])), (.cst (.str [107]))])]), (.tup [])]), (.tup [(.tup [(.tup [(.cst (.str [104])), (.cst (.str [107]))]), (.tup [(.cst (.str [104])), (.cst (.str [107]))])]), (.tup [])]), (.bin false .add (.var 2) (.tup [(.tup [])]))])), .ifs (.or (.not (.call 14 [(.var 2)])) (.or (.not (.call 14 [(.tup [(.tup []), (.tup [])])])) (.blt false .any [(.lc false (.call 14 [(.var 4)]) [.mk (.nm 4) (.val (.var 3)) none] [4])]))) [.ret (.cst (.bl false))] [], .asg (.nm 5) (.call 28 [(.var 1), (.var 3)]), .ifs (.cmp .ne (.told 0 (.call 16 [(.var 5), (.cst (.str [104])), (.cst (.str [107]))])) (.tup [(.cst (.str [116,104,105,110,103])), (.var 5)])) [.ret (.cst (.bl false))] [], .ifs (.cmp .ne (.told 0 (.call 20 [(.var 5)])) (.tup [(.cst (.str [116,104,105,110,103])), (.var 5)])) [.ret (.cst (.bl false))] [], .ifs (.cmp .ne (.told 0 (.call 23 [(.var 5), (.tup [(.cst (.str [104]))])])) (.tup [(.cst (.str [116,104,105,110,103])), (.var 5)])) [.ret (.cst (.bl false))] [], .for_ (.tup [(.nm 6), (.nm 7)]) (.val (.tup [(.tup [(.cst (.str [99,117,115,116,111,109,101,114])), (.cst (.int 1))]), (.tup [(.cst (.str [112,101,101,114])), (.cst (.int 4))]), (.tup [(.cst (.str [112,114,111,118,105,100,101,114])), (.cst (.int 7))])])) [.for_ (.nm 8) (.val (.tup [(.cst (.int 0)), (.cst (.int 1)), (.cst (.int 2))])) [.asg (.nm 9) (.blt false .tuple [(.lc false (.ite (.or (.cmp .eq (.var 6) (.cst (.str [112,114,111,118,105,100,101,114]))) (.cmp .lt (.var 10) (.cst (.int 4)))) (.bin false .add (.var 7) (.var 8)) (.cst .non)) [.mk (.nm 10) (.range1 (.cst (.int 10))) none] [10])]), .ifs (.cmp .ne (.call 17 [(.var 6), (.var 8)]) (.var 9)) [.ret (.cst (.bl false))] []]], .ifs (.cmp .ne (.told 0 (.call 17 [(.cst (.str [102,114,105,101,110,100])), (.cst (.int 0))])) (.tup [(.cst (.str [116,104,105,110,103])), (.cst (.str [102,114,105,101,110,100]))])) [.ret (.cst (.bl false))] [], .for_ (.nm 8) (.val (.tup [(.cst (.int 3)), (.neg (.cst (.int 1))), (.cst (.bl true)), (.cst .non)])) [.asg (.nm 10) (.told 0 (.call 17 [(.cst (.str [112,101,101,114])), (.var 8)])), .ifs (.or (.cmp .isnone (.var 10) (.cst .non)) (.or (.cmp .ne (.idx (.var 10) (.cst (.int 0))) (.cst (.str [116,104,105,110,103]))) (.cmp .ne (.blt false .repr [(.idx (.var 10) (.cst (.int 1)))]) (.blt false .repr [(.var 8)])))) [.ret (.cst (.bl false))] []], .asg (.nm 11) (.tup [(.tup [(.cst (.str [97])), (.cst (.str [104]))]), (.tup [(.cst (.str [98])), (.cst (.str [107]))]), (.tup [(.cst (.str [99])), (.cst (.str [109]))]), (.tup [(.cst (.str [100])), (.cst (.str [122]))])]), .ifs (.cmp .ne (.told 0 (.call 19 [(.var 11), (.tup []), (.tup []), (.var 5), (.dct false [] [])])) (.tup [(.cst (.str [116,104,105,110,103])), (.var 5)])) [.ret (.cst (.bl false))] [], .for_ (.nm 12) (.val (.tup [(.cst .non), (.dct false [(.tup [(.cst (.str [104])), (.cst (.str [107]))])] [(.cst (.int 3))]), (.dct false [(.cst (.str [104]))] [(.cst (.int 1))]), (.dct false [(.tup [(.cst (.str [104])), (.cst (.str [107]))])] [(.cst (.bl true))]), (.dct false [(.tup [(.cst (.str [104])), (.cst (.str [75]))])] [(.cst (.int 0))])])) [.ifs (.cmp .ne (.told 0 (.call 19 [(.var 11), (.tup []), (.tup []), (.var 2), (.var 12)])) (.tup [(.cst (.str [116,104,105,110,103])), (.var 12)])) [.ret (.cst (.bl false))] []], .ifs (.cmp .ne (.told 0 (.call 19 [(.rev false (.var 11)), (.tup []), (.tup []), (.var 2), (.dct false [] [])])) (.tup [(.cst (.str [110,101,116])), (.tup [(.rev false (.var 11)), (.tup []), (.tup []), (.tup [])])])) [.ret (.cst (.bl false))] [], .for_ (.nm 13) (.val (.tup [(.cst .non), (.lst false [(.tup [(.cst (.str [97])), (.cst (.str [98]))])]), (.tup [(.tup [(.cst (.str [97])), (.cst (.str [97]))])]), (.tup [(.tup [(.cst (.str [97])), (.cst (.str [122,122]))])]), (.tup [(.tup [(.cst (.str [98])), (.cst (.str [97]))]), (.tup [(.cst (.str [97])), (.cst (.str [98]))])]), (.tup [(.tup [(.cst (.str [97])), (.cst (.str [98])), (.cst (.str [99]))])])])) [.ifs (.cmp .ne (.told 0 (.call 19 [(.var 11), (.tup []), (.var 13), (.var 2), (.dct false [] [])])) (.tup [(.cst (.str [116,104,105,110,103])), (.var 13)])) [.ret (.cst (.bl false))] []], .ifs (.cmp .ne (.told 0 (.call 19 [(.var 11), (.tup []), (.tup [(.tup [(.cst (.str [97])), (.cst (.str [98]))]), (.tup [(.cst (.str [97])), (.cst (.str [100]))])]), (.var 2), (.dct false [] [])])) (.tup [(.cst (.str [116,104,105,110,103])), (.tup [(.cst (.str [97])), (.cst (.str [100]))])])) [.ret (.cst (.bl false))] [], .asg (.nm 14) (.call 19 [(.var 11), (.tup []), (.tup [(.tup [(.cst (.str [97])), (.cst (.str [98]))]), (.tup [(.cst (.str [97])), (.cst (.str [99]))])]), (.var 2), (.dct false [(.tup [(.cst (.str [104])), (.cst (.str [107]))])] [(.cst (.int 2))])]), .asg (.nm 15) (.lst false [(.call 17 [(.cst (.str [99,117,115,116,111,109,101,114])), (.cst (.int 0))]), (.call 17 [(.cst (.str [112,114,111,118,105,100,101,114])), (.cst (.int 2))]), (.call 17 [(.cst (.str [112,101,101,114])), (.cst (.int 0))])]), .ifs (.cmp .ne (.var 14) (.tup [(.var 11), (.tup []), (.tup [(.tup [(.cst (.str [97])), (.cst (.str [98])), (.idx (.var 15) (.cst (.int 0)))]), (.tup [(.cst (.str [97])), (.cst (.str [99])), (.idx (.var 15) (.cst (.int 2)))]), (.tup [(.cst (.str [98])), (.cst (.str [97])), (.idx (.var 15) (.cst (.int 1)))]), (.tup [(.cst (.str [99])), (.cst (.str [97])), (.idx (.var 15) (.cst (.int 2)))])]), (.tup [])])) [.ret (.cst (.bl false))] [], .ifs (.or (.cmp .ne (.call 23 [(.var 2), (.tup [(.cst (.str [104])), (.cst (.str [107])), (.cst (.str [109])), (.cst (.str [104])), (.cst (.str [122]))])]) (.cst (.str [117,100,112,63]))) (.or (.cmp .ne (.call 23 [(.var 2), (.tup [(.cst (.str [104]))])]) (.cst (.str []))) (.cmp .ne (.call 20 [(.var 2)]) (.tup [(.cst (.str [111,114,100,101,114])), (.tup [(.cst (.str [104])), (.cst (.str [109])), (.cst (.str [107]))])])))) [.ret (.cst (.bl false))] [], .asg (.nm 16) (.tup [(.tup [(.tup [(.cst (.str [104])), (.cst (.str [107]))]), (.tup [(.cst (.str [107])), (.cst (.str [109]))]), (.tup [(.cst (.str [109])), (.cst (.str [104]))])]), (.tup [])]), .ifs (.or (.cmp .ne (.call 20 [(.var 16)]) (.tup [(.cst (.str [114,105,110,103])), (.tup [(.cst (.str [104])), (.cst (.str [107])), (.cst (.str [109]))])])) (.or (.not (.call 22 [(.var 16), (.tup [(.cst (.str [107])), (.cst (.str [109])), (.cst (.str [104]))])])) (.call 22 [(.var 16), (.tup [(.cst (.str [104])), (.cst (.str [109])), (.cst (.str [107]))])]))) [.ret (.cst (.bl false))] [], .asg (.nm 17) (.lst false [(.cst .non), (.tup []), (.tup [(.cst (.str [104]))]), (.lst false [(.cst (.str [104])), (.cst (.str [107])), (.cst (.str [109]))]), (.tup [(.cst (.str [104])), (.cst (.str [107]))]), (.tup [(.cst (.str [104])), (.cst (.str [107])), (.cst (.str [122,122]))])]), .ret (.and (.not (.blt false .any [(.lc false (.or (.call 22 [(.var 16), (.var 4)]) (.call 21 [(.var 16), (.var 4)])) [.mk (.nm 4) (.val (.var 17)) none] [4])])) (.and (.not (.call 21 [(.var 16), (.tup [(.cst (.str [104])), (.cst (.str [107])), (.cst (.str [109]))])])) (.call 21 [(.var 2), (.tup [(.cst (.str [109])), (.cst (.str [104])), (.cst (.str [107]))])])))]⟩
def prog : Prog := ⟨[f0, f1, f2, f3, f4, f5, f6, f7, f8, f9, f10, f11, f12, f13, f14, f15, f16, f17, f18, f19, f20, f21, f22, f23, f24, f25, f26, f27, f28, f29],
  [(1, 1, (.slc false (.var 0) none (some (.cst (.int 2)))))],
  [(.str [97,98,99,100,101,102,103,104,105,106,107,108,109,110,111,112,113,114,115,116,117,118,119,120,121,122]), (.str [48,49,50,51,52,53,54,55,56,57]), (.int 8), (.int 12), (.int 99), (.int 10), (.tup [(.str [99,117,115,116,111,109,101,114]), (.str [112,101,101,114]), (.str [112,114,111,118,105,100,101,114])])],
  [(2, [([2], 1, (.tup [(.cst (.str [116,104,105,110,103])), (.fld (.var 1) 0)])), ([1], 1, (.tup [(.cst (.str [110,101,116])), (.fld (.var 1) 0)]))])]⟩
def cfg : Cfg := ⟨[("is_whole", 0), ("is_from", 1), ("is_row", 2), ("is_name", 3), ("ascends", 4), ("is_routers", 5), ("is_way", 6), ("is_map", 7), ("is_border", 8), ("is_net", 9), ("is_reflects", 10), ("check_net", 11), ("is_pair", 12), ("is_pairs", 13), ("is_relations", 14), ("check_relations", 15), ("kind_of", 16), ("map_for", 17), ("is_wishes", 18), ("net_of_kinds", 19), ("order_of_houses", 20), ("shows_order", 21), ("shows_paying_ring", 22), ("shape_of", 23), ("_law_cell_at", 24), ("_law_draw", 25), ("_law_number", 26), ("_law_next", 27), ("_law_pick", 28)], ["ValueError", "all", "any", "bool", "dict", "int", "isinstance", "len", "list", "min", "range", "repr", "sorted", "str", "super", "tuple", "zip"], [("LETTERS", 0), ("FIGURES", 1), ("MOST_NAME", 2), ("MOST_ROUTERS", 3), ("MOST_LENGTH", 4), ("CLASSES", 5), ("KINDS", 6)], [("BadNet", 1), ("BadThing", 2)], [("_law_refused", 0)], [(0, [])]⟩
def clsL : ClsL := [("RouteError", []), ("BadNet", ["thing"]), ("BadThing", ["thing"])]
def clsN : List (PySem.Str × Nat) := [("RouteError", 0), ("BadNet", 1), ("BadThing", 2)]
def subs : List (List Nat) := [[0, 1, 2], [1], [2]]
def at_ : List Nat := [8, 9, 10, 11, 12, 17, 18, 19, 20, 21, 22, 23, 26, 27, 28, 29, 30, 31, 32, 33, 34, 35, 36, 37, 39, 40, 41, 42, 43, 44, 45]
def lamB : List Bool := [false, false, false, false, false, false, false, false, false, false, false, false, false, false, false, false, false, false, false, true, false, false, false, false, false, false, false, false, false, false, true]
def fnsL : List FnS := [⟨"is_whole", defArgs (top 8), defBody (top 8), defScope (top 8), names.getD 0 [], ["thing"], false⟩,
  ⟨"is_from", defArgs (top 9), defBody (top 9), defScope (top 9), names.getD 1 [], ["thing", "least", "most"], false⟩,
  ⟨"is_row", defArgs (top 10), defBody (top 10), defScope (top 10), names.getD 2 [], ["thing", "many"], false⟩,
  ⟨"is_name", defArgs (top 11), defBody (top 11), defScope (top 11), names.getD 3 [], ["thing"], false⟩,
  ⟨"ascends", defArgs (top 12), defBody (top 12), defScope (top 12), names.getD 4 [], ["things"], false⟩,
  ⟨"is_routers", defArgs (top 17), defBody (top 17), defScope (top 17), names.getD 5 [], ["thing"], false⟩,
  ⟨"is_way", defArgs (top 18), defBody (top 18), defScope (top 18), names.getD 6 [], ["houses", "thing"], false⟩,
  ⟨"is_map", defArgs (top 19), defBody (top 19), defScope (top 19), names.getD 7 [], ["thing"], false⟩,
  ⟨"is_border", defArgs (top 20), defBody (top 20), defScope (top 20), names.getD 8 [], ["houses", "thing"], false⟩,
  ⟨"is_net", defArgs (top 21), defBody (top 21), defScope (top 21), names.getD 9 [], ["thing"], false⟩,
  ⟨"is_reflects", defArgs (top 22), defBody (top 22), defScope (top 22), names.getD 10 [], ["houses", "thing"], false⟩,
  ⟨"check_net", defArgs (top 23), defBody (top 23), defScope (top 23), names.getD 11 [], ["thing"], false⟩,
  ⟨"is_pair", defArgs (top 26), defBody (top 26), defScope (top 26), names.getD 12 [], ["thing"], false⟩,
  ⟨"is_pairs", defArgs (top 27), defBody (top 27), defScope (top 27), names.getD 13 [], ["thing"], false⟩,
  ⟨"is_relations", defArgs (top 28), defBody (top 28), defScope (top 28), names.getD 14 [], ["thing"], false⟩,
  ⟨"check_relations", defArgs (top 29), defBody (top 29), defScope (top 29), names.getD 15 [], ["thing"], false⟩,
  ⟨"kind_of", defArgs (top 30), defBody (top 30), defScope (top 30), names.getD 16 [], ["relations", "house", "other"], false⟩,
  ⟨"map_for", defArgs (top 31), defBody (top 31), defScope (top 31), names.getD 17 [], ["kind", "wish"], false⟩,
  ⟨"is_wishes", defArgs (top 32), defBody (top 32), defScope (top 32), names.getD 18 [], ["thing"], false⟩,
  ⟨"net_of_kinds", defArgs (top 33), defBody (top 33), defScope (top 33), names.getD 19 [], ["routers", "ways", "links", "relations", "wishes"], true⟩,
  ⟨"order_of_houses", defArgs (top 34), defBody (top 34), defScope (top 34), names.getD 20 [], ["relations"], false⟩,
  ⟨"shows_order", defArgs (top 35), defBody (top 35), defScope (top 35), names.getD 21 [], ["relations", "thing"], false⟩,
  ⟨"shows_paying_ring", defArgs (top 36), defBody (top 36), defScope (top 36), names.getD 22 [], ["relations", "thing"], false⟩,
  ⟨"shape_of", defArgs (top 37), defBody (top 37), defScope (top 37), names.getD 23 [], ["relations", "houses"], false⟩,
  ⟨"_law_cell_at", defArgs (top 39), defBody (top 39), defScope (top 39), names.getD 24 [], ["script", "k"], false⟩,
  ⟨"_law_draw", defArgs (top 40), defBody (top 40), defScope (top 40), names.getD 25 [], ["cell", "k", "bound"], false⟩,
  ⟨"_law_number", defArgs (top 41), defBody (top 41), defScope (top 41), names.getD 26 [], ["cell", "k", "bound"], false⟩,
  ⟨"_law_next", defArgs (top 42), defBody (top 42), defScope (top 42), names.getD 27 [], ["draw", "bound"], false⟩,
  ⟨"_law_pick", defArgs (top 43), defBody (top 43), defScope (top 43), names.getD 28 [], ["draw", "things"], false⟩,
  ⟨"_law_refused", defArgs (top 44), defBody (top 44), defScope (top 44), names.getD 29 [], ["work"], false⟩,
  ⟨"law", defArgs (top 45), defBody (top 45), defScope (top 45), names.getD 30 [], ["script"], true⟩]
def lawD : FnS := fnsL.getD 30 ⟨"", defArgs (top 0), [], defScope (top 0), [], [], false⟩
def sheet : Sheet := ⟨prog, cfg, clsL, clsN, subs, fnsL, "/claim/cut.py"⟩
def loose0 : List PySem.Str := ["RouteError", "BadNet", "BadThing", "LETTERS", "FIGURES", "MOST_NAME", "MOST_ROUTERS", "MOST_LENGTH", "CLASSES", "KINDS", "is_whole", "is_from", "is_row", "is_name", "ascends", "is_routers", "is_way", "is_map", "is_border", "is_net", "is_reflects", "check_net", "is_pair", "is_pairs", "is_relations", "check_relations", "kind_of", "map_for", "is_wishes", "net_of_kinds"]
def loose1 : List PySem.Str := ["order_of_houses", "shows_order", "shows_paying_ring", "shape_of", "_law_cell_at", "_law_draw", "_law_number", "_law_next", "_law_pick", "_law_refused"]
def loose : List PySem.Str := loose0 ++ loose1
def cr : List CS := f30.body
def lawAt : Nat := 45
def di : Nat := 1
end Z.k31

set_option Elab.async false
set_option linter.all false
set_option maxRecDepth 1000000
set_option maxHeartbeats 0
namespace Z.k31
open PySem PySem.Spec PyProof.Rows L2 Z
theorem ok_defs : sheet.defsB = true := by decide +kernel
theorem ok_law : lawB sheet lawD di cr = true := by decide +kernel
theorem sheet_ok : SheetOk sheet lawD di cr := ⟨List.mem_of_getElem? (i := 30) rfl, by decide +kernel, by decide +kernel, by decide +kernel, ok_defs, ok_law⟩
end Z.k31

set_option Elab.async false
set_option linter.all false
set_option maxRecDepth 1000000
set_option maxHeartbeats 0
namespace Z.k31
open PySem PySem.Spec PyProof.Rows L2 Z
abbrev R : PySem.W.OpenRow := PySem.W.OpenLaw.row PySem.Challenge.rw_settledways_k31_whole_relations_refused
abbrev hk : PySem.W.Hook := hookY 4 sheet.fn sheet.tf sheet.ex
def ob (s : PySem.W.SharedT) : He.AlX := obsY 4 sheet.fn sheet.tf sheet.ex (HandSHeadRun.getT s)
theorem ob_eq (s : PySem.W.SharedT) : ob s = hk.obs s.abs := obsY_eq (HandSHeadRun.getT_eq s)
theorem run_top (w : World) : HandSHeadRun.RunEq R (PySem.W.view R.prog [lawAt]) hk ob 4000 loose w := by
  intro os
  kernel_rfl
end Z.k31

set_option Elab.async false
set_option linter.all false
set_option maxRecDepth 1000000
set_option maxHeartbeats 0
namespace Z.k31
open PySem PySem.Spec PyProof.Rows L2 Z
def Runs (n : Nat) : Prop := ∀ ns : List Int, ns.length ≤ 63 → ∃ l S', evSs (run prog n) cr (lawL lawD.N.length di) (lawS (ns.map .int)) = some (.ok (.rt (.bl true)) l S')
end Z.k31
open PySem PySem.W PySem.Calls PyProof.Rows
theorem k31_of (hrun : Z.k31.Runs 120) : PySem.Challenge.rw_settledways_k31_whole_relations_refused.Holds := by
  w_on; o_law
  refine HandSHeadRun.head_any (r := Z.k31.R) (q := view Z.k31.R.prog [Z.k31.lawAt]) (H := Z.k31.hk) (ob := Z.k31.ob) (M := 4000) (loose := Z.k31.loose) (d := HandSHeadRun.topDef Z.k31.R.prog Z.k31.lawAt) (kwd := []) Z.k31.ob_eq
    (by kernel_rfl) (fun s => by kernel_rfl) Z.k31.run_top (by kernel_rfl) (by kernel_rfl) (by kernel_rfl) (by rfl) (by first | assumption | decide +kernel) (by decide +kernel) ⟨rfl, rfl, rfl, rfl, rfl, by decide +kernel⟩ ?hw ?hc
  case hw => w_witness2
  case hc =>
    refine LamX.walk_ofTsE (l := PySem.Challenge.rw_settledways_k31_whole_relations_refused) (n := 63) (k := 121) (x := "script") (CX := fun w => L2.CX Z.k31.R.prog w) rfl (by decide) (by kernel_rfl) ⟨rfl, by decide, by decide⟩ ?F (fun _ _ _ _ _ z => by
      obtain ⟨_, _, _, _, _, _, _, _, _, _, _, _, f⟩ := z
      exact f)
    intro w mg fa h Y G hmg0
    obtain ⟨K, KX, c⟩ := Y
    have hmg : mg ("law" : PySem.Str) = some (.ref fa) := by
      have e : (HandSHeadRun.topDef Z.k31.R.prog Z.k31.lawAt).name = ("law" : PySem.Str) := by kernel_rfl
      rw [← e]
      exact hmg0
    exact ⟨K, KX, Z.law_at (l := PySem.Challenge.rw_settledways_k31_whole_relations_refused) Z.k31.sheet_ok (by decide +kernel) (by decide +kernel) KX G hmg c hrun⟩

set_option Elab.async false
set_option linter.all false
set_option maxRecDepth 1000000
set_option maxHeartbeats 0
namespace Z.k31
open PySem Z
theorem evSs_cons {R : Rc} {s : CS} {r : List CS} {l l1 : Loc} {S S1 : LH} (h : R.S s l S = some (.ok .nx l1 S1)) : evSs R (s :: r) l S = evSs R r l1 S1 := by
  show (match R.S s l S with | some (.ok .nx l1 S1) => evSs R r l1 S1 | x => x) = _
  rw [h]
theorem evSs_app {R : Rc} : ∀ {a b : List CS} {l l1 : Loc} {S S1 : LH}, evSs R a l S = some (.ok .nx l1 S1) → evSs R (a ++ b) l S = evSs R b l1 S1
  | [], b, l, l1, S, S1, h => by cases h; rfl
  | s :: r, b, l, l1, S, S1, h => by
    have h : (match R.S s l S with | some (.ok .nx l1 S1) => evSs R r l1 S1 | x => x) = some (.ok .nx l1 S1) := h
    show (match R.S s l S with | some (.ok .nx l1 S1) => evSs R (r ++ b) l1 S1 | x => x) = _
    split at h
    · exact evSs_app h
    · rename_i hx
      exact absurd h (hx _ _)
/-! ### the number drawn -/
theorem mulOk_r (i : Int) (j : Int) (h : j.natAbs < 18446744073709551616) : mulOk i j = true := by
  unfold mulOk
  rw [decide_eq_true h, Bool.or_true]
section
variable (n : Nat)

/-- what a def's body told, handed out -/
def handS (S : LH) : Option (Out PV) → Option (Out PV)
  | some (.ok v S1) => match (if pureV v then some v else frzV S1 12 v) with
    | some w => some (.ok w S)
    | none => none
  | some (.exn c fs S1) => match mapO (fun v => if pureV v then some v else frzV S1 12 v) fs with
    | some ws => some (.exn c ws S)
    | none => none
  | none => none
theorem sRet_of {R : Rc} {e : CE} {l : Loc} {S S1 : LH} {v : PV} {r : List CS} {P : Prog} {k : Nat} (hR : R = run P (k + 1)) (h : (run P k).E e l S = some (.ok v S1)) : evSs R (.ret e :: r) l S = some (.ok (.rt v) l S1) := by
  subst hR
  show (match sRet ((run P k).E e) l S with | some (.ok .nx l1 S1) => evSs (run P (k + 1)) r l1 S1 | x => x) = _
  unfold sRet
  rw [h]
  rfl
def primesV : PV := .tup [.int 1000003, .int 1000033, .int 1000037, .int 1000039, .int 1000081, .int 1000099, .int 1000117, .int 1000121, .int 1000133, .int 1000151, .int 1000159, .int 1000171, .int 1000183, .int 1000187, .int 1000193, .int 1000199]
def mulE : CE := .bin false .mul (.var 0) (.cst (.int 48271))
def addE : CE := .bin false .add mulE (.bin false .mul (.var 1) (.cst (.int 69621)))
theorem f25_ok (c : Int) (S : LH) : (run prog (n + 12)).F 25 [.int c, .int 3, .int 999983] S = some (.ok (.int ((c * 48271 + 208863) % 1000039 % 999983)) S) := by
  have e1 : (run prog (n + 6)).E mulE [some (.int c), some (.int 3), some (.int 999983), some primesV] LH.empty = some (.ok (.int (c * 48271)) LH.empty) := by
    show (if mulOk c 48271 then some (Out.ok (PV.int (c * 48271)) LH.empty) else none) = _
    rw [mulOk_r c 48271 (by decide)]
    rfl
  have e2 : (run prog (n + 7)).E addE [some (.int c), some (.int 3), some (.int 999983), some primesV] LH.empty = some (.ok (.int (c * 48271 + 208863)) LH.empty) := by
    show orO ((run prog (n + 6)).E mulE [some (.int c), some (.int 3), some (.int 999983), some primesV] LH.empty) (fun x S1 => orO ((run prog (n + 6)).E (.bin false .mul (.var 1) (.cst (.int 69621))) [some (.int c), some (.int 3), some (.int 999983), some primesV] S1) fun y S2 => binOp false .add x y S2) = _
    rw [e1]
    kernel_rfl
  have e3 : (run prog (n + 10)).E (.bin false .mod (.bin false .mod (.blt false .int [addE]) (.idx (.var 3) (.bin false .mod (.blt false .int [(.var 1)]) (.cst (.int 16))))) (.var 2)) [some (.int c), some (.int 3), some (.int 999983), some primesV] LH.empty = some (.ok (.int ((c * 48271 + 208863) % 1000039 % 999983)) LH.empty) := by
    show orO (orO (orO (orO ((run prog (n + 7)).E addE [some (.int c), some (.int 3), some (.int 999983), some primesV] LH.empty) fun v S1 => orO (some (Out.ok ([] : List PV) S1)) fun ys S2 => some (.ok (v :: ys) S2)) fun vs S1 => bltOp false .int vs S1) fun x S1 => orO ((run prog (n + 9 - 1)).E (.idx (.var 3) (.bin false .mod (.blt false .int [(.var 1)]) (.cst (.int 16)))) [some (.int c), some (.int 3), some (.int 999983), some primesV] S1) fun y S2 => binOp false .mod x y S2) (fun x S1 => orO ((run prog (n + 9)).E (.var 2) [some (.int c), some (.int 3), some (.int 999983), some primesV] S1) fun y S2 => binOp false .mod x y S2) = _
    rw [e2]
    kernel_rfl
  have e4 : evSs (run prog (n + 11)) f25.body (startL 4 [.int c, .int 3, .int 999983]) LH.empty = some (.ok (.rt (.int ((c * 48271 + 208863) % 1000039 % 999983))) [some (.int c), some (.int 3), some (.int 999983), some primesV] LH.empty) := by
    refine (evSs_cons (l1 := [some (.int c), some (.int 3), some (.int 999983), some primesV]) (S1 := LH.empty) (by kernel_rfl)).trans ?_
    exact sRet_of rfl e3
  show handS S (retOf (evSs (run prog (n + 11)) f25.body (startL 4 [.int c, .int 3, .int 999983]) LH.empty)) = _
  rw [e4]
  rfl
/-! ### small, then drawn -/
def l6 (c : Int) : Loc := [some (.int c), some (.int 2), some (.int 16), some (.int 1018081), some (.int 1), some (.int ((c - 1000000000000000000) / 1018081)), none]
def l7 (c : Int) : Loc := [some (.int c), some (.int 2), some (.int 16), some (.int 1018081), some (.int 1), some (.int ((c - 1000000000000000000) / 1018081)), some (.int (c % 1000003))]
theorem f26_first (c : Int) : evSs (run prog (n + 19)) (f26.body.take 3) (startL 7 [.int c, .int 2, .int 16]) LH.empty = some (.ok .nx (l6 c) LH.empty) := by kernel_rfl
def ifE : CE := .cmp .gt (.var 5) (.cst (.int 0))
def retA : CE := .bin false .mod (.bin false .mod (.blt false .int [(.var 5)]) (.cst (.int 1009))) (.var 2)
theorem f26_test (c : Int) : testM ((run prog (n + 18)).E ifE) (l6 c) LH.empty = some (.ok (decide (0 < (c - 1000000000000000000) / 1018081)) LH.empty) := by kernel_rfl
theorem f26_a (c : Int) : (run prog (n + 17)).E retA (l6 c) LH.empty = some (.ok (.int ((c - 1000000000000000000) / 1018081 % 1009 % 16)) LH.empty) := by kernel_rfl
theorem f26_small (c : Int) : (run prog (n + 19)).S (.asg (.nm 6) (.bin false .mod (.blt false .int [(.var 0)]) (.cst (.int 1000003)))) (l6 c) LH.empty = some (.ok .nx (l7 c) LH.empty) := by kernel_rfl
def mulB : CE := .bin false .mul (.bin false .add (.var 6) (.bin false .mul (.cst (.int 977)) (.var 1))) (.bin false .add (.bin false .add (.var 6) (.bin false .mul (.cst (.int 31)) (.var 1))) (.cst (.int 5)))
def retB : CE := .bin false .mod (.call 25 [mulB, .bin false .add (.bin false .mod (.blt false .int [(.var 1)]) (.cst (.int 9))) (.cst (.int 1)), .cst (.int 999983)]) (.var 2)
theorem f26_mul (c : Int) : (run prog (n + 16)).E mulB (l7 c) LH.empty = some (.ok (.int ((c % 1000003 + 1954) * (c % 1000003 + 62 + 5))) LH.empty) := by
  have h : mulOk (c % 1000003 + 1954) (c % 1000003 + 62 + 5) = true := mulOk_r _ _ (by omega)
  show (if mulOk (c % 1000003 + 1954) (c % 1000003 + 62 + 5) then some (Out.ok (PV.int ((c % 1000003 + 1954) * (c % 1000003 + 62 + 5))) LH.empty) else none) = _
  rw [h]
  rfl
theorem f26_b (c : Int) : (run prog (n + 18)).E retB (l7 c) LH.empty = some (.ok (.int ((((c % 1000003 + 1954) * (c % 1000003 + 62 + 5)) * 48271 + 208863) % 1000039 % 999983 % 16)) LH.empty) := by
  show orO (orO (orO ((run prog (n + 16)).E mulB (l7 c) LH.empty) fun v S1 => orO (evEs (run prog (n + 16)) [.bin false .add (.bin false .mod (.blt false .int [(.var 1)]) (.cst (.int 9))) (.cst (.int 1)), .cst (.int 999983)] (l7 c) S1) fun ys S2 => some (.ok (v :: ys) S2)) fun vs S1 => (run prog (n + 4 + 12)).F 25 vs S1) (fun x S1 => orO ((run prog (n + 17)).E (.var 2) (l7 c) S1) fun y S2 => binOp false .mod x y S2) = _
  rw [f26_mul]
  show orO ((run prog (n + 4 + 12)).F 25 [.int ((c % 1000003 + 1954) * (c % 1000003 + 62 + 5)), .int 3, .int 999983] LH.empty) (fun x S1 => orO ((run prog (n + 17)).E (.var 2) (l7 c) S1) fun y S2 => binOp false .mod x y S2) = _
  rw [f25_ok]
  rfl
theorem f26_ok (c : Int) (S : LH) : ∃ i : Int, 0 ≤ i ∧ i < 16 ∧ (run prog (n + 20)).F 26 [.int c, .int 2, .int 16] S = some (.ok (.int i) S) := by
  have e : (run prog (n + 20)).F 26 [.int c, .int 2, .int 16] S = handS S (retOf (evSs (run prog (n + 19)) f26.body (startL 7 [.int c, .int 2, .int 16]) LH.empty)) := rfl
  have e1 : evSs (run prog (n + 19)) f26.body (startL 7 [.int c, .int 2, .int 16]) LH.empty = evSs (run prog (n + 19)) (f26.body.drop 3) (l6 c) LH.empty := evSs_app (a := f26.body.take 3) (f26_first n c)
  cases hd : decide (0 < (c - 1000000000000000000) / 1018081) with
  | true =>
    refine ⟨(c - 1000000000000000000) / 1018081 % 1009 % 16, by omega, by omega, ?_⟩
    have e2 : (run prog (n + 19)).S (.ifs ifE [.ret retA] []) (l6 c) LH.empty = some (.ok (.rt (.int ((c - 1000000000000000000) / 1018081 % 1009 % 16))) (l6 c) LH.empty) := by
      show toS (l6 c) (testM ((run prog (n + 18)).E ifE) (l6 c) LH.empty) (fun k S1 => match k with | true => evSs (run prog (n + 18)) [.ret retA] (l6 c) S1 | false => evSs (run prog (n + 18)) [] (l6 c) S1) = _
      rw [f26_test, hd]
      exact sRet_of (r := []) rfl (f26_a n c)
    rw [e, e1]
    show handS S (retOf (match (run prog (n + 19)).S (.ifs ifE [.ret retA] []) (l6 c) LH.empty with | some (.ok .nx l1 S1) => evSs (run prog (n + 19)) (f26.body.drop 4) l1 S1 | x => x)) = _
    rw [e2]
    rfl
  | false =>
    refine ⟨(((c % 1000003 + 1954) * (c % 1000003 + 62 + 5)) * 48271 + 208863) % 1000039 % 999983 % 16, by omega, by omega, ?_⟩
    have e2 : (run prog (n + 19)).S (.ifs ifE [.ret retA] []) (l6 c) LH.empty = some (.ok .nx (l6 c) LH.empty) := by
      show toS (l6 c) (testM ((run prog (n + 18)).E ifE) (l6 c) LH.empty) (fun k S1 => match k with | true => evSs (run prog (n + 18)) [.ret retA] (l6 c) S1 | false => evSs (run prog (n + 18)) [] (l6 c) S1) = _
      rw [f26_test, hd]
      rfl
    have e3 : evSs (run prog (n + 19)) (f26.body.drop 3) (l6 c) LH.empty = some (.ok (.rt (.int ((((c % 1000003 + 1954) * (c % 1000003 + 62 + 5)) * 48271 + 208863) % 1000039 % 999983 % 16))) (l7 c) LH.empty) :=
      (evSs_cons (r := f26.body.drop 4) e2).trans ((evSs_cons (r := f26.body.drop 5) (f26_small n c)).trans (sRet_of rfl (f26_b n c)))
    rw [e, e1, e3]
    rfl
end
end Z.k31

set_option Elab.async false
set_option linter.all false
set_option maxRecDepth 1000000
set_option maxHeartbeats 0
namespace Z.k31
open PySem Z
def intP (ns : List Int) : List PV := ns.map .int
theorem pure_intP : ∀ ns : List Int, pureVs (intP ns) = true
  | [] => rfl
  | n :: r => by
    show (if pureV (.int n) then pureVs (intP r) else false) = true
    rw [pure_intP r]
    rfl
def S1 (xs : List PV) : LH := ⟨1, [(0, .lst [.lst xs, .int 0, .int 1])], []⟩
section
variable (n : Nat)
def ltE : CE := .cmp .lt (.var 1) (.blt false .len [(.var 0)])
def hdE : CE := .idx (.var 0) (.var 1)
theorem ix0 (k : Nat) : ix 0 (k + 1) = some 0 := by
  unfold ix
  rw [if_pos (by decide), if_pos (by omega)]
  rfl
theorem f24_ok (ns : List Int) (S : LH) : (run prog (n + 12)).F 24 [.lst (intP ns), .int 0] S = some (.ok (.int (ns.headD 0)) S) := by
  have hp : pureVs [.lst (intP ns), .int 0] = true := by
    show (if pureVs (intP ns) then true else false) = true
    rw [pure_intP ns]
    rfl
  have e : (run prog (n + 12)).F 24 [.lst (intP ns), .int 0] S = if pureVs [.lst (intP ns), .int 0] then handS S (retOf (evSs (run prog (n + 11)) f24.body (startL 2 [.lst (intP ns), .int 0]) LH.empty)) else retOf (evSs (run prog (n + 11)) f24.body (startL 2 [.lst (intP ns), .int 0]) S) := rfl
  rw [e, hp, if_pos rfl]
  cases ns with
  | nil => kernel_rfl
  | cons m r =>
    have t : testM ((run prog (n + 10)).E ltE) [some (.lst (.int m :: intP r)), some (.int 0)] LH.empty = some (.ok (decide ((0 : Int) < (((intP r).length + 1 : Nat) : Int))) LH.empty) := by kernel_rfl
    have hd : (run prog (n + 9)).E hdE [some (.lst (.int m :: intP r)), some (.int 0)] LH.empty = some (.ok (.int m) LH.empty) := by
      show (match (match ix 0 ((intP r).length + 1) with | some n => nth (PV.int m :: intP r) n | none => none) with | some v => some (Out.ok v LH.empty) | none => none) = _
      rw [ix0]
      rfl
    have e2 : (run prog (n + 11)).S (.ifs ltE [.ret hdE] []) [some (.lst (.int m :: intP r)), some (.int 0)] LH.empty = some (.ok (.rt (.int m)) [some (.lst (.int m :: intP r)), some (.int 0)] LH.empty) := by
      show toS [some (.lst (.int m :: intP r)), some (.int 0)] (testM ((run prog (n + 10)).E ltE) [some (.lst (.int m :: intP r)), some (.int 0)] LH.empty) (fun k S1 => match k with | true => evSs (run prog (n + 10)) [.ret hdE] [some (.lst (.int m :: intP r)), some (.int 0)] S1 | false => evSs (run prog (n + 10)) [] [some (.lst (.int m :: intP r)), some (.int 0)] S1) = _
      rw [t, decide_eq_true (by omega)]
      exact sRet_of (r := []) rfl hd
    show handS S (retOf (match (run prog (n + 11)).S (.ifs ltE [.ret hdE] []) [some (.lst (.int m :: intP r)), some (.int 0)] LH.empty with | some (.ok .nx l1 S1) => evSs (run prog (n + 11)) (f24.body.drop 1) l1 S1 | x => x)) = _
    rw [e2]
    rfl
def lnA : Loc := [some (.loc 0), some (.int 16), some (.int 0), none]
def lnB (c : Int) : Loc := [some (.loc 0), some (.int 16), some (.int 0), some (.int (c + 0))]
def cellE : CE := .call 24 [(.idx (.var 0) (.cst (.int 0))), (.bin false .add (.idx (.var 0) (.cst (.int 1))) (.var 2))]
theorem f27_ok (ns : List Int) : ∃ i : Int, 0 ≤ i ∧ i < 16 ∧ (run prog (n + 24)).F 27 [.loc 0, .int 16] (lawS (intP ns)) = some (.ok (.int i) (S1 (intP ns))) := by
  obtain ⟨i, h0, h1, h⟩ := f26_ok (n + 1) (ns.headD 0 + 0) (S1 (intP ns))
  refine ⟨i, h0, h1, ?_⟩
  have a : evSs (run prog (n + 23)) (f27.body.take 2) (startL 4 [.loc 0, .int 16]) (lawS (intP ns)) = some (.ok .nx lnA (S1 (intP ns))) := by kernel_rfl
  have c0 : (run prog (n + 21)).E cellE lnA (S1 (intP ns)) = (run prog (n + 8 + 12)).F 24 [.lst (intP ns), .int 0] (S1 (intP ns)) := by kernel_rfl
  have c : (run prog (n + 23)).S (.asg (.nm 3) (.bin false .add cellE (.bin false .mul (.cst (.int 31)) (.var 2)))) lnA (S1 (intP ns)) = some (.ok .nx (lnB (ns.headD 0)) (S1 (intP ns))) := by
    show toS lnA (orO ((run prog (n + 21)).E cellE lnA (S1 (intP ns))) fun x S1 => orO ((run prog (n + 21)).E (.bin false .mul (.cst (.int 31)) (.var 2)) lnA S1) fun y S2 => binOp false .add x y S2) (fun v S1 => match asgT (run prog (n + 22)) (.nm 3) v lnA S1 with | some (l1, S2) => some (.ok .nx l1 S2) | none => none) = _
    rw [c0, f24_ok]
    kernel_rfl
  have d : (run prog (n + 22)).E (.call 26 [(.var 3), (.bin false .add (.bin false .mod (.blt false .int [(.idx (.var 0) (.cst (.int 2)))]) (.cst (.int 12))) (.cst (.int 1))), (.var 1)]) (lnB (ns.headD 0)) (S1 (intP ns)) = (run prog (n + 21)).F 26 [.int (ns.headD 0 + 0), .int 2, .int 16] (S1 (intP ns)) := by kernel_rfl
  have b : evSs (run prog (n + 23)) f27.body (startL 4 [.loc 0, .int 16]) (lawS (intP ns)) = some (.ok (.rt (.int i)) (lnB (ns.headD 0)) (S1 (intP ns))) :=
    (evSs_app (a := f27.body.take 2) (b := f27.body.drop 2) a).trans ((evSs_cons (r := f27.body.drop 3) c).trans (sRet_of rfl (d.trans h)))
  show retOf (evSs (run prog (n + 23)) f27.body (startL 4 [.loc 0, .int 16]) (lawS (intP ns))) = _
  rw [b]
  rfl
end
end Z.k31

set_option Elab.async false
set_option linter.all false
set_option maxRecDepth 1000000
set_option maxHeartbeats 0
namespace Z.k31
open PySem Z
def l4 : Loc := match evSs (run prog 120) (cr.take 4) (lawL 18 1) (lawS []) with
  | some (.ok .nx l _) => l
  | _ => []
def things : List PV := match getV l4 3 with
  | some (.lst xs) => xs
  | _ => []
theorem first4 (xs : List PV) : evSs (run prog 120) (cr.take 4) (lawL 18 1) (lawS xs) = some (.ok .nx l4 (lawS xs)) := by kernel_rfl
theorem things_at : ∀ j : Fin 16, (nth things j).isSome = true := by decide +kernel
theorem things_len : things.length = 16 := by decide +kernel
theorem ix_in {i : Int} {k : Nat} (h0 : 0 ≤ i) (h1 : i < k) : ix i k = some i.toNat := by
  unfold ix
  rw [if_pos h0, if_pos h1]
theorem pick_gen (n : Nat) (ns : List Int) (ts : List PV) (hl : ts.length = 16) (hs : ∀ j : Fin 16, (nth ts j).isSome = true) : ∃ (j : Fin 16) (v : PV), nth ts j = some v ∧ (run prog (n + 28)).F 28 [.loc 0, .lst ts] (lawS (intP ns)) = some (.ok v (S1 (intP ns))) := by
  obtain ⟨i, h0, h1, h⟩ := f27_ok n ns
  have hj : i.toNat < 16 := by omega
  obtain ⟨v, hv⟩ := Option.isSome_iff_exists.mp (hs ⟨i.toNat, hj⟩)
  refine ⟨⟨i.toNat, hj⟩, v, hv, ?_⟩
  have c : (run prog (n + 25)).E (.call 27 [(.var 0), (.blt false .len [(.var 1)])]) [some (.loc 0), some (.lst ts)] (lawS (intP ns)) = some (.ok (.int i) (S1 (intP ns))) := by
    show (run prog (n + 24)).F 27 [.loc 0, .int ((ts.length : Nat) : Int)] (lawS (intP ns)) = _
    rw [hl]
    exact h
  have a : (run prog (n + 26)).E (.idx (.var 1) (.call 27 [(.var 0), (.blt false .len [(.var 1)])])) [some (.loc 0), some (.lst ts)] (lawS (intP ns)) = some (.ok v (S1 (intP ns))) := by
    show orO ((run prog (n + 25)).E (.call 27 [(.var 0), (.blt false .len [(.var 1)])]) [some (.loc 0), some (.lst ts)] (lawS (intP ns))) (fun y S2 => match itemAt (.lst ts) y with | some v => some (.ok v S2) | none => none) = _
    rw [c]
    show (match (match ix i ts.length with | some n => nth ts n | none => none) with | some v => some (Out.ok v (S1 (intP ns))) | none => none) = _
    rw [ix_in h0 (by rw [hl]; exact h1)]
    show (match nth ts i.toNat with | some v => some (Out.ok v (S1 (intP ns))) | none => none) = _
    rw [hv]
  show retOf (evSs (run prog (n + 27)) f28.body (startL 2 [.loc 0, .lst ts]) (lawS (intP ns))) = _
  have b : evSs (run prog (n + 27)) f28.body (startL 2 [.loc 0, .lst ts]) (lawS (intP ns)) = some (.ok (.rt v) [some (.loc 0), some (.lst ts)] (S1 (intP ns))) := sRet_of (r := []) rfl a
  rw [b]
  rfl
def l5 (j : Fin 16) : Loc := setL (nth things j) l4 5
theorem bad_ok (ns : List Int) : ∃ j : Fin 16, (run prog 120).S (.asg (.nm 5) (.call 28 [(.var 1), (.var 3)])) l4 (lawS (intP ns)) = some (.ok .nx (l5 j) (S1 (intP ns))) := by
  obtain ⟨j, v, hv, h⟩ := pick_gen 90 ns things things_len things_at
  refine ⟨j, ?_⟩
  have e : (run prog 119).E (.call 28 [(.var 1), (.var 3)]) l4 (lawS (intP ns)) = (run prog (90 + 28)).F 28 [.loc 0, .lst things] (lawS (intP ns)) := by kernel_rfl
  show toS l4 ((run prog 119).E (.call 28 [(.var 1), (.var 3)]) l4 (lawS (intP ns))) (fun v S1 => match asgT (run prog 119) (.nm 5) v l4 S1 with | some (l1, S2) => some (.ok .nx l1 S2) | none => none) = _
  rw [e, h]
  show some (OutS.ok .nx (setL (some v) l4 5) (S1 (intP ns))) = _
  unfold l5
  rw [hv]
def okR : Option OutS → Bool
  | some (.ok (.rt (.bl true)) _ _) => true
  | _ => false
theorem okR_ok {r : Option OutS} (h : okR r = true) : ∃ l S, r = some (.ok (.rt (.bl true)) l S) := by
  unfold okR at h
  split at h
  · exact ⟨_, _, rfl⟩
  · cases h
end Z.k31

set_option Elab.async false
set_option linter.all false
set_option maxRecDepth 1000000
set_option maxHeartbeats 0
namespace Z.k31
open PySem Z
theorem r0 (xs : List PV) : okR (evSs (run prog 120) (cr.drop 5) (l5 0) (S1 xs)) = true := by kernel_rfl
theorem r1 (xs : List PV) : okR (evSs (run prog 120) (cr.drop 5) (l5 1) (S1 xs)) = true := by kernel_rfl
theorem r2 (xs : List PV) : okR (evSs (run prog 120) (cr.drop 5) (l5 2) (S1 xs)) = true := by kernel_rfl
theorem r3 (xs : List PV) : okR (evSs (run prog 120) (cr.drop 5) (l5 3) (S1 xs)) = true := by kernel_rfl
theorem r4 (xs : List PV) : okR (evSs (run prog 120) (cr.drop 5) (l5 4) (S1 xs)) = true := by kernel_rfl
theorem r5 (xs : List PV) : okR (evSs (run prog 120) (cr.drop 5) (l5 5) (S1 xs)) = true := by kernel_rfl
theorem r6 (xs : List PV) : okR (evSs (run prog 120) (cr.drop 5) (l5 6) (S1 xs)) = true := by kernel_rfl
theorem r7 (xs : List PV) : okR (evSs (run prog 120) (cr.drop 5) (l5 7) (S1 xs)) = true := by kernel_rfl
theorem r8 (xs : List PV) : okR (evSs (run prog 120) (cr.drop 5) (l5 8) (S1 xs)) = true := by kernel_rfl
theorem r9 (xs : List PV) : okR (evSs (run prog 120) (cr.drop 5) (l5 9) (S1 xs)) = true := by kernel_rfl
theorem r10 (xs : List PV) : okR (evSs (run prog 120) (cr.drop 5) (l5 10) (S1 xs)) = true := by kernel_rfl
theorem r11 (xs : List PV) : okR (evSs (run prog 120) (cr.drop 5) (l5 11) (S1 xs)) = true := by kernel_rfl
theorem r12 (xs : List PV) : okR (evSs (run prog 120) (cr.drop 5) (l5 12) (S1 xs)) = true := by kernel_rfl
theorem r13 (xs : List PV) : okR (evSs (run prog 120) (cr.drop 5) (l5 13) (S1 xs)) = true := by kernel_rfl
theorem r14 (xs : List PV) : okR (evSs (run prog 120) (cr.drop 5) (l5 14) (S1 xs)) = true := by kernel_rfl
theorem r15 (xs : List PV) : okR (evSs (run prog 120) (cr.drop 5) (l5 15) (S1 xs)) = true := by kernel_rfl
theorem rest_ok (xs : List PV) : ∀ j : Fin 16, okR (evSs (run prog 120) (cr.drop 5) (l5 j) (S1 xs)) = true
  | ⟨0, _⟩ => r0 xs
  | ⟨1, _⟩ => r1 xs
  | ⟨2, _⟩ => r2 xs
  | ⟨3, _⟩ => r3 xs
  | ⟨4, _⟩ => r4 xs
  | ⟨5, _⟩ => r5 xs
  | ⟨6, _⟩ => r6 xs
  | ⟨7, _⟩ => r7 xs
  | ⟨8, _⟩ => r8 xs
  | ⟨9, _⟩ => r9 xs
  | ⟨10, _⟩ => r10 xs
  | ⟨11, _⟩ => r11 xs
  | ⟨12, _⟩ => r12 xs
  | ⟨13, _⟩ => r13 xs
  | ⟨14, _⟩ => r14 xs
  | ⟨15, _⟩ => r15 xs
  | ⟨k + 16, h⟩ => absurd h (by omega)
theorem runs_ok (ns : List Int) : ∃ l S', evSs (run prog 120) cr (lawL 18 1) (lawS (ns.map .int)) = some (.ok (.rt (.bl true)) l S') := by
  obtain ⟨j, h⟩ := bad_ok ns
  have e : evSs (run prog 120) cr (lawL 18 1) (lawS (intP ns)) = evSs (run prog 120) (cr.drop 5) (l5 j) (S1 (intP ns)) :=
    (evSs_app (a := cr.take 4) (b := cr.drop 4) (first4 (intP ns))).trans (evSs_cons (r := cr.drop 5) h)
  obtain ⟨l, S', q⟩ := okR_ok (rest_ok (intP ns) j)
  exact ⟨l, S', e.trans q⟩
end Z.k31

set_option Elab.async false
set_option linter.all false
theorem PySem.Challenge.cw_settledways_k31_whole_relations_refused_holds : PySem.Challenge.rw_settledways_k31_whole_relations_refused.Holds := by
  refine k31_of fun ns _ => ?_
  have e : Z.k31.lawD.N.length = 18 := by decide +kernel
  have e2 : Z.k31.di = 1 := rfl
  rw [e, e2]
  exact Z.k31.runs_ok ns

