import PyProof.Rows.All
import Wide.All
import OpenK.AllK
import Wide.FinOn
import KE.KStateDown
import Lean
import HandS.Base
import HandS.Call
import HandS.Ends
import HandS.More
import HandS.Words
import HandS.Defaults
import HandS.Head0
import HandS.Head1
import HandS.Head2
import HandS.HeadEnd
import HandS.HeadHook1
import HandS.HeadHook2
import HandS.HeadHook3
import HandS.HeadHook4
import KE.GoesMore
import PyProof.ReprRoads
import HandS.ForMost
import HandS.Style
import HandS.TupAny
import HandS.TupMul
import HandS.Sort
import HandS.TupSets
import HandS.Codes
import HandS.IsInst
import HandS.Conv
import HandS.DictTup
import PySem.Challenge.RW_drawnbits_k59_whole_all_rows_of_bits_rea
set_option Elab.async false
set_option linter.all false
set_option maxRecDepth 100000
set_option maxHeartbeats 0
namespace K59
open PySem PySem.Spec PyProof.Rows L2
def topS (i : Nat) : Stmt := PySem.Challenge.pw_drawnbits_k59_whole_all_rows_of_bits_rea.main.body.getD i (.Pass ⟨0, 0, 0, 0⟩)
abbrev s_is_integer : Stmt := topS 7
abbrev s_is_between : Stmt := topS 8
abbrev s_are_between : Stmt := topS 9
abbrev s_is_count : Stmt := topS 10
abbrev s_are_bits_value : Stmt := topS 11
abbrev s_divisor_of : Stmt := topS 15
abbrev s_is_fraction_value : Stmt := topS 16
abbrev s_is_share_value : Stmt := topS 17
abbrev s_lowest : Stmt := topS 18
abbrev s_plus : Stmt := topS 19
abbrev s_times : Stmt := topS 20
abbrev s_total : Stmt := topS 21
abbrev s_whole_of : Stmt := topS 22
abbrev s_is_table_value : Stmt := topS 23
abbrev s_is_state_value : Stmt := topS 25
abbrev s_is_model_value : Stmt := topS 26
abbrev s_need_model : Stmt := topS 27
abbrev s_is_way_value : Stmt := topS 28
abbrev s_need_way : Stmt := topS 29
abbrev s_ahead_of : Stmt := topS 30
abbrev s_need_bits : Stmt := topS 32
abbrev s_need_count : Stmt := topS 33
abbrev s_does_fit : Stmt := topS 35
abbrev s_cut_of : Stmt := topS 36
abbrev s_settled : Stmt := topS 37
abbrev s_first_register : Stmt := topS 38
abbrev s_stepped : Stmt := topS 39
abbrev s_gone : Stmt := topS 40
abbrev s_raw_written : Stmt := topS 41
abbrev s_raw_real_chance : Stmt := topS 42
abbrev s_raw_read : Stmt := topS 44
abbrev s_need_width : Stmt := topS 48
abbrev s_written : Stmt := topS 49
abbrev s_real_chance : Stmt := topS 50
abbrev s_way_read : Stmt := topS 51
abbrev s_is_way : Stmt := topS 53
abbrev s__law_deck : Stmt := topS 55
abbrev s__law_draw : Stmt := topS 56
abbrev s__law_pick : Stmt := topS 57
abbrev s__law_common : Stmt := topS 58
abbrev s__law_fraction : Stmt := topS 59
abbrev s__law_table : Stmt := topS 60
abbrev s__law_model : Stmt := topS 61
abbrev s__law_part : Stmt := topS 62
abbrev s__law_widened : Stmt := topS 63
abbrev s__law_all_ways : Stmt := topS 64
abbrev s_law : Stmt := topS 65
abbrev s_Reader___init__ : Stmt := inClass (topS 43) 0
abbrev s_Reader_next_bit : Stmt := inClass (topS 43) 1
abbrev s_Reader_settle : Stmt := inClass (topS 43) 2
abbrev s_Reader_outcome : Stmt := inClass (topS 43) 3
abbrev dOf (at_ : Str × Option Str) (nm q : Str) (s : Stmt) : He.DefD := ⟨at_, nm, q, defArgs s, defBody s, defScope s, [], []⟩
def d0 : He.DefD := dOf ("is_integer", none) "is_integer" "is_integer" s_is_integer
def d1 : He.DefD := dOf ("is_between", none) "is_between" "is_between" s_is_between
def d2 : He.DefD := dOf ("are_between", none) "are_between" "are_between" s_are_between
def d3 : He.DefD := dOf ("is_count", none) "is_count" "is_count" s_is_count
def d4 : He.DefD := dOf ("are_bits_value", none) "are_bits_value" "are_bits_value" s_are_bits_value
def d5 : He.DefD := dOf ("divisor_of", none) "divisor_of" "divisor_of" s_divisor_of
def d6 : He.DefD := dOf ("is_fraction_value", none) "is_fraction_value" "is_fraction_value" s_is_fraction_value
def d7 : He.DefD := dOf ("is_share_value", none) "is_share_value" "is_share_value" s_is_share_value
def d8 : He.DefD := dOf ("lowest", none) "lowest" "lowest" s_lowest
def d9 : He.DefD := dOf ("plus", none) "plus" "plus" s_plus
def d10 : He.DefD := dOf ("times", none) "times" "times" s_times
def d11 : He.DefD := dOf ("total", none) "total" "total" s_total
def d12 : He.DefD := dOf ("whole_of", none) "whole_of" "whole_of" s_whole_of
def d13 : He.DefD := dOf ("is_table_value", none) "is_table_value" "is_table_value" s_is_table_value
def d14 : He.DefD := dOf ("is_state_value", none) "is_state_value" "is_state_value" s_is_state_value
def d15 : He.DefD := dOf ("is_model_value", none) "is_model_value" "is_model_value" s_is_model_value
def d16 : He.DefD := dOf ("need_model", none) "need_model" "need_model" s_need_model
def d17 : He.DefD := dOf ("is_way_value", none) "is_way_value" "is_way_value" s_is_way_value
def d18 : He.DefD := dOf ("need_way", none) "need_way" "need_way" s_need_way
def d19 : He.DefD := dOf ("ahead_of", none) "ahead_of" "ahead_of" s_ahead_of
def d20 : He.DefD := dOf ("need_bits", none) "need_bits" "need_bits" s_need_bits
def d21 : He.DefD := dOf ("need_count", none) "need_count" "need_count" s_need_count
def d22 : He.DefD := dOf ("does_fit", none) "does_fit" "does_fit" s_does_fit
def d23 : He.DefD := dOf ("cut_of", none) "cut_of" "cut_of" s_cut_of
def d24 : He.DefD := dOf ("settled", none) "settled" "settled" s_settled
def d25 : He.DefD := dOf ("first_register", none) "first_register" "first_register" s_first_register
def d26 : He.DefD := dOf ("stepped", none) "stepped" "stepped" s_stepped
def d27 : He.DefD := dOf ("gone", none) "gone" "gone" s_gone
def d28 : He.DefD := dOf ("raw_written", none) "raw_written" "raw_written" s_raw_written
def d29 : He.DefD := dOf ("raw_real_chance", none) "raw_real_chance" "raw_real_chance" s_raw_real_chance
def d30 : He.DefD := dOf ("raw_read", none) "raw_read" "raw_read" s_raw_read
def d31 : He.DefD := dOf ("need_width", none) "need_width" "need_width" s_need_width
def d32 : He.DefD := dOf ("written", none) "written" "written" s_written
def d33 : He.DefD := dOf ("real_chance", none) "real_chance" "real_chance" s_real_chance
def d34 : He.DefD := dOf ("way_read", none) "way_read" "way_read" s_way_read
def d35 : He.DefD := dOf ("is_way", none) "is_way" "is_way" s_is_way
def d36 : He.DefD := dOf ("_law_deck", none) "_law_deck" "_law_deck" s__law_deck
def d37 : He.DefD := dOf ("_law_draw", none) "_law_draw" "_law_draw" s__law_draw
def d38 : He.DefD := dOf ("_law_pick", none) "_law_pick" "_law_pick" s__law_pick
def d39 : He.DefD := dOf ("_law_common", none) "_law_common" "_law_common" s__law_common
def d40 : He.DefD := dOf ("_law_fraction", none) "_law_fraction" "_law_fraction" s__law_fraction
def d41 : He.DefD := dOf ("_law_table", none) "_law_table" "_law_table" s__law_table
def d42 : He.DefD := dOf ("_law_model", none) "_law_model" "_law_model" s__law_model
def d43 : He.DefD := dOf ("_law_part", none) "_law_part" "_law_part" s__law_part
def d44 : He.DefD := dOf ("_law_widened", none) "_law_widened" "_law_widened" s__law_widened
def d45 : He.DefD := dOf ("_law_all_ways", none) "_law_all_ways" "_law_all_ways" s__law_all_ways
def d46 : He.DefD := dOf ("law", none) "law" "law" s_law
def d47 : He.DefD := dOf ("Reader", some "__init__") "__init__" "Reader.__init__" s_Reader___init__
def d48 : He.DefD := dOf ("Reader", some "next_bit") "next_bit" "Reader.next_bit" s_Reader_next_bit
def d49 : He.DefD := dOf ("Reader", some "settle") "settle" "Reader.settle" s_Reader_settle
def d50 : He.DefD := dOf ("Reader", some "outcome") "outcome" "Reader.outcome" s_Reader_outcome
def fn : List He.DefD := [d0, d1, d2, d3, d4, d5, d6, d7, d8, d9, d10, d11, d12, d13, d14, d15, d16, d17, d18, d19, d20, d21, d22, d23, d24, d25, d26, d27, d28, d29, d30, d31, d32, d33, d34, d35, d36, d37, d38, d39, d40, d41, d42, d43, d44, d45, d46, d47, d48, d49, d50]
def fa : List He.Fa := [.glo "is_integer", .glo "is_between", .glo "are_between", .glo "is_count", .glo "are_bits_value", .glo "divisor_of", .glo "is_fraction_value", .glo "is_share_value", .glo "lowest", .glo "plus", .glo "times", .glo "total", .glo "whole_of", .glo "is_table_value", .glo "is_state_value", .glo "is_model_value", .glo "need_model", .glo "is_way_value", .glo "need_way", .glo "ahead_of", .glo "need_bits", .glo "need_count", .glo "does_fit", .glo "cut_of", .glo "settled", .glo "first_register", .glo "stepped", .glo "gone", .glo "raw_written", .glo "raw_real_chance", .glo "raw_read", .glo "need_width", .glo "written", .glo "real_chance", .glo "way_read", .glo "is_way", .glo "_law_deck", .glo "_law_draw", .glo "_law_pick", .glo "_law_common", .glo "_law_fraction", .glo "_law_table", .glo "_law_model", .glo "_law_part", .glo "_law_widened", .glo "_law_all_ways", .glo "law", .glo "Reader", .glo "ZERO", .glo "ONE", .free "isinstance", .free "int", .free "bool", .free "tuple", .free "len", .free "all", .free "abs", .free "range", .free "max", .free "min", .free "sum", .free "repr", .free "sorted", .free "list", .free "enumerate", .int "LEAST_WIDTH" 3, .int "MOST_WIDTH" 16, .cls "Reader", .mkr "Reader", .meth "Reader" "next_bit", .meth "Reader" "settle", .meth "Reader" "outcome", .noat "Reader" "model", .noat "Reader" "w", .noat "Reader" "bits", .noat "Reader" "at", .noat "Reader" "state", .noat "Reader" "low", .noat "Reader" "size", .noat "Reader" "value"]
def exB (K : PySem.W.Frag) : Bool := He.tupB K "ZERO" [.int 0, .int 1] && He.tupB K "ONE" [.int 1, .int 1]
abbrev R : PySem.W.OpenRow := PySem.W.OpenLaw.row PySem.Challenge.rw_drawnbits_k59_whole_all_rows_of_bits_rea
abbrev hk : PySem.W.Hook := He.hookX 5 fa fn [] [] exB
def ob (s : PySem.W.SharedT) : He.AlX := He.obsX 5 fa fn [] [] exB (HandSHeadRun.getT s)
theorem ob_eq (s : PySem.W.SharedT) : ob s = hk.obs s.abs := He.obsX_eq (HandSHeadRun.getT_eq s)
def loose0 : List Str := ["__name__", "DrawError", "BadNumber", "BadBits", "BadModel", "BadWay", "is_integer", "is_between", "are_between", "is_count", "are_bits_value", "ZERO"]
def loose1 : List Str := ["ONE", "divisor_of", "is_fraction_value", "is_share_value", "lowest", "plus", "times", "total", "whole_of", "is_table_value", "is_state_value", "is_model_value"]
def loose2 : List Str := ["need_model", "is_way_value", "need_way", "ahead_of", "need_bits", "need_count", "does_fit", "cut_of", "settled", "first_register", "stepped", "gone"]
def loose3 : List Str := ["raw_written", "raw_real_chance", "Reader", "raw_read", "LEAST_WIDTH", "MOST_WIDTH", "need_width", "written", "real_chance", "way_read", "is_way", "_law_deck"]
def loose4 : List Str := ["_law_draw", "_law_pick", "_law_common", "_law_fraction", "_law_table", "_law_model", "_law_part", "_law_widened", "_law_all_ways"]
def loose : List Str := loose0 ++ loose1 ++ loose2 ++ loose3 ++ loose4
abbrev qv : Program := PySem.W.view R.prog [65]
theorem run (w : World) : HandSHeadRun.RunEq R qv hk ob 4000 loose w := by
  intro os
  kernel_rfl
end K59

namespace K59
open PySem PySem.Spec PyProof.Rows L2
open AutoSeq1 (wpAny_loadPart')

/-! enumerate over a tuple -/
theorem enT_new (t : Addr) (its : Array Value) (m : Nat) (dd : Option Addr) (sl : Array (Option Value)) :
    Meets (Builtin.«enumerate.__new__» ⟨[.type "enumerate", .ref t], []⟩) (fun _ R s =>
      s.heap.get? t = some { cls := .type "tuple", dict := dd, data := .seq its m, slots := sl } ∧
      R (.ok (.ret (.ref (s.heap.push { cls := .type "tuple_iterator", data := .fields #[.ref t, .int 0 0] }).objs.size)))
        { s with heap := (s.heap.push { cls := .type "tuple_iterator", data := .fields #[.ref t, .int 0 0] }).push { cls := .type "enumerate", data := .fields #[.none, .bool false, .ref s.heap.objs.size, rawInt 0, .none, .none] } }) :=
  .of_wp fun prog w A R s ⟨hh, z⟩ => by
    obtain ⟨hp, gg, dr, tk, os⟩ := s
    have ksub := sub_enumerate
    have kt : Heap.IsTuple (Shared.heap ⟨hp, gg, dr, tk, os⟩) t its := ⟨_, hh, rfl, m, rfl⟩
    have q1 : ∀ {A' : Around} {E : Value → Shared → Prop} {Q : Value → Shared → Prop},
        Q (.ref hp.objs.size) ⟨hp.push { cls := .type "tuple_iterator", data := .fields #[.ref t, .int 0 0] }, gg, dr, tk, os⟩ →
        wpAny (model prog w) A' (pyIter (.ref t)) Q E ⟨hp, gg, dr, tk, os⟩ := fun q => wpAny_pyIter_tuple kt q
    wp_walk using wpAny_loadPart' hh, q1
    refine wpAny_stack_any fun _ => wpAny_pure ?_
    split
    · rename_i c _ _ _ _ _
      cases (c == Value.type "enumerate") <;> (wp_walk using wpAny_loadPart' hh, q1) <;> exact ⟨_, rfl, z⟩
    · wp_walk using wpAny_loadPart' hh, q1
      exact ⟨_, rfl, z⟩
theorem enT_call {prog : Program} {w : World} {A : Around} {E : Value → Shared → Prop} {s : Shared} {t : Addr} {its : Array Value} {Q : Value → Shared → Prop} (hT : s.heap.IsTuple t its)
    (h : ∀ h', IsEnum h' (s.heap.objs.size + 1) s.heap.objs.size 0 .none → h'.IsTupleIter s.heap.objs.size t 0 →
      (∀ b o, s.heap.get? b = some o → h'.get? b = some o) → Q (.ref (s.heap.objs.size + 1)) { s with heap := h' }) :
    wpAny (model prog w) A (call (.type "enumerate") [.ref t]) Q E s := by
  obtain ⟨⟨c, dd, dt, sl⟩, hl, hc, m, hd⟩ := hT
  obtain rfl : c = .type "tuple" := hc
  obtain rfl : dt = .seq its m := hd
  refine callType_new F.called_enumerate (by decide) (F.typeCall_enumerate_1 _) (F.newCall_enumerate_1 _) (fun ob => F.args_object_init_2 ob _) F.entry_enumerate_new (enT_new t its m dd sl) ⟨hl, ?_⟩
  have z1 : (s.heap.push { cls := .type "tuple_iterator", data := .fields #[.ref t, .int 0 0] }).objs.size = s.heap.objs.size + 1 := Heap.size_push ..
  show _ ∧ _
  rw [z1]
  have z2 : IsEnum ((s.heap.push { cls := .type "tuple_iterator", data := .fields #[.ref t, .int 0 0] }).push { cls := .type "enumerate", data := .fields #[.none, .bool false, .ref s.heap.objs.size, rawInt 0, .none, .none] }) (s.heap.objs.size + 1) s.heap.objs.size 0 .none := by
    have z3 := Heap.get?_push_size (s.heap.push { cls := .type "tuple_iterator", data := .fields #[.ref t, .int 0 0] })
      (o := { cls := .type "enumerate", data := .fields #[.none, .bool false, .ref s.heap.objs.size, rawInt 0, .none, .none] }) rfl
    rw [z1] at z3
    exact z3
  exact ⟨⟨_, z2, rfl⟩, h _ z2 ⟨_, Heap.get?_push_of_some _ (Heap.get?_push_size _ rfl), rfl, rfl⟩ fun b o x => Heap.get?_push_of_some _ (Heap.get?_push_of_some _ x)⟩
/-- the tuple at a, each item in a new pair -/
def Iet (K : PySem.W.Frag) (a : Addr) : It :=
  ⟨fun i H => ∃ (xs : List V) (x : V), SqT K H a xs ∧ xs[i]? = some x,
   fun i H v H' => ∃ T x, v = .ref T ∧ H T = none ∧ H' = upd H T (.tup [.int (i : Nat), x]) ∧ ∀ xs, SqT K H a xs → xs[i]? = some x,
   fun i H => ∃ xs : List V, SqT K H a xs ∧ xs.length ≤ i⟩
theorem turn_enT {P : Program} {w : World} {K : PySem.W.Frag} {elts : List Expr} {kk : Nat} {tpos : Pos} (a e it : Addr) :
    Turn P w K (.Tuple elts kk tpos) (Iet K a) [e, it] e (fun i h => (∃ old, IsEnum h e it ((i : Nat) : Int) old) ∧ h.IsTupleIter it a i ∧ e ≠ it ∧ a ≠ it ∧ a ≠ e) where
  mem := List.mem_cons_self ..
  obj := fun i h ⟨⟨old, he⟩, ⟨o, ho, hc, hd⟩, _⟩ b hb => by
    rcases (show b = e ∨ b = it by simpa using hb) with z | z <;> subst z
    · exact ⟨_, he, fun v q => nomatch q⟩
    · exact ⟨o, ho, fun v q => by rw [hd] at q; cases q⟩
  keep := fun i h h' ⟨⟨old, he⟩, hi, hne⟩ k => ⟨⟨old, k e (by simp) _ he⟩, hi.at fun o q => k it (by simp) o q, hne⟩
  item := by
    intro X hP hw hK hc i pins s σ H E I hf ⟨⟨old, he⟩, hit, hne, ha1, ha2⟩ ⟨xs, x, hq, hx⟩
    subst hP hw hK
    obtain ⟨its, rv, p, hz⟩ := I.tuple hq
    obtain ⟨u, hu, ru⟩ := rv.get hx
    have le : e < s.heap.objs.size := Heap.lt_size he
    have li : it < s.heap.objs.size := by obtain ⟨_, q, _⟩ := hit; exact Heap.lt_size q
    have lx := (List.getElem?_eq_some_iff.mp hx).1
    have ll := rv.length
    refine wpAny_pyNext_enum_itemD (Draws.tuple (A := X.A.in1) (I.ok.hd hc) it a ha1 its.toArray) he ⟨hit, (show s.heap.IsTuple a its.toArray from p)⟩ (by simp; omega) hne (by simp [hne, Ne.symm ha2]) fun v h' tk hP ho ⟨hit', _⟩ hT hsz hk => ?_
    have ev : v = u := by
      have q2 : its.toArray[i]? = some v := hP
      rw [List.getElem?_toArray, hu] at q2
      exact (Option.some.inj q2).symm
    subst ev
    refine ⟨_, rfl, wpAny_letOwnedTupleGo_enum (s := { s with heap := h', toks := tk + 1 }) ho fun h2 he' sb => ?_⟩
    have hT2 : h2.get? s.heap.objs.size = some { cls := .type "tuple", data := .seq #[.int i tk, v] } := (sb.2 _ (Nat.ne_of_gt le)).trans hT
    have new : ObjOk X.prog X.w (upd H s.heap.objs.size (.tup [.int (i : Nat), x])) h2 s.heap.objs.size (.tup [.int (i : Nat), x]) :=
      ⟨(by decide : 2 ≤ sizeLine), [.int i tk, v], .cons ⟨_, rfl⟩ (.cons ru .nil), ⟨_, hT2, rfl, _, rfl⟩⟩
    have I1 : Inv X pins σ (upd H s.heap.objs.size (.tup [.int (i : Nat), x])) { s with heap := h2, toks := tk + 1 } :=
      I.turnedNew (ch := [e, it]) (fun b ob hb q => (sb.2 b fun z => hb (by simp [z])).trans (hk b ob (fun z => hb (by simp [z])) (fun z => hb (by simp [z])) q)) hf (Nat.le_refl _) new
    refine ⟨.ref s.heap.objs.size, _, I1, rfl, ⟨_, x, rfl, I.hok.fresh (Nat.le_refl _), rfl, fun ys hy => by rw [I.tuple_inj hy hq]; exact hx⟩,
      ⟨⟨v, by have e1 : ((i + 1 : Nat) : Int) = (i : Int) + 1 := by omega
              rw [e1]; exact he'⟩, hit'.at fun o q => (sb.2 it (Ne.symm hne)).trans q, hne, ha1, ha2⟩, fun b hb => ?_⟩
    have lb : b < s.heap.objs.size := by
      rcases (show b = e ∨ b = it by simpa using hb) with z | z <;> (rw [z]; assumption)
    rw [upd_ne (Nat.ne_of_lt lb)]
    exact (hf b hb).1
  done := by
    intro X hP hw hK hc i pins s σ H E I hf ⟨⟨old, he⟩, hit, hne, ha1, ha2⟩ ⟨xs, hq, hx⟩
    subst hP hw hK
    obtain ⟨its, rv, p, hz⟩ := I.tuple hq
    obtain ⟨f0, f1, f2, f3, f4, f5⟩ := hf it (by simp)
    have ll := rv.length
    have hd := I.ok.hd hc
    have nx : its.toArray[i]? = none := by rw [List.getElem?_toArray]; exact List.getElem?_eq_none_iff.mpr (by omega)
    have D : Draws X.prog X.w X.A.in1 it [it, a] 0 (fun _ _ => False) (fun _ h => h.IsTupleIter it a i ∧ h.IsTuple a its.toArray) :=
      ⟨fun _ _ st => let ⟨o, ho, _⟩ := st.1; ⟨o, ho⟩, fun _ _ _ st hk => ⟨st.1.at fun o e => hk it (by simp) o e, st.2.at fun o e => hk a (by simp) o e⟩,
        fun j _ _ _ hj => absurd hj (Nat.not_lt_zero _), fun s1 Q E st hE => wpAny_nextOf_tuple_end hd st.1 st.2 nx hE⟩
    exact wpAny_pyNext_enum_endD D he ⟨hit, (show s.heap.IsTuple a its.toArray from p)⟩ fun h' eb => ⟨rfl, I.turned (t' := s.toks) (fun b o hb q => eb b o hb q) f0 f1 f3 f4 f5⟩
  self := fun A i s Q E ⟨⟨_, he⟩, _⟩ h => wpAny_pyIter_enum he h
def iEnT (K : PySem.W.Frag) (ta : TA) : TI := fun σ H R => ta σ H fun vs H1 => ∃ a xs, vs = [.ref a] ∧ SqT K H1 a xs ∧ R (Iet K a) H1
theorem pi_enT {X : Cx} {e : Expr} {ta : TA} {p pos tpos : Pos} {elts : List Expr} {kk : Nat} (hg : Gl X "enumerate") (hm : X.mg "enumerate" = none) (ha : PA X [e] ta)
    (hs : starEach [e] X.env = [(false, eval e X.env)] := by rfl) : PI X (.Tuple elts kk tpos) (.Call (.Name "enumerate" p) [e] [] pos) (iEnT X.K ta) := by
  refine ⟨fun pins s σ H R I h => Call_ (ld_blt I hg hm boot_enumerate (PyProof.Rows.callWith_type1 (thn (ha.run pos pins s σ H _ I h) fun us s1 ⟨vs, H1, I1, r1, a, xs, ex, hq, q⟩ => ?_) hs rfl))⟩
  subst ex
  cases r1 with
  | cons r rr =>
    cases rr
    cases r
    obtain ⟨its, rv, p', hz⟩ := I1.tuple hq
    have la : a < s1.heap.objs.size := p'.lt
    refine enT_call (show s1.heap.IsTuple a its.toArray from p') fun h' he hit hk => wpAny_pyIter_enum he ?_
    have I2 : Inv X pins σ H1 { s1 with heap := h' } := I1.kept (t' := s1.toks) hk
    refine ⟨s1.heap.objs.size + 1, [s1.heap.objs.size + 1, s1.heap.objs.size], _, _, H1, rfl, I2, turn_enT a (s1.heap.objs.size + 1) s1.heap.objs.size,
      ⟨⟨.none, he⟩, hit, Nat.succ_ne_self _, Nat.ne_of_lt la, Nat.ne_of_lt (Nat.lt_succ_of_lt la)⟩, fun b hb => ?_, q⟩
    have lb : s1.heap.objs.size ≤ b := by
      rcases (show b = s1.heap.objs.size + 1 ∨ b = s1.heap.objs.size by simpa using hb) with z | z <;> (rw [z]; omega)
    exact I1.fpOk lb (I1.hok.fresh lb)

/-! repr of a tuple of ints -/
def rRepT2 (K : PySem.W.Frag) : List V → Hp → VK → Prop := fun vs H Q => ∃ (a : Addr) (ns : List Int), vs = [.ref a] ∧ SqT K H a (ns.map V.int) ∧
  (PyData.tuple (ns.map PyData.int)).showable = true ∧ (PyData.tuple (ns.map PyData.int)).shown.length ≤ sizeLine ∧ Q (.str (PyData.tuple (ns.map PyData.int)).shown) H
theorem dp_ints {K : PySem.W.Frag} {H : Hp} : ∀ ns : List Int, DpAll K H (ns.map V.int) (ns.map PyData.int)
  | [] => .nil
  | n :: ns => .cons (.int n) (dp_ints ns)
theorem ints_flat : ∀ ns : List Int, PyData.hasDictAll (ns.map PyData.int) = false ∧ PyData.depthAll (ns.map PyData.int) = 0
  | [] => ⟨rfl, rfl⟩
  | n :: ns => by
    obtain ⟨h1, h2⟩ := ints_flat ns
    constructor
    · simp only [List.map_cons, PyData.hasDictAll, PyData.hasDict, h1, Bool.or_self]
    · simp only [List.map_cons, PyData.depthAll, PyData.depth, h2, Nat.max_self]
theorem cr_reprT {X : Cx} {k : Nat} (hr : Room k X.A) (hq : X.A.guards = some []) : CallR X (.builtin "repr") (rRepT2 X.K) := by
  intro pins s σ H vs us Q I r ⟨a, ns, ev, ht, h1, h2, q⟩
  subst ev
  cases r with
  | cons r rr =>
    cases rr
    cases r
    obtain ⟨as, rd⟩ := Dp.reads I (.tuple (ns.map PyData.int)) (.ref a) (.ref a) (.tup ht (dp_ints ns)) rfl
    refine repr_of_reads' rd h1 (fun hx => ?_) hq ?_ (fun b o e => e) (fun h' u tk hk => ⟨.str _, H, I.kept (t' := tk) hk, ⟨u, rfl⟩, q⟩) h2
    · rw [PyData.hasDict, (ints_flat ns).1] at hx
      cases hx
    · have := hr.units
      rw [PyData.depth, (ints_flat ns).2]
      omega
end K59

namespace K59
open PySem PySem.Spec PyProof.Rows L2
open AutoSeq1 (wpAny_loadPart')
/-! (x, ..) * k for any small k -/
theorem tm_zero (l : Addr) (its : Array Value) (m : Nat) (dd : Option Addr) (sl : Array (Option Value)) (x : Int) (u : Tok) (c0 : (decide (x < -(2 ^ 63)) || decide (x ≥ 2 ^ 63)) = false)
    (c1 : (its.isEmpty || x == 1) = false) (c2 : (decide (x ≤ 0) || its.isEmpty) = true) :
    Meets (Builtin.«tuple.__mul__» ⟨[.ref l, .int x u], []⟩) (fun _ R s => s.heap.get? l = some { cls := .type "tuple", dict := dd, data := .seq its m, slots := sl } ∧
      R (.ok (.ret (Value.ref s.heap.objs.size))) { s with heap := s.heap.push { cls := Value.type "tuple", data := Data.seq #[] }, toks := s.toks }) :=
  .of_wp fun prog w A R s ⟨hl, z⟩ => by
    obtain ⟨hp, gg, dr, tk, os⟩ := s
    have g1 := AutoSeq1.idx_int
    wp_walk using wpAny_loadPart' hl
    repeat (first
      | (refine wpAny_ite_false (decide_eq_false (by rw [c0]; exact Bool.false_ne_true)) ?_; wp_walk using wpAny_loadPart' hl)
      | (refine wpAny_ite_false (decide_eq_false (by rw [c1]; exact Bool.false_ne_true)) ?_; wp_walk using wpAny_loadPart' hl)
      | (refine wpAny_ite_true (decide_eq_true (by rw [c2])) ?_; wp_walk using wpAny_loadPart' hl))
    exact ⟨_, rfl, z⟩
theorem tm_one (l : Addr) (its : Array Value) (m : Nat) (dd : Option Addr) (sl : Array (Option Value)) (u : Tok) :
    Meets (Builtin.«tuple.__mul__» ⟨[.ref l, .int 1 u], []⟩) (fun _ R s => s.heap.get? l = some { cls := .type "tuple", dict := dd, data := .seq its m, slots := sl } ∧
      R (.ok (.ret (Value.ref l))) s) :=
  .of_wp fun prog w A R s ⟨hl, z⟩ => by
    obtain ⟨hp, gg, dr, tk, os⟩ := s
    have g1 := AutoSeq1.idx_int
    have c1 : (its.isEmpty || (1 : Int) == 1) = true := by simp
    wp_walk using wpAny_loadPart' hl
    repeat (first
      | (refine wpAny_ite_false (decide_eq_false (by decide)) ?_; wp_walk using wpAny_loadPart' hl)
      | (refine wpAny_ite_true (decide_eq_true (by rw [c1])) ?_; wp_walk using wpAny_loadPart' hl))
    exact ⟨_, rfl, z⟩
end K59
namespace K59
open PySem PySem.Spec PyProof.Rows L2
def rRepA (K : PySem.W.Frag) : R2 := fun x y H Q => ∃ l k xs, x = .ref l ∧ y = .int k ∧ SqT K H l xs ∧ xs ≠ [] ∧ k ≤ 1000 ∧ -1000 ≤ k ∧ xs.length ≤ 1000 ∧
  (k = 1 → Q (.ref l) H) ∧ (k ≠ 1 → ∀ p, H p = none → Q (.ref p) (upd H p (.tup (List.replicate k.toNat xs).flatten)))
theorem op_repA {X : Cx} : OpR X (binaryOp .Mult) (rRepA X.K) := by
  intro pins s σ H x y v u Q I rx ry ⟨l, k, xs, ex, ey, hT, hne, h1, h0, hz, q1, q2⟩
  by_cases h2 : 2 ≤ k
  · exact op_repT pins s σ H x y v u Q I rx ry ⟨l, k, xs, ex, ey, hT, hne, h2, h1, hz, q2 (by omega)⟩
  subst ex ey
  cases rx
  obtain ⟨t, rfl⟩ := ry
  obtain ⟨its, r, ⟨⟨cls, dd, data, sl⟩, ho, hc, n, hd⟩, hs⟩ := I.tuple hT
  simp only at hc hd
  subst hc hd
  have hle : its.length = xs.length := r.length.symm
  have hi : its.toArray.isEmpty = false := by
    cases its with
    | nil => exact absurd (List.eq_nil_of_length_eq_zero hle.symm) hne
    | cons a b => rfl
  by_cases e1 : k = 1
  · subst e1
    exact wpAny_binaryOp_repeat_ref (T := "tuple") (U := "int") (by decide) ⟨_, ho, rfl⟩ (fun s' => typeIs_int s' 1 t) noFill_tuple_mul F.fills_int_mul F.slot_int_rmul repeat_tuple F.slot_int_index.lookup
      (call_meets F.slot_int_rmul (typeIs_int s 1 t) F.entry_int_rmul (F.args_int_rmul_2 _ _) (int_rmul_tuple 1 t l its.toArray n dd sl)
        ⟨ho, rfl, ⟨_, ho, rfl⟩, call_meets F.slot_tuple_mul ⟨_, ho, rfl⟩ F.entry_tuple_mul (F.args_tuple_mul_2 _ _) (tm_one l its.toArray n dd sl t) ⟨ho, ⟨.ref l, H, I, rfl, q1 rfl⟩⟩⟩)
  · have c0 : (decide (k < -(2 ^ 63)) || decide (k ≥ 2 ^ 63)) = false := by
      rw [decide_eq_false (by omega), decide_eq_false (by omega)] <;> rfl
    have c1 : (its.toArray.isEmpty || k == 1) = false := by rw [hi, Bool.false_or, beq_eq_false_iff_ne]; exact e1
    have c2 : (decide (k ≤ 0) || its.toArray.isEmpty) = true := by rw [decide_eq_true (by omega), Bool.true_or]
    have ez : (List.replicate k.toNat xs).flatten = [] := by rw [show k.toNat = 0 by omega] <;> rfl
    have q3 := q2 e1 s.heap.objs.size (I.hok.fresh (Nat.le_refl _))
    rw [ez] at q3
    refine wpAny_binaryOp_repeat_ref (T := "tuple") (U := "int") (by decide) ⟨_, ho, rfl⟩ (fun s' => typeIs_int s' k t) noFill_tuple_mul F.fills_int_mul F.slot_int_rmul repeat_tuple F.slot_int_index.lookup
      (call_meets F.slot_int_rmul (typeIs_int s k t) F.entry_int_rmul (F.args_int_rmul_2 _ _) (int_rmul_tuple k t l its.toArray n dd sl)
        ⟨ho, rfl, ⟨_, ho, rfl⟩, call_meets F.slot_tuple_mul ⟨_, ho, rfl⟩ F.entry_tuple_mul (F.args_tuple_mul_2 _ _) (tm_zero l its.toArray n dd sl k t c0 c1 c2) ⟨ho, ?_⟩⟩)
    exact ⟨.ref s.heap.objs.size, _, I.laid (t' := s.toks) (o := .tup []) (fun b ob q => Heap.get?_push_of_some _ q) (Nat.le_refl _) ⟨Nat.zero_le _, [], .nil, IsTup.new _ _⟩, rfl, q3⟩

/-! sorted(xs) of at most one item -/
def rSort1 (K : PySem.W.Frag) : List V → Hp → VK → Prop := fun vs H Q => ∃ (a : Addr) (x : V), vs = [V.ref a] ∧ SqL K H a [x] ∧ ∀ p, H p = none → Q (.ref p) (upd H p (.lst [x]))
theorem cr_sort1 {X : Cx} : CallR X (.builtin "sorted") (rSort1 X.K) := by
  intro pins s σ H vs us Q I r ⟨a, x, ev, hs, q⟩
  subst ev
  obtain ⟨its, rv, hl, hz⟩ := I.list hs
  rw [Vals.ref1 r]
  have h1 : its.length = 1 := rv.length.symm
  refine Srt.sorted_any hl.isList (by rw [h1]; decide) (fun h2 => absurd h2 (by omega)) fun out hp => ?_
  have eo : out = its := by
    obtain ⟨u, rfl⟩ := List.length_eq_one_iff.mp h1
    exact List.perm_singleton.mp hp
  subst eo
  obtain ⟨ep, he'⟩ := PyProof.Rows.sortedAll_at s.heap out out.toArray
  exact ⟨.ref _, upd H (s.heap.objs.size + 1) (.lst [x]), I.laid (t' := s.toks) (fun _ _ => PyProof.Rows.sortedAll_old) (Nat.le_succ _) ⟨hz, out, ep, rv, he'⟩, rfl, q _ (I.hok.fresh (Nat.le_succ _))⟩

/-! f(k = v, ..): keywords alone -/
section
variable {X : Cx} {CX : CXT} {k : Nat} {f : Addr} {fd : FuncData} {ps ks : List Str} {sp : Sp} {E : XK} {x : Str} {p pos : Pos} {kws : List Keyword} {tk : TA} {g : List Value → List Value → List Value} {gV : List V → List V → List V}
theorem pe_callKO (G : FnOk X.prog X.w X.K X.mg X.base CX k f fd ps sp) (room : Room k X.A) (hg : Gl X x) (hm : X.mg x = some (.ref f)) (hk : PySem.W.keepIn X.K (.ref f) = true) (hb : KBinds X.K fd ps ks g gV) (hx : Passes CX X E)
    (hkw : PK X kws tk) (hall : (backToKw pos (keywordEach kws X.env)).all (·.1.isSome) = true := by rfl) (hks : (backToKw pos (keywordEach kws X.env)).filterMap (·.1) = ks := by rfl)
    (hdb : (x == ("__debug__" : Str)) = false := by decide) (hpl : ((backTo pos (starEach [] X.env)).any (·.1) || (backToKw pos (keywordEach kws X.env)).any (·.1.isNone)) = false := by rfl) :
    PE X (.Call (.Name x p) [] kws pos) (tCallK sp gV E tNil tk) := by
  refine ⟨fun pins s σ H Q I h => wpAny_Call_Name_kw (ld_glob I hg hm ?_ hdb)⟩
  refine PySem.W.callWith_KW0 (h₀ := X.base) I.ok.mod.kin hk hall (thn (hkw.run pos pins s σ H _ I h) fun ws s2 ⟨zs, H2, I2, rz, q2⟩ => ⟨I2.kIn, ?_⟩) hpl
  rw [hks]
  exact run_fnk (us := []) (vs := []) G room hb hx I2 .nil rz q2
end
end K59

namespace K59
open PySem PySem.Spec PyProof.Rows L2
/-- a def called from the law's own caller, whose guards are known to be none -/
def FnC (P : Program) (w : World) (K : PySem.W.Frag) (mg : Str → Option Value) (base : Heap) (f : Addr) (fd : FuncData) (ps : List Str) (sp : Sp) : Prop :=
  ∀ (s : Shared) (H : Hp) (args : Args) (us : List Value) (vs : List V) (Q : VK) (E : XK), Env0 P w K mg base callerA [] s H → BindsTo s fd args (ps.zip us) → Vals vs us → sp vs H Q E →
    codeAny (model P w) callerA (.call (.ref f) args) (CR CX0 [] P w H s Q E) s
theorem fnC_of {P : Program} {w : World} {K : PySem.W.Frag} {mg : Str → Option Value} {base : Heap} {k : Nat} {f : Addr} {nm qual : Str} {prm : Arguments} {bdy : List Stmt} {scp : Scope} {fd : FuncData} {N ps : List Str} {sp : Sp}
    (F : FunD K nm qual prm bdy scp [] [] f fd) (S : FnScope N ps scp) (room : Room (k + 1) callerA) (len : ∀ vs H Q E, sp vs H Q E → vs.length = ps.length)
    (hbody : ∀ (cdv : Value) (s : Shared) (H : Hp) (vs : List V) (Q : VK) (E : XK), Room k (callerA.deeper (envOfC qual scp s.heap.objs.size f cdv)) → sp vs H Q E →
      ∃ t, PSs (cxOf CX0 P w K mg base N qual scp f cdv callerA [] s H E) bdy t ∧ t { nx := fun _ H' => Q .non H', rt := Q } (start N vs) H) : FnC P w K mg base f fd ps sp := by
  intro s H args us vs Q E en bt rel hsp
  obtain ⟨oc, od, dV, kV, dc, pm, an, cdv, ct, sl, rfl, lk, hcd, _, _⟩ := F.ex
  have ln := len _ _ _ _ hsp
  have kin : K.In s.heap := en.mod.kin.keeps fun b o z => (en.bs b o z).1
  have nol : s.heap.NoLimit := en.mod.nolimit.keeps fun b o z => (en.bs b o z).1
  have kinds : ∀ y ∈ ps.zip us, scp.names.lookup y.1 = some .local ∨ (scp.names.lookup y.1 = some .cell ∧ ((cellsFrom (s.heap.objs.size + 1) scp.names []).lookup y.1).isSome = true) := by
    rintro ⟨n, v⟩ hy
    rcases S.par n (List.of_mem_zip hy).1 with q | q
    · exact Or.inl q
    · exact Or.inr ⟨q, PySem.W.cellsFrom_some _ _ _ (Or.inl q)⟩
  refine codeAny_call_function room.depth (kin _ _ lk) rfl S.co S.gen rfl (PySem.W.codeRec_of kin hcd) (bt _ _ _ _ (wpAny_newFunctionEnv_cells S.kind kinds fun env ee s1 x => ?_))
  subst ee
  refine ⟨nol.keeps x.toInCall.keep, codeAny_func ?_⟩
  obtain ⟨t, pt, ht⟩ := hbody cdv s H vs Q E (room.deeper _) hsp
  have J : Inv (cxOf CX0 P w K mg base N qual scp f cdv callerA [] s H E) [] (start N vs) H s1 := inv_start S room.hd en ln rel x
  have close : ∀ {σ' : L2.St} {H' : Hp} {v : V} {u : Value} {s' : Shared}, Inv (cxOf CX0 P w K mg base N qual scp f cdv callerA [] s H E) [] σ' H' s' → RelV v u → Q v H' → CE [] P w H s Q u s' :=
    fun {_ H' v _ _} G rv q => ⟨v, H', G.os, G.bare, G.base, G.hok, rv, q⟩
  refine wpAny_mono (pt.run [] s1 (start N vs) H _ J ht) (fun fl s' hs => ?_) fun _ _ z => z
  cases fl with
  | ret u => exact let ⟨v, σ', H', G, rv, q⟩ := hs; close G rv q
  | next => exact let ⟨σ', H', G, q⟩ := hs; close (v := V.non) (u := Value.none) G rfl q
  | brk => exact let ⟨_, _, _, q⟩ := hs; False.elim q
  | cont => exact let ⟨_, _, _, q⟩ := hs; False.elim q
theorem lawC {P : Program} {w : World} {K : PySem.W.Frag} {mg mb : Str → Option Value} {fa a : Addr} {fd : FuncData} {x : Str} {sp : Sp} {g : Shared} {vs : List Value} {ns : List Int}
    (kx : K.In g.heap) (hns : g.heap.Ns mainGlobals mg) (hbu : g.heap.Ns builtinsNs mb) (hbb : ∀ x : Str, x ≠ "__name__" → mb x = bootBuiltins x) (nol : g.heap.NoLimit) (hgen : g.gens = #[])
    (ha : g.heap.get? a = some { cls := .type "list", data := .seq vs.toArray }) (hi : IntsAre vs ns) (hlen : ns.length ≤ sizeLine)
    (F : ∀ base : Heap, K.In base → base.Ns mainGlobals mg → FnC P w K mg base fa fd [x] sp) (bnd : ∀ (s : Shared) (u : Value), BindsTo s fd ⟨[u], []⟩ [(x, u)])
    (hsp : ∀ H : Hp, SqL K H a (ns.map V.int) → sp [.ref a] H (fun v _ => v = .bl true) fun _ _ _ => False) :
    codeAny (model P w) callerA (.call (.ref fa) ⟨[.ref a], []⟩) (fun r s' => r = .ok (.ret (.bool true)) ∧ OldK g.heap s'.heap ∧ s'.os = g.os ∧ AllBare s'.gens) g := by
  have rv := vals_ints hi
  have ll := hi.length
  have main : ∀ H : Hp, Only H → SqL K H a (ns.map V.int) → HOk P w H g.heap → (∀ b, H b ≠ none → b = a) → (H a ≠ none → K.lookup a = none) →
      codeAny (model P w) callerA (.call (.ref fa) ⟨[.ref a], []⟩) (fun r s' => r = .ok (.ret (.bool true)) ∧ OldK g.heap s'.heap ∧ s'.os = g.os ∧ AllBare s'.gens) g := by
    intro H only seq ok one out
    have low : ∀ {b : Addr} {o : Obj}, g.heap.get? b = some o → H b = none → (hidT g.heap H).get? b = some o := fun z n => hidT_get z n
    have nodict : ∀ {b : Addr} {o : Obj} {es : Array DictEntry} {ep : Nat}, g.heap.get? b = some o → o.data = .dict es ep → H b = none := by
      intro b o es ep z d
      cases q : H b with
      | none => rfl
      | some u =>
        obtain rfl : b = a := one b (by rw [q]; exact Option.some_ne_none u)
        rw [ha] at z
        cases z
        cases (show Data.seq vs.toArray _ = Data.dict es ep from d)
    have lowNs : ∀ {b : Addr} {m : Str → Option Value}, g.heap.Ns b m → (hidT g.heap H).Ns b m := fun ⟨o, es, ep, z, d, r⟩ => ⟨o, es, ep, low z (nodict z d), d, r⟩
    have lowK : K.In (hidT g.heap H) := by
      intro b o z
      refine low (kx b o z) ?_
      cases q : H b with
      | none => rfl
      | some u =>
        obtain rfl : b = a := one b (by rw [q]; exact Option.some_ne_none u)
        rw [out (by rw [q]; exact Option.some_ne_none u)] at z
        cases z
    have lowM : Mod K mg (hidT g.heap H) := ⟨lowK, lowNs hns, ⟨mb, lowNs hbu, hbb⟩, let ⟨mc, y1, y2⟩ := nol; ⟨mc, lowNs y1, y2⟩⟩
    have en : Env0 P w K mg (hidT g.heap H) callerA [] g H :=
      ⟨rfl, lowM, fun b o z => of_hidT z, Nat.le_of_eq (hidT_size _ _), trivial, fun b hb => absurd (show b ∈ ([] : List Addr) from hb) List.not_mem_nil, ok, .of_eq hgen⟩
    refine codeAny_mono (F _ lowK (lowNs hns) g H ⟨[.ref a], []⟩ [.ref a] [.ref a] _ _ en (bnd g (.ref a)) (.cons rfl .nil) (hsp H seq)) fun r s' hr => ?_
    cases r with
    | error e => exact False.elim hr
    | ok fl =>
      cases fl with
      | ret u =>
        obtain ⟨v, H', eos, bare, un, ok', rr, q⟩ := hr
        obtain rfl : v = .bl true := q
        obtain rfl : u = Value.bool true := rr
        refine ⟨rfl, OldK.of_keep fun b o z => ?_, eos, bare⟩
        cases q : H b with
        | none => exact un.keep b o z q (fun y => absurd (show b ∈ ([] : List Addr) from y) List.not_mem_nil) List.not_mem_nil
        | some u =>
          rcases only b with y | ⟨ob, xs, y⟩
          · rw [q] at y
            cases y
          · obtain ⟨y1, _⟩ := ok b _ y
            obtain ⟨y2, _⟩ := ok' b _ (un.frzs b ob _ y)
            rw [z] at y1
            cases y1
            exact y2
      | next => exact False.elim hr
      | brk => exact False.elim hr
      | cont => exact False.elim hr
  cases kl : K.lookup a with
  | some o =>
    have z := kx a o kl
    rw [ha] at z
    cases z
    exact main (fun _ => none) (fun _ => .inl rfl) (.inr ⟨_, vs.toArray, _, kl, rfl, rfl, rfl, by rw [List.size_toArray, ll]; exact hlen, by simpa using rv⟩)
      (fun b u y => nomatch (show (none : Option HO) = some u from y)) (fun b y => absurd rfl y) fun y => absurd rfl y
  | none =>
    refine main (fun b => if b = a then some (.frz { cls := .type "list", data := .seq vs.toArray } (.lst (ns.map V.int))) else none) (fun b => ?_)
      (.inl (.inr ⟨{ cls := .type "list", data := .seq vs.toArray }, if_pos rfl⟩)) (fun b u y => ?_) (fun b y => ?_) fun _ => kl
    all_goals by_cases eb : b = a
    · exact Or.inr ⟨_, _, if_pos eb⟩
    · exact Or.inl (if_neg eb)
    · cases (if_pos eb).symm.trans y
      subst eb
      exact ⟨ha, by rw [List.length_map]; exact hlen, vs, _, rv, ha⟩
    · cases (if_neg eb).symm.trans y
    · exact eb
    · exact absurd (if_neg eb) y
theorem walkC {l : PySem.W.OpenLaw} {n : Nat} {q : Program} {loose : List Str} {XP : (Str → Option Value) → Heap → Prop} {YP : World → Heap → Prop} {d : DefRec} {x : Str}
    (hn : l.most = some n) (hn2 : n ≤ sizeLine) (hdf : d.params.defaults = [])
    (F : ∀ (w : World) (mg : Str → Option Value) (fa : Addr) (h : Heap), YP w h → h.Ns mainGlobals mg → mg d.name = some (.ref fa) →
      ∃ (K : PySem.W.Frag) (fd : FuncData) (sp : Sp), K.In h ∧ (∀ (s : Shared) (u : Value), BindsTo s fd ⟨[u], []⟩ [(x, u)]) ∧
        (∀ (H : Hp) (a : Addr) (ns : List Int), ns.length ≤ n → SqL K H a (ns.map V.int) → sp [.ref a] H (fun v _ => v = .bl true) fun _ _ _ => False) ∧
        ∀ base : Heap, K.In base → base.Ns mainGlobals mg → FnC l.prog w K mg base fa fd [x] sp) :
    PySem.W.WalkO q loose XP YP l.row.toRowW d [] (fun f vs => PySem.call f vs) :=
  Att.attach_call hn hdf fun w s0 s1 mg mb fa o pm cd dc a vs ns G Y ho hd hcd hmg hobj hints hlen hgen => by
    obtain ⟨K, fd, sp, kx, bnd, hsp, hF⟩ := F w mg fa _ Y G.T.g hmg
    exact lawC kx G.T.g G.T.b G.T.builtins G.T.nolimit hgen hobj hints (Nat.le_trans hlen hn2) hF bnd fun H hS => hsp H a ns hlen hS
end K59

namespace K59
open PySem PySem.Spec PyProof.Rows L2
open C8 (Cal Met Mak pe_c pe_mk pe_mt pe_mt0 pe_gc)
/-- what the top has left: K the written part, mg the module's names -/
structure Fx (K : PySem.W.Frag) (mg : Str → Option Value) : Prop where
  hp : ∃ h : Heap, K.In h ∧ h.Ns mainGlobals mg
  says : He.SaysD fa fn K
  ex : exB K = true
section
variable {P : Program} {w : World} {K : PySem.W.Frag} {mg : Str → Option Value} {base : Heap}
theorem Fx.free (T : Fx K mg) (i : Nat) {x : Str} (e : fa[i]? = some (.free x) := by rfl) : mg x = none := by
  obtain ⟨h, X, G⟩ := T.hp
  exact He.free_ok X G (T.says.fact i e)
theorem Fx.glo (T : Fx K mg) (i : Nat) {x : Str} (e : fa[i]? = some (.glo x) := by rfl) : mg x = some (.ref (He.ga K x)) := by
  obtain ⟨h, X, G⟩ := T.hp
  exact He.glo_ok X G (T.says.fact i e)
theorem Fx.int (T : Fx K mg) (i : Nat) {x : Str} {n : Int} (e : fa[i]? = some (.int x n) := by rfl) : ∃ u, mg x = some u ∧ RelV (.int n) u := by
  obtain ⟨h, X, G⟩ := T.hp
  obtain ⟨t, z⟩ := He.int_ok X G (T.says.fact i e)
  exact ⟨_, z, t, rfl⟩
theorem Fx.m_isinstance (T : Fx K mg) : mg "isinstance" = none := T.free 50
theorem Fx.m_int (T : Fx K mg) : mg "int" = none := T.free 51
theorem Fx.m_bool (T : Fx K mg) : mg "bool" = none := T.free 52
theorem Fx.m_tuple (T : Fx K mg) : mg "tuple" = none := T.free 53
theorem Fx.m_len (T : Fx K mg) : mg "len" = none := T.free 54
theorem Fx.m_all (T : Fx K mg) : mg "all" = none := T.free 55
theorem Fx.m_abs (T : Fx K mg) : mg "abs" = none := T.free 56
theorem Fx.m_range (T : Fx K mg) : mg "range" = none := T.free 57
theorem Fx.m_max (T : Fx K mg) : mg "max" = none := T.free 58
theorem Fx.m_min (T : Fx K mg) : mg "min" = none := T.free 59
theorem Fx.m_sum (T : Fx K mg) : mg "sum" = none := T.free 60
theorem Fx.m_repr (T : Fx K mg) : mg "repr" = none := T.free 61
theorem Fx.m_sorted (T : Fx K mg) : mg "sorted" = none := T.free 62
theorem Fx.m_list (T : Fx K mg) : mg "list" = none := T.free 63
theorem Fx.m_enumerate (T : Fx K mg) : mg "enumerate" = none := T.free 64
theorem Fx.g_ZERO (T : Fx K mg) : mg "ZERO" = some (.ref (He.ga K "ZERO")) := T.glo 48
theorem Fx.g_ONE (T : Fx K mg) : mg "ONE" = some (.ref (He.ga K "ONE")) := T.glo 49
theorem Fx.g_LEAST_WIDTH (T : Fx K mg) : ∃ u, mg "LEAST_WIDTH" = some u ∧ RelV (.int 3) u := T.int 65
theorem Fx.g_MOST_WIDTH (T : Fx K mg) : ∃ u, mg "MOST_WIDTH" = some u ∧ RelV (.int 16) u := T.int 66
theorem Fx.t_ZERO (T : Fx K mg) (H : Hp) : SqT K H (He.ga K "ZERO") [.int 0, .int 1] := He.tupB_ok (vs := [.int 0, .int 1]) (He.ba T.ex).1 H
theorem Fx.t_ONE (T : Fx K mg) (H : Hp) : SqT K H (He.ga K "ONE") [.int 1, .int 1] := He.tupB_ok (vs := [.int 1, .int 1]) (He.ba T.ex).2 H
theorem Fx.cls (T : Fx K mg) : Cls K (He.ga K "Reader") := He.cls_ok (T.says.fact 67)
theorem Fx.mkr (T : Fx K mg) : Mk K (He.ga K "Reader") (He.ma K (He.ga K "Reader") "__init__") := He.mkr_ok (T.says.fact 68)
theorem Fx.me_next_bit (T : Fx K mg) : Meth K (He.ga K "Reader") "next_bit" (He.ma K (He.ga K "Reader") "next_bit") := He.meth_ok (T.says.fact 69)
theorem Fx.me_settle (T : Fx K mg) : Meth K (He.ga K "Reader") "settle" (He.ma K (He.ga K "Reader") "settle") := He.meth_ok (T.says.fact 70)
theorem Fx.me_outcome (T : Fx K mg) : Meth K (He.ga K "Reader") "outcome" (He.ma K (He.ga K "Reader") "outcome") := He.meth_ok (T.says.fact 71)
theorem Fx.na_model (T : Fx K mg) : NoAttr K (He.ga K "Reader") "model" := He.noat_ok (T.says.fact 72)
theorem Fx.na_w (T : Fx K mg) : NoAttr K (He.ga K "Reader") "w" := He.noat_ok (T.says.fact 73)
theorem Fx.na_bits (T : Fx K mg) : NoAttr K (He.ga K "Reader") "bits" := He.noat_ok (T.says.fact 74)
theorem Fx.na_at (T : Fx K mg) : NoAttr K (He.ga K "Reader") "at" := He.noat_ok (T.says.fact 75)
theorem Fx.na_state (T : Fx K mg) : NoAttr K (He.ga K "Reader") "state" := He.noat_ok (T.says.fact 76)
theorem Fx.na_low (T : Fx K mg) : NoAttr K (He.ga K "Reader") "low" := He.noat_ok (T.says.fact 77)
theorem Fx.na_size (T : Fx K mg) : NoAttr K (He.ga K "Reader") "size" := He.noat_ok (T.says.fact 78)
theorem Fx.na_value (T : Fx K mg) : NoAttr K (He.ga K "Reader") "value" := He.noat_ok (T.says.fact 79)
/-- a def of the top keeps its promise -/
theorem Fx.cal (T : Fx K mg) {x : Str} {st : Stmt} {N ps : List Str} {k : Nat} {sp : Sp} (i j : Nat) (hd : fn[i]? = some (dOf (x, none) x x st)) (hg : fa[j]? = some (.glo x)) (S : FnScope N ps (defScope st))
    (b : ∀ (kV dc pm : Value) (an : Option Addr) (cdv ct : Value) (us : List Value), us.length = ps.length → bindArgs (PySem.W.fnOf x x (defArgs st) (defBody st) (defScope st) .none kV dc pm an cdv ct) ⟨us, []⟩ = pure (ps.zip us))
    (len : ∀ vs H Q E, sp vs H Q E → vs.length = ps.length)
    (hbody : ∀ (cdv : Value) (A : Around) (outer : List Env) (s : Shared) (H : Hp) (vs : List V) (Q : VK) (E : XK), Room k (A.deeper (envOfC x (defScope st) s.heap.objs.size (He.ga K x) cdv)) → sp vs H Q E →
      ∃ t, PSs (cxOf CX0 P w K mg base N x (defScope st) (He.ga K x) cdv A outer s H E).nox (defBody st) t ∧ t { nx := fun _ H' => Q .non H', rt := Q } (start N vs) H) : Cal P w K mg base (k + 1) x sp [] := by
  obtain ⟨fd, F⟩ := T.says.def_ i hd
  have kp := F.kp
  refine ⟨He.ga K x, fd, ps, [], FunD.ok F S len fun cdv A outer s H vs Q E hr hs => ?_, T.glo j hg, kp, FunD.bindsN F b, .nil⟩
  obtain ⟨t, p, q⟩ := hbody cdv A outer s H vs Q E hr hs
  exact ⟨t, PSs.nox p, q⟩
/-- a method of Reader -/
theorem Fx.met (T : Fx K mg) {m qual : Str} {st : Stmt} {N ps : List Str} {k : Nat} {sp : Sp} (i : Nat) (hd : fn[i]? = some (dOf ("Reader", some m) m qual st)) (me : Meth K (He.ga K "Reader") m (He.ma K (He.ga K "Reader") m)) (S : FnScope N ps (defScope st))
    (b : ∀ (kV dc pm : Value) (an : Option Addr) (cdv ct : Value) (us : List Value), us.length = ps.length → bindArgs (PySem.W.fnOf m qual (defArgs st) (defBody st) (defScope st) .none kV dc pm an cdv ct) ⟨us, []⟩ = pure (ps.zip us))
    (len : ∀ vs H Q E, sp vs H Q E → vs.length = ps.length)
    (hbody : ∀ (cdv : Value) (A : Around) (outer : List Env) (s : Shared) (H : Hp) (vs : List V) (Q : VK) (E : XK), Room k (A.deeper (envOfC qual (defScope st) s.heap.objs.size (He.ma K (He.ga K "Reader") m) cdv)) → sp vs H Q E →
      ∃ t, PSs (cxOf CX0 P w K mg base N qual (defScope st) (He.ma K (He.ga K "Reader") m) cdv A outer s H E).nox (defBody st) t ∧ t { nx := fun _ H' => Q .non H', rt := Q } (start N vs) H) : Met P w K mg base (k + 1) (He.ga K "Reader") m sp [] := by
  obtain ⟨fd, F⟩ := T.says.def_ i hd
  refine ⟨He.ma K (He.ga K "Reader") m, fd, ps, [], T.cls, me, FunD.ok F S len fun cdv A outer s H vs Q E hr hs => ?_, FunD.bindsN F b, .nil⟩
  obtain ⟨t, p, q⟩ := hbody cdv A outer s H vs Q E hr hs
  exact ⟨t, PSs.nox p, q⟩
/-- Reader(..) -/
theorem Fx.mak (T : Fx K mg) {st : Stmt} {N ps : List Str} {k : Nat} {sp : Sp} (i j : Nat) (hd : fn[i]? = some (dOf ("Reader", some "__init__") "__init__" "Reader.__init__" st)) (hg : fa[j]? = some (.glo "Reader")) (S : FnScope N ps (defScope st))
    (b : ∀ (kV dc pm : Value) (an : Option Addr) (cdv ct : Value) (us : List Value), us.length = ps.length → bindArgs (PySem.W.fnOf "__init__" "Reader.__init__" (defArgs st) (defBody st) (defScope st) .none kV dc pm an cdv ct) ⟨us, []⟩ = pure (ps.zip us))
    (len : ∀ vs H Q E, sp vs H Q E → vs.length = ps.length)
    (hbody : ∀ (cdv : Value) (A : Around) (outer : List Env) (s : Shared) (H : Hp) (vs : List V) (Q : VK) (E : XK), Room k (A.deeper (envOfC "Reader.__init__" (defScope st) s.heap.objs.size (He.ma K (He.ga K "Reader") "__init__") cdv)) → sp vs H Q E →
      ∃ t, PSs (cxOf CX0 P w K mg base N "Reader.__init__" (defScope st) (He.ma K (He.ga K "Reader") "__init__") cdv A outer s H E).nox (defBody st) t ∧ t { nx := fun _ H' => Q .non H', rt := Q } (start N vs) H) : Mak P w K mg base (k + 1) "Reader" (He.ga K "Reader") sp [] := by
  obtain ⟨fd, F⟩ := T.says.def_ i hd
  refine ⟨He.ma K (He.ga K "Reader") "__init__", fd, ps, [], T.mkr, FunD.ok F S len fun cdv A outer s H vs Q E hr hs => ?_, T.glo j hg, FunD.bindsN F b, .nil⟩
  obtain ⟨t, p, q⟩ := hbody cdv A outer s H vs Q E hr hs
  exact ⟨t, PSs.nox p, q⟩
end
end K59

namespace K59
open PySem PySem.Spec PyProof.Rows L2
/-! the rules that name the written part, with that part as a letter (for bodies of comprehensions) -/
section
variable {X : Cx} {K : PySem.W.Frag}
def rLenS (K : PySem.W.Frag) : List V → Hp → VK → Prop := fun vs H Q => ∃ p ys, vs = [.ref p] ∧ (SqL K H p ys ∨ SqT K H p ys) ∧ Q (.int ys.length) H
theorem k_len (K : PySem.W.Frag) (h : X.K = K) : CallR X (.builtin "len") (rLenS K) := by subst h; exact call_len_seq
theorem k_isi (K : PySem.W.Frag) (h : X.K = K) : CallR X (.builtin "isinstance") (rIsi K) := by subst h; exact call_isi
theorem k_all (K : PySem.W.Frag) (h : X.K = K) (hc : X.calm = true) : CallR X (.builtin "all") (rAll K) := by subst h; exact cr_all hc
theorem k_sum (K : PySem.W.Frag) (h : X.K = K) (hc : X.calm = true) : CallR X (.builtin "sum") (rSum K) := by subst h; exact cr_sum hc
theorem k_maxL (K : PySem.W.Frag) (h : X.K = K) (hc : X.calm = true) : CallR X (.builtin "max") (rMax K) := by subst h; exact cr_max hc
def rTupOf (K : PySem.W.Frag) : List V → Hp → VK → Prop := fun xs H Q => ∃ p ys, xs = [.ref p] ∧ SqL K H p ys ∧ ∀ l, H l = none → Q (.ref l) (upd H l (.tup ys))
theorem k_tuple (K : PySem.W.Frag) (h : X.K = K) : CallR X (.type "tuple") (rTupOf K) := by
  subst h
  intro pins s σ H vs us Q I r ⟨p, ys, e, hl, q⟩
  exact call_tuple_of pins s σ H vs us Q I r ⟨p, ys, e, .inl ⟨hl, q⟩⟩
theorem k_ixT (K : PySem.W.Frag) (h : X.K = K) : IxR X (rIxT K) := by subst h; exact ix_tup
theorem k_ixL (K : PySem.W.Frag) (h : X.K = K) : IxR X (rIxL K) := by subst h; exact ix_list
theorem k_slT (K : PySem.W.Frag) (h : X.K = K) : L2.SlR X (rSlA K) := by subst h; exact sl_tupA
theorem k_slL (K : PySem.W.Frag) (h : X.K = K) : L2.SlR X (rSlL K) := by subst h; exact sl_list
theorem k_repr (K : PySem.W.Frag) (h : X.K = K) {k : Nat} (hr : Room k X.A) (hq : X.A.guards = some []) : CallR X (.builtin "repr") (rRepT2 K) := by subst h; exact cr_reprT hr hq
theorem k_cat (K : PySem.W.Frag) (h : X.K = K) : OpR X (binaryOp .Add) (rCatA K) := by subst h; exact op_catA
theorem k_rep (K : PySem.W.Frag) (h : X.K = K) : OpR X (binaryOp .Mult) (rRepA K) := by subst h; exact op_repA
theorem k_eqD (K : PySem.W.Frag) (h : X.K = K) (hu : X.A.units + 64 < cLine) : OpR X (compareOp .Eq) (rEqD K) := by subst h; exact op_eqD hu
theorem k_neD (K : PySem.W.Frag) (h : X.K = K) (hu : X.A.units + 64 < cLine) : OpR X (compareOp .NotEq) (rNeD K) := by subst h; exact op_neD hu
/-- sorted of a list of tuples of d ints, or of one tuple of none -/
def rSorts (K : PySem.W.Frag) : List V → Hp → VK → Prop := fun vs H Q => (∃ (d : Nat) (B : Int), 1 ≤ d ∧ rSortU K d B vs H Q) ∨ rSort1 K vs H Q
theorem k_sorted (K : PySem.W.Frag) (h : X.K = K) : CallR X (.builtin "sorted") (rSorts K) := by
  subst h
  intro pins s σ H vs us Q I r z
  rcases z with ⟨d, B, hd, z⟩ | z
  · exact cr_sortT hd pins s σ H vs us Q I r z
  · exact cr_sort1 pins s σ H vs us Q I r z
end
/-- a def called by keywords alone -/
structure CalK (P : Program) (w : World) (K : PySem.W.Frag) (mg : Str → Option Value) (base : Heap) (k : Nat) (x : Str) (f : Addr) (fd : FuncData) (ps ks : List Str) (g : List Value → List Value → List Value) (gV : List V → List V → List V) (sp : Sp) : Prop where
  ok : FnOk P w K mg base CX0 k f fd ps sp
  mg : mg x = some (.ref f)
  kp : PySem.W.keepIn K (.ref f) = true
  kb : KBinds K fd ps ks g gV
theorem pg_tupK {X : Cx} {es : List Expr} {k : Nat} {pos : Pos} {t : TGs} (K : PySem.W.Frag) (n : Nat) (h : X.K = K) (hc : X.calm = true) (hg : PGs X es t)
    (hn : (assignEach es X.env).length = n := by rfl) (hs : (assignEach es X.env).findIdx? (·.1) = none := by rfl) : PG X (.Tuple es k pos) (gTup K n t) := by
  subst h
  exact pg_tup hc hg hn hs
end K59

namespace K59
/-! ### the plain law: registers, reading, writing; no program in sight -/
/-- the parts ahead of i -/
def ga_ (P : List Nat) (i : Nat) : Nat := (P.take i).sum
/-- what of a size falls to the outcomes less than i -/
def ca (P : List Nat) (s i : Nat) : Nat := s * ga_ P i / P.sum
theorem ga_zero (P : List Nat) : ga_ P 0 = 0 := by simp [ga_]
theorem ga_succ (P : List Nat) (i : Nat) : ga_ P (i + 1) = ga_ P i + P.getD i 0 := by
  induction P generalizing i with
  | nil => simp [ga_]
  | cons p P ih =>
    cases i with
    | zero => simp [ga_]
    | succ j =>
      have h := ih j
      simp only [ga_] at h ⊢
      simp only [List.take_succ_cons, List.sum_cons, h, List.getD_cons_succ]
      omega
theorem ga_all (P : List Nat) {i : Nat} (h : P.length ≤ i) : ga_ P i = P.sum := by simp [ga_, List.take_of_length_le h]
theorem ga_mono (P : List Nat) {i j : Nat} (h : i ≤ j) : ga_ P i ≤ ga_ P j := by
  induction h with
  | refl => exact Nat.le_refl _
  | step h ih => rw [ga_succ]; omega
theorem ca_zero (P : List Nat) (s : Nat) : ca P s 0 = 0 := by simp [ca, ga_zero]
theorem ca_mono (P : List Nat) (s : Nat) {i j : Nat} (h : i ≤ j) : ca P s i ≤ ca P s j := Nat.div_le_div_right (Nat.mul_le_mul_left _ (ga_mono P h))
theorem ca_all (P : List Nat) (s : Nat) (hp : 0 < P.sum) {i : Nat} (h : P.length ≤ i) : ca P s i = s := by
  rw [ca, ga_all P h, Nat.mul_div_cancel _ hp]
theorem ca_le (P : List Nat) (s : Nat) (hp : 0 < P.sum) (i : Nat) : ca P s i ≤ s := by
  have e := ca_all P s hp (Nat.le_refl P.length)
  by_cases h : i ≤ P.length
  · have := ca_mono P s h
    omega
  · rw [ca_all P s hp (by omega)]; exact Nat.le_refl _
theorem ca_lt (P : List Nat) (s i : Nat) (hp : 0 < P.sum) (hs : P.sum ≤ s) (hi : 0 < P.getD i 0) : ca P s i < ca P s (i + 1) := by
  unfold ca
  rw [ga_succ, Nat.mul_add]
  have h1 : P.sum ≤ s * P.getD i 0 := Nat.le_trans hs (Nat.le_mul_of_pos_right _ hi)
  have h2 := Nat.div_le_div_right (c := P.sum) (Nat.add_le_add_left h1 (s * ga_ P i))
  rw [Nat.add_div_right _ hp] at h2
  exact h2
theorem ca_eq (P : List Nat) (s i : Nat) (hi : P.getD i 0 = 0) : ca P s (i + 1) = ca P s i := by rw [ca, ca, ga_succ, hi, Nat.add_zero]

/-! the steps that are due -/
inductive Stl (w : Nat) : Nat → Nat → List Nat → Nat → Nat → Prop where
  | done {l s : Nat} : ¬ l + s ≤ 2 ^ (w - 1) → ¬ 2 ^ (w - 1) ≤ l → ¬ (2 ^ (w - 2) ≤ l ∧ l + s ≤ 2 ^ (w - 1) + 2 ^ (w - 2)) → Stl w l s [] l s
  | zero {l s l' s' : Nat} {o : List Nat} : l + s ≤ 2 ^ (w - 1) → Stl w (2 * l) (2 * s) o l' s' → Stl w l s (0 :: o) l' s'
  | one {l s l' s' : Nat} {o : List Nat} : ¬ l + s ≤ 2 ^ (w - 1) → 2 ^ (w - 1) ≤ l → Stl w (2 * (l - 2 ^ (w - 1))) (2 * s) o l' s' → Stl w l s (1 :: o) l' s'
  | mid {l s l' s' : Nat} {o : List Nat} : ¬ l + s ≤ 2 ^ (w - 1) → ¬ 2 ^ (w - 1) ≤ l → 2 ^ (w - 2) ≤ l ∧ l + s ≤ 2 ^ (w - 1) + 2 ^ (w - 2) → Stl w (2 * (l - 2 ^ (w - 2))) (2 * s) o l' s' → Stl w l s (2 :: o) l' s'
def stl (w : Nat) : Nat → Nat → Nat → List Nat × Nat × Nat
  | 0, l, s => ([], l, s)
  | f + 1, l, s =>
    if l + s ≤ 2 ^ (w - 1) then (0 :: (stl w f (2 * l) (2 * s)).1, (stl w f (2 * l) (2 * s)).2)
    else if 2 ^ (w - 1) ≤ l then (1 :: (stl w f (2 * (l - 2 ^ (w - 1))) (2 * s)).1, (stl w f (2 * (l - 2 ^ (w - 1))) (2 * s)).2)
    else if 2 ^ (w - 2) ≤ l ∧ l + s ≤ 2 ^ (w - 1) + 2 ^ (w - 2) then (2 :: (stl w f (2 * (l - 2 ^ (w - 2))) (2 * s)).1, (stl w f (2 * (l - 2 ^ (w - 2))) (2 * s)).2)
    else ([], l, s)
theorem pw (w : Nat) (hw : 2 ≤ w) : 2 ^ w = 4 * 2 ^ (w - 2) ∧ 2 ^ (w - 1) = 2 * 2 ^ (w - 2) ∧ 0 < 2 ^ (w - 2) := by
  obtain ⟨v, rfl⟩ : ∃ v, w = v + 2 := ⟨w - 2, by omega⟩
  refine ⟨?_, ?_, Nat.pow_pos (by decide)⟩
  · rw [show v + 2 - 2 = v by omega, Nat.pow_succ, Nat.pow_succ]; omega
  · rw [show v + 2 - 1 = v + 1 by omega, show v + 2 - 2 = v by omega, Nat.pow_succ]; omega
theorem stl_stl (w : Nat) (hw : 2 ≤ w) : ∀ (f l s : Nat), l + s ≤ 2 ^ w → 2 ^ w < s * 2 ^ f → Stl w l s (stl w f l s).1 (stl w f l s).2.1 (stl w f l s).2.2
  | 0, l, s, h1, h2 => by rw [Nat.pow_zero, Nat.mul_one] at h2; omega
  | f + 1, l, s, h1, h2 => by
    obtain ⟨e1, e2, e3⟩ := pw w hw
    have h3 : 2 ^ w < 2 * s * 2 ^ f := by
      have e : s * 2 ^ (f + 1) = 2 * s * 2 ^ f := by rw [Nat.pow_succ, Nat.mul_comm (2 ^ f) 2, ← Nat.mul_assoc, Nat.mul_comm s 2]
      rw [← e]; exact h2
    unfold stl
    by_cases c1 : l + s ≤ 2 ^ (w - 1)
    · rw [if_pos c1]
      exact .zero c1 (stl_stl w hw f _ _ (by omega) h3)
    · rw [if_neg c1]
      by_cases c2 : 2 ^ (w - 1) ≤ l
      · rw [if_pos c2]
        exact .one c1 c2 (stl_stl w hw f _ _ (by omega) h3)
      · rw [if_neg c2]
        by_cases c3 : 2 ^ (w - 2) ≤ l ∧ l + s ≤ 2 ^ (w - 1) + 2 ^ (w - 2)
        · rw [if_pos c3]
          exact .mid c1 c2 c3 (stl_stl w hw f _ _ (by omega) h3)
        · rw [if_neg c3]
          exact .done c1 c2 c3
theorem Stl.size {w l s l' s' : Nat} {o : List Nat} (h : Stl w l s o l' s') : s' = s * 2 ^ o.length := by
  induction h with
  | done => simp
  | zero _ _ ih | one _ _ _ ih | mid _ _ _ _ ih =>
    rw [ih, List.length_cons, Nat.pow_succ, Nat.mul_comm (2 ^ _) 2, ← Nat.mul_assoc, Nat.mul_comm 2]
theorem Stl.fin {w l s l' s' : Nat} {o : List Nat} (hw : 2 ≤ w) (h : Stl w l s o l' s') (hl : l + s ≤ 2 ^ w) :
    l' + s' ≤ 2 ^ w ∧ 2 ^ (w - 2) < s' ∧ l' < 2 ^ (w - 1) ∧ 2 ^ (w - 1) < l' + s' := by
  obtain ⟨e1, e2, e3⟩ := pw w hw
  induction h with
  | done h1 h2 h3 => refine ⟨hl, ?_, ?_, ?_⟩ <;> omega
  | zero _ _ ih => exact ih (by omega)
  | one _ _ _ ih => exact ih (by omega)
  | mid _ _ _ _ ih => exact ih (by omega)
theorem Stl.len {w l s l' s' : Nat} {o : List Nat} (hw : 2 ≤ w) (h : Stl w l s o l' s') (hl : l + s ≤ 2 ^ w) (hs : 0 < s) : o.length ≤ w := by
  have h1 := h.size
  have h2 := (h.fin hw hl).1
  have h3 : 2 ^ o.length ≤ 2 ^ w := by
    have h4 : 2 ^ o.length ≤ s * 2 ^ o.length := Nat.le_mul_of_pos_left _ hs
    omega
  exact (Nat.pow_le_pow_iff_right (by decide)).mp h3
/-- what an op takes off -/
def sb (w o : Nat) : Nat := if o = 0 then 0 else if o = 1 then 2 ^ (w - 1) else 2 ^ (w - 2)

/-! ### models and ways -/
abbrev Md := List (List Nat × List Nat)
def parts (M : Md) (q : Nat) : List Nat := (M.getD q ([], [])).1
def fol (M : Md) (q i : Nat) : Nat := (M.getD q ([], [])).2.getD i 0
structure MOk (M : Md) (n w : Nat) : Prop where
  ne : 0 < M.length
  w2 : 3 ≤ w
  w16 : w ≤ 5
  n1 : 1 ≤ n
  n8 : n ≤ 4
  m8 : M.length ≤ 8
  len : ∀ q, q < M.length → (parts M q).length = n
  lef : ∀ q, q < M.length → (M.getD q ([], [])).2.length = n
  fl : ∀ q i, q < M.length → i < n → fol M q i < M.length
  pos : ∀ q, q < M.length → 0 < (parts M q).sum
  fit : ∀ q, q < M.length → (parts M q).sum ≤ 2 ^ (w - 2) + 1
/-- a register: the state, low, size; the number of its stretch's beginning; the ops so far -/
structure Rg where
  st : Nat
  l : Nat
  s : Nat
  A : Nat
  o : List Nat
def r0 (w : Nat) : Rg := ⟨0, 0, 2 ^ w, 0, []⟩
def qst (M : Md) (w : Nat) (r : Rg) (i : Nat) : List Nat × Nat × Nat := stl w (w + 1) (r.l + ca (parts M r.st) r.s i) (ca (parts M r.st) r.s (i + 1) - ca (parts M r.st) r.s i)
def stp (M : Md) (w : Nat) (r : Rg) (i : Nat) : Rg :=
  ⟨fol M r.st i, (qst M w r i).2.1, (qst M w r i).2.2, (r.A + ca (parts M r.st) r.s i) * 2 ^ (qst M w r i).1.length, r.o ++ (qst M w r i).1⟩
def goes (M : Md) (w : Nat) : Rg → List Nat → Rg
  | r, [] => r
  | r, i :: is => goes M w (stp M w r i) is
theorem goes_app (M : Md) (w : Nat) : ∀ (r : Rg) (p q : List Nat), goes M w r (p ++ q) = goes M w (goes M w r p) q
  | _, [], _ => rfl
  | r, i :: p, q => goes_app M w (stp M w r i) p q
/-- a way from a state -/
def VW (M : Md) : Nat → List Nat → Prop
  | _, [] => True
  | q, i :: is => i < (parts M q).length ∧ 0 < (parts M q).getD i 0 ∧ VW M (fol M q i) is
structure RI (M : Md) (w : Nat) (r : Rg) : Prop where
  st : r.st < M.length
  lo : r.l + r.s ≤ 2 ^ w
  big : 2 ^ (w - 2) < r.s
  al : r.A + r.s ≤ 2 ^ (w + r.o.length)
theorem RI.zero {M : Md} {n w : Nat} (m : MOk M n w) : RI M w (r0 w) := by
  obtain ⟨e1, e2, e3⟩ := pw w (by have := m.w2; omega)
  exact ⟨m.ne, by simp [r0], by show 2 ^ (w - 2) < 2 ^ w; omega, by simp [r0]⟩
theorem stp_stl {M : Md} {n w : Nat} (m : MOk M n w) {r : Rg} (I : RI M w r) {i : Nat} (hi : 0 < (parts M r.st).getD i 0) :
    ca (parts M r.st) r.s i < ca (parts M r.st) r.s (i + 1) ∧ ca (parts M r.st) r.s (i + 1) ≤ r.s ∧
    Stl w (r.l + ca (parts M r.st) r.s i) (ca (parts M r.st) r.s (i + 1) - ca (parts M r.st) r.s i) (qst M w r i).1 (stp M w r i).l (stp M w r i).s := by
  have hw := m.w2
  have h1 := ca_lt (parts M r.st) r.s i (m.pos _ I.st) (by have := m.fit _ I.st; have := I.big; omega) hi
  have h2 := ca_le (parts M r.st) r.s (m.pos _ I.st) (i + 1)
  have h3 := I.lo
  refine ⟨h1, h2, ?_⟩
  apply stl_stl w (by omega)
  · omega
  · have h4 : 2 ^ (w + 1) = 2 ^ w * 2 := Nat.pow_succ ..
    have h5 : 2 ^ (w + 1) ≤ (ca (parts M r.st) r.s (i + 1) - ca (parts M r.st) r.s i) * 2 ^ (w + 1) := Nat.le_mul_of_pos_left _ (by omega)
    have h6 : 0 < 2 ^ w := Nat.pow_pos (by decide)
    omega
theorem RI.step {M : Md} {n w : Nat} (m : MOk M n w) {r : Rg} (I : RI M w r) {i : Nat} (hl : i < (parts M r.st).length) (hi : 0 < (parts M r.st).getD i 0) : RI M w (stp M w r i) := by
  obtain ⟨h1, h2, h3⟩ := stp_stl m I hi
  have hw := m.w2
  have hlo := I.lo
  obtain ⟨f1, f2, f3, f4⟩ := h3.fin (by omega) (by omega)
  have sz := h3.size
  refine ⟨m.fl _ _ I.st (by rw [m.len _ I.st] at hl; exact hl), f1, f2, ?_⟩
  show (r.A + ca (parts M r.st) r.s i) * 2 ^ (qst M w r i).1.length + (stp M w r i).s ≤ 2 ^ (w + (r.o ++ (qst M w r i).1).length)
  rw [sz, ← Nat.add_mul, List.length_append, ← Nat.add_assoc, Nat.pow_add]
  refine Nat.mul_le_mul_right _ ?_
  have := I.al
  omega
theorem VW.app {M : Md} : ∀ {q : Nat} {p s : List Nat}, VW M q (p ++ s) → VW M q p
  | _, [], _, _ => trivial
  | _, _ :: _, _, h => ⟨h.1, h.2.1, VW.app h.2.2⟩
theorem RI.goes {M : Md} {n w : Nat} (m : MOk M n w) : ∀ {p : List Nat} {r : Rg}, RI M w r → VW M r.st p → RI M w (goes M w r p)
  | [], _, I, _ => I
  | i :: p, r, I, h => RI.goes m (p := p) (I.step m h.1 h.2.1) h.2.2
theorem VW.split {M : Md} {w : Nat} : ∀ {p s : List Nat} {r : Rg}, VW M r.st (p ++ s) ↔ VW M r.st p ∧ VW M (goes M w r p).st s
  | [], s, r => ⟨fun h => ⟨trivial, h⟩, fun h => h.2⟩
  | i :: p, s, r => by
    have ih := VW.split (M := M) (w := w) (p := p) (s := s) (r := stp M w r i)
    constructor
    · intro h
      have h2 := ih.mp h.2.2
      exact ⟨⟨h.1, h.2.1, h2.1⟩, h2.2⟩
    · intro h
      exact ⟨h.1.1, h.1.2.1, ih.mpr ⟨h.1.2.2, h.2⟩⟩

/-! ### reading -/
def num (b : List Nat) : Nat → Nat
  | 0 => 0
  | n + 1 => 2 * num b n + b.getD n 0
def Bits (b : List Nat) : Prop := ∀ x ∈ b, x ≤ 1
theorem Bits.get {b : List Nat} (h : Bits b) (n : Nat) : b.getD n 0 ≤ 1 := by
  rw [List.getD_eq_getElem?_getD]
  cases e : b[n]? with
  | none => simp
  | some x => exact h x (List.mem_of_getElem? e)
theorem num_lt {b : List Nat} (h : Bits b) (n : Nat) : num b n < 2 ^ n := by
  induction n with
  | zero => simp [num]
  | succ n ih =>
    have := h.get n
    rw [num, Nat.pow_succ]
    omega
theorem num_add {b : List Nat} (h : Bits b) (n : Nat) : ∀ d, num b n * 2 ^ d ≤ num b (n + d) ∧ num b (n + d) < (num b n + 1) * 2 ^ d
  | 0 => by simp
  | d + 1 => by
    obtain ⟨h1, h2⟩ := num_add h n d
    have := h.get (n + d)
    rw [← Nat.add_assoc, num, Nat.pow_succ, ← Nat.mul_assoc, ← Nat.mul_assoc]
    omega
/-- the number of the bits that are looked at lies in the register's stretch -/
def Ins (w : Nat) (b : List Nat) (r : Rg) : Prop := r.A ≤ num b (w + r.o.length) ∧ num b (w + r.o.length) < r.A + r.s
theorem ins_stp {M : Md} {n w : Nat} (m : MOk M n w) {r : Rg} (I : RI M w r) {i : Nat} (hi : 0 < (parts M r.st).getD i 0) {b : List Nat} (hb : Bits b) :
    Ins w b (stp M w r i) ↔ r.A + ca (parts M r.st) r.s i ≤ num b (w + r.o.length) ∧ num b (w + r.o.length) < r.A + ca (parts M r.st) r.s (i + 1) := by
  obtain ⟨h1, h2, h3⟩ := stp_stl m I hi
  have sz := h3.size
  obtain ⟨g1, g2⟩ := num_add hb (w + r.o.length) (qst M w r i).1.length
  unfold Ins
  rw [sz, show (stp M w r i).A = (r.A + ca (parts M r.st) r.s i) * 2 ^ (qst M w r i).1.length from rfl, show (stp M w r i).o = r.o ++ (qst M w r i).1 from rfl, List.length_append, ← Nat.add_assoc, ← Nat.add_mul,
    show r.A + ca (parts M r.st) r.s i + (ca (parts M r.st) r.s (i + 1) - ca (parts M r.st) r.s i) = r.A + ca (parts M r.st) r.s (i + 1) by omega]
  have hp : 0 < 2 ^ (qst M w r i).1.length := Nat.pow_pos (by decide)
  generalize 2 ^ (qst M w r i).1.length = p at *
  generalize num b (w + r.o.length + (qst M w r i).1.length) = y at *
  generalize num b (w + r.o.length) = x at *
  generalize r.A + ca (parts M r.st) r.s i = u at *
  generalize r.A + ca (parts M r.st) r.s (i + 1) = v at *
  constructor
  · rintro ⟨k1, k2⟩
    exact ⟨Nat.le_of_lt_succ (Nat.lt_of_mul_lt_mul_right (Nat.lt_of_le_of_lt k1 g2)), Nat.lt_of_mul_lt_mul_right (Nat.lt_of_le_of_lt g1 k2)⟩
  · rintro ⟨k1, k2⟩
    exact ⟨Nat.le_trans (Nat.mul_le_mul_right _ k1) g1, Nat.lt_of_lt_of_le g2 (Nat.mul_le_mul_right _ k2)⟩
/-- the outcome at an offset -/
def outO (P : List Nat) (s u : Nat) : Nat → Nat → Nat
  | 0, i => i
  | f + 1, i => if ca P s i ≤ u ∧ u < ca P s (i + 1) then i else outO P s u f (i + 1)
def out (P : List Nat) (s u : Nat) : Nat := outO P s u P.length 0
theorem outO_spec (P : List Nat) (s u : Nat) (hp : 0 < P.sum) (hu : u < s) : ∀ f i, i + f = P.length → ca P s i ≤ u → outO P s u f i < P.length ∧ ca P s (outO P s u f i) ≤ u ∧ u < ca P s (outO P s u f i + 1)
  | 0, i, h, h1 => by
    rw [ca_all P s hp (by omega)] at h1
    omega
  | f + 1, i, h, h1 => by
    unfold outO
    by_cases c : ca P s i ≤ u ∧ u < ca P s (i + 1)
    · rw [if_pos c]; exact ⟨by omega, c⟩
    · rw [if_neg c]
      exact outO_spec P s u hp hu f (i + 1) (by omega) (by omega)
theorem out_spec {P : List Nat} {s u : Nat} (hp : 0 < P.sum) (hu : u < s) : out P s u < P.length ∧ ca P s (out P s u) ≤ u ∧ u < ca P s (out P s u + 1) :=
  outO_spec P s u hp hu P.length 0 (by omega) (by rw [ca_zero]; omega)
theorem out_uni {P : List Nat} {s u i j : Nat} (h1 : ca P s i ≤ u) (h2 : u < ca P s (i + 1)) (h3 : ca P s j ≤ u) (h4 : u < ca P s (j + 1)) : i = j := by
  by_cases a : i < j
  · have := ca_mono P s (i := i + 1) (j := j) (by omega); omega
  · by_cases c : j < i
    · have := ca_mono P s (i := j + 1) (j := i) (by omega); omega
    · omega
theorem out_pos {P : List Nat} {s u : Nat} (hp : 0 < P.sum) (hu : u < s) : 0 < P.getD (out P s u) 0 := by
  obtain ⟨h1, h2, h3⟩ := out_spec hp hu
  cases e : P.getD (out P s u) 0 with
  | zero => rw [ca_eq P s _ e] at h3; omega
  | succ k => omega
def oc (M : Md) (w : Nat) (b : List Nat) (r : Rg) : Nat := out (parts M r.st) r.s (num b (w + r.o.length) - r.A)
def readW (M : Md) (w : Nat) (b : List Nat) : Nat → Rg → List Nat
  | 0, _ => []
  | k + 1, r => oc M w b r :: readW M w b k (stp M w r (oc M w b r))
theorem readW_len (M : Md) (w : Nat) (b : List Nat) : ∀ k r, (readW M w b k r).length = k
  | 0, _ => rfl
  | k + 1, r => by rw [readW, List.length_cons, readW_len M w b k]
theorem oc_spec {M : Md} {n w : Nat} (m : MOk M n w) {r : Rg} (I : RI M w r) {b : List Nat} (hb : Bits b) (h : Ins w b r) :
    oc M w b r < (parts M r.st).length ∧ 0 < (parts M r.st).getD (oc M w b r) 0 ∧ Ins w b (stp M w r (oc M w b r)) := by
  have hu : num b (w + r.o.length) - r.A < r.s := by have := h.1; have := h.2; omega
  obtain ⟨h1, h2, h3⟩ := out_spec (m.pos _ I.st) hu
  have h4 := out_pos (m.pos _ I.st) hu
  refine ⟨h1, h4, (ins_stp m I h4 hb).mpr ?_⟩
  have := h.1
  omega
theorem readW_ok {M : Md} {n w : Nat} (m : MOk M n w) {b : List Nat} (hb : Bits b) : ∀ (k : Nat) (r : Rg), RI M w r → Ins w b r → VW M r.st (readW M w b k r) ∧ Ins w b (goes M w r (readW M w b k r))
  | 0, r, I, h => ⟨trivial, h⟩
  | k + 1, r, I, h => by
    obtain ⟨h1, h2, h3⟩ := oc_spec m I hb h
    obtain ⟨h4, h5⟩ := readW_ok m hb k _ (I.step m h1 h2) h3
    exact ⟨⟨h1, h2, h4⟩, h5⟩
theorem ins_back {M : Md} {n w : Nat} (m : MOk M n w) {b : List Nat} (hb : Bits b) : ∀ (p : List Nat) (r : Rg), RI M w r → VW M r.st p → Ins w b (goes M w r p) → Ins w b r
  | [], r, I, v, h => h
  | i :: p, r, I, v, h => by
    have h1 := ins_back m hb p _ (I.step m v.1 v.2.1) v.2.2 h
    have h2 := (ins_stp m I v.2.1 hb).mp h1
    have h3 := (stp_stl m I v.2.1).2.1
    unfold Ins
    omega
theorem readW_eq {M : Md} {n w : Nat} (m : MOk M n w) {b : List Nat} (hb : Bits b) : ∀ (p : List Nat) (r : Rg), RI M w r → VW M r.st p → Ins w b (goes M w r p) → readW M w b p.length r = p
  | [], r, I, v, h => rfl
  | i :: p, r, I, v, h => by
    have h1 := ins_back m hb p _ (I.step m v.1 v.2.1) v.2.2 h
    have h2 := (ins_stp m I v.2.1 hb).mp h1
    have h0 := ins_back m hb (i :: p) r I v h
    have hu : num b (w + r.o.length) - r.A < r.s := by have := h0.1; have := h0.2; omega
    obtain ⟨g1, g2, g3⟩ := out_spec (m.pos _ I.st) hu
    have e : oc M w b r = i := out_uni g2 g3 (by omega) (by omega)
    rw [List.length_cons, readW, e, readW_eq m hb p _ (I.step m v.1 v.2.1) v.2.2 h]
theorem ins_zero {w : Nat} {b : List Nat} (hb : Bits b) : Ins w b (r0 w) := ⟨Nat.zero_le _, by show num b (w + 0) < 0 + 2 ^ w; rw [Nat.zero_add]; exact num_lt hb w⟩
/-- a way is read just where the number lies in its stretch -/
theorem read_iff {M : Md} {n w : Nat} (m : MOk M n w) {b : List Nat} (hb : Bits b) {p : List Nat} (v : VW M 0 p) : readW M w b p.length (r0 w) = p ↔ Ins w b (goes M w (r0 w) p) := by
  constructor
  · intro h
    have := (readW_ok m hb p.length (r0 w) (RI.zero m) (ins_zero hb)).2
    rw [h] at this
    exact this
  · exact readW_eq m hb p (r0 w) (RI.zero m) v
end K59

namespace K59
/-! ### counting rows of bits -/
/-- the row of m bits of a number -/
def rowOf (m N : Nat) : List Nat := (List.range m).map fun a => N / 2 ^ (m - 1 - a) % 2
theorem rowOf_len (m N : Nat) : (rowOf m N).length = m := by simp [rowOf]
theorem rowOf_bits (m N : Nat) : Bits (rowOf m N) := by
  intro x hx
  obtain ⟨a, _, rfl⟩ := List.mem_map.mp hx
  omega
theorem rowOf_get {m N a : Nat} (h : a < m) : (rowOf m N).getD a 0 = N / 2 ^ (m - 1 - a) % 2 := by
  rw [List.getD_eq_getElem?_getD, rowOf, List.getElem?_map, List.getElem?_range h]
  rfl
theorem num_row {m N : Nat} (hN : N < 2 ^ m) : ∀ n, n ≤ m → num (rowOf m N) n = N / 2 ^ (m - n)
  | 0, _ => by rw [num, Nat.sub_zero, Nat.div_eq_of_lt hN]
  | n + 1, h => by
    have e : m - n = m - (n + 1) + 1 := by omega
    have e2 : m - 1 - n = m - (n + 1) := by omega
    rw [num, num_row hN n (by omega), rowOf_get (by omega), e2, e, Nat.pow_succ, ← Nat.div_div_eq_div_mul]
    omega
theorem num_app (b c : List Nat) : ∀ n, n ≤ b.length → num (b ++ c) n = num b n
  | 0, _ => rfl
  | n + 1, h => by
    rw [num, num, num_app b c n (by omega), List.getD_eq_getElem?_getD, List.getD_eq_getElem?_getD, List.getElem?_append_left (by omega)]
/-- reading k outcomes looks at so many bits at most: those of each way of one outcome less -/
theorem readW_app {M : Md} {n w : Nat} (m : MOk M n w) {b c : List Nat} (hb : Bits b) (hc : Bits (b ++ c)) : ∀ (k : Nat) (r : Rg), RI M w r → Ins w b r → (k ≠ 0 → Ins w (b ++ c) r) →
    (∀ p, VW M r.st p → p.length + 1 = k → w + (goes M w r p).o.length ≤ b.length) → readW M w (b ++ c) k r = readW M w b k r
  | 0, _, _, _, _, _ => rfl
  | k + 1, r, I, h1, h2, h3 => by
    have hl : w + r.o.length ≤ b.length := by
      -- the way of k outcomes that is read looks at no fewer bits than its beginning
      obtain ⟨v, _⟩ := readW_ok m hb k r I h1
      have := h3 (readW M w b k r) v (by rw [readW_len])
      have mono : ∀ (p : List Nat) (r : Rg), r.o.length ≤ (goes M w r p).o.length := by
        intro p
        induction p with
        | nil => intro r; exact Nat.le_refl _
        | cons i p ih =>
          intro r
          refine Nat.le_trans ?_ (ih (stp M w r i))
          show r.o.length ≤ (r.o ++ (qst M w r i).1).length
          rw [List.length_append]; omega
      have := mono (readW M w b k r) r
      omega
    have e : oc M w (b ++ c) r = oc M w b r := by unfold oc; rw [num_app b c _ hl]
    obtain ⟨g1, g2, g3⟩ := oc_spec m I hb h1
    have g4 := (oc_spec m I hc (h2 (by omega))).2.2
    rw [e] at g4
    rw [readW, readW, e, readW_app m hb hc k _ (I.step m g1 g2) g3 (fun _ => g4) fun p vp hp => h3 (oc M w b r :: p) ⟨g1, g2, vp⟩ (by rw [List.length_cons]; omega)]
/-- how many numbers below 2 ^ m are read as a way -/
def cnt (M : Md) (w m : Nat) (p : List Nat) (N : Nat) : Nat := ((List.range N).filter fun x => decide (readW M w (rowOf m x) p.length (r0 w) = p)).length
theorem count_between (x y : Nat) : ∀ N, x ≤ y → ((List.range N).filter fun z => decide (x ≤ z ∧ z < y)).length = min N y - min N x
  | 0, _ => by simp
  | N + 1, h => by
    rw [List.range_succ, List.filter_append, List.length_append, count_between x y N h]
    by_cases c : x ≤ N ∧ N < y
    · simp only [c, List.filter_cons, List.filter_nil, and_self, decide_true, if_true, List.length_cons, List.length_nil]
      omega
    · rw [List.filter_cons_of_neg (by simpa using c), List.filter_nil, List.length_nil]
      omega
theorem div_between {N e x y : Nat} : (x ≤ N / 2 ^ e ∧ N / 2 ^ e < y) ↔ (x * 2 ^ e ≤ N ∧ N < y * 2 ^ e) := by
  have hp : 0 < 2 ^ e := Nat.pow_pos (by decide)
  rw [Nat.le_div_iff_mul_le hp, Nat.div_lt_iff_lt_mul hp]
/-- of all rows of m bits a way is read just so often -/
theorem cnt_snoc {M : Md} {n w : Nat} (mo : MOk M n w) {p : List Nat} {i m : Nat} (v : VW M 0 (p ++ [i])) (hm : w + (goes M w (r0 w) p).o.length ≤ m) :
    cnt M w m (p ++ [i]) (2 ^ m) = (ca (parts M (goes M w (r0 w) p).st) (goes M w (r0 w) p).s (i + 1) - ca (parts M (goes M w (r0 w) p).st) (goes M w (r0 w) p).s i) * 2 ^ (m - (w + (goes M w (r0 w) p).o.length)) := by
  have v1 : VW M (r0 w).st (p ++ [i]) := v
  obtain ⟨vp, vi, vj, _⟩ := (VW.split (w := w)).mp v1
  have I := RI.goes mo (RI.zero mo) vp
  obtain ⟨s1, s2, _⟩ := stp_stl mo I vj
  have al := I.al
  unfold cnt
  have e : ∀ x ∈ List.range (2 ^ m), decide (readW M w (rowOf m x) (p ++ [i]).length (r0 w) = p ++ [i]) =
      decide (((goes M w (r0 w) p).A + ca (parts M (goes M w (r0 w) p).st) (goes M w (r0 w) p).s i) * 2 ^ (m - (w + (goes M w (r0 w) p).o.length)) ≤ x ∧
        x < ((goes M w (r0 w) p).A + ca (parts M (goes M w (r0 w) p).st) (goes M w (r0 w) p).s (i + 1)) * 2 ^ (m - (w + (goes M w (r0 w) p).o.length))) := by
    intro x hx
    have hx := List.mem_range.mp hx
    have hb := rowOf_bits m x
    apply decide_eq_decide.mpr
    rw [read_iff mo hb v, goes_app]
    show Ins w (rowOf m x) (stp M w (goes M w (r0 w) p) i) ↔ _
    rw [ins_stp mo I vj hb, num_row hx _ hm, div_between]
  rw [List.filter_congr e, count_between _ _ _ (Nat.mul_le_mul_right _ (by omega))]
  have h2 : ((goes M w (r0 w) p).A + ca (parts M (goes M w (r0 w) p).st) (goes M w (r0 w) p).s (i + 1)) * 2 ^ (m - (w + (goes M w (r0 w) p).o.length)) ≤ 2 ^ m := by
    have h3 : 2 ^ m = 2 ^ (w + (goes M w (r0 w) p).o.length) * 2 ^ (m - (w + (goes M w (r0 w) p).o.length)) := by
      rw [← Nat.pow_add]; congr 1; omega
    rw [h3]
    exact Nat.mul_le_mul_right _ (by omega)
  have h4 : ((goes M w (r0 w) p).A + ca (parts M (goes M w (r0 w) p).st) (goes M w (r0 w) p).s i) * 2 ^ (m - (w + (goes M w (r0 w) p).o.length)) ≤
      ((goes M w (r0 w) p).A + ca (parts M (goes M w (r0 w) p).st) (goes M w (r0 w) p).s (i + 1)) * 2 ^ (m - (w + (goes M w (r0 w) p).o.length)) := Nat.mul_le_mul_right _ (by omega)
  rw [Nat.min_eq_right h2, Nat.min_eq_right (Nat.le_trans h4 h2), ← Nat.sub_mul]
  congr 1
  omega
theorem cnt_nil (M : Md) (w m : Nat) : cnt M w m [] (2 ^ m) = 2 ^ m := by
  unfold cnt
  rw [List.filter_eq_self.mpr (fun x _ => by simp [readW]), List.length_range]

/-! ### tops and bottoms -/
def topW (M : Md) (w : Nat) : Rg → List Nat → Nat
  | _, [] => 1
  | r, i :: is => (ca (parts M r.st) r.s (i + 1) - ca (parts M r.st) r.s i) * topW M w (stp M w r i) is
def botW (M : Md) (w : Nat) : Rg → List Nat → Nat
  | _, [] => 1
  | r, i :: is => r.s * botW M w (stp M w r i) is
theorem topW_app (M : Md) (w : Nat) : ∀ (p q : List Nat) (r : Rg), topW M w r (p ++ q) = topW M w r p * topW M w (goes M w r p) q
  | [], q, r => by simp [topW, goes]
  | i :: p, q, r => by
    show _ * topW M w (stp M w r i) (p ++ q) = _ * topW M w (stp M w r i) p * topW M w (goes M w (stp M w r i) p) q
    rw [topW_app M w p q, Nat.mul_assoc]
theorem botW_app (M : Md) (w : Nat) : ∀ (p q : List Nat) (r : Rg), botW M w r (p ++ q) = botW M w r p * botW M w (goes M w r p) q
  | [], q, r => by simp [botW, goes]
  | i :: p, q, r => by
    show _ * botW M w (stp M w r i) (p ++ q) = _ * botW M w (stp M w r i) p * botW M w (goes M w (stp M w r i) p) q
    rw [botW_app M w p q, Nat.mul_assoc]
theorem top_bot {M : Md} {n w : Nat} (mo : MOk M n w) : ∀ (p : List Nat) (r : Rg), RI M w r → VW M r.st p →
    topW M w r p * (r.s * 2 ^ (goes M w r p).o.length) = botW M w r p * ((goes M w r p).s * 2 ^ r.o.length)
  | [], r, _, _ => by simp [topW, botW, goes]
  | i :: p, r, I, v => by
    have ih := top_bot mo p _ (I.step mo v.1 v.2.1) v.2.2
    have sz := (stp_stl mo I v.2.1).2.2.size
    have eo : (stp M w r i).o.length = r.o.length + (qst M w r i).1.length := by show (r.o ++ (qst M w r i).1).length = _; rw [List.length_append]
    rw [eo, Nat.pow_add] at ih
    rw [sz] at ih
    show _ * topW M w (stp M w r i) p * (r.s * 2 ^ (goes M w (stp M w r i) p).o.length) = r.s * botW M w (stp M w r i) p * ((goes M w (stp M w r i) p).s * 2 ^ r.o.length)
    have hp : 0 < 2 ^ (qst M w r i).1.length := Nat.pow_pos (by decide)
    apply Nat.eq_of_mul_eq_mul_right hp
    generalize 2 ^ (qst M w r i).1.length = x at *
    generalize ca (parts M r.st) r.s (i + 1) - ca (parts M r.st) r.s i = y at *
    generalize topW M w (stp M w r i) p = t at *
    generalize botW M w (stp M w r i) p = bt at *
    generalize 2 ^ (goes M w (stp M w r i) p).o.length = z at *
    generalize (goes M w (stp M w r i) p).s = u at *
    generalize 2 ^ r.o.length = q at *
    calc y * t * (r.s * z) * x = r.s * (t * (y * x * z)) := by
          simp only [Nat.mul_comm, Nat.mul_left_comm, Nat.mul_assoc]
      _ = r.s * (bt * (u * (q * x))) := by rw [ih]
      _ = r.s * bt * (u * q) * x := by simp only [Nat.mul_comm, Nat.mul_left_comm, Nat.mul_assoc]
/-- the count is the top times 2 ^ m, divided by the bottom, without a rest -/
theorem top_snoc {M : Md} {n w : Nat} (mo : MOk M n w) {p : List Nat} {i m : Nat} (v : VW M 0 (p ++ [i])) (hm : w + (goes M w (r0 w) p).o.length ≤ m) :
    topW M w (r0 w) (p ++ [i]) * 2 ^ m = botW M w (r0 w) (p ++ [i]) * cnt M w m (p ++ [i]) (2 ^ m) := by
  have v1 : VW M (r0 w).st (p ++ [i]) := v
  obtain ⟨vp, _⟩ := (VW.split (w := w)).mp v1
  have h := top_bot mo p (r0 w) (RI.zero mo) vp
  rw [cnt_snoc mo v hm, topW_app, botW_app]
  show topW M w (r0 w) p * (_ * 1) * 2 ^ m = botW M w (r0 w) p * (_ * 1) * (_ * _)
  have e0 : (r0 w).s * 2 ^ (goes M w (r0 w) p).o.length = 2 ^ (w + (goes M w (r0 w) p).o.length) := by rw [Nat.pow_add]; rfl
  have e1 : (goes M w (r0 w) p).s * 2 ^ (r0 w).o.length = (goes M w (r0 w) p).s := by show _ * 2 ^ 0 = _; rw [Nat.pow_zero, Nat.mul_one]
  rw [e0, e1] at h
  have e2 : 2 ^ m = 2 ^ (w + (goes M w (r0 w) p).o.length) * 2 ^ (m - (w + (goes M w (r0 w) p).o.length)) := by rw [← Nat.pow_add]; congr 1; omega
  rw [e2]
  generalize 2 ^ (w + (goes M w (r0 w) p).o.length) = x at *
  generalize 2 ^ (m - (w + (goes M w (r0 w) p).o.length)) = y at *
  generalize topW M w (r0 w) p = t at *
  generalize botW M w (r0 w) p = bt at *
  generalize (goes M w (r0 w) p).s = u at *
  generalize ca (parts M (goes M w (r0 w) p).st) u (i + 1) - ca (parts M (goes M w (r0 w) p).st) u i = z
  calc t * (z * 1) * (x * y) = t * x * (z * y) := by simp only [Nat.mul_one, Nat.mul_comm, Nat.mul_left_comm, Nat.mul_assoc]
    _ = bt * u * (z * y) := by rw [h]
    _ = bt * (u * 1) * (z * y) := by rw [Nat.mul_one]
theorem bot_pos {M : Md} {n w : Nat} (mo : MOk M n w) : ∀ (p : List Nat) (r : Rg), RI M w r → VW M r.st p → 0 < botW M w r p ∧ botW M w r p ≤ 2 ^ (w * p.length) ∧ 0 < topW M w r p ∧ topW M w r p ≤ botW M w r p
  | [], r, _, _ => by simp [topW, botW]
  | i :: p, r, I, v => by
    obtain ⟨h1, h2, h3, h4⟩ := bot_pos mo p _ (I.step mo v.1 v.2.1) v.2.2
    obtain ⟨s1, s2, _⟩ := stp_stl mo I v.2.1
    have lo := I.lo
    have bg := I.big
    refine ⟨Nat.mul_pos (by omega) h1, ?_, Nat.mul_pos (by omega) h3, Nat.mul_le_mul (by omega) h4⟩
    rw [List.length_cons, Nat.mul_succ, Nat.add_comm, Nat.pow_add]
    exact Nat.mul_le_mul (by omega) h2
end K59

namespace K59
/-! ### writing -/
def encS (x : List Nat × Nat) (op : Nat) : List Nat × Nat :=
  if op = 0 then (x.1 ++ 0 :: List.replicate x.2 1, 0) else if op = 1 then (x.1 ++ 1 :: List.replicate x.2 0, 0) else (x.1, x.2 + 1)
def enc (x : List Nat × Nat) (o : List Nat) : List Nat × Nat := o.foldl encS x
theorem enc_app (x : List Nat × Nat) (o q : List Nat) : enc x (o ++ q) = enc (enc x o) q := List.foldl_append ..
theorem enc_pre (o : List Nat) : ∀ (bs : List Nat) (t : Nat), enc (bs, t) o = (bs ++ (enc ([], t) o).1, (enc ([], t) o).2) := by
  induction o with
  | nil => intro bs t; simp [enc]
  | cons op o ih =>
    intro bs t
    have e : ∀ y : List Nat × Nat, enc y (op :: o) = enc (encS y op) o := fun _ => rfl
    rw [e, e]
    unfold encS
    by_cases h0 : op = 0
    · simp only [h0, if_true, List.nil_append]
      rw [ih, ih (0 :: List.replicate t 1), List.append_assoc]
    · by_cases h1 : op = 1
      · simp only [h1, if_true, List.nil_append, if_neg (show ¬ (1 : Nat) = 0 by decide)]
        rw [ih, ih (1 :: List.replicate t 0), List.append_assoc]
      · simp only [if_neg h0, if_neg h1]
        rw [ih]
def val (b : List Nat) : Nat := num b b.length
theorem num_pad (b : List Nat) : ∀ d, num b (b.length + d) = val b * 2 ^ d
  | 0 => by simp [val]
  | d + 1 => by
    have h : b.getD (b.length + d) 0 = 0 := by rw [List.getD_eq_getElem?_getD, List.getElem?_eq_none_iff.mpr (by omega)] <;> rfl
    rw [← Nat.add_assoc, num, num_pad b d, h, Nat.pow_succ]
    have : 2 * (val b * 2 ^ d) = val b * (2 ^ d * 2) := by rw [Nat.mul_comm 2, Nat.mul_assoc]
    omega
theorem val_app (b c : List Nat) : val (b ++ c) = val b * 2 ^ c.length + val c := by
  have key : ∀ n, n ≤ c.length → num (b ++ c) (b.length + n) = val b * 2 ^ n + num c n := by
    intro n
    induction n with
    | zero => intro _; rw [Nat.add_zero, num_app b c _ (Nat.le_refl _), Nat.pow_zero, Nat.mul_one]; rfl
    | succ n ih =>
      intro h
      have e : (b ++ c).getD (b.length + n) 0 = c.getD n 0 := by
        rw [List.getD_eq_getElem?_getD, List.getD_eq_getElem?_getD, List.getElem?_append_right (by omega), Nat.add_sub_cancel_left]
      rw [← Nat.add_assoc, num, ih (by omega), e, num, Nat.pow_succ, Nat.mul_add, ← Nat.add_assoc]
      congr 2
      rw [Nat.mul_comm 2, Nat.mul_assoc]
  unfold val
  rw [List.length_append]
  exact key _ (Nat.le_refl _)
theorem val_ones : ∀ n, val (List.replicate n 1) + 1 = 2 ^ n
  | 0 => rfl
  | n + 1 => by
    have h := val_app [1] (List.replicate n 1)
    have h2 := val_ones n
    rw [show [1] ++ List.replicate n 1 = List.replicate (n + 1) 1 from rfl, List.length_replicate, show val [1] = 1 from rfl] at h
    rw [h, Nat.pow_succ]
    omega
theorem val_zeros : ∀ n, val (List.replicate n 0) = 0
  | 0 => rfl
  | n + 1 => by
    have h := val_app [0] (List.replicate n 0)
    rw [show [0] ++ List.replicate n 0 = List.replicate (n + 1) 0 from rfl, val_zeros n, show val [0] = 0 from rfl] at h
    rw [h]; simp
theorem val_one_zeros (n : Nat) : val (1 :: List.replicate n 0) = 2 ^ n := by
  have h := val_app [1] (List.replicate n 0)
  rw [val_zeros, List.length_replicate, show val [1] = 1 from rfl] at h
  rw [show 1 :: List.replicate n 0 = [1] ++ List.replicate n 0 from rfl, h]; simp
theorem val_zero_ones (n : Nat) : val (0 :: List.replicate n 1) + 1 = 2 ^ n := by
  have h := val_app [0] (List.replicate n 1)
  have h2 := val_ones n
  rw [List.length_replicate, show val [0] = 0 from rfl] at h
  rw [show 0 :: List.replicate n 1 = [0] ++ List.replicate n 1 from rfl, h]; simp [h2]
theorem bits_app {b c : List Nat} (h1 : Bits b) (h2 : Bits c) : Bits (b ++ c) := fun x hx => (List.mem_append.mp hx).elim (h1 x) (h2 x)
theorem bits_rep {n v : Nat} (hv : v ≤ 1) : Bits (List.replicate n v) := fun x hx => by rw [(List.mem_replicate.mp hx).2]; exact hv
theorem bits_cons {b : List Nat} {v : Nat} (hv : v ≤ 1) (h : Bits b) : Bits (v :: b) := fun x hx => (List.mem_cons.mp hx).elim (fun e => by rw [e]; exact hv) (h x)
/-- what went out and what waits tell where the stretch begins -/
structure EI (w : Nat) (A l D : Nat) (x : List Nat × Nat) : Prop where
  len : x.1.length + x.2 = D
  num : A + 2 ^ (w - 1) = val x.1 * (2 ^ x.2 * 2 ^ w) + 2 ^ x.2 * 2 ^ (w - 1) + l
  bits : Bits x.1
theorem EI.ops {w : Nat} (hw : 2 ≤ w) {l s l' s' : Nat} {o : List Nat} (h : Stl w l s o l' s') : ∀ {A D : Nat} {x : List Nat × Nat}, EI w A l D x → EI w (A * 2 ^ o.length) l' (D + o.length) (enc x o) := by
  obtain ⟨e1, e2, e3⟩ := pw w hw
  induction h with
  | done => intro A D x E; simpa [enc] using E
  | @zero l s l' s' o c1 _ ih =>
    intro A D ⟨bs, t⟩ ⟨E1, E2, E3⟩
    have hv := val_app bs (0 :: List.replicate t 1)
    have h1 := val_zero_ones t
    have E' : EI w (2 * A) (2 * l) (D + 1) (encS (bs, t) 0) := by
      refine ⟨?_, ?_, bits_app E3 (bits_cons (by decide) (bits_rep (by decide)))⟩
      · show (bs ++ 0 :: List.replicate t 1).length + 0 = D + 1
        rw [List.length_append, List.length_cons, List.length_replicate]
        have : bs.length + t = D := E1
        omega
      · show 2 * A + 2 ^ (w - 1) = val (bs ++ 0 :: List.replicate t 1) * (2 ^ 0 * 2 ^ w) + 2 ^ 0 * 2 ^ (w - 1) + 2 * l
        have E2 : A + 2 ^ (w - 1) = val bs * (2 ^ t * 2 ^ w) + 2 ^ t * 2 ^ (w - 1) + l := E2
        rw [hv, List.length_cons, List.length_replicate, Nat.pow_zero, Nat.one_mul, Nat.one_mul]
        have k1 : (val bs * 2 ^ (t + 1) + val (0 :: List.replicate t 1)) * 2 ^ w + 2 ^ w = 2 * (val bs * (2 ^ t * 2 ^ w)) + 2 ^ t * 2 ^ w := by
          rw [← Nat.succ_mul, Nat.succ_eq_add_one, Nat.add_assoc, h1, Nat.add_mul, Nat.pow_succ]
          congr 1
          simp only [Nat.mul_comm, Nat.mul_left_comm, Nat.mul_assoc]
        have k2 : 2 ^ t * 2 ^ w = 2 * (2 ^ t * 2 ^ (w - 1)) := by rw [show 2 ^ w = 2 * 2 ^ (w - 1) by omega, ← Nat.mul_assoc, Nat.mul_comm _ 2, Nat.mul_assoc]
        omega
    have := ih E'
    rw [List.length_cons, Nat.pow_succ, Nat.mul_comm (2 ^ _) 2, ← Nat.mul_assoc, Nat.mul_comm A 2, Nat.add_comm _ 1, ← Nat.add_assoc]
    exact this
  | @one l s l' s' o c1 c2 _ ih =>
    intro A D ⟨bs, t⟩ ⟨E1, E2, E3⟩
    have hv := val_app bs (1 :: List.replicate t 0)
    have h1 := val_one_zeros t
    have E' : EI w (2 * A) (2 * (l - 2 ^ (w - 1))) (D + 1) (encS (bs, t) 1) := by
      refine ⟨?_, ?_, bits_app E3 (bits_cons (by decide) (bits_rep (by decide)))⟩
      · show (bs ++ 1 :: List.replicate t 0).length + 0 = D + 1
        rw [List.length_append, List.length_cons, List.length_replicate]
        have : bs.length + t = D := E1
        omega
      · show 2 * A + 2 ^ (w - 1) = val (bs ++ 1 :: List.replicate t 0) * (2 ^ 0 * 2 ^ w) + 2 ^ 0 * 2 ^ (w - 1) + 2 * (l - 2 ^ (w - 1))
        have E2 : A + 2 ^ (w - 1) = val bs * (2 ^ t * 2 ^ w) + 2 ^ t * 2 ^ (w - 1) + l := E2
        rw [hv, List.length_cons, List.length_replicate, h1, Nat.pow_zero, Nat.one_mul, Nat.one_mul]
        have k1 : (val bs * 2 ^ (t + 1) + 2 ^ t) * 2 ^ w = 2 * (val bs * (2 ^ t * 2 ^ w)) + 2 ^ t * 2 ^ w := by
          rw [Nat.add_mul, Nat.pow_succ]
          congr 1
          simp only [Nat.mul_comm, Nat.mul_left_comm, Nat.mul_assoc]
        have k2 : 2 ^ t * 2 ^ w = 2 * (2 ^ t * 2 ^ (w - 1)) := by rw [show 2 ^ w = 2 * 2 ^ (w - 1) by omega, ← Nat.mul_assoc, Nat.mul_comm _ 2, Nat.mul_assoc]
        omega
    have := ih E'
    rw [List.length_cons, Nat.pow_succ, Nat.mul_comm (2 ^ _) 2, ← Nat.mul_assoc, Nat.mul_comm A 2, Nat.add_comm _ 1, ← Nat.add_assoc]
    exact this
  | @mid l s l' s' o c1 c2 c3 _ ih =>
    intro A D ⟨bs, t⟩ ⟨E1, E2, E3⟩
    have E' : EI w (2 * A) (2 * (l - 2 ^ (w - 2))) (D + 1) (encS (bs, t) 2) := by
      refine ⟨?_, ?_, E3⟩
      · show bs.length + (t + 1) = D + 1
        have : bs.length + t = D := E1
        omega
      · show 2 * A + 2 ^ (w - 1) = val bs * (2 ^ (t + 1) * 2 ^ w) + 2 ^ (t + 1) * 2 ^ (w - 1) + 2 * (l - 2 ^ (w - 2))
        have E2 : A + 2 ^ (w - 1) = val bs * (2 ^ t * 2 ^ w) + 2 ^ t * 2 ^ (w - 1) + l := E2
        have k1 : val bs * (2 ^ (t + 1) * 2 ^ w) = 2 * (val bs * (2 ^ t * 2 ^ w)) := by
          rw [Nat.pow_succ, Nat.mul_comm (2 ^ t) 2, Nat.mul_assoc, ← Nat.mul_assoc, Nat.mul_comm _ 2, Nat.mul_assoc]
        have k2 : 2 ^ (t + 1) * 2 ^ (w - 1) = 2 * (2 ^ t * 2 ^ (w - 1)) := by rw [Nat.pow_succ, Nat.mul_comm (2 ^ t) 2, Nat.mul_assoc]
        omega
    have := ih E'
    rw [List.length_cons, Nat.pow_succ, Nat.mul_comm (2 ^ _) 2, ← Nat.mul_assoc, Nat.mul_comm A 2, Nat.add_comm _ 1, ← Nat.add_assoc]
    exact this
theorem EI.step {M : Md} {n w : Nat} (m : MOk M n w) {r : Rg} (I : RI M w r) {i : Nat} (hi : 0 < (parts M r.st).getD i 0) {x : List Nat × Nat} (E : EI w r.A r.l r.o.length x) :
    EI w (stp M w r i).A (stp M w r i).l (stp M w r i).o.length (enc x (qst M w r i).1) := by
  obtain ⟨h1, h2, h3⟩ := stp_stl m I hi
  have E' : EI w (r.A + ca (parts M r.st) r.s i) (r.l + ca (parts M r.st) r.s i) r.o.length x := ⟨E.len, by have := E.num; omega, E.bits⟩
  have := EI.ops (by have := m.w2; omega) h3 E'
  rw [show (stp M w r i).o = r.o ++ (qst M w r i).1 from rfl, List.length_append]
  exact this
theorem EI.goes {M : Md} {n w : Nat} (m : MOk M n w) : ∀ (p : List Nat) (r : Rg), RI M w r → VW M r.st p → EI w r.A r.l r.o.length (enc ([], 0) r.o) →
    EI w (goes M w r p).A (goes M w r p).l (goes M w r p).o.length (enc ([], 0) (goes M w r p).o)
  | [], _, _, _, E => E
  | i :: p, r, I, v, E => by
    refine EI.goes m p _ (I.step m v.1 v.2.1) v.2.2 ?_
    have := EI.step m I v.2.1 E
    rw [show (stp M w r i).o = r.o ++ (qst M w r i).1 from rfl, enc_app] at *
    exact this
/-- the bits at the end -/
def fin (w l s : Nat) (x : List Nat × Nat) : List Nat :=
  if l = 0 ∧ s = 2 ^ w ∧ x.2 = 0 then x.1 else if l < 2 ^ (w - 2) then x.1 ++ 0 :: List.replicate (x.2 + 1) 1 else x.1 ++ 1 :: List.replicate (x.2 + 1) 0
def wri (M : Md) (w : Nat) (p : List Nat) : List Nat := fin w (goes M w (r0 w) p).l (goes M w (r0 w) p).s (enc ([], 0) (goes M w (r0 w) p).o)
theorem fin_bits {w l s : Nat} {x : List Nat × Nat} (h : Bits x.1) : Bits (fin w l s x) := by
  unfold fin
  split
  · exact h
  · split
    · exact bits_app h (bits_cons (by decide) (bits_rep (by decide)))
    · exact bits_app h (bits_cons (by decide) (bits_rep (by decide)))
theorem fin_ins {w : Nat} (hw : 2 ≤ w) {r : Rg} {x : List Nat × Nat} (E : EI w r.A r.l r.o.length x) (f3 : r.l < 2 ^ (w - 1)) (f4 : 2 ^ (w - 1) < r.l + r.s) : Ins w (fin w r.l r.s x) r := by
  obtain ⟨e1, e2, e3⟩ := pw w hw
  obtain ⟨bs, t⟩ := x
  have E1 : bs.length + t = r.o.length := E.len
  have E2 : r.A + 2 ^ (w - 1) = val bs * (2 ^ t * 2 ^ w) + 2 ^ t * 2 ^ (w - 1) + r.l := E.num
  unfold fin Ins
  by_cases c : r.l = 0 ∧ r.s = 2 ^ w ∧ t = 0
  · rw [if_pos c]
    obtain ⟨c1, c2, c3⟩ := c
    subst c3
    have e : num bs (w + r.o.length) = val bs * 2 ^ w := by rw [← num_pad]; congr 1; omega
    show r.A ≤ num bs _ ∧ num bs _ < _
    rw [e]
    rw [Nat.pow_zero, Nat.one_mul, Nat.one_mul] at E2
    omega
  · rw [if_neg c]
    have ew : ∀ b : List Nat, b.length = r.o.length + 2 → num b (w + r.o.length) = val b * 2 ^ (w - 2) := fun b hb => by rw [← num_pad]; congr 1; omega
    have k2 : 2 ^ t * 2 ^ (w - 1) = 2 * (2 ^ t * 2 ^ (w - 2)) := by rw [e2, ← Nat.mul_assoc, Nat.mul_comm _ 2, Nat.mul_assoc]
    have k3 : val bs * (2 ^ t * 2 ^ w) = 4 * (val bs * (2 ^ t * 2 ^ (w - 2))) := by
      rw [e1, ← Nat.mul_assoc (2 ^ t), Nat.mul_comm (2 ^ t) 4, Nat.mul_assoc 4, ← Nat.mul_assoc (val bs), Nat.mul_comm (val bs) 4, Nat.mul_assoc]
    have k4 : val bs * 2 ^ (t + 2) * 2 ^ (w - 2) = 4 * (val bs * (2 ^ t * 2 ^ (w - 2))) := by
      rw [Nat.pow_add, show 2 ^ 2 = 4 from rfl, Nat.mul_comm (2 ^ t) 4, Nat.mul_assoc, Nat.mul_assoc 4, ← Nat.mul_assoc (val bs), Nat.mul_comm (val bs) 4, Nat.mul_assoc]
    have k5 : 2 ^ (t + 1) * 2 ^ (w - 2) = 2 * (2 ^ t * 2 ^ (w - 2)) := by rw [Nat.pow_succ, Nat.mul_comm (2 ^ t) 2, Nat.mul_assoc]
    by_cases c2 : r.l < 2 ^ (w - 2)
    · rw [if_pos c2]
      show r.A ≤ num (bs ++ 0 :: List.replicate (t + 1) 1) _ ∧ num (bs ++ 0 :: List.replicate (t + 1) 1) _ < _
      have hv := val_app bs (0 :: List.replicate (t + 1) 1)
      have h1 := val_zero_ones (t + 1)
      rw [List.length_cons, List.length_replicate] at hv
      have kk : val (bs ++ 0 :: List.replicate (t + 1) 1) * 2 ^ (w - 2) + 2 ^ (w - 2) = val bs * 2 ^ (t + 2) * 2 ^ (w - 2) + 2 ^ (t + 1) * 2 ^ (w - 2) := by
        rw [hv, ← Nat.succ_mul, Nat.succ_eq_add_one, Nat.add_assoc, h1, Nat.add_mul]
      rw [ew _ (by rw [List.length_append, List.length_cons, List.length_replicate]; omega)]
      omega
    · rw [if_neg c2]
      show r.A ≤ num (bs ++ 1 :: List.replicate (t + 1) 0) _ ∧ num (bs ++ 1 :: List.replicate (t + 1) 0) _ < _
      have hv := val_app bs (1 :: List.replicate (t + 1) 0)
      have h1 := val_one_zeros (t + 1)
      rw [List.length_cons, List.length_replicate, h1] at hv
      have kk : val (bs ++ 1 :: List.replicate (t + 1) 0) * 2 ^ (w - 2) = val bs * 2 ^ (t + 2) * 2 ^ (w - 2) + 2 ^ (t + 1) * 2 ^ (w - 2) := by
        rw [hv, Nat.add_mul]
      rw [ew _ (by rw [List.length_append, List.length_cons, List.length_replicate]; omega)]
      omega
theorem EI.zero {w : Nat} (hw : 2 ≤ w) : EI w (r0 w).A (r0 w).l (r0 w).o.length (enc ([], 0) (r0 w).o) :=
  ⟨rfl, by show 0 + 2 ^ (w - 1) = val [] * _ + 2 ^ 0 * 2 ^ (w - 1) + 0; rw [show val [] = 0 from rfl]; simp, fun x hx => nomatch hx⟩
/-- the last ops leave a register that none of the cases fits: the same of the first one -/
theorem goes_fin {M : Md} {n w : Nat} (m : MOk M n w) : ∀ (p : List Nat) (r : Rg), RI M w r → VW M r.st p → r.l < 2 ^ (w - 1) → 2 ^ (w - 1) < r.l + r.s → (goes M w r p).l < 2 ^ (w - 1) ∧ 2 ^ (w - 1) < (goes M w r p).l + (goes M w r p).s
  | [], r, _, _, h1, h2 => ⟨h1, h2⟩
  | i :: p, r, I, v, _, _ => by
    obtain ⟨s1, s2, s3⟩ := stp_stl m I v.2.1
    have := I.lo
    obtain ⟨_, _, f3, f4⟩ := s3.fin (by have := m.w2; omega) (by omega)
    exact goes_fin m p _ (I.step m v.1 v.2.1) v.2.2 f3 f4
/-- what is written for a way is read as it -/
theorem wri_read {M : Md} {n w : Nat} (m : MOk M n w) {p : List Nat} (v : VW M 0 p) : Bits (wri M w p) ∧ readW M w (wri M w p) p.length (r0 w) = p := by
  have hw := m.w2
  obtain ⟨e1, e2, e3⟩ := pw w (by omega)
  have E := EI.goes m p (r0 w) (RI.zero m) v (EI.zero (by omega))
  obtain ⟨f3, f4⟩ := goes_fin m p (r0 w) (RI.zero m) v (by show 0 < 2 ^ (w - 1); omega) (by show 2 ^ (w - 1) < 0 + 2 ^ w; omega)
  have hb : Bits (wri M w p) := fin_bits E.bits
  exact ⟨hb, (read_iff m hb v).mpr (fin_ins (by omega) E f3 f4)⟩
theorem fin_len {w l s : Nat} {x : List Nat × Nat} : (fin w l s x).length ≤ x.1.length + x.2 + 2 := by
  unfold fin
  split
  · omega
  · split <;> (rw [List.length_append, List.length_cons, List.length_replicate]; omega)
end K59

namespace K59
/-! ### fractions in lowest terms -/
def rt (a b : Nat) : Nat := a / Nat.gcd a b
def rb (a b : Nat) : Nat := b / Nat.gcd a b
theorem rt_mul {k : Nat} (hk : 0 < k) (a b : Nat) : rt (k * a) (k * b) = rt a b := by unfold rt; rw [Nat.gcd_mul_left, Nat.mul_div_mul_left _ _ hk]
theorem rb_mul {k : Nat} (hk : 0 < k) (a b : Nat) : rb (k * a) (k * b) = rb a b := by unfold rb; rw [Nat.gcd_mul_left, Nat.mul_div_mul_left _ _ hk]
theorem rt_g (a b : Nat) : Nat.gcd a b * rt a b = a := by unfold rt; exact Nat.mul_div_cancel' (Nat.gcd_dvd_left a b)
theorem rb_g (a b : Nat) : Nat.gcd a b * rb a b = b := by unfold rb; exact Nat.mul_div_cancel' (Nat.gcd_dvd_right a b)
theorem rt_le (a b : Nat) : rt a b ≤ a := Nat.div_le_self _ _
theorem rb_le (a b : Nat) : rb a b ≤ b := Nat.div_le_self _ _
theorem gcd_pos {a b : Nat} (hb : 0 < b) : 0 < Nat.gcd a b := Nat.gcd_pos_of_pos_right _ hb
theorem rb_pos {a b : Nat} (hb : 0 < b) : 0 < rb a b := by
  have h := rb_g a b
  cases e : rb a b with
  | zero => rw [e, Nat.mul_zero] at h; omega
  | succ n => omega
theorem r_gcd {a b : Nat} (hb : 0 < b) : Nat.gcd (rt a b) (rb a b) = 1 := by
  unfold rt rb
  rw [Nat.gcd_div (Nat.gcd_dvd_left a b) (Nat.gcd_dvd_right a b), Nat.div_self (gcd_pos hb)]
theorem rt_pos {a b : Nat} (ha : 0 < a) : 0 < rt a b := by
  have h := rt_g a b
  cases e : rt a b with
  | zero => rw [e, Nat.mul_zero] at h; omega
  | succ n => omega
/-- a sum of two fractions with the bottom S -/
theorem plus_t {a c S : Nat} (hS : 0 < S) : rt (rt a S * rb c S + rt c S * rb a S) (rb a S * rb c S) = rt (a + c) S := by
  have g1 := gcd_pos (a := a) hS
  have g2 := gcd_pos (a := c) hS
  rw [← rt_mul (Nat.mul_pos g1 g2), ← rt_mul (a := a + c) hS]
  congr 1
  · have e1 := rt_g a S; have e2 := rb_g a S; have e3 := rt_g c S; have e4 := rb_g c S
    generalize rt a S = x at *; generalize rb a S = y at *; generalize rt c S = z at *; generalize rb c S = u at *
    generalize Nat.gcd a S = g at *; generalize Nat.gcd c S = h at *
    calc g * h * (x * u + z * y) = (g * x) * (h * u) + (h * z) * (g * y) := by
          rw [Nat.mul_add]; simp only [Nat.mul_comm, Nat.mul_left_comm, Nat.mul_assoc]
      _ = a * S + c * S := by rw [e1, e4, e3, e2]
      _ = S * (a + c) := by rw [Nat.mul_add, Nat.mul_comm a, Nat.mul_comm c]
  · have e2 := rb_g a S; have e4 := rb_g c S
    generalize rb a S = y at *; generalize rb c S = u at *
    calc Nat.gcd a S * Nat.gcd c S * (y * u) = (Nat.gcd a S * y) * (Nat.gcd c S * u) := by simp only [Nat.mul_comm, Nat.mul_left_comm, Nat.mul_assoc]
      _ = S * S := by rw [e2, e4]
theorem plus_b {a c S : Nat} (hS : 0 < S) : rb (rt a S * rb c S + rt c S * rb a S) (rb a S * rb c S) = rb (a + c) S := by
  have g1 := gcd_pos (a := a) hS
  have g2 := gcd_pos (a := c) hS
  rw [← rb_mul (Nat.mul_pos g1 g2), ← rb_mul (a := a + c) hS]
  congr 1
  · have e1 := rt_g a S; have e2 := rb_g a S; have e3 := rt_g c S; have e4 := rb_g c S
    generalize rt a S = x at *; generalize rb a S = y at *; generalize rt c S = z at *; generalize rb c S = u at *
    generalize Nat.gcd a S = g at *; generalize Nat.gcd c S = h at *
    calc g * h * (x * u + z * y) = (g * x) * (h * u) + (h * z) * (g * y) := by
          rw [Nat.mul_add]; simp only [Nat.mul_comm, Nat.mul_left_comm, Nat.mul_assoc]
      _ = a * S + c * S := by rw [e1, e4, e3, e2]
      _ = S * (a + c) := by rw [Nat.mul_add, Nat.mul_comm a, Nat.mul_comm c]
  · have e2 := rb_g a S; have e4 := rb_g c S
    generalize rb a S = y at *; generalize rb c S = u at *
    calc Nat.gcd a S * Nat.gcd c S * (y * u) = (Nat.gcd a S * y) * (Nat.gcd c S * u) := by simp only [Nat.mul_comm, Nat.mul_left_comm, Nat.mul_assoc]
      _ = S * S := by rw [e2, e4]
/-- a product -/
theorem times_g (a b c d : Nat) : Nat.gcd a b * Nat.gcd c d * (rt a b * rt c d) = a * c ∧ Nat.gcd a b * Nat.gcd c d * (rb a b * rb c d) = b * d := by
  have e1 := rt_g a b; have e2 := rb_g a b; have e3 := rt_g c d; have e4 := rb_g c d
  generalize rt a b = x at *; generalize rb a b = y at *; generalize rt c d = z at *; generalize rb c d = u at *
  generalize Nat.gcd a b = g at *; generalize Nat.gcd c d = h at *
  constructor
  · calc g * h * (x * z) = (g * x) * (h * z) := by simp only [Nat.mul_comm, Nat.mul_left_comm, Nat.mul_assoc]
      _ = a * c := by rw [e1, e3]
  · calc g * h * (y * u) = (g * y) * (h * u) := by simp only [Nat.mul_comm, Nat.mul_left_comm, Nat.mul_assoc]
      _ = b * d := by rw [e2, e4]
theorem times_t {a b c d : Nat} (hb : 0 < b) (hd : 0 < d) : rt (rt a b * rt c d) (rb a b * rb c d) = rt (a * c) (b * d) := by
  obtain ⟨h1, h2⟩ := times_g a b c d
  rw [← rt_mul (Nat.mul_pos (gcd_pos (a := a) hb) (gcd_pos (a := c) hd)), h1, h2]
theorem times_b {a b c d : Nat} (hb : 0 < b) (hd : 0 < d) : rb (rt a b * rt c d) (rb a b * rb c d) = rb (a * c) (b * d) := by
  obtain ⟨h1, h2⟩ := times_g a b c d
  rw [← rb_mul (Nat.mul_pos (gcd_pos (a := a) hb) (gcd_pos (a := c) hd)), h1, h2]
theorem whole_r (s a b : Nat) (hb : 0 < b) : s * rt a b / rb a b = s * a / b := by
  have e1 := rt_g a b; have e2 := rb_g a b
  have g := gcd_pos (a := a) hb
  generalize rt a b = x at *; generalize rb a b = y at *
  have : s * a / b = Nat.gcd a b * (s * x) / (Nat.gcd a b * y) := by
    rw [e2, show Nat.gcd a b * (s * x) = s * a by rw [Nat.mul_left_comm, e1]]
  rw [this, Nat.mul_div_mul_left _ _ g]
/-! ### Euclid, turn by turn -/
def gcdI : Nat → Nat → Nat → Nat
  | 0, x, _ => x
  | f + 1, x, y => if y = 0 then x else gcdI f y (x % y)
theorem gcdI_eq : ∀ (m f x y : Nat), y < 2 ^ m → 2 * m ≤ f → gcdI f x y = Nat.gcd x y
  | 0, f, x, y, hy, _ => by
    obtain rfl : y = 0 := by omega
    cases f with
    | zero => simp [gcdI]
    | succ f => simp [gcdI]
  | m + 1, f, x, y, hy, hf => by
    obtain ⟨g, rfl⟩ : ∃ g, f = g + 2 := ⟨f - 2, by omega⟩
    unfold gcdI
    by_cases h0 : y = 0
    · rw [if_pos h0, h0, Nat.gcd_zero_right]
    · rw [if_neg h0, Nat.gcd_comm, Nat.gcd_rec, Nat.gcd_comm]
      unfold gcdI
      by_cases h1 : x % y = 0
      · rw [if_pos h1, h1, Nat.gcd_zero_right]
      · rw [if_neg h1, Nat.gcd_comm y, Nat.gcd_rec, Nat.gcd_comm]
        refine gcdI_eq m g _ _ ?_ (by omega)
        have l1 : x % y < y := Nat.mod_lt _ (by omega)
        have l2 : y % (x % y) < x % y := Nat.mod_lt _ (by omega)
        have l3 : y = x % y * (y / (x % y)) + y % (x % y) := (Nat.div_add_mod _ _).symm
        have l4 : 0 < y / (x % y) := Nat.div_pos (by omega) (by omega)
        have l5 : x % y ≤ x % y * (y / (x % y)) := Nat.le_mul_of_pos_right _ l4
        rw [Nat.pow_succ] at hy
        omega
/-! ### the law's own parts: by a common bottom -/
def lcmS (S : Nat) (c p : Nat) : Nat := c * rb p S / Nat.gcd c (rb p S)
theorem lcmS_dvd {S c p : Nat} (hS : 0 < S) (hc : 0 < c) (h : c ∣ S) : 0 < lcmS S c p ∧ lcmS S c p ∣ S ∧ rb p S ∣ lcmS S c p ∧ c ∣ lcmS S c p := by
  have e : lcmS S c p = Nat.lcm c (rb p S) := rfl
  rw [e]
  refine ⟨Nat.lcm_pos hc (rb_pos hS), Nat.lcm_dvd h ⟨Nat.gcd p S, by rw [Nat.mul_comm]; exact (rb_g p S).symm⟩, Nat.dvd_lcm_right _ _, Nat.dvd_lcm_left _ _⟩
def cmn (S : Nat) (P : List Nat) : Nat := P.foldl (lcmS S) 1
theorem cmn_dvd {S : Nat} (hS : 0 < S) : ∀ (P : List Nat) (c : Nat), 0 < c → c ∣ S → 0 < P.foldl (lcmS S) c ∧ P.foldl (lcmS S) c ∣ S ∧ c ∣ P.foldl (lcmS S) c ∧ ∀ p ∈ P, rb p S ∣ P.foldl (lcmS S) c
  | [], c, hc, h => ⟨hc, h, Nat.dvd_refl _, fun p hp => nomatch hp⟩
  | q :: P, c, hc, h => by
    obtain ⟨h1, h2, h3, h4⟩ := lcmS_dvd (p := q) hS hc h
    obtain ⟨g1, g2, g3, g4⟩ := cmn_dvd hS P _ h1 h2
    refine ⟨g1, g2, Nat.dvd_trans h4 g3, fun p hp => ?_⟩
    rcases List.mem_cons.mp hp with e | hp
    · rw [e]; exact Nat.dvd_trans h3 g3
    · exact g4 p hp
/-- a chance times the common bottom -/
theorem term_mul {S C p : Nat} (hS : 0 < S) (h : rb p S ∣ C) : (rt p S * C / rb p S) * S = C * p := by
  obtain ⟨k, rfl⟩ := h
  have e1 := rt_g p S; have e2 := rb_g p S
  have hb := rb_pos (a := p) hS
  rw [show rt p S * (rb p S * k) = rb p S * (rt p S * k) by rw [Nat.mul_left_comm], Nat.mul_div_cancel_left _ hb]
  generalize rt p S = x at *; generalize rb p S = y at *
  calc x * k * S = x * k * (Nat.gcd p S * y) := by rw [e2]
    _ = y * k * (Nat.gcd p S * x) := by simp only [Nat.mul_comm, Nat.mul_left_comm, Nat.mul_assoc]
    _ = y * k * p := by rw [e1]
def terms (S C : Nat) (P : List Nat) : List Nat := P.map fun p => rt p S * C / rb p S
theorem terms_sum {S C : Nat} (hS : 0 < S) : ∀ (P : List Nat), (∀ p ∈ P, rb p S ∣ C) → (terms S C P).sum * S = C * P.sum
  | [], _ => by simp [terms]
  | p :: P, h => by
    have ih := terms_sum hS P fun q hq => h q (List.mem_cons_of_mem _ hq)
    have h1 := term_mul hS (h p List.mem_cons_self)
    unfold terms at ih ⊢
    rw [List.map_cons, List.sum_cons, List.sum_cons, Nat.add_mul, ih, h1, Nat.mul_add]
theorem part_eq {S C e g s : Nat} (hS : 0 < S) (hC : 0 < C) (h : e * S = C * g) : s * e / C = s * g / S := by
  have h1 : s * e / C = S * (s * e) / (S * C) := (Nat.mul_div_mul_left _ _ hS).symm
  have h2 : s * g / S = C * (s * g) / (C * S) := (Nat.mul_div_mul_left _ _ hC).symm
  rw [h1, h2, Nat.mul_comm C S]
  congr 1
  rw [Nat.mul_left_comm, Nat.mul_comm S e, h, Nat.mul_left_comm]
/-! ### all ways, level by level -/
def outs (P : List Nat) : List Nat := (List.range P.length).filter fun i => decide (0 < P.getD i 0)
def nxt (M : Md) (w : Nat) (L : List (List Nat)) : List (List Nat) := L.flatMap fun p => (outs (parts M (goes M w (r0 w) p).st)).map fun i => p ++ [i]
def lv (M : Md) (w : Nat) : Nat → List (List Nat)
  | 0 => [[]]
  | k + 1 => nxt M w (lv M w k)
theorem lv_mem {M : Md} {n w : Nat} (m : MOk M n w) : ∀ (k : Nat) (p : List Nat), p ∈ lv M w k ↔ VW M 0 p ∧ p.length = k
  | 0, p => by
    simp only [lv, List.mem_singleton]
    constructor
    · rintro rfl; exact ⟨trivial, rfl⟩
    · intro h; exact List.eq_nil_of_length_eq_zero h.2
  | k + 1, p => by
    simp only [lv, nxt, List.mem_flatMap, List.mem_map, outs, List.mem_filter, List.mem_range, decide_eq_true_eq]
    constructor
    · rintro ⟨q, hq, i, ⟨h1, h2⟩, rfl⟩
      obtain ⟨v, hl⟩ := (lv_mem m k q).mp hq
      exact ⟨(VW.split (w := w) (r := r0 w)).mpr ⟨v, h1, h2, trivial⟩, by simp [hl]⟩
    · rintro ⟨v, hl⟩
      obtain ⟨q, i, rfl⟩ : ∃ q i, p = q ++ [i] := by
        have hne : p ≠ [] := by intro h; rw [h] at hl; simp at hl
        exact ⟨p.dropLast, p.getLast hne, (List.dropLast_concat_getLast hne).symm⟩
      obtain ⟨v1, h1, h2, _⟩ := (VW.split (w := w) (r := r0 w)).mp v
      exact ⟨q, (lv_mem m k q).mpr ⟨v1, by simpa using hl⟩, i, ⟨h1, h2⟩, rfl⟩
theorem nodup_flatMap {α β : Type} {f : α → List β} : ∀ {L : List α}, L.Nodup → (∀ a ∈ L, (f a).Nodup) → (∀ a ∈ L, ∀ b ∈ L, ∀ x, x ∈ f a → x ∈ f b → a = b) → (L.flatMap f).Nodup
  | [], _, _, _ => by simp
  | a :: L, h, h1, h2 => by
    rw [List.flatMap_cons, List.nodup_append]
    obtain ⟨ha, hL⟩ := List.nodup_cons.mp h
    refine ⟨h1 a List.mem_cons_self, nodup_flatMap hL (fun b hb => h1 b (List.mem_cons_of_mem _ hb)) (fun b hb c hc => h2 b (List.mem_cons_of_mem _ hb) c (List.mem_cons_of_mem _ hc)), fun x hx y hy e => ?_⟩
    obtain ⟨b, hb, hy⟩ := List.mem_flatMap.mp hy
    subst e
    have := h2 a List.mem_cons_self b (List.mem_cons_of_mem _ hb) x hx hy
    subst this
    exact ha hb
theorem lv_nodup (M : Md) (w : Nat) : ∀ k, (lv M w k).Nodup
  | 0 => by simp [lv]
  | k + 1 => by
    refine nodup_flatMap (lv_nodup M w k) (fun p _ => ?_) fun p _ q _ x hp hq => ?_
    · refine List.Pairwise.map _ (fun i j hij h => hij ?_) (List.Pairwise.filter _ (show List.Pairwise (· ≠ ·) _ from List.nodup_range))
      have := List.append_inj_right' h rfl
      simpa using this
    · obtain ⟨i, _, rfl⟩ := List.mem_map.mp hp
      obtain ⟨j, _, e⟩ := List.mem_map.mp hq
      exact (List.append_inj_left' e rfl).symm
theorem cnt_succ (M : Md) (w m : Nat) (p : List Nat) (N : Nat) : cnt M w m p (N + 1) = cnt M w m p N + if readW M w (rowOf m N) p.length (r0 w) = p then 1 else 0 := by
  unfold cnt
  rw [List.range_succ, List.filter_append, List.length_append]
  by_cases h : readW M w (rowOf m N) p.length (r0 w) = p
  · rw [List.filter_cons_of_pos (by simpa using h), if_pos h]; rfl
  · rw [List.filter_cons_of_neg (by simpa using h), if_neg h]; rfl
end K59

namespace K59
open PySem PySem.Spec PyProof.Rows L2
open C8 (Cal Met Mak pe_c pe_mk pe_mt pe_mt0 pe_gc)
/-! ### data on the heap -/
/-- tuples stay -/
def Tk (H H' : Hp) : Prop := ∀ a xs, Rd H a (.tup xs) → Rd H' a (.tup xs)
theorem Tk.refl (H : Hp) : Tk H H := fun _ _ h => h
theorem Tk.trans {H H1 H2 : Hp} (a : Tk H H1) (b : Tk H1 H2) : Tk H H2 := fun c o h => b c o (a c o h)
theorem Same.tk {H H' : Hp} (e : Same H H') : Tk H H' := fun a xs h => by
  rcases h with h | ⟨o, h⟩
  · exact .inl (e _ _ h)
  · exact .inr ⟨o, e _ _ h⟩
theorem Same.new {H : Hp} {p : Addr} {o : HO} (h : H p = none) : Same H (upd H p o) := fun b u e => by
  rw [upd_ne (ne_of_none e h)]; exact e
theorem Same.upd {H H1 : Hp} {p : Addr} {o : HO} (e : Same H H1) (h : H p = none) : Same H (upd H1 p o) := fun b u z => by
  rw [upd_ne (ne_of_none z h)]; exact e b u z
theorem Tk.sq {K : PySem.W.Frag} {H H' : Hp} (e : Tk H H') {a : Addr} {xs : List V} (h : SqT K H a xs) : SqT K H' a xs := by
  rcases h with h | h
  · exact .inl (e _ _ h)
  · exact .inr h
def isTup : HO → Bool
  | .tup _ => true
  | .frz _ (.tup _) => true
  | _ => false
theorem Tk.put {H : Hp} {p : Addr} {o u : HO} (h : H p = some u) (hn : isTup u = false) : Tk H (upd H p o) := fun a xs z => by
  have ne : a ≠ p := by
    rintro rfl
    rcases z with z | ⟨q, z⟩ <;> (rw [h] at z; cases z; cases hn)
  unfold Rd
  rw [upd_ne ne]
  exact z
def TupN (K : PySem.W.Frag) (H : Hp) (v : V) (ns : List Nat) : Prop := TupI K H v (ns.map fun n : Nat => (n : Int))
theorem TupI.tk {K : PySem.W.Frag} {H H' : Hp} {v : V} {ns : List Int} (h : TupI K H v ns) (e : Tk H H') : TupI K H' v ns := let ⟨t, a, b⟩ := h; ⟨t, a, e.sq b⟩
theorem TupN.tk {K : PySem.W.Frag} {H H' : Hp} {v : V} {ns : List Nat} (h : TupN K H v ns) (e : Tk H H') : TupN K H' v ns := TupI.tk h e
/-- a table, told by its parts -/
def Tab (K : PySem.W.Frag) (H : Hp) (v : V) (P : List Nat) : Prop := ∃ t xs, v = .ref t ∧ SqT K H t xs ∧ xs.length = P.length ∧ ∀ i x, xs[i]? = some x → TupN K H x [rt (P.getD i 0) P.sum, rb (P.getD i 0) P.sum]
theorem Tab.tk {K : PySem.W.Frag} {H H' : Hp} {v : V} {P : List Nat} (h : Tab K H v P) (e : Tk H H') : Tab K H' v P :=
  let ⟨t, xs, a, b, c, d⟩ := h; ⟨t, xs, a, e.sq b, c, fun i x z => (d i x z).tk e⟩
/-- a state -/
def Sta (K : PySem.W.Frag) (H : Hp) (v : V) (s : List Nat × List Nat) : Prop := ∃ t x y, v = .ref t ∧ SqT K H t [x, y] ∧ Tab K H x s.1 ∧ TupN K H y s.2
theorem Sta.tk {K : PySem.W.Frag} {H H' : Hp} {v : V} {s : List Nat × List Nat} (h : Sta K H v s) (e : Tk H H') : Sta K H' v s :=
  let ⟨t, x, y, a, b, c, d⟩ := h; ⟨t, x, y, a, e.sq b, c.tk e, d.tk e⟩
/-- a model -/
def Mod_ (K : PySem.W.Frag) (H : Hp) (v : V) (M : Md) : Prop := ∃ t xs, v = .ref t ∧ SqT K H t xs ∧ xs.length = M.length ∧ ∀ i x, xs[i]? = some x → Sta K H x (M.getD i ([], []))
theorem Mod_.tk {K : PySem.W.Frag} {H H' : Hp} {v : V} {M : Md} (h : Mod_ K H v M) (e : Tk H H') : Mod_ K H' v M :=
  let ⟨t, xs, a, b, c, d⟩ := h; ⟨t, xs, a, e.sq b, c, fun i x z => (d i x z).tk e⟩
/-- what a def hands back: a value, what was tracked as it was -/
def Ret (H : Hp) (R : V → Hp → Prop) (Q : VK) : Prop := ∀ v H', Same H H' → R v H' → Q v H'
/-! ### small steps of readings -/
section
variable {K : PySem.W.Frag} {H : Hp} {Q : VK} {a : Addr} {xs : List V}
theorem isi_tup (h : SqT K H a xs) (q : Q (.bl true) H) : rIsi K [.ref a, .ty "tuple"] H Q := by
  have b : PySem.W.kitOne K (.type "tuple") (.type "tuple") = some true := by first | rfl | decide +kernel | kernel_rfl
  rcases h with (h | ⟨o, h⟩) | ⟨o, its, n, h1, h2, _⟩
  · exact ⟨_, _, _, _, _, rfl, .ty _, .base (.tup h), b, q⟩
  · exact ⟨_, _, _, _, _, rfl, .ty _, .fTuple h, b, q⟩
  · exact ⟨_, _, _, _, _, rfl, .ty _, .kTuple h1 h2, b, q⟩
theorem isi_int {i : Int} (q : Q (.bl true) H) : rIsi K [.int i, .ty "int"] H Q :=
  ⟨_, _, _, _, _, rfl, .ty _, .base (.int i), (by first | rfl | decide +kernel | kernel_rfl), q⟩
theorem isi_intb {i : Int} (q : Q (.bl false) H) : rIsi K [.int i, .ty "bool"] H Q :=
  ⟨_, _, _, _, _, rfl, .ty _, .base (.int i), (by first | rfl | decide +kernel | kernel_rfl), q⟩
end
theorem sz_ {n : Nat} (h : n ≤ 100000) : n ≤ sizeLine := Nat.le_trans h (by decide)
theorem szl_ {n : Nat} (h : n < 100000) : n < sizeLine := Nat.lt_of_lt_of_le h (by decide)
section
variable {K : PySem.W.Frag} {σ : L2.St} {H : Hp} {Q : VK} {a : Addr} {xs : List V}
theorem q_isT {i : Nat} (hv : σ[i]? = some (some (.ref a))) (h : SqT K H a xs) (q : Q (.bl true) H) : tCB (rIsi K) (tCons (tVar i) (tCons (tC (.ty "tuple")) tNil)) σ H Q := ⟨_, hv, isi_tup h q⟩
theorem q_isI {i : Nat} {n : Int} (hv : σ[i]? = some (some (.int n))) (q : Q (.bl true) H) : tCB (rIsi K) (tCons (tVar i) (tCons (tC (.ty "int")) tNil)) σ H Q := ⟨_, hv, isi_int q⟩
theorem q_isB {i : Nat} {n : Int} (hv : σ[i]? = some (some (.int n))) (q : Q (.bl false) H) : tCB (rIsi K) (tCons (tVar i) (tCons (tC (.ty "bool")) tNil)) σ H Q := ⟨_, hv, isi_intb q⟩
end
theorem qT {Q : VK} {H : Hp} {p : Prop} [Decidable p] (h : p) (k : Q (.bl true) H) : Q (.bl (decide p)) H := by rw [decide_eq_true h]; exact k
theorem qB {Q : VK} {H : Hp} {b c : Bool} (h : b = c) (k : Q (.bl c) H) : Q (.bl b) H := by rw [h]; exact k
theorem iD {p A B : Prop} [Decidable p] (h : p) (a : A) : if decide p = true then A else B := by rw [decide_eq_true h]; exact iteT a
theorem iDF {p A B : Prop} [Decidable p] (h : ¬ p) (b : B) : if decide p = true then A else B := by rw [decide_eq_false h]; exact iteF b
theorem iN {p A B : Prop} [Decidable p] (h : ¬ p) (a : A) : if (!decide p) = true then A else B := by rw [decide_eq_false h]; exact iteT a
theorem iNF {p A B : Prop} [Decidable p] (h : p) (b : B) : if (!decide p) = true then A else B := by rw [decide_eq_true h]; exact iteF b
end K59
namespace K59
open PySem PySem.Spec PyProof.Rows L2
theorem cm {a : Nat} (h : a < 1099511627776) : -(2 ^ 64) < (a : Int) ∧ (a : Int) < 2 ^ 64 := by omega
theorem cd {a : Nat} (h0 : 0 < a) (h : a < 1073741824) : CDiv i (a : Int) := ⟨by omega, by omega⟩
theorem TupN.sq2 {K : PySem.W.Frag} {H : Hp} {v : V} {a b : Nat} (h : TupN K H v [a, b]) : ∃ t, v = .ref t ∧ SqT K H t [.int (a : Int), .int (b : Int)] := h
end K59
namespace K59
open PySem PySem.Spec PyProof.Rows L2
theorem sl_take {K : PySem.W.Frag} {H : Hp} {Q : VK} {a : Addr} {xs : List V} {n : Nat} (hn : n ≤ xs.length) (h : SqT K H a xs) (k : ∀ t H', Same H H' → SqT K H' t (xs.take n) → Q (.ref t) H') : rSlA K (.ref a) none (some (n : Int)) H Q := by
  have e1 : HT.sIx xs.length 0 none = 0 := rfl
  have e2 : HT.sIx xs.length xs.length (some (n : Int)) = n := by rw [HT.sIx_nat]; omega
  have e3 : cutV xs none (some (n : Int)) = xs.take n := by unfold cutV; rw [e1, e2]; rfl
  refine ⟨a, xs, rfl, h, fun ⟨_, z⟩ => ?_, fun _ p hp => ?_⟩
  · rw [e2] at z
    refine k a H (Same.refl H) ?_
    rw [z, List.take_length]
    exact h
  · rw [e3]
    exact k p _ (Same.new hp) (SqT.of upd_same)
end K59
namespace K59
open PySem PySem.Spec PyProof.Rows L2
/-- data without dicts, at most k deep -/
def DpK (K : PySem.W.Frag) (H : Hp) (k : Nat) (v : V) : Prop := ∃ d, Dp K H v d ∧ d.canLay0 = true ∧ d.depth ≤ k
theorem dp_all {K : PySem.W.Frag} {H : Hp} {k : Nat} : ∀ xs : List V, (∀ x ∈ xs, DpK K H k x) → ∃ ds, DpAll K H xs ds ∧ ds.length = xs.length ∧ PyData.canLayAll0 ds = true ∧ PyData.depthAll ds ≤ k
  | [], _ => ⟨[], .nil, rfl, rfl, Nat.zero_le _⟩
  | x :: xs, h => by
    obtain ⟨d, h1, h2, h3⟩ := h x List.mem_cons_self
    obtain ⟨ds, g1, g2, g3, g4⟩ := dp_all xs fun y hy => h y (List.mem_cons_of_mem _ hy)
    refine ⟨d :: ds, .cons h1 g1, by rw [List.length_cons, List.length_cons, g2], ?_, ?_⟩
    · rw [PyData.canLayAll0, h2, g3]; rfl
    · rw [PyData.depthAll]; exact Nat.max_le.mpr ⟨h3, g4⟩
theorem DpK.tup {K : PySem.W.Frag} {H : Hp} {k : Nat} {t : Addr} {xs : List V} (ht : SqT K H t xs) (h : ∀ x ∈ xs, DpK K H k x) :
    ∃ ds, Dp K H (.ref t) (.tuple ds) ∧ ds.length = xs.length ∧ (PyData.tuple ds).canLay0 = true ∧ (PyData.tuple ds).depth ≤ k + 1 := by
  obtain ⟨ds, h1, h2, h3, h4⟩ := dp_all xs h
  exact ⟨ds, .tup ht h1, h2, by rw [PyData.canLay0]; exact h3, by rw [PyData.depth]; omega⟩
theorem DpK.lst {K : PySem.W.Frag} {H : Hp} {k : Nat} {t : Addr} {xs : List V} (ht : SqL K H t xs) (h : ∀ x ∈ xs, DpK K H k x) :
    ∃ ds, Dp K H (.ref t) (.list ds) ∧ ds.length = xs.length ∧ (PyData.list ds).canLay0 = true ∧ (PyData.list ds).depth ≤ k + 1 := by
  obtain ⟨ds, h1, h2, h3, h4⟩ := dp_all xs h
  exact ⟨ds, .lst ht h1, h2, by rw [PyData.canLay0]; exact h3, by rw [PyData.depth]; omega⟩
theorem DpK.of {K : PySem.W.Frag} {H : Hp} {k : Nat} {t : Addr} {xs : List V} (ht : SqT K H t xs) (h : ∀ x ∈ xs, DpK K H k x) : DpK K H (k + 1) (.ref t) :=
  let ⟨_, h1, _, h3, h4⟩ := DpK.tup ht h; ⟨_, h1, h3, h4⟩
theorem DpK.mono {K : PySem.W.Frag} {H : Hp} {k j : Nat} {v : V} (h : DpK K H k v) (hj : k ≤ j) : DpK K H j v := let ⟨d, a, b, c⟩ := h; ⟨d, a, b, Nat.le_trans c hj⟩
theorem shaped_of {d : PyData} {k : Nat} (h1 : d.canLay0 = true) (h2 : d.depth ≤ k) (hk : k ≤ 64) : SeqAt.shaped d = true := by
  unfold SeqAt.shaped
  rw [h1, decide_eq_true (Nat.le_trans h2 hk)]; rfl
theorem TupI.dp {K : PySem.W.Frag} {H : Hp} {v : V} {ns : List Int} (h : TupI K H v ns) : DpK K H 1 v := by
  obtain ⟨t, rfl, ht⟩ := h
  refine DpK.of (k := 0) ht fun x hx => ?_
  obtain ⟨n, _, rfl⟩ := List.mem_map.mp hx
  exact ⟨.int n, .int n, rfl, Nat.le_refl _⟩
theorem Tab.dp {K : PySem.W.Frag} {H : Hp} {v : V} {L : List Nat} (h : Tab K H v L) : DpK K H 2 v := by
  obtain ⟨t, xs, rfl, ht, hl, hx⟩ := h
  refine DpK.of ht fun x hx' => ?_
  obtain ⟨i, hi⟩ := List.getElem?_of_mem hx'
  exact TupI.dp (hx i x hi)
theorem Sta.dp {K : PySem.W.Frag} {H : Hp} {v : V} {s : List Nat × List Nat} (h : Sta K H v s) : DpK K H 3 v := by
  obtain ⟨t, x, y, rfl, ht, h1, h2⟩ := h
  refine DpK.of ht fun z hz => ?_
  rcases List.mem_cons.mp hz with e | hz
  · rw [e]; exact h1.dp
  · rw [List.mem_singleton.mp hz]; exact (TupI.dp h2).mono (by decide)
/-- all of a model's items -/
theorem Mod_.items {K : PySem.W.Frag} {H : Hp} {v : V} {M : Md} (h : Mod_ K H v M) : ∃ t xs, v = .ref t ∧ SqT K H t xs ∧ xs.length = M.length ∧ (∀ H', Tk H H' → ∀ x ∈ xs, DpK K H' 3 x) ∧ ∀ i x, xs[i]? = some x → Sta K H x (M.getD i ([], [])) := by
  obtain ⟨t, xs, e, ht, hl, hx⟩ := h
  refine ⟨t, xs, e, ht, hl, fun H' z x hx' => ?_, hx⟩
  obtain ⟨i, hi⟩ := List.getElem?_of_mem hx'
  exact ((hx i x hi).tk z).dp
theorem nat_map_get {ns : List Nat} {i : Nat} (h : i < ns.length) : ((ns.map fun n : Nat => (n : Int)).map V.int)[i]? = some (.int ((ns.getD i 0 : Nat) : Int)) := by
  rw [List.getElem?_map, List.getElem?_map, List.getD_eq_getElem?_getD, List.getElem?_eq_getElem h]; rfl
theorem q_ixN {K : PySem.W.Frag} {H : Hp} {Q : VK} {v : V} {ns : List Nat} {i : Nat} (h : TupN K H v ns) (hi : i < ns.length) (q : Q (.int (ns.getD i 0 : Nat)) H) : rIxT K v (.int (i : Int)) H Q := by
  obtain ⟨t, rfl, ht⟩ := h
  exact ⟨t, _, i, _, rfl, rfl, ht, atI_nat (nat_map_get hi), q⟩
end K59
namespace K59
open PySem PySem.Spec PyProof.Rows L2
theorem q_c1 {v : V} {σ : L2.St} {H : Hp} {Qs : List V → Hp → Prop} (h : Qs [v] H) : tCons (tC v) tNil σ H Qs := h
end K59

namespace K59
open PySem PySem.Spec PyProof.Rows L2
open C8 (Cal Met Mak pe_c pe_mk pe_mt pe_mt0 pe_gc)
section
variable {P : Program} {w : World} {K : PySem.W.Frag} {mg : Str → Option Value} {base : Heap}
theorem sc_is_integer : FnScope ["thing"] ["thing"] (defScope s_is_integer) := ⟨rfl, rfl, rfl, by decide +kernel, rfl, by decide +kernel, by decide +kernel⟩
def sp_is_integer (K : PySem.W.Frag) : Sp := fun vs H Q _ => ∃ i : Int, vs = [.int i] ∧ Q (.bl true) H
theorem c_is_integer (T : Fx K mg)  : Cal P w K mg base 1 "is_integer" (sp_is_integer K) [] := by
  refine T.cal 0 0 rfl rfl sc_is_integer (fun _ _ _ _ _ _ us hl => match us, hl with | [_], _ => rfl) (fun vs H Q E h => ?_) (fun cdv A outer s H vs Q E hr h => ?_)
  · obtain ⟨i, rfl, k⟩ := h
    rfl
  · obtain ⟨i, rfl, k⟩ := h
    have hu := hu_of hr
    refine ⟨_, (pss_one (ps_ret (pe_and (pe_callB (k_isi K rfl) (by rfl) T.m_isinstance (by decide +kernel) (pa_cons (pv 0) (pa_cons (pe_bltn (v := .ty "int") (by rfl) T.m_int (by decide +kernel) rfl) pa_nil))) (pe_one (pe_not (pe_callB (k_isi K rfl) (by rfl) T.m_isinstance (by decide +kernel) (pa_cons (pv 0) (pa_cons (pe_bltn (v := .ty "bool") (by rfl) T.m_bool (by decide +kernel) rfl) pa_nil)))))))), ?_⟩
    refine q_isI rfl ⟨true, rfl, iteT ?_⟩
    exact q_isB rfl ⟨false, rfl, k⟩
theorem sc_is_between : FnScope ["thing", "least", "most"] ["thing", "least", "most"] (defScope s_is_between) := ⟨rfl, rfl, rfl, by decide +kernel, rfl, by decide +kernel, by decide +kernel⟩
def sp_is_between (K : PySem.W.Frag) : Sp := fun vs H Q _ => ∃ x lo hi : Int, vs = [.int x, .int lo, .int hi] ∧ lo ≤ x ∧ x ≤ hi ∧ Q (.bl true) H
theorem c_is_between (T : Fx K mg) (c_is_integer : Cal P w K mg base 1 "is_integer" (sp_is_integer K) []) : Cal P w K mg base 2 "is_between" (sp_is_between K) [] := by
  refine T.cal 1 1 rfl rfl sc_is_between (fun _ _ _ _ _ _ us hl => match us, hl with | [_, _, _], _ => rfl) (fun vs H Q E h => ?_) (fun cdv A outer s H vs Q E hr h => ?_)
  · obtain ⟨x, lo, hi, rfl, h1, h2, k⟩ := h
    rfl
  · obtain ⟨x, lo, hi, rfl, h1, h2, k⟩ := h
    have hu := hu_of hr
    refine ⟨_, (pss_one (ps_ret (pe_and (pe_c c_is_integer hr (by decide) (by rfl) (pa_cons (pv 0) pa_nil)) (pe_one (pe_chain op_le op_le (pv 1) (pv 0) (pv 2)))))), ?_⟩
    refine ⟨_, rfl, x, rfl, true, rfl, iteT ?_⟩
    refine ⟨_, rfl, _, rfl, _, _, rfl, rfl, _, rfl, iD h1 ?_⟩
    exact ⟨_, rfl, _, _, rfl, rfl, qT (Q := Q) h2 k⟩
theorem sc_are_between : FnScope ["thing", "least", "most", "part"] ["thing", "least", "most"] (defScope s_are_between) := ⟨rfl, rfl, rfl, by decide +kernel, rfl, by decide +kernel, by decide +kernel⟩
def sp_are_between (K : PySem.W.Frag) : Sp := fun vs H Q _ => ∃ (v : V) (lo hi : Int) (ns : List Int), vs = [v, .int lo, .int hi] ∧ TupI K H v ns ∧ (∀ n ∈ ns, lo ≤ n ∧ n ≤ hi) ∧ ns.length ≤ 1000 ∧ ∀ H', Same H H' → Q (.bl true) H'
theorem c_are_between (T : Fx K mg) (c_is_between : Cal P w K mg base 2 "is_between" (sp_is_between K) []) : Cal P w K mg base 3 "are_between" (sp_are_between K) [] := by
  refine T.cal 2 2 rfl rfl sc_are_between (fun _ _ _ _ _ _ us hl => match us, hl with | [_, _, _], _ => rfl) (fun vs H Q E h => ?_) (fun cdv A outer s H vs Q E hr h => ?_)
  · obtain ⟨v, lo, hi, ns, rfl, ⟨t, rfl, ht⟩, hn, hl, k⟩ := h
    rfl
  · obtain ⟨v, lo, hi, ns, rfl, ⟨t, rfl, ht⟩, hn, hl, k⟩ := h
    have hu := hu_of hr
    refine ⟨_, (pss_one (ps_ret (pe_and (pe_callB (k_isi K rfl) (by rfl) T.m_isinstance (by decide +kernel) (pa_cons (pv 0) (pa_cons (pe_bltn (v := .ty "tuple") (by rfl) T.m_tuple (by decide +kernel) rfl) pa_nil))) (pe_one (pe_callB (k_all K rfl rfl) (by rfl) T.m_all (by decide +kernel) (pa_cons (pe_lc (own := [("part", 3)]) rfl sc_are_between.nd (pi_tup (pv 0)) (blkOk_by (own := [("part", 3)]) (N := ["thing", "least", "most", "part"]) (sc := defScope s_are_between) (by decide +kernel)) (fun _ _ _ _ _ => (pg_name (i := 3) sc_are_between.nd rfl (Or.inl rfl) (Or.inr rfl))) (fun _ _ _ _ _ => pts_nil) (fun _ _ _ _ _ => (pe_c c_is_between hr (by decide) (by rfl) (pa_cons (pv 3) (pa_cons (pv 1) (pa_cons (pv 2) pa_nil)))))) pa_nil)))))), ?_⟩
    refine q_isT rfl ht ⟨true, rfl, iteT ?_⟩
    refine ⟨_, rfl, t, rfl, ⟨_, ht⟩, fun D hD => lc_tup (K := K) (a := t) (xs := ns.map V.int) (fun i H1 => Same H H1 ∧ H1 D = some (.lst ((List.replicate i true).map V.bl))) ⟨Same.new hD, upd_same⟩ (fun i H1 _ h1 => (Same.tk h1.1).sq ht) (fun i x H1 hx ⟨h1, h2⟩ => ?_) (fun H1 ⟨h1, h2⟩ => ?_)⟩
    · obtain ⟨n, hm, rfl⟩ : ∃ n, n ∈ ns ∧ V.int n = x := by simpa using List.mem_of_getElem? hx
      have hi' := (List.getElem?_eq_some_iff.mp hx).1
      rw [List.length_map] at hi'
      refine ⟨rfl, _, rfl, _, rfl, _, rfl, n, lo, hi, rfl, (hn n hm).1, (hn n hm).2, _, h2, szl_ (by simp; omega), Same.upd h1 hD, ?_⟩
      rw [upd_same, List.replicate_succ', List.map_append]; rfl
    · refine ⟨D, List.replicate (ns.map V.int).length true, rfl, SqL.of h2, ?_⟩
      exact qB (Q := Q) (by simp) (k H1 h1)
theorem sc_is_count : FnScope ["thing"] ["thing"] (defScope s_is_count) := ⟨rfl, rfl, rfl, by decide +kernel, rfl, by decide +kernel, by decide +kernel⟩
def sp_is_count (K : PySem.W.Frag) : Sp := fun vs H Q _ => ∃ x : Int, vs = [.int x] ∧ 0 ≤ x ∧ Q (.bl true) H
theorem c_is_count (T : Fx K mg) (c_is_integer : Cal P w K mg base 1 "is_integer" (sp_is_integer K) []) : Cal P w K mg base 2 "is_count" (sp_is_count K) [] := by
  refine T.cal 3 3 rfl rfl sc_is_count (fun _ _ _ _ _ _ us hl => match us, hl with | [_], _ => rfl) (fun vs H Q E h => ?_) (fun cdv A outer s H vs Q E hr h => ?_)
  · obtain ⟨x, rfl, h, k⟩ := h
    rfl
  · obtain ⟨x, rfl, h, k⟩ := h
    have hu := hu_of hr
    refine ⟨_, (pss_one (ps_ret (pe_and (pe_c c_is_integer hr (by decide) (by rfl) (pa_cons (pv 0) pa_nil)) (pe_one (pe_cmpR op_ge (pv 0) pe_int (nomark _)))))), ?_⟩
    exact ⟨_, rfl, x, rfl, true, rfl, iteT ⟨_, rfl, _, _, rfl, rfl, qT (Q := Q) h k⟩⟩
theorem sc_are_bits_value : FnScope ["thing"] ["thing"] (defScope s_are_bits_value) := ⟨rfl, rfl, rfl, by decide +kernel, rfl, by decide +kernel, by decide +kernel⟩
def sp_are_bits_value (K : PySem.W.Frag) : Sp := fun vs H Q _ => ∃ (v : V) (ns : List Int), vs = [v] ∧ TupI K H v ns ∧ (∀ n ∈ ns, 0 ≤ n ∧ n ≤ 1) ∧ ns.length ≤ 1000 ∧ ∀ H', Same H H' → Q (.bl true) H'
theorem c_are_bits_value (T : Fx K mg) (c_are_between : Cal P w K mg base 3 "are_between" (sp_are_between K) []) : Cal P w K mg base 4 "are_bits_value" (sp_are_bits_value K) [] := by
  refine T.cal 4 4 rfl rfl sc_are_bits_value (fun _ _ _ _ _ _ us hl => match us, hl with | [_], _ => rfl) (fun vs H Q E h => ?_) (fun cdv A outer s H vs Q E hr h => ?_)
  · obtain ⟨v, ns, rfl, hv, hn, hl, k⟩ := h
    rfl
  · obtain ⟨v, ns, rfl, hv, hn, hl, k⟩ := h
    have hu := hu_of hr
    refine ⟨_, (pss_one (ps_ret (pe_c c_are_between hr (by decide) (by rfl) (pa_cons (pv 0) (pa_cons pe_int (pa_cons pe_int pa_nil)))))), ?_⟩
    exact ⟨_, rfl, v, 0, 1, ns, rfl, hv, hn, hl, k⟩
theorem sc_divisor_of : FnScope ["one", "other"] ["one", "other"] (defScope s_divisor_of) := ⟨rfl, rfl, rfl, by decide +kernel, rfl, by decide +kernel, by decide +kernel⟩
def sp_divisor_of (K : PySem.W.Frag) : Sp := fun vs H Q _ => ∃ a b : Nat, vs = [.int a, .int b] ∧ Q (.int (Nat.gcd a b : Nat)) H
theorem c_divisor_of (T : Fx K mg)  : Cal P w K mg base 1 "divisor_of" (sp_divisor_of K) [] := by
  refine T.cal 5 5 rfl rfl sc_divisor_of (fun _ _ _ _ _ _ us hl => match us, hl with | [_, _], _ => rfl) (fun vs H Q E h => ?_) (fun cdv A outer s H vs Q E hr h => ?_)
  · obtain ⟨a, b, rfl, k⟩ := h
    rfl
  · obtain ⟨a, b, rfl, k⟩ := h
    have hu := hu_of hr
    refine ⟨_, (pss_cons (ps_set (i := 0) sc_divisor_of.nd rfl (Or.inl rfl) (pe_callB call_abs (by rfl) T.m_abs (by decide +kernel) (pa_cons (pv 0) pa_nil)))
    (pss_cons (ps_while PassesOwn.never (pt_cmpR op_ne (pv 1) pe_int (nomark _))
      (pss_one (ps_par (i := 0) (j := 1) (by rfl) sc_divisor_of.nd rfl rfl (by decide) rfl rfl (pa_cons (pv 1) (pa_cons (pe_op op_mod (pv 0) (pv 1)) pa_nil)) (by rfl))))
    (pss_one (ps_ret (pv 0))))), ?_⟩
    refine ⟨_, rfl, _, rfl, ?_⟩
    refine ⟨fun m σ H1 => H1 = H ∧ ∃ x y : Nat, σ = [some (.int x), some (.int y)] ∧ Nat.gcd x y = Nat.gcd a b ∧ m = y, ⟨b, rfl, a, b, ?_, rfl, rfl⟩, ?_⟩
    · have e : (if (a : Int) < 0 then -(a : Int) else a) = (a : Int) := if_neg (by omega)
      show [some (V.int (if (a : Int) < 0 then -(a : Int) else a)), some (V.int b)] = _
      rw [e]
    · rintro m σ H1 ⟨rfl, x, y, rfl, e, rfl⟩
      refine ⟨_, rfl, rfl, _, rfl, ?_⟩
      by_cases hy : m = 0
      · subst hy
        refine iNF rfl ⟨_, rfl, ?_⟩
        rw [Nat.gcd_zero_right] at e
        rw [e]
        exact k
      · refine iN (by simpa using hy) ⟨_, fun _ _ z => z, ?_⟩
        refine ⟨_, rfl, _, rfl, _, rfl, _, _, rfl, rfl, (by show (0 : Int) < (m : Int); omega), _, _, rfl, x % m, Nat.mod_lt _ (by omega), rfl, m, x % m, ?_, ?_, rfl⟩
        · show [some (V.int m), some (V.int ((x : Int) % (m : Int)))] = _
          rw [Int.natCast_emod]
        · rw [← e, Nat.gcd_comm m, ← Nat.gcd_rec, Nat.gcd_comm]
theorem sc_lowest : FnScope ["top", "bottom", "common"] ["top", "bottom"] (defScope s_lowest) := ⟨rfl, rfl, rfl, by decide +kernel, rfl, by decide +kernel, by decide +kernel⟩
def sp_lowest (K : PySem.W.Frag) : Sp := fun vs H Q _ => ∃ a b : Nat, vs = [.int a, .int b] ∧ 0 < b ∧ b < 1073741824 ∧ Ret H (fun v H' => TupN K H' v [rt a b, rb a b]) Q
theorem c_lowest (T : Fx K mg) (c_divisor_of : Cal P w K mg base 1 "divisor_of" (sp_divisor_of K) []) : Cal P w K mg base 2 "lowest" (sp_lowest K) [] := by
  refine T.cal 8 8 rfl rfl sc_lowest (fun _ _ _ _ _ _ us hl => match us, hl with | [_, _], _ => rfl) (fun vs H Q E h => ?_) (fun cdv A outer s H vs Q E hr h => ?_)
  · obtain ⟨a, b, rfl, h1, h2, k⟩ := h
    rfl
  · obtain ⟨a, b, rfl, h1, h2, k⟩ := h
    have hu := hu_of hr
    refine ⟨_, (pss_cons (ps_set (i := 2) sc_lowest.nd rfl (Or.inl rfl) (pe_c c_divisor_of hr (by decide) (by rfl) (pa_cons (pv 0) (pa_cons (pv 1) pa_nil))))
    (pss_one (ps_ret (pe_tup (pa_cons (pe_op op_fdiv (pv 0) (pv 2)) (pa_cons (pe_op op_fdiv (pv 1) (pv 2)) pa_nil)))))), ?_⟩
    refine ⟨_, rfl, _, rfl, a, b, rfl, ?_⟩
    have g1 := gcd_pos (a := a) h1
    have g2 : Nat.gcd a b ≤ b := Nat.le_of_dvd h1 (Nat.gcd_dvd_right a b)
    refine ⟨_, rfl, _, rfl, _, _, rfl, rfl, ⟨(by show (0 : Int) < (Nat.gcd a b : Nat); omega), (by show ((Nat.gcd a b : Nat) : Int) < _; omega)⟩, _, rfl, _, rfl, _, _, rfl, rfl, ⟨(by show (0 : Int) < (Nat.gcd a b : Nat); omega), (by show ((Nat.gcd a b : Nat) : Int) < _; omega)⟩, (show 2 ≤ sizeLine by decide), fun p hp => ?_⟩
    refine k _ _ (Same.new hp) ⟨p, rfl, SqT.of ?_⟩
    rw [upd_same]
    show some (HO.tup [V.int ((a : Int) / (Nat.gcd a b : Nat)), V.int ((b : Int) / (Nat.gcd a b : Nat))]) = some (HO.tup [V.int ((rt a b : Nat) : Int), V.int ((rb a b : Nat) : Int)])
    rw [rt, rb, Int.natCast_ediv, Int.natCast_ediv]
end
end K59

namespace K59
open PySem PySem.Spec PyProof.Rows L2
open C8 (Cal Met Mak pe_c pe_mk pe_mt pe_mt0 pe_gc)
section
variable {P : Program} {w : World} {K : PySem.W.Frag} {mg : Str → Option Value} {base : Heap}
theorem sc_is_fraction_value : FnScope ["thing"] ["thing"] (defScope s_is_fraction_value) := ⟨rfl, rfl, rfl, by decide +kernel, rfl, by decide +kernel, by decide +kernel⟩
def sp_is_fraction_value (K : PySem.W.Frag) : Sp := fun vs H Q _ => ∃ (v : V) (a b : Nat), vs = [v] ∧ TupN K H v [a, b] ∧ 0 < b ∧ Nat.gcd a b = 1 ∧ Q (.bl true) H
theorem c_is_fraction_value (T : Fx K mg) (c_divisor_of : Cal P w K mg base 1 "divisor_of" (sp_divisor_of K) []) (c_is_integer : Cal P w K mg base 1 "is_integer" (sp_is_integer K) []) : Cal P w K mg base 2 "is_fraction_value" (sp_is_fraction_value K) [] := by
  refine T.cal 6 6 rfl rfl sc_is_fraction_value (fun _ _ _ _ _ _ us hl => match us, hl with | [_], _ => rfl) (fun vs H Q E h => ?_) (fun cdv A outer s H vs Q E hr h => ?_)
  · obtain ⟨v, a, b, rfl, ⟨t, rfl, ht⟩, h1, h2, k⟩ := h
    rfl
  · obtain ⟨v, a, b, rfl, ⟨t, rfl, ht⟩, h1, h2, k⟩ := h
    have hu := hu_of hr
    refine ⟨_, (pss_cons (ps_if (PW.pt (pw_or (pt_not (pt_val (pe_callB (k_isi K rfl) (by rfl) T.m_isinstance (by decide +kernel) (pa_cons (pv 0) (pa_cons (pe_bltn (v := .ty "tuple") (by rfl) T.m_tuple (by decide +kernel) rfl) pa_nil))))) (pw_or (pt_cmpR op_ne (pe_callB (k_len K rfl) (by rfl) T.m_len (by decide +kernel) (pa_cons (pv 0) pa_nil)) pe_int (nomark _)) (pw_or (pt_not (pt_val (pe_c c_is_integer hr (by decide) (by rfl) (pa_cons (pe_ix (k_ixT K rfl) (pv 0) pe_int (fun _ _ => rfl)) pa_nil)))) (pw_or1 (pt_not (pt_val (pe_c c_is_integer hr (by decide) (by rfl) (pa_cons (pe_ix (k_ixT K rfl) (pv 0) pe_int (fun _ _ => rfl)) pa_nil)))))))))
      (pss_one (ps_ret pe_bl))
      pss_nil)
    (pss_one (ps_ret (pe_and (pe_cmpR op_gt (pe_ix (k_ixT K rfl) (pv 0) pe_int (fun _ _ => rfl)) pe_int (nomark _)) (pe_one (pe_cmpR op_eq (pe_c c_divisor_of hr (by decide) (by rfl) (pa_cons (pe_ix (k_ixT K rfl) (pv 0) pe_int (fun _ _ => rfl)) (pa_cons (pe_ix (k_ixT K rfl) (pv 0) pe_int (fun _ _ => rfl)) pa_nil))) pe_int (nomark _))))))), ?_⟩
    refine q_isT rfl ht ⟨true, rfl, ?_⟩
    refine ⟨_, rfl, _, _, rfl, .inr ht, rfl, _, rfl, ?_⟩
    refine iNF rfl ⟨_, rfl, _, _, _, _, rfl, rfl, ht, rfl, _, rfl, true, rfl, ?_⟩
    refine ⟨_, rfl, _, _, _, _, rfl, rfl, ht, rfl, _, rfl, true, rfl, ?_⟩
    refine ⟨_, rfl, _, _, _, _, rfl, rfl, ht, rfl, _, _, rfl, rfl, _, rfl, iD (by show (0 : Int) < (b : Int); omega) ?_⟩
    refine ⟨_, rfl, _, _, _, _, rfl, rfl, ht, rfl, _, rfl, _, _, _, _, rfl, rfl, ht, rfl, a, b, rfl, rfl, ?_⟩
    exact qT (Q := Q) (by rw [h2]; rfl) k
theorem sc_is_share_value : FnScope ["thing"] ["thing"] (defScope s_is_share_value) := ⟨rfl, rfl, rfl, by decide +kernel, rfl, by decide +kernel, by decide +kernel⟩
def sp_is_share_value (K : PySem.W.Frag) : Sp := fun vs H Q _ => ∃ (v : V) (a b : Nat), vs = [v] ∧ TupN K H v [a, b] ∧ 0 < b ∧ Nat.gcd a b = 1 ∧ Q (.bl true) H
theorem c_is_share_value (T : Fx K mg) (c_is_fraction_value : Cal P w K mg base 2 "is_fraction_value" (sp_is_fraction_value K) []) : Cal P w K mg base 3 "is_share_value" (sp_is_share_value K) [] := by
  refine T.cal 7 7 rfl rfl sc_is_share_value (fun _ _ _ _ _ _ us hl => match us, hl with | [_], _ => rfl) (fun vs H Q E h => ?_) (fun cdv A outer s H vs Q E hr h => ?_)
  · obtain ⟨v, a, b, rfl, hv, h1, h2, k⟩ := h
    rfl
  · obtain ⟨v, a, b, rfl, hv, h1, h2, k⟩ := h
    have hu := hu_of hr
    refine ⟨_, (pss_one (ps_ret (pe_and (pe_c c_is_fraction_value hr (by decide) (by rfl) (pa_cons (pv 0) pa_nil)) (pe_one (pe_cmpR op_ge (pe_ix (k_ixT K rfl) (pv 0) pe_int (fun _ _ => rfl)) pe_int (nomark _)))))), ?_⟩
    obtain ⟨t, rfl, ht⟩ := id hv
    exact ⟨_, rfl, _, a, b, rfl, hv, h1, h2, true, rfl, _, rfl, _, _, _, _, rfl, rfl, ht, rfl, _, _, rfl, rfl, qT (Q := Q) (by show (0 : Int) ≤ (a : Int); omega) k⟩
theorem sc_plus : FnScope ["one", "other"] ["one", "other"] (defScope s_plus) := ⟨rfl, rfl, rfl, by decide +kernel, rfl, by decide +kernel, by decide +kernel⟩
def sp_plus (K : PySem.W.Frag) : Sp := fun vs H Q _ => ∃ (u v : V) (a b c d : Nat), vs = [u, v] ∧ TupN K H u [a, b] ∧ TupN K H v [c, d] ∧ 0 < b ∧ 0 < d ∧ a < 1099511627776 ∧ b < 1099511627776 ∧ c < 1099511627776 ∧ b * d < 1073741824 ∧ Ret H (fun v H' => TupN K H' v [rt (a * d + c * b) (b * d), rb (a * d + c * b) (b * d)]) Q
theorem c_plus (T : Fx K mg) (c_lowest : Cal P w K mg base 2 "lowest" (sp_lowest K) []) : Cal P w K mg base 3 "plus" (sp_plus K) [] := by
  refine T.cal 9 9 rfl rfl sc_plus (fun _ _ _ _ _ _ us hl => match us, hl with | [_, _], _ => rfl) (fun vs H Q E h => ?_) (fun cdv A outer s H vs Q E hr h => ?_)
  · obtain ⟨u, v, a, b, c, d, rfl, ⟨t, rfl, ht⟩, ⟨t', rfl, ht'⟩, hb, hd, l1, l2, l3, l5, k⟩ := h
    rfl
  · obtain ⟨u, v, a, b, c, d, rfl, ⟨t, rfl, ht⟩, ⟨t', rfl, ht'⟩, hb, hd, l1, l2, l3, l5, k⟩ := h
    have hu := hu_of hr
    refine ⟨_, (pss_one (ps_ret (pe_c c_lowest hr (by decide) (by rfl) (pa_cons (pe_op op_add (pe_op op_mul (pe_ix (k_ixT K rfl) (pv 0) pe_int (fun _ _ => rfl)) (pe_ix (k_ixT K rfl) (pv 1) pe_int (fun _ _ => rfl))) (pe_op op_mul (pe_ix (k_ixT K rfl) (pv 1) pe_int (fun _ _ => rfl)) (pe_ix (k_ixT K rfl) (pv 0) pe_int (fun _ _ => rfl)))) (pa_cons (pe_op op_mul (pe_ix (k_ixT K rfl) (pv 0) pe_int (fun _ _ => rfl)) (pe_ix (k_ixT K rfl) (pv 1) pe_int (fun _ _ => rfl))) pa_nil))))), ?_⟩
    refine ⟨_, rfl, _, _, _, _, rfl, rfl, ht, rfl, _, rfl, _, _, _, _, rfl, rfl, ht', rfl, _, _, rfl, rfl, .inl (cm l1), _, rfl, _, _, _, _, rfl, rfl, ht', rfl, _, rfl, _, _, _, _, rfl, rfl, ht, rfl, _, _, rfl, rfl, .inl (cm l3), _, _, rfl, rfl, _, rfl, _, _, _, _, rfl, rfl, ht, rfl, _, rfl, _, _, _, _, rfl, rfl, ht', rfl, _, _, rfl, rfl, .inl (cm l2), a * d + c * b, b * d, rfl, Nat.mul_pos hb hd, l5, k⟩
theorem sc_times : FnScope ["one", "other"] ["one", "other"] (defScope s_times) := ⟨rfl, rfl, rfl, by decide +kernel, rfl, by decide +kernel, by decide +kernel⟩
def sp_times (K : PySem.W.Frag) : Sp := fun vs H Q _ => ∃ (u v : V) (a b c d : Nat), vs = [u, v] ∧ TupN K H u [a, b] ∧ TupN K H v [c, d] ∧ 0 < b ∧ 0 < d ∧ a < 1099511627776 ∧ b < 1099511627776 ∧ b * d < 1073741824 ∧ Ret H (fun v H' => TupN K H' v [rt (a * c) (b * d), rb (a * c) (b * d)]) Q
theorem c_times (T : Fx K mg) (c_lowest : Cal P w K mg base 2 "lowest" (sp_lowest K) []) : Cal P w K mg base 3 "times" (sp_times K) [] := by
  refine T.cal 10 10 rfl rfl sc_times (fun _ _ _ _ _ _ us hl => match us, hl with | [_, _], _ => rfl) (fun vs H Q E h => ?_) (fun cdv A outer s H vs Q E hr h => ?_)
  · obtain ⟨u, v, a, b, c, d, rfl, ⟨t, rfl, ht⟩, ⟨t', rfl, ht'⟩, hb, hd, l1, l2, l5, k⟩ := h
    rfl
  · obtain ⟨u, v, a, b, c, d, rfl, ⟨t, rfl, ht⟩, ⟨t', rfl, ht'⟩, hb, hd, l1, l2, l5, k⟩ := h
    have hu := hu_of hr
    refine ⟨_, (pss_one (ps_ret (pe_c c_lowest hr (by decide) (by rfl) (pa_cons (pe_op op_mul (pe_ix (k_ixT K rfl) (pv 0) pe_int (fun _ _ => rfl)) (pe_ix (k_ixT K rfl) (pv 1) pe_int (fun _ _ => rfl))) (pa_cons (pe_op op_mul (pe_ix (k_ixT K rfl) (pv 0) pe_int (fun _ _ => rfl)) (pe_ix (k_ixT K rfl) (pv 1) pe_int (fun _ _ => rfl))) pa_nil))))), ?_⟩
    refine ⟨_, rfl, _, _, _, _, rfl, rfl, ht, rfl, _, rfl, _, _, _, _, rfl, rfl, ht', rfl, _, _, rfl, rfl, .inl (cm l1), _, rfl, _, _, _, _, rfl, rfl, ht, rfl, _, rfl, _, _, _, _, rfl, rfl, ht', rfl, _, _, rfl, rfl, .inl (cm l2), a * c, b * d, rfl, Nat.mul_pos hb hd, l5, k⟩
theorem sc_whole_of : FnScope ["one"] ["one"] (defScope s_whole_of) := ⟨rfl, rfl, rfl, by decide +kernel, rfl, by decide +kernel, by decide +kernel⟩
def sp_whole_of (K : PySem.W.Frag) : Sp := fun vs H Q _ => ∃ (v : V) (a b : Nat), vs = [v] ∧ TupN K H v [a, b] ∧ 0 < b ∧ b < 1073741824 ∧ Q (.int (a / b : Nat)) H
theorem c_whole_of (T : Fx K mg)  : Cal P w K mg base 1 "whole_of" (sp_whole_of K) [] := by
  refine T.cal 12 12 rfl rfl sc_whole_of (fun _ _ _ _ _ _ us hl => match us, hl with | [_], _ => rfl) (fun vs H Q E h => ?_) (fun cdv A outer s H vs Q E hr h => ?_)
  · obtain ⟨v, a, b, rfl, ⟨t, rfl, ht⟩, h1, h2, k⟩ := h
    rfl
  · obtain ⟨v, a, b, rfl, ⟨t, rfl, ht⟩, h1, h2, k⟩ := h
    have hu := hu_of hr
    refine ⟨_, (pss_one (ps_ret (pe_op op_fdiv (pe_ix (k_ixT K rfl) (pv 0) pe_int (fun _ _ => rfl)) (pe_ix (k_ixT K rfl) (pv 0) pe_int (fun _ _ => rfl))))), ?_⟩
    exact ⟨_, rfl, _, _, _, _, rfl, rfl, ht, rfl, _, rfl, _, _, _, _, rfl, rfl, ht, rfl, _, _, rfl, rfl, cd h1 h2, k⟩
theorem red_lt {a b : Nat} (h : a < 1000) : rt a b < 1099511627776 := Nat.lt_of_le_of_lt (rt_le a b) (by omega)
theorem red_mul {a c S : Nat} (h : S ≤ 1000) : rb a S * rb c S < 1073741824 := by
  have h1 := rb_le a S
  have h2 := rb_le c S
  have h3 : rb a S * rb c S ≤ 1000 * 1000 := Nat.mul_le_mul (by omega) (by omega)
  omega
theorem rt_zero {S : Nat} (hS : 0 < S) : rt 0 S = 0 ∧ rb 0 S = 1 := by
  unfold rt rb
  rw [Nat.gcd_zero_left, Nat.zero_div, Nat.div_self hS]
  exact ⟨rfl, rfl⟩
theorem sum_take_le (P : List Nat) (i : Nat) : ga_ P i ≤ P.sum := by
  rw [← ga_all P (Nat.le_refl P.length)]
  by_cases h : i ≤ P.length
  · exact ga_mono P h
  · rw [ga_all P (by omega), ga_all P (Nat.le_refl _)]; exact Nat.le_refl _
theorem sc_total : FnScope ["some", "found", "one"] ["some"] (defScope s_total) := ⟨rfl, rfl, rfl, by decide +kernel, rfl, by decide +kernel, by decide +kernel⟩
def sp_total (K : PySem.W.Frag) : Sp := fun vs H Q _ => ∃ (v : V) (L : List Nat), vs = [v] ∧ Tab K H v L ∧ 0 < L.sum ∧ L.sum < 1000 ∧ Ret H (fun v H' => TupN K H' v [1, 1]) Q
theorem c_total (T : Fx K mg) (c_plus : Cal P w K mg base 3 "plus" (sp_plus K) []) : Cal P w K mg base 4 "total" (sp_total K) [] := by
  refine T.cal 11 11 rfl rfl sc_total (fun _ _ _ _ _ _ us hl => match us, hl with | [_], _ => rfl) (fun vs H Q E h => ?_) (fun cdv A outer s H vs Q E hr h => ?_)
  · obtain ⟨v, L, rfl, ⟨t, xs, rfl, ht, hl, hx⟩, h1, h2, k⟩ := h
    rfl
  · obtain ⟨v, L, rfl, ⟨t, xs, rfl, ht, hl, hx⟩, h1, h2, k⟩ := h
    have hu := hu_of hr
    refine ⟨_, (pss_cons (ps_set (i := 1) sc_total.nd rfl (Or.inl rfl) (pe_glob (v := .ref (He.ga K "ZERO")) (by rfl) T.g_ZERO rfl))
    (pss_cons (ps_for PassesOwn.never rfl (pi_tup (pv 0)) (pg_name (i := 2) sc_total.nd rfl (Or.inl rfl))
      (pss_one (ps_set (i := 1) sc_total.nd rfl (Or.inl rfl) (pe_c c_plus hr (by decide) (by rfl) (pa_cons (pv 1) (pa_cons (pv 2) pa_nil))))))
    (pss_one (ps_ret (pv 1))))), ?_⟩
    refine ⟨_, rfl, t, rfl, ⟨_, ht⟩, for_tup (K := K) (a := t) (xs := xs) (fun i σ H1 => ∃ (z : V) (u : Option V), σ = [some (.ref t), some z, u] ∧ Same H H1 ∧ TupN K H1 z [rt (ga_ L i) L.sum, rb (ga_ L i) L.sum]) ⟨_, none, rfl, Same.refl H, ?_⟩ (fun i σ H1 _ h => let ⟨_, _, _, s, _⟩ := h; (Same.tk s).sq ht) (fun i x σ H1 hi h => ?_) (fun σ H1 h => ?_)⟩
    · rw [ga_zero, (rt_zero h1).1, (rt_zero h1).2]
      exact ⟨_, rfl, T.t_ZERO H⟩
    · obtain ⟨z, u, rfl, s, hz⟩ := h
      have hx' := (hx i x hi).tk (Same.tk s)
      have hm : L.getD i 0 ≤ L.sum := by have := sum_take_le L (i + 1); rw [ga_succ] at this; omega
      refine ⟨_, rfl, _, rfl, z, x, _, _, _, _, rfl, hz, hx', rb_pos h1, rb_pos h1, red_lt (by have := sum_take_le L i; omega), Nat.lt_of_le_of_lt (rb_le _ _) (by omega), red_lt (by omega), red_mul (by omega), fun v H2 s2 hv => ⟨v, some x, rfl, s.trans s2, ?_⟩⟩
      rw [plus_t h1, plus_b h1, ← ga_succ] at hv
      exact hv
    · obtain ⟨z, u, rfl, s, hz⟩ := h
      refine ⟨z, rfl, k z H1 s ?_⟩
      rw [hl, ga_all L (Nat.le_refl _)] at hz
      have e : rt L.sum L.sum = 1 ∧ rb L.sum L.sum = 1 := by unfold rt rb; rw [Nat.gcd_self, Nat.div_self h1]; exact ⟨rfl, rfl⟩
      rw [e.1, e.2] at hz
      exact hz
theorem sc_is_table_value : FnScope ["thing", "part"] ["thing"] (defScope s_is_table_value) := ⟨rfl, rfl, rfl, by decide +kernel, rfl, by decide +kernel, by decide +kernel⟩
def sp_is_table_value (K : PySem.W.Frag) : Sp := fun vs H Q _ => ∃ (v : V) (L : List Nat), vs = [v] ∧ Tab K H v L ∧ 0 < L.sum ∧ L.sum < 1000 ∧ 1 ≤ L.length ∧ L.length ≤ 8 ∧ ∀ H', Same H H' → Q (.bl true) H'
theorem c_is_table_value (T : Fx K mg) (c_is_share_value : Cal P w K mg base 3 "is_share_value" (sp_is_share_value K) []) (c_total : Cal P w K mg base 4 "total" (sp_total K) []) : Cal P w K mg base 5 "is_table_value" (sp_is_table_value K) [] := by
  refine T.cal 13 13 rfl rfl sc_is_table_value (fun _ _ _ _ _ _ us hl => match us, hl with | [_], _ => rfl) (fun vs H Q E h => ?_) (fun cdv A outer s H vs Q E hr h => ?_)
  · obtain ⟨v, L, rfl, hv, h1, h2, h3, h4, k⟩ := h
    rfl
  · obtain ⟨v, L, rfl, hv, h1, h2, h3, h4, k⟩ := h
    have hu := hu_of hr
    refine ⟨_, (pss_cons (ps_if (PW.pt (pw_or (pt_not (pt_val (pe_callB (k_isi K rfl) (by rfl) T.m_isinstance (by decide +kernel) (pa_cons (pv 0) (pa_cons (pe_bltn (v := .ty "tuple") (by rfl) T.m_tuple (by decide +kernel) rfl) pa_nil))))) (pw_or (pt_not (pt_chain op_le op_le pe_int (pe_callB (k_len K rfl) (by rfl) T.m_len (by decide +kernel) (pa_cons (pv 0) pa_nil)) pe_int)) (pw_or1 (pt_not (pt_val (pe_callB (k_all K rfl rfl) (by rfl) T.m_all (by decide +kernel) (pa_cons (pe_lc (own := [("part", 1)]) rfl sc_is_table_value.nd (pi_tup (pv 0)) (blkOk_by (own := [("part", 1)]) (N := ["thing", "part"]) (sc := defScope s_is_table_value) (by decide +kernel)) (fun _ _ _ _ _ => (pg_name (i := 1) sc_is_table_value.nd rfl (Or.inl rfl) (Or.inr rfl))) (fun _ _ _ _ _ => pts_nil) (fun _ _ _ _ _ => (pe_c c_is_share_value hr (by decide) (by rfl) (pa_cons (pv 1) pa_nil)))) pa_nil))))))))
      (pss_one (ps_ret pe_bl))
      pss_nil)
    (pss_one (ps_ret (pe_cmpR (k_eqD K rfl hr.units) (pe_c c_total hr (by decide) (by rfl) (pa_cons (pv 0) pa_nil)) (pe_glob (v := .ref (He.ga K "ONE")) (by rfl) T.g_ONE rfl) (nomark _))))), ?_⟩
    obtain ⟨t, xs, rfl, ht, hl, hx⟩ := id hv
    refine q_isT rfl ht ⟨true, rfl, ?_⟩
    refine ⟨_, rfl, _, _, rfl, .inr ht, _, _, rfl, rfl, _, rfl, iD (by show (1 : Int) ≤ (xs.length : Int); omega) ⟨_, _, rfl, rfl, _, rfl, ?_⟩⟩
    show if (!decide ((xs.length : Int) ≤ 8)) = true then _ else _
    refine iNF (by omega) ?_
    refine ⟨_, rfl, t, rfl, ⟨_, ht⟩, fun D hD => lc_tup (K := K) (a := t) (xs := xs) (fun i H1 => Same H H1 ∧ H1 D = some (.lst ((List.replicate i true).map V.bl))) ⟨Same.new hD, upd_same⟩ (fun i H1 _ h => (Same.tk h.1).sq ht) (fun i x H1 hi ⟨s, h⟩ => ?_) (fun H1 ⟨s, h⟩ => ?_)⟩
    · have hlt := (List.getElem?_eq_some_iff.mp hi).1
      refine ⟨rfl, _, rfl, x, _, _, rfl, (hx i x hi).tk (Same.tk s), rb_pos h1, r_gcd h1, _, h, szl_ (by simp; omega), Same.upd s hD, ?_⟩
      rw [upd_same, List.replicate_succ', List.map_append]; rfl
    · refine ⟨D, List.replicate xs.length true, rfl, SqL.of h, true, by simp, ?_⟩
      refine ⟨_, rfl, _, L, rfl, hv.tk (Same.tk s), h1, h2, fun v H2 s2 hv2 => ?_⟩
      obtain ⟨t2, rfl, ht2⟩ := hv2
      refine ⟨.tuple [.int 1, .int 1], .tuple [.int 1, .int 1], .tup ht2 (.cons (.int _) (.cons (.int _) .nil)), .tup (T.t_ONE H2) (.cons (.int _) (.cons (.int _) .nil)), by decide, by decide, ?_⟩
      exact qB (Q := Q) (by decide) (k H2 (s.trans s2))
theorem sc_ahead_of : FnScope ["table", "outcome", "found", "chance"] ["table", "outcome"] (defScope s_ahead_of) := ⟨rfl, rfl, rfl, by decide +kernel, rfl, by decide +kernel, by decide +kernel⟩
def sp_ahead_of (K : PySem.W.Frag) : Sp := fun vs H Q _ => ∃ (v : V) (L : List Nat) (i : Nat), vs = [v, .int i] ∧ Tab K H v L ∧ 0 < L.sum ∧ L.sum < 1000 ∧ i ≤ L.length ∧ Ret H (fun v H' => TupN K H' v [rt (ga_ L i) L.sum, rb (ga_ L i) L.sum]) Q
theorem c_ahead_of (T : Fx K mg) (c_plus : Cal P w K mg base 3 "plus" (sp_plus K) []) : Cal P w K mg base 4 "ahead_of" (sp_ahead_of K) [] := by
  refine T.cal 19 19 rfl rfl sc_ahead_of (fun _ _ _ _ _ _ us hl => match us, hl with | [_, _], _ => rfl) (fun vs H Q E h => ?_) (fun cdv A outer s H vs Q E hr h => ?_)
  · obtain ⟨v, L, n, rfl, ⟨t, xs, rfl, ht, hl, hx⟩, h1, h2, h3, k⟩ := h
    rfl
  · obtain ⟨v, L, n, rfl, ⟨t, xs, rfl, ht, hl, hx⟩, h1, h2, h3, k⟩ := h
    have hu := hu_of hr
    refine ⟨_, (pss_cons (ps_set (i := 2) sc_ahead_of.nd rfl (Or.inl rfl) (pe_glob (v := .ref (He.ga K "ZERO")) (by rfl) T.g_ZERO rfl))
    (pss_cons (ps_for PassesOwn.never rfl (pi_tup (pe_slice (k_slT K rfl) (pv 0) po_none (po_some (pv 1)))) (pg_name (i := 3) sc_ahead_of.nd rfl (Or.inl rfl))
      (pss_one (ps_set (i := 2) sc_ahead_of.nd rfl (Or.inl rfl) (pe_c c_plus hr (by decide) (by rfl) (pa_cons (pv 2) (pa_cons (pv 3) pa_nil))))))
    (pss_one (ps_ret (pv 2))))), ?_⟩
    refine ⟨_, rfl, _, rfl, n, rfl, sl_take (by omega) ht fun t0 H0 s0 ht0 => ?_⟩
    refine ⟨t0, rfl, ⟨_, ht0⟩, for_tup (K := K) (a := t0) (xs := xs.take n) (fun i σ H1 => ∃ (z : V) (u : Option V), σ = [some (.ref t), some (.int n), some z, u] ∧ Same H H1 ∧ Same H0 H1 ∧ TupN K H1 z [rt (ga_ L i) L.sum, rb (ga_ L i) L.sum]) ⟨_, none, rfl, s0, Same.refl H0, ?_⟩ (fun i σ H1 _ h => let ⟨_, _, _, _, s, _⟩ := h; (Same.tk s).sq ht0) (fun i x σ H1 hi h => ?_) (fun σ H1 h => ?_)⟩
    · rw [ga_zero, (rt_zero h1).1, (rt_zero h1).2]
      exact ⟨_, rfl, T.t_ZERO H0⟩
    · obtain ⟨z, u, rfl, s, s', hz⟩ := h
      have hi' : xs[i]? = some x := by
        have h4 := (List.getElem?_eq_some_iff.mp hi).1
        rw [List.length_take] at h4
        rw [List.getElem?_take_of_lt (by omega)] at hi
        exact hi
      have hx' := (hx i x hi').tk (Same.tk s)
      have hm : L.getD i 0 ≤ L.sum := by have := sum_take_le L (i + 1); rw [ga_succ] at this; omega
      refine ⟨_, rfl, _, rfl, z, x, _, _, _, _, rfl, hz, hx', rb_pos h1, rb_pos h1, red_lt (by have := sum_take_le L i; omega), Nat.lt_of_le_of_lt (rb_le _ _) (by omega), red_lt (by omega), red_mul (by omega), fun v H2 s2 hv => ⟨v, some x, rfl, s.trans s2, s'.trans s2, ?_⟩⟩
      rw [plus_t h1, plus_b h1, ← ga_succ] at hv
      exact hv
    · obtain ⟨z, u, rfl, s, s', hz⟩ := h
      refine ⟨z, rfl, k z H1 s ?_⟩
      rw [List.length_take, Nat.min_eq_left (by omega)] at hz
      exact hz
theorem sc_cut_of : FnScope ["table", "size", "outcome", "ahead", "behind"] ["table", "size", "outcome"] (defScope s_cut_of) := ⟨rfl, rfl, rfl, by decide +kernel, rfl, by decide +kernel, by decide +kernel⟩
def sp_cut_of (K : PySem.W.Frag) : Sp := fun vs H Q _ => ∃ (v : V) (L : List Nat) (z i : Nat), vs = [v, .int z, .int i] ∧ Tab K H v L ∧ 0 < L.sum ∧ L.sum < 1000 ∧ i < L.length ∧ z < 1099511627776 ∧ Ret H (fun v H' => TupN K H' v [ca L z i, ca L z (i + 1)]) Q
theorem c_cut_of (T : Fx K mg) (c_ahead_of : Cal P w K mg base 4 "ahead_of" (sp_ahead_of K) []) (c_plus : Cal P w K mg base 3 "plus" (sp_plus K) []) (c_whole_of : Cal P w K mg base 1 "whole_of" (sp_whole_of K) []) : Cal P w K mg base 5 "cut_of" (sp_cut_of K) [] := by
  refine T.cal 23 23 rfl rfl sc_cut_of (fun _ _ _ _ _ _ us hl => match us, hl with | [_, _, _], _ => rfl) (fun vs H Q E h => ?_) (fun cdv A outer s H vs Q E hr h => ?_)
  · obtain ⟨v, L, z, i, rfl, hv, h1, h2, h3, h4, k⟩ := h
    rfl
  · obtain ⟨v, L, z, i, rfl, hv, h1, h2, h3, h4, k⟩ := h
    have hu := hu_of hr
    refine ⟨_, (pss_cons (ps_set (i := 3) sc_cut_of.nd rfl (Or.inl rfl) (pe_c c_ahead_of hr (by decide) (by rfl) (pa_cons (pv 0) (pa_cons (pv 2) pa_nil))))
    (pss_cons (ps_set (i := 4) sc_cut_of.nd rfl (Or.inl rfl) (pe_c c_plus hr (by decide) (by rfl) (pa_cons (pv 3) (pa_cons (pe_ix (k_ixT K rfl) (pv 0) (pv 2) (fun _ _ => rfl)) pa_nil))))
    (pss_one (ps_ret (pe_tup (pa_cons (pe_c c_whole_of hr (by decide) (by rfl) (pa_cons (pe_tup (pa_cons (pe_op op_mul (pv 1) (pe_ix (k_ixT K rfl) (pv 3) pe_int (fun _ _ => rfl))) (pa_cons (pe_ix (k_ixT K rfl) (pv 3) pe_int (fun _ _ => rfl)) pa_nil))) pa_nil)) (pa_cons (pe_c c_whole_of hr (by decide) (by rfl) (pa_cons (pe_tup (pa_cons (pe_op op_mul (pv 1) (pe_ix (k_ixT K rfl) (pv 4) pe_int (fun _ _ => rfl))) (pa_cons (pe_ix (k_ixT K rfl) (pv 4) pe_int (fun _ _ => rfl)) pa_nil))) pa_nil)) pa_nil))))))), ?_⟩
    obtain ⟨t, xs, rfl, ht, hl, hx⟩ := id hv
    obtain ⟨x, hi⟩ : ∃ x, xs[i]? = some x := ⟨xs[i]'(by omega), List.getElem?_eq_getElem (by omega)⟩
    have hm : L.getD i 0 ≤ L.sum := by have := sum_take_le L (i + 1); rw [ga_succ] at this; omega
    refine ⟨_, rfl, _, rfl, _, L, i, rfl, hv, h1, h2, by omega, fun v1 H1 s1 hv1 => ?_⟩
    have hx' := (hx i x hi).tk (Same.tk s1)
    refine ⟨_, rfl, _, rfl, _, rfl, t, xs, i, x, rfl, rfl, (Same.tk s1).sq ht, atI_nat hi, v1, x, _, _, _, _, rfl, hv1, hx', rb_pos h1, rb_pos h1, red_lt (by have := sum_take_le L i; omega), Nat.lt_of_le_of_lt (rb_le _ _) (by omega), red_lt (by omega), red_mul (by omega), fun v2 H2 s2 hv2 => ?_⟩
    rw [plus_t h1, plus_b h1, ← ga_succ] at hv2
    have hv1' := hv1.tk (Same.tk s2)
    obtain ⟨t1, rfl, ht1⟩ := hv1'
    obtain ⟨t2, rfl, ht2⟩ := id hv2
    refine ⟨_, rfl, _, rfl, _, _, _, _, rfl, rfl, ht1, rfl, _, _, rfl, rfl, .inl (cm h4), _, rfl, _, _, _, _, rfl, rfl, ht1, rfl, (show 2 ≤ sizeLine by decide), fun p hp => ?_⟩
    refine ⟨_, z * rt (ga_ L i) L.sum, rb (ga_ L i) L.sum, rfl, ⟨p, rfl, SqT.of upd_same⟩, rb_pos h1, Nat.lt_of_le_of_lt (rb_le _ _) (by omega), ?_⟩
    have ht2' := (Same.tk (Same.new (o := .tup [V.int ((z : Int) * (rt (ga_ L i) L.sum : Nat)), V.int (rb (ga_ L i) L.sum : Nat)]) hp)).sq ht2
    refine ⟨_, rfl, _, rfl, _, _, _, _, rfl, rfl, ht2', rfl, _, _, rfl, rfl, .inl (cm h4), _, rfl, _, _, _, _, rfl, rfl, ht2', rfl, (show 2 ≤ sizeLine by decide), fun p' hp' => ?_⟩
    refine ⟨_, z * rt (ga_ L (i + 1)) L.sum, rb (ga_ L (i + 1)) L.sum, rfl, ⟨p', rfl, SqT.of upd_same⟩, rb_pos h1, Nat.lt_of_le_of_lt (rb_le _ _) (by omega), (show 2 ≤ sizeLine by decide), fun r hr' => ?_⟩
    refine k _ _ (((s1.trans s2).trans (Same.new hp)).trans ((Same.new hp').trans (Same.new hr'))) ⟨r, rfl, SqT.of ?_⟩
    rw [upd_same]
    show some (HO.tup [V.int ((z * rt (ga_ L i) L.sum / rb (ga_ L i) L.sum : Nat) : Int), V.int ((z * rt (ga_ L (i + 1)) L.sum / rb (ga_ L (i + 1)) L.sum : Nat) : Int)]) = _
    rw [whole_r _ _ _ h1, whole_r _ _ _ h1]
    rfl
end
end K59

namespace K59
open PySem PySem.Spec PyProof.Rows L2
open C8 (Cal Met Mak pe_c pe_mk pe_mt pe_mt0 pe_gc)
section
variable {P : Program} {w : World} {K : PySem.W.Frag} {mg : Str → Option Value} {base : Heap}
structure SOk (s : List Nat × List Nat) (n m : Nat) : Prop where
  l1 : s.1.length = n
  l2 : s.2.length = n
  n1 : 1 ≤ n
  n8 : n ≤ 8
  fl : ∀ f ∈ s.2, f < m
  pos : 0 < s.1.sum
  lt : s.1.sum < 1000
theorem MOk.sok {M : Md} {n w : Nat} (m : MOk M n w) {q : Nat} (hq : q < M.length) : SOk (M.getD q ([], [])) n M.length := by
  have hw : 2 ^ (w - 2) ≤ 2 ^ 3 := Nat.pow_le_pow_right (by decide) (by have := m.w16; omega)
  refine ⟨m.len q hq, m.lef q hq, m.n1, by have := m.n8; omega, fun f hf => ?_, m.pos q hq, by have := m.fit q hq; unfold parts at this; omega⟩
  obtain ⟨i, hi⟩ := List.getElem?_of_mem hf
  have hl := (List.getElem?_eq_some_iff.mp hi).1
  rw [m.lef q hq] at hl
  have := m.fl q i hq hl
  unfold fol at this
  rw [List.getD_eq_getElem?_getD, hi] at this
  exact this
theorem sc_is_state_value : FnScope ["thing", "many", "states"] ["thing", "many", "states"] (defScope s_is_state_value) := ⟨rfl, rfl, rfl, by decide +kernel, rfl, by decide +kernel, by decide +kernel⟩
def sp_is_state_value (K : PySem.W.Frag) : Sp := fun vs H Q _ => ∃ (v : V) (s : List Nat × List Nat) (n m : Nat), vs = [v, .int n, .int m] ∧ Sta K H v s ∧ SOk s n m ∧ ∀ H', Same H H' → Q (.bl true) H'
theorem c_is_state_value (T : Fx K mg) (c_are_between : Cal P w K mg base 3 "are_between" (sp_are_between K) []) (c_is_table_value : Cal P w K mg base 5 "is_table_value" (sp_is_table_value K) []) : Cal P w K mg base 6 "is_state_value" (sp_is_state_value K) [] := by
  refine T.cal 14 14 rfl rfl sc_is_state_value (fun _ _ _ _ _ _ us hl => match us, hl with | [_, _, _], _ => rfl) (fun vs H Q E h => ?_) (fun cdv A outer s H vs Q E hr h => ?_)
  · obtain ⟨v, s, n, m, rfl, ⟨t, x, y, rfl, ht, hx, hy⟩, o, k⟩ := h
    rfl
  · obtain ⟨v, s, n, m, rfl, ⟨t, x, y, rfl, ht, hx, hy⟩, o, k⟩ := h
    have hu := hu_of hr
    refine ⟨_, (pss_cons (ps_if (PW.pt (pw_or (pt_not (pt_val (pe_callB (k_isi K rfl) (by rfl) T.m_isinstance (by decide +kernel) (pa_cons (pv 0) (pa_cons (pe_bltn (v := .ty "tuple") (by rfl) T.m_tuple (by decide +kernel) rfl) pa_nil))))) (pw_or (pt_cmpR op_ne (pe_callB (k_len K rfl) (by rfl) T.m_len (by decide +kernel) (pa_cons (pv 0) pa_nil)) pe_int (nomark _)) (pw_or (pt_not (pt_val (pe_c c_is_table_value hr (by decide) (by rfl) (pa_cons (pe_ix (k_ixT K rfl) (pv 0) pe_int (fun _ _ => rfl)) pa_nil)))) (pw_or1 (pt_cmpR op_ne (pe_callB (k_len K rfl) (by rfl) T.m_len (by decide +kernel) (pa_cons (pe_ix (k_ixT K rfl) (pv 0) pe_int (fun _ _ => rfl)) pa_nil)) (pv 1) (nomark _)))))))
      (pss_one (ps_ret pe_bl))
      pss_nil)
    (pss_one (ps_ret (pe_and (pe_c c_are_between hr (by decide) (by rfl) (pa_cons (pe_ix (k_ixT K rfl) (pv 0) pe_int (fun _ _ => rfl)) (pa_cons pe_int (pa_cons (pe_op op_sub (pv 2) pe_int) pa_nil)))) (pe_one (pe_cmpR op_eq (pe_callB (k_len K rfl) (by rfl) T.m_len (by decide +kernel) (pa_cons (pe_ix (k_ixT K rfl) (pv 0) pe_int (fun _ _ => rfl)) pa_nil)) (pv 1) (nomark _))))))), ?_⟩
    refine q_isT rfl ht ⟨true, rfl, ?_⟩
    refine ⟨_, rfl, _, _, rfl, .inr ht, rfl, _, rfl, iNF rfl ⟨_, rfl, _, _, _, _, rfl, rfl, ht, rfl, x, s.1, rfl, hx, o.pos, o.lt, by rw [o.l1]; exact o.n1, by rw [o.l1]; exact o.n8, fun H1 s1 => ⟨true, rfl, ?_⟩⟩⟩
    obtain ⟨tx, xs, rfl, htx, hlx, _⟩ := hx.tk (Same.tk s1)
    have ht1 := (Same.tk s1).sq ht
    refine ⟨_, rfl, _, _, _, _, rfl, rfl, ht1, rfl, _, _, rfl, .inr htx, _, rfl, rfl, _, rfl, iNF (by rw [hlx, o.l1]) ?_⟩
    refine ⟨_, rfl, _, _, _, _, rfl, rfl, ht1, rfl, _, rfl, _, _, rfl, rfl, y, 0, (m : Int) - 1, _, rfl, TupI.tk hy (Same.tk s1), fun z hz => ?_, by rw [List.length_map, o.l2]; have := o.n8; omega, fun H2 s2 => ⟨true, rfl, ?_⟩⟩
    · obtain ⟨f, hf, rfl⟩ := List.mem_map.mp hz
      have := o.fl f hf
      omega
    obtain ⟨ty, rfl, hty⟩ := TupI.tk hy (Same.tk (s1.trans s2))
    have ht2 := (Same.tk s2).sq ht1
    refine ⟨_, rfl, _, _, _, _, rfl, rfl, ht2, rfl, _, _, rfl, .inr hty, _, rfl, rfl, qT (Q := Q) ?_ (k H2 (s1.trans s2))⟩
    rw [List.length_map, List.length_map, o.l2]
theorem sc_is_model_value : FnScope ["thing", "state"] ["thing"] (defScope s_is_model_value) := ⟨rfl, rfl, rfl, by decide +kernel, rfl, by decide +kernel, by decide +kernel⟩
def sp_is_model_value (K : PySem.W.Frag) : Sp := fun vs H Q _ => ∃ (v : V) (M : Md) (n w : Nat), vs = [v] ∧ Mod_ K H v M ∧ MOk M n w ∧ ∀ H', Same H H' → Q (.bl true) H'
theorem c_is_model_value (T : Fx K mg) (c_is_state_value : Cal P w K mg base 6 "is_state_value" (sp_is_state_value K) []) : Cal P w K mg base 7 "is_model_value" (sp_is_model_value K) [] := by
  refine T.cal 15 15 rfl rfl sc_is_model_value (fun _ _ _ _ _ _ us hl => match us, hl with | [_], _ => rfl) (fun vs H Q E h => ?_) (fun cdv A outer s H vs Q E hr h => ?_)
  · obtain ⟨v, M, n, w', rfl, hv, m, k⟩ := h
    rfl
  · obtain ⟨v, M, n, w', rfl, hv, m, k⟩ := h
    have hu := hu_of hr
    refine ⟨_, (pss_cons (ps_if (PW.pt (pw_or (pt_not (pt_val (pe_callB (k_isi K rfl) (by rfl) T.m_isinstance (by decide +kernel) (pa_cons (pv 0) (pa_cons (pe_bltn (v := .ty "tuple") (by rfl) T.m_tuple (by decide +kernel) rfl) pa_nil))))) (pw_or (pt_cmpR (k_eqD K rfl hr.units) (pv 0) (pe_tup pa_nil) (nomark _)) (pw_or (pt_not (pt_val (pe_callB (k_isi K rfl) (by rfl) T.m_isinstance (by decide +kernel) (pa_cons (pe_ix (k_ixT K rfl) (pv 0) pe_int (fun _ _ => rfl)) (pa_cons (pe_bltn (v := .ty "tuple") (by rfl) T.m_tuple (by decide +kernel) rfl) pa_nil))))) (pw_or1 (pt_cmpR op_ne (pe_callB (k_len K rfl) (by rfl) T.m_len (by decide +kernel) (pa_cons (pe_ix (k_ixT K rfl) (pv 0) pe_int (fun _ _ => rfl)) pa_nil)) pe_int (nomark _)))))))
      (pss_one (ps_ret pe_bl))
      pss_nil)
    (pss_cons (ps_if (pt_not (pt_val (pe_callB (k_isi K rfl) (by rfl) T.m_isinstance (by decide +kernel) (pa_cons (pe_ix (k_ixT K rfl) (pe_ix (k_ixT K rfl) (pv 0) pe_int (fun _ _ => rfl)) pe_int (fun _ _ => rfl)) (pa_cons (pe_bltn (v := .ty "tuple") (by rfl) T.m_tuple (by decide +kernel) rfl) pa_nil)))))
      (pss_one (ps_ret pe_bl))
      pss_nil)
    (pss_one (ps_ret (pe_callB (k_all K rfl rfl) (by rfl) T.m_all (by decide +kernel) (pa_cons (pe_lc (own := [("state", 1)]) rfl sc_is_model_value.nd (pi_tup (pv 0)) (blkOk_by (own := [("state", 1)]) (N := ["thing", "state"]) (sc := defScope s_is_model_value) (by decide +kernel)) (fun _ _ _ _ _ => (pg_name (i := 1) sc_is_model_value.nd rfl (Or.inl rfl) (Or.inr rfl))) (fun _ _ _ _ _ => pts_nil) (fun _ _ _ _ _ => (pe_c c_is_state_value hr (by decide) (by rfl) (pa_cons (pv 1) (pa_cons (pe_callB (k_len K rfl) (by rfl) T.m_len (by decide +kernel) (pa_cons (pe_ix (k_ixT K rfl) (pe_ix (k_ixT K rfl) (pv 0) pe_int (fun _ _ => rfl)) pe_int (fun _ _ => rfl)) pa_nil)) (pa_cons (pe_callB (k_len K rfl) (by rfl) T.m_len (by decide +kernel) (pa_cons (pv 0) pa_nil)) pa_nil)))))) pa_nil)))))), ?_⟩
    obtain ⟨t, xs, rfl, ht, hl, hd, hx⟩ := hv.items
    have h0 : 0 < xs.length := by rw [hl]; exact m.ne
    obtain ⟨x0, e0⟩ : ∃ x, xs[0]? = some x := ⟨xs[0], List.getElem?_eq_getElem h0⟩
    refine q_isT rfl ht ⟨true, rfl, ?_⟩
    refine ⟨_, rfl, Nat.zero_le _, fun p hp => ?_⟩
    have s1 : Same H (upd H p (.tup [])) := Same.new hp
    have ht1 := (Same.tk s1).sq ht
    have hx1 : ∀ i x, xs[i]? = some x → Sta K (upd H p (.tup [])) x (M.getD i ([], [])) := fun i x hi => (hx i x hi).tk (Same.tk s1)
    obtain ⟨ds, g1, g2, g3, g4⟩ := DpK.tup ht1 (hd _ (Same.tk s1))
    obtain ⟨t0, y0, z0, rfl, ht0, hy0, hz0⟩ := hx1 0 x0 e0
    obtain ⟨ty, ys, rfl, hty, hly, hy⟩ := id hy0
    have o := m.sok m.ne
    refine ⟨_, _, g1, .tup (SqT.of upd_same) .nil, shaped_of g3 g4 (by decide), rfl, _, rfl, ?_⟩
    have e2 : PyData.eqv (.tuple ds) (.tuple []) = false := by
      cases ds with
      | nil => rw [← g2] at h0; exact absurd h0 (by decide)
      | cons d ds => rfl
    rw [e2]
    have at0 : atI xs 0 = some (.ref t0) := atI_nat (j := 0) e0
    refine iteF ⟨_, rfl, t, xs, 0, _, rfl, rfl, ht1, at0, q_c1 (isi_tup ht0 ⟨true, rfl, ?_⟩)⟩
    refine ⟨_, rfl, t, xs, 0, _, rfl, rfl, ht1, at0, _, _, rfl, .inr ht0, rfl, _, rfl, iNF rfl ?_⟩
    refine ⟨_, rfl, t, xs, 0, _, rfl, rfl, ht1, at0, _, _, _, _, rfl, rfl, ht0, rfl, q_c1 (isi_tup hty ⟨true, rfl, ?_⟩)⟩
    refine ⟨_, rfl, t, rfl, ⟨_, ht1⟩, fun D hD => lc_tup (K := K) (a := t) (xs := xs) (fun i H1 => Same (upd H p (.tup [])) H1 ∧ H1 D = some (.lst ((List.replicate i true).map V.bl))) ⟨Same.new hD, upd_same⟩ (fun i H1 _ h => (Same.tk h.1).sq ht1) (fun i x H1 hi ⟨s2, h⟩ => ?_) (fun H1 ⟨s2, h⟩ => ?_)⟩
    · have hlt := (List.getElem?_eq_some_iff.mp hi).1
      refine ⟨rfl, _, rfl, _, rfl, t, xs, 0, _, rfl, rfl, (Same.tk s2).sq ht1, at0, _, _, _, _, rfl, rfl, (Same.tk s2).sq ht0, rfl, _, _, rfl, .inr ((Same.tk s2).sq hty), _, rfl, _, _, rfl, .inr ((Same.tk s2).sq ht1), x, _, n, M.length, ?_, (hx1 i x hi).tk (Same.tk s2), m.sok (by omega), fun H2 s3 => ?_⟩
      · rw [hly, o.l1, hl]; rfl
      · refine ⟨_, s3 D _ h, szl_ (by rw [List.length_map, List.length_replicate]; have := m.m8; omega), Same.upd (s2.trans s3) hD, ?_⟩
        rw [upd_same, List.replicate_succ', List.map_append]; rfl
    · refine ⟨D, List.replicate xs.length true, rfl, SqL.of h, ?_⟩
      exact qB (Q := Q) (by simp) (k H1 (s1.trans s2))
theorem sc_need_model : FnScope ["model"] ["model"] (defScope s_need_model) := ⟨rfl, rfl, rfl, by decide +kernel, rfl, by decide +kernel, by decide +kernel⟩
def sp_need_model (K : PySem.W.Frag) : Sp := fun vs H Q _ => ∃ (v : V) (M : Md) (n w : Nat), vs = [v] ∧ Mod_ K H v M ∧ MOk M n w ∧ ∀ H', Same H H' → Q .non H'
theorem c_need_model (T : Fx K mg) (c_is_model_value : Cal P w K mg base 7 "is_model_value" (sp_is_model_value K) []) : Cal P w K mg base 8 "need_model" (sp_need_model K) [] := by
  refine T.cal 16 16 rfl rfl sc_need_model (fun _ _ _ _ _ _ us hl => match us, hl with | [_], _ => rfl) (fun vs H Q E h => ?_) (fun cdv A outer s H vs Q E hr h => ?_)
  · obtain ⟨v, M, n, w', rfl, hv, m, k⟩ := h
    rfl
  · obtain ⟨v, M, n, w', rfl, hv, m, k⟩ := h
    have hu := hu_of hr
    refine ⟨_, (pss_one (ps_if (pt_not (pt_val (pe_c c_is_model_value hr (by decide) (by rfl) (pa_cons (pv 0) pa_nil))))
      (pss_one ps_never)
      pss_nil)), ?_⟩
    exact ⟨_, rfl, v, M, n, w', rfl, hv, m, fun H1 s1 => ⟨true, rfl, k H1 s1⟩⟩
theorem sc_need_bits : FnScope ["bits"] ["bits"] (defScope s_need_bits) := ⟨rfl, rfl, rfl, by decide +kernel, rfl, by decide +kernel, by decide +kernel⟩
def sp_need_bits (K : PySem.W.Frag) : Sp := fun vs H Q _ => ∃ (v : V) (ns : List Int), vs = [v] ∧ TupI K H v ns ∧ (∀ n ∈ ns, 0 ≤ n ∧ n ≤ 1) ∧ ns.length ≤ 1000 ∧ ∀ H', Same H H' → Q .non H'
theorem c_need_bits (T : Fx K mg) (c_are_bits_value : Cal P w K mg base 4 "are_bits_value" (sp_are_bits_value K) []) : Cal P w K mg base 5 "need_bits" (sp_need_bits K) [] := by
  refine T.cal 20 20 rfl rfl sc_need_bits (fun _ _ _ _ _ _ us hl => match us, hl with | [_], _ => rfl) (fun vs H Q E h => ?_) (fun cdv A outer s H vs Q E hr h => ?_)
  · obtain ⟨v, ns, rfl, hv, hn, hl, k⟩ := h
    rfl
  · obtain ⟨v, ns, rfl, hv, hn, hl, k⟩ := h
    have hu := hu_of hr
    refine ⟨_, (pss_one (ps_if (pt_not (pt_val (pe_c c_are_bits_value hr (by decide) (by rfl) (pa_cons (pv 0) pa_nil))))
      (pss_one ps_never)
      pss_nil)), ?_⟩
    exact ⟨_, rfl, v, ns, rfl, hv, hn, hl, fun H1 s1 => ⟨true, rfl, k H1 s1⟩⟩
theorem sc_need_count : FnScope ["number"] ["number"] (defScope s_need_count) := ⟨rfl, rfl, rfl, by decide +kernel, rfl, by decide +kernel, by decide +kernel⟩
def sp_need_count (K : PySem.W.Frag) : Sp := fun vs H Q _ => ∃ x : Int, vs = [.int x] ∧ 0 ≤ x ∧ Q .non H
theorem c_need_count (T : Fx K mg) (c_is_count : Cal P w K mg base 2 "is_count" (sp_is_count K) []) : Cal P w K mg base 3 "need_count" (sp_need_count K) [] := by
  refine T.cal 21 21 rfl rfl sc_need_count (fun _ _ _ _ _ _ us hl => match us, hl with | [_], _ => rfl) (fun vs H Q E h => ?_) (fun cdv A outer s H vs Q E hr h => ?_)
  · obtain ⟨x, rfl, h, k⟩ := h
    rfl
  · obtain ⟨x, rfl, h, k⟩ := h
    have hu := hu_of hr
    refine ⟨_, (pss_one (ps_if (pt_not (pt_val (pe_c c_is_count hr (by decide) (by rfl) (pa_cons (pv 0) pa_nil))))
      (pss_one ps_never)
      pss_nil)), ?_⟩
    exact ⟨_, rfl, x, rfl, h, true, rfl, k⟩
theorem sc_is_way_value : FnScope ["model", "thing", "at", "outcome", "table", "followers"] ["model", "thing"] (defScope s_is_way_value) := ⟨rfl, rfl, rfl, by decide +kernel, rfl, by decide +kernel, by decide +kernel⟩
def sp_is_way_value (K : PySem.W.Frag) : Sp := fun vs H Q _ => ∃ (u v : V) (M : Md) (n w : Nat) (p : List Nat), vs = [u, v] ∧ Mod_ K H u M ∧ MOk M n w ∧ TupN K H v p ∧ VW M 0 p ∧ ∀ H', Same H H' → Q (.bl true) H'
theorem c_is_way_value (T : Fx K mg) (c_is_between : Cal P w K mg base 2 "is_between" (sp_is_between K) []) : Cal P w K mg base 3 "is_way_value" (sp_is_way_value K) [] := by
  refine T.cal 17 17 rfl rfl sc_is_way_value (fun _ _ _ _ _ _ us hl => match us, hl with | [_, _], _ => rfl) (fun vs H Q E h => ?_) (fun cdv A outer s H vs Q E hr h => ?_)
  · obtain ⟨u, v, M, n, w', p, rfl, hu', m, ⟨t, rfl, ht⟩, vw, k⟩ := h
    rfl
  · obtain ⟨u, v, M, n, w', p, rfl, hu', m, ⟨t, rfl, ht⟩, vw, k⟩ := h
    have hu := hu_of hr
    refine ⟨_, (pss_cons (ps_if (pt_not (pt_val (pe_callB (k_isi K rfl) (by rfl) T.m_isinstance (by decide +kernel) (pa_cons (pv 1) (pa_cons (pe_bltn (v := .ty "tuple") (by rfl) T.m_tuple (by decide +kernel) rfl) pa_nil)))))
      (pss_one (ps_ret pe_bl))
      pss_nil)
    (pss_cons (ps_set (i := 2) sc_is_way_value.nd rfl (Or.inl rfl) pe_int)
    (pss_cons (ps_for PassesOwn.never rfl (pi_tup (pv 1)) (pg_name (i := 3) sc_is_way_value.nd rfl (Or.inl rfl))
      (pss_cons (ps_asg (pe_ix (k_ixT K rfl) (pv 0) (pv 2) (fun _ _ => rfl)) (pg_tupK K 2 rfl rfl (pgs_cons (pg_name (i := 4) sc_is_way_value.nd rfl (Or.inl rfl)) (pgs_cons (pg_name (i := 5) sc_is_way_value.nd rfl (Or.inl rfl)) pgs_nil))))
    (pss_cons (ps_if (PW.pt (pw_or (pt_not (pt_val (pe_c c_is_between hr (by decide) (by rfl) (pa_cons (pv 3) (pa_cons pe_int (pa_cons (pe_op op_sub (pe_callB (k_len K rfl) (by rfl) T.m_len (by decide +kernel) (pa_cons (pv 4) pa_nil)) pe_int) pa_nil)))))) (pw_or1 (pt_cmpR op_eq (pe_ix (k_ixT K rfl) (pe_ix (k_ixT K rfl) (pv 4) (pv 3) (fun _ _ => rfl)) pe_int (fun _ _ => rfl)) pe_int (nomark _)))))
      (pss_one (ps_ret pe_bl))
      pss_nil)
    (pss_one (ps_set (i := 2) sc_is_way_value.nd rfl (Or.inl rfl) (pe_ix (k_ixT K rfl) (pv 5) (pv 3) (fun _ _ => rfl)))))))
    (pss_one (ps_ret pe_bl))))), ?_⟩
    obtain ⟨tm, xs, rfl, htm, hl, hd, hx⟩ := hu'.items
    refine q_isT rfl ht ⟨true, rfl, ?_⟩
    refine ⟨_, rfl, t, rfl, ⟨_, ht⟩, for_tup (K := K) (a := t) (xs := (p.map fun n : Nat => (n : Int)).map V.int) (fun i σ H1 => ∃ (q : Nat) (a b c : Option V), σ = [some (.ref tm), some (.ref t), some (.int q), a, b, c] ∧ Same H H1 ∧ q < M.length ∧ VW M q (p.drop i)) ⟨0, none, none, none, rfl, Same.refl H, m.ne, vw⟩ (fun i σ H1 _ h => let ⟨_, _, _, _, _, s, _⟩ := h; (Same.tk s).sq ht) (fun i x σ H1 hi h => ?_) (fun σ H1 h => ?_)⟩
    · obtain ⟨q, a, b, c, rfl, s1, hq, hv⟩ := h
      have hip : i < p.length := by have := (List.getElem?_eq_some_iff.mp hi).1; simpa using this
      rw [nat_map_get hip] at hi
      cases hi
      rw [List.drop_eq_getElem_cons hip] at hv
      have eg : p.getD i 0 = p[i] := by rw [List.getD_eq_getElem?_getD, List.getElem?_eq_getElem hip]; rfl
      rw [← eg] at hv
      generalize p.getD i 0 = j at *
      obtain ⟨v1, v2, v3⟩ := hv
      obtain ⟨y, hy⟩ : ∃ y, xs[q]? = some y := ⟨xs[q]'(by omega), List.getElem?_eq_getElem (by omega)⟩
      obtain ⟨ts, yt, yf, rfl, hts, hyt, hyf⟩ := (hx q y hy).tk (Same.tk s1)
      obtain ⟨tt, zs, rfl, htt, hlz, hz⟩ := hyt
      have lq := m.len q hq
      have lf := m.lef q hq
      unfold parts at v1 v2 lq
      obtain ⟨zj, hzj⟩ : ∃ z, zs[j]? = some z := ⟨zs[j]'(by omega), List.getElem?_eq_getElem (by omega)⟩
      obtain ⟨tz, rfl, htz⟩ := (hz j zj hzj).sq2
      refine ⟨_, rfl, _, rfl, tm, xs, _, _, rfl, rfl, (Same.tk s1).sq htm, atI_nat hy, ts, _, rfl, hts, rfl, _, _, rfl, _, _, rfl, rfl, ?_⟩
      refine ⟨_, rfl, _, rfl, _, _, rfl, .inr htt, _, _, rfl, rfl, _, _, _, rfl, by omega, (by show (j : Int) ≤ (zs.length : Int) - 1; omega), true, rfl, ?_⟩
      refine ⟨_, rfl, _, rfl, tt, zs, _, _, rfl, rfl, htt, atI_nat hzj, _, _, _, _, rfl, rfl, htz, rfl, rfl, _, rfl, iDF (fun z => ?_) ⟨_, rfl, _, rfl, q_ixN hyf (by omega) ?_⟩⟩
      · have h4 := rt_pos (b := (M.getD q ([], [])).1.sum) v2
        have h5 : ((rt ((M.getD q ([], [])).1.getD j 0) (M.getD q ([], [])).1.sum : Nat) : Int) = 0 := by injection z
        omega
      · exact ⟨fol M q j, _, _, _, rfl, s1, m.fl q j hq (by omega), v3⟩
    · obtain ⟨q, a, b, c, rfl, s1, hq, hv⟩ := h
      exact k H1 s1
theorem sc_need_way : FnScope ["model", "way"] ["model", "way"] (defScope s_need_way) := ⟨rfl, rfl, rfl, by decide +kernel, rfl, by decide +kernel, by decide +kernel⟩
def sp_need_way (K : PySem.W.Frag) : Sp := fun vs H Q _ => ∃ (u v : V) (M : Md) (n w : Nat) (p : List Nat), vs = [u, v] ∧ Mod_ K H u M ∧ MOk M n w ∧ TupN K H v p ∧ VW M 0 p ∧ ∀ H', Same H H' → Q .non H'
theorem c_need_way (T : Fx K mg) (c_is_way_value : Cal P w K mg base 3 "is_way_value" (sp_is_way_value K) []) : Cal P w K mg base 4 "need_way" (sp_need_way K) [] := by
  refine T.cal 18 18 rfl rfl sc_need_way (fun _ _ _ _ _ _ us hl => match us, hl with | [_, _], _ => rfl) (fun vs H Q E h => ?_) (fun cdv A outer s H vs Q E hr h => ?_)
  · obtain ⟨u, v, M, n, w', p, rfl, hu', m, hv, vw, k⟩ := h
    rfl
  · obtain ⟨u, v, M, n, w', p, rfl, hu', m, hv, vw, k⟩ := h
    have hu := hu_of hr
    refine ⟨_, (pss_one (ps_if (pt_not (pt_val (pe_c c_is_way_value hr (by decide) (by rfl) (pa_cons (pv 0) (pa_cons (pv 1) pa_nil)))))
      (pss_one ps_never)
      pss_nil)), ?_⟩
    exact ⟨_, rfl, _, rfl, u, v, M, n, w', p, rfl, hu', m, hv, vw, fun H1 s1 => ⟨true, rfl, k H1 s1⟩⟩
theorem shlN {k n : Nat} (h : k = n) : (1 : Int) * 2 ^ (k : Int).toNat = ((2 ^ n : Nat) : Int) := by
  subst h
  rw [Int.one_mul, Int.toNat_natCast, Int.natCast_pow]; rfl
theorem shl1 {w : Nat} (hk : 1 ≤ w) : (1 : Int) * 2 ^ ((w : Int) - 1).toNat = ((2 ^ (w - 1) : Nat) : Int) := by
  rw [show (w : Int) - 1 = ((w - 1 : Nat) : Int) by omega]; exact shlN rfl
theorem shl2 {w : Nat} (hk : 2 ≤ w) : (1 : Int) * 2 ^ ((w : Int) - 2).toNat = ((2 ^ (w - 2) : Nat) : Int) := by
  rw [show (w : Int) - 2 = ((w - 2 : Nat) : Int) by omega]; exact shlN rfl
theorem cp1 {w : Nat} (hk : 1 ≤ w) (hw : w ≤ 100) : CPow 1 ((w : Int) - 1) := ⟨by omega, by omega, by decide⟩
theorem cp2 {w : Nat} (hk : 2 ≤ w) (hw : w ≤ 100) : CPow 1 ((w : Int) - 2) := ⟨by omega, by omega, by decide⟩
theorem sc_does_fit : FnScope ["model", "w", "quarter", "table", "followers", "top", "bottom"] ["model", "w"] (defScope s_does_fit) := ⟨rfl, rfl, rfl, by decide +kernel, rfl, by decide +kernel, by decide +kernel⟩
def sp_does_fit (K : PySem.W.Frag) : Sp := fun vs H Q _ => ∃ (v : V) (M : Md) (n w : Nat), vs = [v, .int w] ∧ Mod_ K H v M ∧ MOk M n w ∧ Q (.bl true) H
theorem c_does_fit (T : Fx K mg)  : Cal P w K mg base 1 "does_fit" (sp_does_fit K) [] := by
  refine T.cal 22 22 rfl rfl sc_does_fit (fun _ _ _ _ _ _ us hl => match us, hl with | [_, _], _ => rfl) (fun vs H Q E h => ?_) (fun cdv A outer s H vs Q E hr h => ?_)
  · obtain ⟨v, M, n, w', rfl, hv, m, k⟩ := h
    rfl
  · obtain ⟨v, M, n, w', rfl, hv, m, k⟩ := h
    have hu := hu_of hr
    refine ⟨_, (pss_cons (ps_set (i := 2) sc_does_fit.nd rfl (Or.inl rfl) (pe_op op_shl pe_int (pe_op op_sub (pv 1) pe_int)))
    (pss_cons (ps_for PassesOwn.never rfl (pi_tup (pv 0)) (pg_tupK K 2 rfl rfl (pgs_cons (pg_name (i := 3) sc_does_fit.nd rfl (Or.inl rfl)) (pgs_cons (pg_name (i := 4) sc_does_fit.nd rfl (Or.inl rfl)) pgs_nil)))
      (pss_one (ps_for PassesOwn.never rfl (pi_tup (pv 3)) (pg_tupK K 2 rfl rfl (pgs_cons (pg_name (i := 5) sc_does_fit.nd rfl (Or.inl rfl)) (pgs_cons (pg_name (i := 6) sc_does_fit.nd rfl (Or.inl rfl)) pgs_nil)))
      (pss_one (ps_if (pt_chain op_lt op_lt pe_int (pe_op op_mul (pv 5) (pe_op op_add (pv 2) pe_int)) (pv 6))
      (pss_one (ps_ret pe_bl))
      pss_nil)))))
    (pss_one (ps_ret pe_bl)))), ?_⟩
    obtain ⟨tm, xs, rfl, htm, hl, hd, hx⟩ := hv.items
    have hw := m.w2
    have hw5 := m.w16
    have hq : 2 ^ (w' - 2) ≤ 2 ^ 3 := Nat.pow_le_pow_right (by decide) (by omega)
    refine ⟨_, rfl, _, _, rfl, rfl, _, _, rfl, rfl, cp2 (by omega) (by omega), ?_⟩
    refine ⟨_, rfl, tm, rfl, ⟨_, htm⟩, for_tup (K := K) (a := tm) (xs := xs) (fun i σ H1 => ∃ (a b c d : Option V), σ = [some (.ref tm), some (.int w'), some (.int ((2 ^ (w' - 2) : Nat) : Int)), a, b, c, d] ∧ H1 = H) ⟨none, none, none, none, ?_, rfl⟩ (fun i σ H1 _ h => let ⟨_, _, _, _, _, e⟩ := h; by rw [e]; exact htm) (fun i x σ H1 hi h => ?_) (fun σ H1 h => ?_)⟩
    · show [some (V.ref tm), some (V.int w'), some (V.int ((1 : Int) * 2 ^ ((w' : Int) - 2).toNat)), none, none, none, none] = _
      rw [shl2 (by omega)]
    · obtain ⟨a, b, c, d, rfl, rfl⟩ := h
      have hiM : i < M.length := by rw [← hl]; exact (List.getElem?_eq_some_iff.mp hi).1
      obtain ⟨ts, yt, yf, rfl, hts, hyt, hyf⟩ := hx i x hi
      obtain ⟨tt, zs, rfl, htt, hlz, hz⟩ := hyt
      have h0 := m.pos i hiM
      have hft := m.fit i hiM
      unfold parts at h0 hft
      refine ⟨ts, _, rfl, hts, rfl, _, _, rfl, _, _, rfl, rfl, ?_⟩
      refine ⟨_, rfl, tt, rfl, ⟨_, htt⟩, for_tup (K := K) (a := tt) (xs := zs) (fun j σ H2 => ∃ (c d : Option V), σ = [some (.ref tm), some (.int w'), some (.int ((2 ^ (w' - 2) : Nat) : Int)), some (.ref tt), some yf, c, d] ∧ H2 = H1) ⟨c, d, rfl, rfl⟩ (fun i σ H2 _ h => let ⟨_, _, _, e⟩ := h; by rw [e]; exact htt) (fun j z σ H2 hj h => ?_) (fun σ H2 h => ?_)⟩
      · obtain ⟨c, d, rfl, rfl⟩ := h
        obtain ⟨tz, rfl, htz⟩ := (hz j z hj).sq2
        refine ⟨tz, _, rfl, htz, rfl, _, _, rfl, _, _, rfl, rfl, ?_⟩
        generalize hp : (M.getD i ([], [])).1.getD j 0 = p at *
        generalize (M.getD i ([], [])).1.sum = S at *
        refine ⟨_, rfl, _, rfl, _, _, rfl, rfl, _, _, rfl, rfl, .inr ⟨by omega, by omega⟩, _, _, rfl, rfl, _, rfl, ?_⟩
        by_cases hp0 : p = 0
        · have e : rt p S = 0 := by rw [hp0, (rt_zero h0).1]
          rw [e]
          exact iDF (by rw [Int.natCast_zero, Int.zero_mul]; omega) ⟨false, rfl, _, _, rfl, rfl⟩
        · have r1 : 1 ≤ rt p S := rt_pos (by omega)
          have r2 := rb_le p S
          have r3 : 2 ^ (w' - 2) + 1 ≤ rt p S * (2 ^ (w' - 2) + 1) := Nat.le_mul_of_pos_left _ r1
          have r4 : ((rt p S : Nat) : Int) * (((2 ^ (w' - 2) : Nat) : Int) + 1) = ((rt p S * (2 ^ (w' - 2) + 1) : Nat) : Int) := rfl
          refine iD (by rw [r4]; omega) ⟨_, rfl, _, _, rfl, rfl, _, rfl, iDF (by rw [r4]; omega) ⟨_, _, rfl, rfl⟩⟩
      · obtain ⟨c, d, rfl, rfl⟩ := h
        exact ⟨_, _, _, _, rfl, rfl⟩
    · obtain ⟨a, b, c, d, rfl, rfl⟩ := h
      exact k
end
end K59

namespace K59
open PySem PySem.Spec PyProof.Rows L2
open C8 (Cal Met Mak pe_c pe_mk pe_mt pe_mt0 pe_gc)
section
variable {P : Program} {w : World} {K : PySem.W.Frag} {mg : Str → Option Value} {base : Heap}
abbrev vN (ns : List Nat) : List V := (ns.map fun n : Nat => (n : Int)).map V.int
theorem vN_emit (bs : List Nat) (c t d : Nat) : vN (bs ++ c :: List.replicate t d) = vN bs ++ V.int c :: List.replicate t (V.int d) := by
  simp [vN]
theorem vN_len (bs : List Nat) : (vN bs).length = bs.length := by simp [vN]
theorem q_par {i j : Nat} {ta : TA} {D : Ends} {σ : L2.St} {H : Hp} (h : ta σ H fun vs H1 => ∃ v w, vs = [v, w] ∧ D.nx ((σ.set i (some v)).set j (some w)) H1) : tPar i j ta D σ H := h
theorem q_par3 {i j l : Nat} {ta : TA} {D : Ends} {σ : L2.St} {H : Hp} (h : ta σ H fun vs H1 => ∃ u v w, vs = [u, v, w] ∧ D.nx (((σ.set i (some u)).set j (some v)).set l (some w)) H1) : tPar3 i j l ta D σ H := h
theorem q_cons {ta : TE} {tr : TA} {σ : L2.St} {H : Hp} {Q : List V → Hp → Prop} (h : ta σ H fun x H1 => tr σ H1 fun xs H2 => Q (x :: xs) H2) : tCons ta tr σ H Q := h
theorem q_emit {σ : L2.St} {H : Hp} {Q : VK} {i j : Nat} {c d : Int} {q : Addr} {xs : List V} {t : Nat} (hb : σ[i]? = some (some (.ref q))) (hw : σ[j]? = some (some (.int (t : Int)))) (hq : H q = some (.lst xs)) (hl : xs.length + 1 + t ≤ 100000)
    (k : ∀ p H', Same H H' → H p = none → H' p = some (.lst (xs ++ V.int c :: List.replicate t (V.int d))) → Q (.ref p) H') :
    tOp rCat (tOp rCat (tVar i) (tLst (tCons (tC (.int c)) tNil))) (tOp rRep (tLst (tCons (tC (.int d)) tNil)) (tVar j)) σ H Q := by
  refine ⟨_, hb, (show 1 ≤ sizeLine by decide), fun p1 h1 => ⟨q, p1, xs, [V.int c], rfl, rfl, ?_, upd_same, sz_ (by simp; omega), fun p2 h2 => ?_⟩⟩
  · rw [upd_ne (ne_of_none hq h1)]; exact hq
  refine ⟨(show 1 ≤ sizeLine by decide), fun p3 h3 => ⟨_, hw, p3, t, [V.int d], rfl, rfl, upd_same, by omega, by omega, sz_ (by simp; omega), fun p4 h4 => ?_⟩⟩
  refine ⟨p2, p4, xs ++ [V.int c], _, rfl, rfl, ?_, upd_same, sz_ (by simp; omega), fun p5 h5 => ?_⟩
  · rw [upd_ne (ne_of_none (o := .lst (xs ++ [V.int c])) (by rw [upd_ne (ne_of_none upd_same h3), upd_same]) h4), upd_ne (ne_of_none upd_same h3), upd_same]
  · refine k p5 _ (((((Same.new h1).trans (Same.new h2)).trans (Same.new h3)).trans (Same.new h4)).trans (Same.new h5)) (((((Same.new h1).trans (Same.new h2)).trans (Same.new h3)).trans (Same.new h4)).free h5) ?_
    rw [upd_same]
    congr 2
    rw [List.append_assoc, Int.toNat_natCast]
    congr 1
    induction t with
    | zero => rfl
    | succ t ih => simp [List.replicate_succ]
/-- the last two of a settled register -/
def Regd (K : PySem.W.Frag) (H0 H : Hp) (v : V) (l s t : Nat) (bs : List Nat) : Prop := ∃ p x q, v = .ref p ∧ SqT K H p [x, .ref q] ∧ TupN K H x [l, s, t] ∧ H0 q = none ∧ H q = some (.lst (vN bs))
theorem enc_len (o : List Nat) : ∀ (x : List Nat × Nat), (enc x o).1.length + (enc x o).2 = x.1.length + x.2 + o.length := by
  induction o with
  | nil => intro x; rfl
  | cons op o ih =>
    intro x
    show (enc (encS x op) o).1.length + (enc (encS x op) o).2 = _
    rw [ih]
    unfold encS
    split
    · simp; omega
    · split
      · simp; omega
      · simp; omega
theorem sc_settled : FnScope ["w", "held", "low", "size", "waiting", "half", "quarter", "bits"] ["w", "held"] (defScope s_settled) := ⟨rfl, rfl, rfl, by decide +kernel, rfl, by decide +kernel, by decide +kernel⟩
def sp_settled (K : PySem.W.Frag) : Sp := fun vs H Q _ => ∃ (v : V) (w l s t l' s' : Nat) (o : List Nat), vs = [.int w, v] ∧ TupN K H v [l, s, t] ∧ Stl w l s o l' s' ∧ 2 ≤ w ∧ w ≤ 20 ∧ t + o.length ≤ 10000 ∧ Ret H (fun v H' => Regd K H H' v l' s' (enc ([], t) o).2 (enc ([], t) o).1) Q
theorem c_settled (T : Fx K mg)  : Cal P w K mg base 1 "settled" (sp_settled K) [] := by
  refine T.cal 24 24 rfl rfl sc_settled (fun _ _ _ _ _ _ us hl => match us, hl with | [_, _], _ => rfl) (fun vs H Q E h => ?_) (fun cdv A outer s H vs Q E hr h => ?_)
  · obtain ⟨v, w', l, s, t_, l', s', o, rfl, ⟨th, rfl, hh⟩, st, hw, hw2, ht, k⟩ := h
    rfl
  · obtain ⟨v, w', l, s, t_, l', s', o, rfl, ⟨th, rfl, hh⟩, st, hw, hw2, ht, k⟩ := h
    have hu := hu_of hr
    refine ⟨_, (pss_cons (ps_asg (pv 1) (pg_tupK K 3 rfl rfl (pgs_cons (pg_name (i := 2) sc_settled.nd rfl (Or.inl rfl)) (pgs_cons (pg_name (i := 3) sc_settled.nd rfl (Or.inl rfl)) (pgs_cons (pg_name (i := 4) sc_settled.nd rfl (Or.inl rfl)) pgs_nil)))))
    (pss_cons (ps_par3 (i := 5) (j := 6) (l := 7) (by rfl) sc_settled.nd rfl rfl rfl (by decide) (by decide) (by decide) rfl rfl rfl (pa_cons (pe_op op_shl pe_int (pe_op op_sub (pv 0) pe_int)) (pa_cons (pe_op op_shl pe_int (pe_op op_sub (pv 0) pe_int)) (pa_cons (pe_lst pa_nil) pa_nil))) (by rfl))
    (pss_one (ps_while PassesOwn.never (pt_val pe_bl)
      (pss_cons (ps_if (pt_cmpR op_le (pe_op op_add (pv 2) (pv 3)) (pv 5) (nomark _))
      (pss_one (ps_par (i := 7) (j := 4) (by rfl) sc_settled.nd rfl rfl (by decide) rfl rfl (pa_cons (pe_op op_cat (pe_op op_cat (pv 7) (pe_lst (pa_cons pe_int pa_nil))) (pe_op op_rep (pe_lst (pa_cons pe_int pa_nil)) (pv 4))) (pa_cons pe_int pa_nil)) (by rfl)))
      (pss_one (ps_if (pt_cmpR op_ge (pv 2) (pv 5) (nomark _))
      (pss_one (ps_par3 (i := 7) (j := 4) (l := 2) (by rfl) sc_settled.nd rfl rfl rfl (by decide) (by decide) (by decide) rfl rfl rfl (pa_cons (pe_op op_cat (pe_op op_cat (pv 7) (pe_lst (pa_cons pe_int pa_nil))) (pe_op op_rep (pe_lst (pa_cons pe_int pa_nil)) (pv 4))) (pa_cons pe_int (pa_cons (pe_op op_sub (pv 2) (pv 5)) pa_nil))) (by rfl)))
      (pss_one (ps_if (PW.pt (pw_and (pt_cmpR op_ge (pv 2) (pv 6) (nomark _)) (pw_and1 (pt_cmpR op_le (pe_op op_add (pv 2) (pv 3)) (pe_op op_add (pv 5) (pv 6)) (nomark _)))))
      (pss_one (ps_par (i := 4) (j := 2) (by rfl) sc_settled.nd rfl rfl (by decide) rfl rfl (pa_cons (pe_op op_add (pv 4) pe_int) (pa_cons (pe_op op_sub (pv 2) (pv 6)) pa_nil)) (by rfl)))
      (pss_one (ps_ret (pe_tup (pa_cons (pe_tup (pa_cons (pv 2) (pa_cons (pv 3) (pa_cons (pv 4) pa_nil)))) (pa_cons (pv 7) pa_nil))))))))))
    (pss_one (ps_par (i := 2) (j := 3) (by rfl) sc_settled.nd rfl rfl (by decide) rfl rfl (pa_cons (pe_op op_mul pe_int (pv 2)) (pa_cons (pe_op op_mul pe_int (pv 3)) pa_nil)) (by rfl)))))))), ?_⟩
    refine ⟨_, rfl, th, _, rfl, hh, rfl, _, _, rfl, _, _, rfl, _, _, rfl, rfl, ?_⟩
    refine ⟨_, rfl, _, _, rfl, rfl, _, _, rfl, rfl, cp1 (by omega) (by omega), _, rfl, _, _, rfl, rfl, _, _, rfl, rfl, cp2 (by omega) (by omega), Nat.zero_le _, fun q0 hq0 => ⟨_, _, _, rfl, ?_⟩⟩
    refine ⟨fun m σ H1 => ∃ (l s t : Nat) (bs o2 : List Nat) (q : Addr), σ = [some (.int w'), some (.ref th), some (.int l), some (.int s), some (.int t), some (.int ((2 ^ (w' - 1) : Nat) : Int)), some (.int ((2 ^ (w' - 2) : Nat) : Int)), some (.ref q)] ∧
      Same H H1 ∧ H q = none ∧ H1 q = some (.lst (vN bs)) ∧ Stl w' l s o2 l' s' ∧ enc (bs, t) o2 = enc ([], t_) o ∧ bs.length + t + o2.length ≤ 10000 ∧ m = o2.length, ⟨o.length, l, s, t_, [], o, q0, ?_, Same.new hq0, hq0, upd_same, st, rfl, by simpa using ht, rfl⟩, ?_⟩
    · show [some (V.int w'), some (V.ref th), some (V.int l), some (V.int s), some (V.int t_), some (V.int ((1 : Int) * 2 ^ ((w' : Int) - 1).toNat)), some (V.int ((1 : Int) * 2 ^ ((w' : Int) - 2).toNat)), some (V.ref q0)] = _
      rw [shl1 (by omega), shl2 hw]
    · rintro m σ H1 ⟨l, s, t, bs, o2, q, rfl, s1, hq, hb, st, he, hlen, rfl⟩
      refine ⟨true, rfl, _, fun _ _ z => z, _, rfl, _, rfl, _, _, rfl, rfl, _, rfl, _, _, rfl, rfl, _, rfl, ?_⟩
      cases st with
      | @zero _ _ _ _ o3 c1 st =>
        rw [List.length_cons] at hlen
        refine iD (by omega) (q_par (q_cons (q_emit (t := t) rfl rfl hb (by rw [vN_len]; omega) fun p H2 s2 hp hl2 => ⟨_, _, rfl, ?_⟩)))
        refine ⟨_, rfl, _, _, rfl, rfl, .inl ⟨by decide, by decide⟩, _, rfl, _, _, rfl, rfl, .inl ⟨by decide, by decide⟩, _, _, rfl, ?_⟩
        exact ⟨o3.length, by simp, 2 * l, 2 * s, 0, bs ++ 0 :: List.replicate t 1, o3, p, rfl, s1.trans s2, s1.free hp, by rw [vN_emit]; exact hl2, st, he, by simp; omega, rfl⟩
      | @one _ _ _ _ o3 c1 c2 st =>
        rw [List.length_cons] at hlen
        refine iDF (by omega) ⟨_, rfl, _, rfl, _, _, rfl, rfl, _, rfl, iD (by omega) (q_par3 (q_cons (q_emit (t := t) rfl rfl hb (by rw [vN_len]; omega) fun p H2 s2 hp hl2 => ⟨_, rfl, _, rfl, _, _, rfl, rfl, _, _, _, rfl, ?_⟩)))⟩
        refine ⟨_, rfl, _, _, rfl, rfl, .inl ⟨by decide, by decide⟩, _, rfl, _, _, rfl, rfl, .inl ⟨by decide, by decide⟩, _, _, rfl, ?_⟩
        refine ⟨o3.length, by simp, 2 * (l - 2 ^ (w' - 1)), 2 * s, 0, bs ++ 1 :: List.replicate t 0, o3, p, ?_, s1.trans s2, s1.free hp, by rw [vN_emit]; exact hl2, st, he, by simp; omega, rfl⟩
        show [some (V.int w'), some (V.ref th), some (V.int ((2 : Int) * ((l : Int) - ((2 ^ (w' - 1) : Nat) : Int)))), some (V.int (2 * s : Nat)), some (V.int (0 : Nat)), _, _, some (V.ref p)] = _
        rw [show (2 : Int) * ((l : Int) - ((2 ^ (w' - 1) : Nat) : Int)) = ((2 * (l - 2 ^ (w' - 1)) : Nat) : Int) by omega]
      | @mid _ _ _ _ o3 c1 c2 c3 st =>
        rw [List.length_cons] at hlen
        refine iDF (by omega) ⟨_, rfl, _, rfl, _, _, rfl, rfl, _, rfl, iDF (by omega) ⟨_, rfl, _, rfl, _, _, rfl, rfl, _, rfl, iD (by omega) ⟨_, rfl, _, rfl, _, _, rfl, rfl, _, rfl, _, rfl, _, _, rfl, rfl, _, _, rfl, rfl, _, rfl, iD (by omega) ?_⟩⟩⟩
        refine ⟨_, rfl, _, _, rfl, rfl, _, rfl, _, rfl, _, _, rfl, rfl, _, _, rfl, ?_⟩
        refine ⟨_, rfl, _, _, rfl, rfl, .inl ⟨by decide, by decide⟩, _, rfl, _, _, rfl, rfl, .inl ⟨by decide, by decide⟩, _, _, rfl, ?_⟩
        refine ⟨o3.length, by simp, 2 * (l - 2 ^ (w' - 2)), 2 * s, t + 1, bs, o3, q, ?_, s1, hq, hb, st, he, by omega, rfl⟩
        show [some (V.int w'), some (V.ref th), some (V.int ((2 : Int) * ((l : Int) - ((2 ^ (w' - 2) : Nat) : Int)))), some (V.int (2 * s : Nat)), some (V.int (t + 1 : Nat)), _, _, some (V.ref q)] = _
        rw [show (2 : Int) * ((l : Int) - ((2 ^ (w' - 2) : Nat) : Int)) = ((2 * (l - 2 ^ (w' - 2)) : Nat) : Int) by omega]
      | done c1 c2 c3 =>
        have e2 : ([] : List Nat) = [] := rfl
        have h3 : enc ([], t_) o = (bs, t) := he.symm
        refine iDF (by omega) ⟨_, rfl, _, rfl, _, _, rfl, rfl, _, rfl, iDF (by omega) ⟨_, rfl, _, rfl, _, _, rfl, rfl, _, rfl, ?_⟩⟩
        have fin : ∀ D : Ends, D.rt = Q → tRet (tTup (tCons (tTup (tCons (tVar 2) (tCons (tVar 3) (tCons (tVar 4) tNil)))) (tCons (tVar 7) tNil))) D
            [some (.int w'), some (.ref th), some (.int l'), some (.int s'), some (.int t), some (.int ((2 ^ (w' - 1) : Nat) : Int)), some (.int ((2 ^ (w' - 2) : Nat) : Int)), some (.ref q)] H1 := by
          rintro D rfl
          refine ⟨_, rfl, _, rfl, _, rfl, (show 3 ≤ sizeLine by decide), fun p1 h1 => ⟨_, rfl, (show 2 ≤ sizeLine by decide), fun p2 h2 => ?_⟩⟩
          have s2 : Same H1 (upd (upd H1 p1 (.tup [V.int l', V.int s', V.int t])) p2 (.tup [.ref p1, .ref q])) := (Same.new h1).trans (Same.new h2)
          refine k _ _ (s1.trans s2) ⟨p2, .ref p1, q, rfl, SqT.of upd_same, ⟨p1, rfl, SqT.of ?_⟩, hq, ?_⟩
          · rw [upd_ne (ne_of_none upd_same h2), upd_same, h3]; rfl
          · rw [h3]; exact s2 q _ hb
        by_cases c4 : 2 ^ (w' - 2) ≤ l'
        · exact iD (by omega) ⟨_, rfl, _, rfl, _, _, rfl, rfl, _, rfl, _, rfl, _, _, rfl, rfl, _, _, rfl, rfl, _, rfl, iDF (by omega) (fin _ rfl)⟩
        · exact iDF (by omega) (fin _ rfl)
end
end K59

namespace K59
open PySem PySem.Spec PyProof.Rows L2
open C8 (Cal Met Mak pe_c pe_mk pe_mt pe_mt0 pe_gc)
section
variable {P : Program} {w : World} {K : PySem.W.Frag} {mg : Str → Option Value} {base : Heap}
theorem eqvAll_ints : ∀ ns ms : List Int, PyData.eqvAll (ns.map PyData.int) (ms.map PyData.int) = decide (ns = ms)
  | [], [] => rfl
  | [], m :: ms => rfl
  | n :: ns, [] => rfl
  | n :: ns, m :: ms => by
    rw [List.map_cons, List.map_cons, PyData.eqvAll, PyData.eqv, eqvAll_ints ns ms]
    by_cases h : n = m
    · subst h
      by_cases h2 : ns = ms
      · subst h2; simp
      · simp [h2]
    · simp [h]
theorem eqv_ints (ns ms : List Int) : PyData.eqv (.tuple (ns.map PyData.int)) (.tuple (ms.map PyData.int)) = decide (ns = ms) := by rw [PyData.eqv]; exact eqvAll_ints ns ms
theorem dpI {K : PySem.W.Frag} {H : Hp} {t : Addr} {ns : List Int} (h : SqT K H t (ns.map V.int)) : Dp K H (.ref t) (.tuple (ns.map PyData.int)) := .tup h (dp_ints ns)
theorem shI (ns : List Int) : SeqAt.shaped (.tuple (ns.map PyData.int)) = true := by
  refine shaped_of (k := 1) ?_ ?_ (by decide)
  · rw [PyData.canLay0]
    induction ns with
    | nil => rfl
    | cons n ns ih => rw [List.map_cons, PyData.canLayAll0, ih]; rfl
  · rw [PyData.depth, (ints_flat ns).2]; decide
/-- two tuples of ints compared -/
theorem q_eqT {K : PySem.W.Frag} {H : Hp} {Q : VK} {a b : Addr} {ns ms : List Int} (h1 : SqT K H a (ns.map V.int)) (h2 : SqT K H b (ms.map V.int)) (q : Q (.bl (decide (ns = ms))) H) : rEqD K (.ref a) (.ref b) H Q :=
  ⟨_, _, dpI h1, dpI h2, shI ns, shI ms, by rw [eqv_ints]; exact q⟩
theorem q_neT {K : PySem.W.Frag} {H : Hp} {Q : VK} {a b : Addr} {ns ms : List Int} (h1 : SqT K H a (ns.map V.int)) (h2 : SqT K H b (ms.map V.int)) (q : Q (.bl (!decide (ns = ms))) H) : rNeD K (.ref a) (.ref b) H Q :=
  ⟨_, _, dpI h1, dpI h2, shI ns, shI ms, by rw [eqv_ints]; exact q⟩
theorem sc_first_register : FnScope ["w"] ["w"] (defScope s_first_register) := ⟨rfl, rfl, rfl, by decide +kernel, rfl, by decide +kernel, by decide +kernel⟩
def sp_first_register (K : PySem.W.Frag) : Sp := fun vs H Q _ => ∃ w : Nat, vs = [.int w] ∧ w ≤ 20 ∧ Ret H (fun v H' => TupN K H' v [0, 2 ^ w, 0]) Q
theorem c_first_register (T : Fx K mg)  : Cal P w K mg base 1 "first_register" (sp_first_register K) [] := by
  refine T.cal 25 25 rfl rfl sc_first_register (fun _ _ _ _ _ _ us hl => match us, hl with | [_], _ => rfl) (fun vs H Q E h => ?_) (fun cdv A outer s H vs Q E hr h => ?_)
  · obtain ⟨w', rfl, hw, k⟩ := h
    rfl
  · obtain ⟨w', rfl, hw, k⟩ := h
    have hu := hu_of hr
    refine ⟨_, (pss_one (ps_ret (pe_tup (pa_cons pe_int (pa_cons (pe_op op_shl pe_int (pv 0)) (pa_cons pe_int pa_nil)))))), ?_⟩
    refine ⟨_, rfl, _, _, rfl, rfl, ⟨by omega, by omega, by decide⟩, (show 3 ≤ sizeLine by decide), fun p hp => k _ _ (Same.new hp) ⟨p, rfl, SqT.of ?_⟩⟩
    rw [upd_same]
    show some (HO.tup [V.int 0, V.int ((1 : Int) * 2 ^ (w' : Int).toNat), V.int 0]) = _
    rw [shlN (rfl : w' = w')]
    rfl
theorem sc_stepped : FnScope ["w", "table", "held", "outcome", "low", "size", "waiting", "a", "b"] ["w", "table", "held", "outcome"] (defScope s_stepped) := ⟨rfl, rfl, rfl, by decide +kernel, rfl, by decide +kernel, by decide +kernel⟩
def sp_stepped (K : PySem.W.Frag) : Sp := fun vs H Q _ => ∃ (u v : V) (w i l s t l' s' : Nat) (L o : List Nat), vs = [.int w, u, v, .int i] ∧ Tab K H u L ∧ 0 < L.sum ∧ L.sum < 1000 ∧ i < L.length ∧ TupN K H v [l, s, t] ∧ s < 1099511627776 ∧ ca L s i ≤ ca L s (i + 1) ∧ Stl w (l + ca L s i) (ca L s (i + 1) - ca L s i) o l' s' ∧ 2 ≤ w ∧ w ≤ 20 ∧ t + o.length ≤ 10000 ∧ Ret H (fun v H' => Regd K H H' v l' s' (enc ([], t) o).2 (enc ([], t) o).1) Q
theorem c_stepped (T : Fx K mg) (c_cut_of : Cal P w K mg base 5 "cut_of" (sp_cut_of K) []) (c_settled : Cal P w K mg base 1 "settled" (sp_settled K) []) : Cal P w K mg base 6 "stepped" (sp_stepped K) [] := by
  refine T.cal 26 26 rfl rfl sc_stepped (fun _ _ _ _ _ _ us hl => match us, hl with | [_, _, _, _], _ => rfl) (fun vs H Q E h => ?_) (fun cdv A outer s H vs Q E hr h => ?_)
  · obtain ⟨u, v, w', i, l, s, t, l', s', L, o, rfl, hT, h1, h2, h3, hv, h4, h5, st, hw, hw2, ht, k⟩ := h
    rfl
  · obtain ⟨u, v, w', i, l, s, t, l', s', L, o, rfl, hT, h1, h2, h3, hv, h4, h5, st, hw, hw2, ht, k⟩ := h
    have hu := hu_of hr
    refine ⟨_, (pss_cons (ps_asg (pv 2) (pg_tupK K 3 rfl rfl (pgs_cons (pg_name (i := 4) sc_stepped.nd rfl (Or.inl rfl)) (pgs_cons (pg_name (i := 5) sc_stepped.nd rfl (Or.inl rfl)) (pgs_cons (pg_name (i := 6) sc_stepped.nd rfl (Or.inl rfl)) pgs_nil)))))
    (pss_cons (ps_asg (pe_c c_cut_of hr (by decide) (by rfl) (pa_cons (pv 1) (pa_cons (pv 5) (pa_cons (pv 3) pa_nil)))) (pg_tupK K 2 rfl rfl (pgs_cons (pg_name (i := 7) sc_stepped.nd rfl (Or.inl rfl)) (pgs_cons (pg_name (i := 8) sc_stepped.nd rfl (Or.inl rfl)) pgs_nil))))
    (pss_one (ps_ret (pe_c c_settled hr (by decide) (by rfl) (pa_cons (pv 0) (pa_cons (pe_tup (pa_cons (pe_op op_add (pv 4) (pv 7)) (pa_cons (pe_op op_sub (pv 8) (pv 7)) (pa_cons (pv 6) pa_nil)))) pa_nil))))))), ?_⟩
    obtain ⟨th, rfl, hh⟩ := id hv
    refine ⟨_, rfl, th, _, rfl, hh, rfl, _, _, rfl, _, _, rfl, _, _, rfl, rfl, ?_⟩
    refine ⟨_, rfl, _, rfl, _, rfl, u, L, s, i, rfl, hT, h1, h2, h3, h4, fun v1 H1 s1 hv1 => ?_⟩
    obtain ⟨t1, rfl, ht1⟩ := id hv1
    refine ⟨t1, _, rfl, ht1, rfl, _, _, rfl, _, _, rfl, rfl, ?_⟩
    refine ⟨_, rfl, _, rfl, _, rfl, _, _, rfl, rfl, _, rfl, _, rfl, _, _, rfl, rfl, _, rfl, (show 3 ≤ sizeLine by decide), fun p hp => ?_⟩
    refine ⟨.ref p, w', l + ca L s i, ca L s (i + 1) - ca L s i, t, l', s', o, rfl, ⟨p, rfl, SqT.of ?_⟩, st, hw, hw2, ht, fun v2 H2 s2 ⟨p2, x, q, e, g1, g2, g3, g4⟩ => ?_⟩
    · rw [upd_same]
      show some (HO.tup [V.int ((l : Int) + (ca L s i : Nat)), V.int ((ca L s (i + 1) : Nat) - (ca L s i : Nat) : Int), V.int t]) = _
      rw [show ((ca L s (i + 1) : Nat) - (ca L s i : Nat) : Int) = ((ca L s (i + 1) - ca L s i : Nat) : Int) by omega]
      rfl
    · have s' : Same H (upd H1 p (.tup [V.int ((l : Int) + (ca L s i : Nat)), V.int ((ca L s (i + 1) : Nat) - (ca L s i : Nat) : Int), V.int t])) := s1.trans (Same.new hp)
      exact k v2 H2 (s'.trans s2) ⟨p2, x, q, e, g1, g2, s'.free g3, g4⟩
/-- behind a way: state, register, bits that went out -/
def GoneD (K : PySem.W.Frag) (H0 H : Hp) (v : V) (st l s t : Nat) (bs : List Nat) : Prop := ∃ p x q, v = .ref p ∧ SqT K H p [.int st, x, .ref q] ∧ TupN K H x [l, s, t] ∧ H0 q = none ∧ H q = some (.lst (vN bs))
theorem VW.at {M : Md} {n w : Nat} (m : MOk M n w) {p : List Nat} (v : VW M 0 p) {i : Nat} (hi : i < p.length) :
    RI M w (goes M w (r0 w) (p.take i)) ∧ p.getD i 0 < (parts M (goes M w (r0 w) (p.take i)).st).length ∧ 0 < (parts M (goes M w (r0 w) (p.take i)).st).getD (p.getD i 0) 0 ∧
    goes M w (r0 w) (p.take (i + 1)) = stp M w (goes M w (r0 w) (p.take i)) (p.getD i 0) := by
  have e : p.getD i 0 = p[i] := by rw [List.getD_eq_getElem?_getD, List.getElem?_eq_getElem hi]; rfl
  have v' : VW M (r0 w).st (p.take i ++ p.drop i) := by rw [List.take_append_drop]; exact v
  obtain ⟨v1, v2⟩ := (VW.split (w := w)).mp v'
  rw [List.drop_eq_getElem_cons hi] at v2
  rw [e]
  refine ⟨RI.goes m (RI.zero m) v1, v2.1, v2.2.1, ?_⟩
  rw [List.take_succ_eq_append_getElem hi, goes_app]
  rfl
theorem goes_o (M : Md) (w : Nat) {n : Nat} (m : MOk M n w) : ∀ (p : List Nat) (r : Rg), RI M w r → VW M r.st p → (goes M w r p).o.length ≤ r.o.length + w * p.length
  | [], r, _, _ => by simp [goes]
  | i :: p, r, I, v => by
    obtain ⟨s1, s2, s3⟩ := stp_stl m I v.2.1
    have h1 := s3.len (by have := m.w2; omega) (by have := I.lo; omega) (by omega)
    have h2 := goes_o M w m p _ (I.step m v.1 v.2.1) v.2.2
    have h3 : (stp M w r i).o.length = r.o.length + (qst M w r i).1.length := by show (r.o ++ (qst M w r i).1).length = _; rw [List.length_append]
    show (goes M w (stp M w r i) p).o.length ≤ _
    rw [List.length_cons, Nat.mul_succ]
    omega
theorem sc_gone : FnScope ["model", "w", "way", "state", "held", "found", "outcome", "bits"] ["model", "w", "way"] (defScope s_gone) := ⟨rfl, rfl, rfl, by decide +kernel, rfl, by decide +kernel, by decide +kernel⟩
def sp_gone (K : PySem.W.Frag) : Sp := fun vs H Q _ => ∃ (u v : V) (M : Md) (n w : Nat) (p : List Nat), vs = [u, .int w, v] ∧ Mod_ K H u M ∧ MOk M n w ∧ TupN K H v p ∧ VW M 0 p ∧ p.length ≤ 8 ∧ Ret H (fun v H' => GoneD K H H' v (goes M w (r0 w) p).st (goes M w (r0 w) p).l (goes M w (r0 w) p).s (enc ([], 0) (goes M w (r0 w) p).o).2 (enc ([], 0) (goes M w (r0 w) p).o).1) Q
theorem c_gone (T : Fx K mg) (c_first_register : Cal P w K mg base 1 "first_register" (sp_first_register K) []) (c_stepped : Cal P w K mg base 6 "stepped" (sp_stepped K) []) : Cal P w K mg base 7 "gone" (sp_gone K) [] := by
  refine T.cal 27 27 rfl rfl sc_gone (fun _ _ _ _ _ _ us hl => match us, hl with | [_, _, _], _ => rfl) (fun vs H Q E h => ?_) (fun cdv A outer s H vs Q E hr h => ?_)
  · obtain ⟨u, v, M, n, w', p, rfl, hu', m, ⟨t, rfl, ht⟩, vw, hp8, k⟩ := h
    rfl
  · obtain ⟨u, v, M, n, w', p, rfl, hu', m, ⟨t, rfl, ht⟩, vw, hp8, k⟩ := h
    have hu := hu_of hr
    refine ⟨_, (pss_cons (ps_par3 (i := 3) (j := 4) (l := 5) (by rfl) sc_gone.nd rfl rfl rfl (by decide) (by decide) (by decide) rfl rfl rfl (pa_cons pe_int (pa_cons (pe_c c_first_register hr (by decide) (by rfl) (pa_cons (pv 1) pa_nil)) (pa_cons (pe_lst pa_nil) pa_nil))) (by rfl))
    (pss_cons (ps_for PassesOwn.never rfl (pi_tup (pv 2)) (pg_name (i := 6) sc_gone.nd rfl (Or.inl rfl))
      (pss_cons (ps_asg (pe_c c_stepped hr (by decide) (by rfl) (pa_cons (pv 1) (pa_cons (pe_ix (k_ixT K rfl) (pe_ix (k_ixT K rfl) (pv 0) (pv 3) (fun _ _ => rfl)) pe_int (fun _ _ => rfl)) (pa_cons (pv 4) (pa_cons (pv 6) pa_nil))))) (pg_tupK K 2 rfl rfl (pgs_cons (pg_name (i := 4) sc_gone.nd rfl (Or.inl rfl)) (pgs_cons (pg_name (i := 7) sc_gone.nd rfl (Or.inl rfl)) pgs_nil))))
    (pss_cons (ps_expr (pe_bm PySem.F.plainAttrs_list PySem.F.slot_list_extend PySem.F.type_list_extend mt_extend (pv 5) (pa_cons (pv 7) pa_nil)))
    (pss_one (ps_set (i := 3) sc_gone.nd rfl (Or.inl rfl) (pe_ix (k_ixT K rfl) (pe_ix (k_ixT K rfl) (pe_ix (k_ixT K rfl) (pv 0) (pv 3) (fun _ _ => rfl)) pe_int (fun _ _ => rfl)) (pv 6) (fun _ _ => rfl)))))))
    (pss_one (ps_ret (pe_tup (pa_cons (pv 3) (pa_cons (pv 4) (pa_cons (pv 5) pa_nil)))))))), ?_⟩
    obtain ⟨tm, xs, rfl, htm, hl, hd, hx⟩ := hu'.items
    have hw := m.w2
    have hw5 := m.w16
    refine ⟨_, rfl, w', rfl, by omega, fun v1 H1 s1 hv1 => ⟨Nat.zero_le _, fun q0 hq0 => ⟨_, _, _, rfl, ?_⟩⟩⟩
    refine ⟨_, rfl, t, rfl, ⟨_, (Same.tk (s1.trans (Same.new hq0))).sq ht⟩, for_tup (K := K) (a := t) (xs := (p.map fun n : Nat => (n : Int)).map V.int) (fun i σ H2 => ∃ (h : V) (q : Addr) (a b : Option V), σ = [some (.ref tm), some (.int w'), some (.ref t), some (.int (goes M w' (r0 w') (p.take i)).st), some h, some (.ref q), a, b] ∧ Same H H2 ∧
      TupN K H2 h [(goes M w' (r0 w') (p.take i)).l, (goes M w' (r0 w') (p.take i)).s, (enc ([], 0) (goes M w' (r0 w') (p.take i)).o).2] ∧ H q = none ∧ H2 q = some (.lst (vN (enc ([], 0) (goes M w' (r0 w') (p.take i)).o).1)))
      ⟨v1, q0, none, none, rfl, s1.trans (Same.new hq0), hv1.tk (Same.tk (Same.new hq0)), s1.free hq0, upd_same⟩ (fun i σ H1 _ h => let ⟨_, _, _, _, _, s, _⟩ := h; (Same.tk s).sq ht) (fun i x σ H2 hi h => ?_) (fun σ H2 h => ?_)⟩
    · obtain ⟨h, q, a, b, rfl, s2, hh, hq, hb⟩ := h
      have hip : i < p.length := by have := (List.getElem?_eq_some_iff.mp hi).1; simpa using this
      rw [nat_map_get hip] at hi
      cases hi
      obtain ⟨I, j1, j2, j3⟩ := VW.at m vw hip
      have hlen := goes_o M w' m (p.take i) (r0 w') (RI.zero m) (VW.app (s := p.drop i) (by rw [List.take_append_drop]; exact vw))
      have hel := enc_len (goes M w' (r0 w') (p.take i)).o ([], 0)
      have ho : (r0 w').o.length = 0 := rfl
      rw [ho, List.length_take, Nat.min_eq_left (by omega)] at hlen
      have hb40 : w' * i ≤ 5 * 8 := Nat.mul_le_mul (by omega) (by omega)
      rw [j3]
      generalize goes M w' (r0 w') (p.take i) = r at *
      generalize p.getD i 0 = j at *
      obtain ⟨g1, g2, g3⟩ := stp_stl m I j2
      have hql := g3.len (by omega) (by have := I.lo; omega) (by omega)
      obtain ⟨y, hy⟩ : ∃ y, xs[r.st]? = some y := ⟨xs[r.st]'(by have := I.st; omega), List.getElem?_eq_getElem (by have := I.st; omega)⟩
      have hst := hx r.st y hy
      obtain ⟨ts, yt, yf, rfl, hts, hyt, hyf⟩ := hst.tk (Same.tk s2)
      have lf := m.lef _ I.st
      have lq := m.len _ I.st
      have fit := m.fit _ I.st
      have ps := m.pos _ I.st
      have lo := I.lo
      have hq5 : 2 ^ (w' - 2) ≤ 2 ^ 3 := Nat.pow_le_pow_right (by decide) (by omega)
      have hq6 : 2 ^ w' ≤ 2 ^ 5 := Nat.pow_le_pow_right (by decide) (by omega)
      refine ⟨_, rfl, _, rfl, _, rfl, tm, xs, _, _, rfl, rfl, (Same.tk s2).sq htm, atI_nat hy, ts, _, _, _, rfl, rfl, hts, rfl, _, rfl, _, rfl, ?_⟩
      refine ⟨yt, h, w', j, r.l, r.s, (enc ([], 0) r.o).2, (stp M w' r j).l, (stp M w' r j).s, parts M r.st, (qst M w' r j).1, rfl, hyt, ps, by omega, j1, hh, by omega, by omega, g3, by omega, by omega, by simp at hel; omega, fun v2 H3 s3 ⟨p2, x2, q2, e2, k1, k2, k3, k4⟩ => ?_⟩
      subst e2
      refine ⟨p2, _, rfl, k1, rfl, _, _, rfl, _, _, rfl, rfl, ?_⟩
      have hb3 := s3 q _ hb
      have nq : q2 ≠ q := fun e => by rw [e, hb] at k3; cases k3
      have ee : enc ([], 0) (stp M w' r j).o = ((enc ([], 0) r.o).1 ++ (enc ([], (enc ([], 0) r.o).2) (qst M w' r j).1).1, (enc ([], (enc ([], 0) r.o).2) (qst M w' r j).1).2) := by
        show enc ([], 0) (r.o ++ (qst M w' r j).1) = _
        rw [enc_app]
        exact enc_pre _ _ _
      have hel2 := enc_len (qst M w' r j).1 ([], (enc ([], 0) r.o).2)
      refine ⟨_, rfl, .inl ⟨rfl, _, SqL.of hb3⟩, _, rfl, q, q2, _, _, rfl, rfl, hb3, k4, sz_ (by rw [vN_len, vN_len]; simp at hel hel2; omega), ?_⟩
      have tk1 : Tk H3 (upd H3 q (.lst (vN (enc ([], 0) r.o).1 ++ vN (enc ([], (enc ([], 0) r.o).2) (qst M w' r j).1).1))) := Tk.put hb3 rfl
      have tk2 := (Same.tk s3).trans tk1
      refine ⟨_, rfl, _, rfl, tm, xs, _, _, rfl, rfl, tk2.sq ((Same.tk s2).sq htm), atI_nat hy, ts, _, _, _, rfl, rfl, tk2.sq hts, rfl, _, rfl, q_ixN (hyf.tk tk2) (by rw [lf, ← lq]; exact j1) ?_⟩
      refine ⟨x2, q, _, _, rfl, Same.upd (s2.trans s3) hq, ?_, hq, ?_⟩
      · rw [ee]; exact k2.tk tk1
      · rw [upd_same, ee]; simp [vN]
    · obtain ⟨h, q, a, b, rfl, s2, hh, hq, hb⟩ := h
      rw [List.length_map, List.length_map, List.take_length] at *
      refine ⟨_, rfl, _, rfl, _, rfl, (show 3 ≤ sizeLine by decide), fun r hr' => k _ _ (s2.trans (Same.new hr')) ⟨r, h, q, rfl, SqT.of upd_same, hh.tk (Same.tk (Same.new hr')), hq, (Same.new hr') q _ hb⟩⟩
end
end K59

namespace K59
open PySem PySem.Spec PyProof.Rows L2
open C8 (Cal Met Mak pe_c pe_mk pe_mt pe_mt0 pe_gc)
section
variable {P : Program} {w : World} {K : PySem.W.Frag} {mg : Str → Option Value} {base : Heap}
theorem wri_nat {M : Md} {n w : Nat} (m : MOk M n w) {p : List Nat} (v : VW M 0 p) (hp : p.length ≤ 8) : (enc ([], 0) (goes M w (r0 w) p).o).1.length + (enc ([], 0) (goes M w (r0 w) p).o).2 ≤ 40 := by
  have h1 := goes_o M w m p (r0 w) (RI.zero m) v
  have h2 := enc_len (goes M w (r0 w) p).o ([], 0)
  have h3 : w * p.length ≤ 5 * 8 := Nat.mul_le_mul m.w16 hp
  have h0 : (r0 w).o.length = 0 := rfl
  simp at h2
  omega
/-- bits, then c, then t + 1 times d -/
theorem q_last {K : PySem.W.Frag} {σ : L2.St} {H : Hp} {Q : VK} {i j : Nat} {c d : Int} {q : Addr} {xs : List V} {t : Nat} (hb : σ[i]? = some (some (.ref q))) (hw : σ[j]? = some (some (.int (t : Int)))) (hq : H q = some (.lst xs)) (hl : xs.length + 2 + t ≤ 100000)
    (k : ∀ p H', Same H H' → H' p = some (.tup (xs ++ V.int c :: List.replicate (t + 1) (V.int d))) → Q (.ref p) H') :
    tCB (rTupOf K) (tCons (tOp rCat (tOp rCat (tVar i) (tLst (tCons (tC (.int c)) tNil))) (tOp rRep (tLst (tCons (tC (.int d)) tNil)) (tOp (rI0 fun i j => .int (i + j)) (tVar j) (tC (.int 1))))) tNil) σ H Q := by
  refine ⟨_, hb, (show 1 ≤ sizeLine by decide), fun p1 h1 => ⟨q, p1, xs, [V.int c], rfl, rfl, ?_, upd_same, sz_ (by simp; omega), fun p2 h2 => ?_⟩⟩
  · rw [upd_ne (ne_of_none hq h1)]; exact hq
  refine ⟨(show 1 ≤ sizeLine by decide), fun p3 h3 => ⟨_, hw, _, _, rfl, rfl, p3, ((t + 1 : Nat) : Int), [V.int d], rfl, rfl, upd_same, by omega, by omega, sz_ (by simp; omega), fun p4 h4 => ?_⟩⟩
  refine ⟨p2, p4, xs ++ [V.int c], _, rfl, rfl, ?_, upd_same, sz_ (by simp; omega), fun p5 h5 => ?_⟩
  · rw [upd_ne (ne_of_none (o := .lst (xs ++ [V.int c])) (by rw [upd_ne (ne_of_none upd_same h3), upd_same]) h4), upd_ne (ne_of_none upd_same h3), upd_same]
  refine ⟨p5, _, rfl, SqL.of upd_same, fun p6 h6 => ?_⟩
  refine k p6 _ ((((((Same.new h1).trans (Same.new h2)).trans (Same.new h3)).trans (Same.new h4)).trans (Same.new h5)).trans (Same.new h6)) ?_
  rw [upd_same]
  congr 2
  rw [List.append_assoc, Int.toNat_natCast]
  congr 1
  generalize t + 1 = n
  induction n with
  | zero => rfl
  | succ t ih => simp [List.replicate_succ]
theorem sc_raw_written : FnScope ["model", "w", "way", "state", "held", "found", "low", "size", "waiting"] ["model", "w", "way"] (defScope s_raw_written) := ⟨rfl, rfl, rfl, by decide +kernel, rfl, by decide +kernel, by decide +kernel⟩
def sp_raw_written (K : PySem.W.Frag) : Sp := fun vs H Q _ => ∃ (u v : V) (M : Md) (n w : Nat) (p : List Nat), vs = [u, .int w, v] ∧ Mod_ K H u M ∧ MOk M n w ∧ TupN K H v p ∧ VW M 0 p ∧ p.length ≤ 8 ∧ Ret H (fun v H' => TupN K H' v (wri M w p)) Q
theorem c_raw_written (T : Fx K mg) (c_first_register : Cal P w K mg base 1 "first_register" (sp_first_register K) []) (c_gone : Cal P w K mg base 7 "gone" (sp_gone K) []) : Cal P w K mg base 8 "raw_written" (sp_raw_written K) [] := by
  refine T.cal 28 28 rfl rfl sc_raw_written (fun _ _ _ _ _ _ us hl => match us, hl with | [_, _, _], _ => rfl) (fun vs H Q E h => ?_) (fun cdv A outer s H vs Q E hr h => ?_)
  · obtain ⟨u, v, M, n, w', p, rfl, hu', m, hv, vw, hp8, k⟩ := h
    rfl
  · obtain ⟨u, v, M, n, w', p, rfl, hu', m, hv, vw, hp8, k⟩ := h
    have hu := hu_of hr
    refine ⟨_, (pss_cons (ps_asg (pe_c c_gone hr (by decide) (by rfl) (pa_cons (pv 0) (pa_cons (pv 1) (pa_cons (pv 2) pa_nil)))) (pg_tupK K 3 rfl rfl (pgs_cons (pg_name (i := 3) sc_raw_written.nd rfl (Or.inl rfl)) (pgs_cons (pg_name (i := 4) sc_raw_written.nd rfl (Or.inl rfl)) (pgs_cons (pg_name (i := 5) sc_raw_written.nd rfl (Or.inl rfl)) pgs_nil)))))
    (pss_cons (ps_asg (pv 4) (pg_tupK K 3 rfl rfl (pgs_cons (pg_name (i := 6) sc_raw_written.nd rfl (Or.inl rfl)) (pgs_cons (pg_name (i := 7) sc_raw_written.nd rfl (Or.inl rfl)) (pgs_cons (pg_name (i := 8) sc_raw_written.nd rfl (Or.inl rfl)) pgs_nil)))))
    (pss_cons (ps_if (pt_cmpR (k_eqD K rfl hr.units) (pv 4) (pe_c c_first_register hr (by decide) (by rfl) (pa_cons (pv 1) pa_nil)) (nomark _))
      (pss_one (ps_ret (pe_callTy (k_tuple K rfl) (by rfl) T.m_tuple (by decide +kernel) (pa_cons (pv 5) pa_nil))))
      pss_nil)
    (pss_cons (ps_if (pt_cmpR op_lt (pv 6) (pe_op op_shl pe_int (pe_op op_sub (pv 1) pe_int)) (nomark _))
      (pss_one (ps_ret (pe_callTy (k_tuple K rfl) (by rfl) T.m_tuple (by decide +kernel) (pa_cons (pe_op op_cat (pe_op op_cat (pv 5) (pe_lst (pa_cons pe_int pa_nil))) (pe_op op_rep (pe_lst (pa_cons pe_int pa_nil)) (pe_op op_add (pv 8) pe_int))) pa_nil))))
      pss_nil)
    (pss_one (ps_ret (pe_callTy (k_tuple K rfl) (by rfl) T.m_tuple (by decide +kernel) (pa_cons (pe_op op_cat (pe_op op_cat (pv 5) (pe_lst (pa_cons pe_int pa_nil))) (pe_op op_rep (pe_lst (pa_cons pe_int pa_nil)) (pe_op op_add (pv 8) pe_int))) pa_nil)))))))), ?_⟩
    have hw5 := m.w16
    have hw := m.w2
    refine ⟨_, rfl, _, rfl, _, rfl, u, v, M, n, w', p, rfl, hu', m, hv, vw, hp8, fun v1 H1 s1 ⟨p1, x, q, e, g1, g2, g3, g4⟩ => ?_⟩
    subst e
    obtain ⟨tx, rfl, htx⟩ : ∃ tx, x = .ref tx ∧ SqT K H1 tx [.int ((goes M w' (r0 w') p).l : Nat), .int ((goes M w' (r0 w') p).s : Nat), .int ((enc ([], 0) (goes M w' (r0 w') p).o).2 : Nat)] := by exact g2
    have hn := wri_nat m vw hp8
    have hlen := vN_len (enc ([], 0) (goes M w' (r0 w') p).o).1
    refine ⟨p1, _, rfl, g1, rfl, _, _, rfl, _, _, rfl, _, _, rfl, rfl, ?_⟩
    refine ⟨_, rfl, tx, _, rfl, htx, rfl, _, _, rfl, _, _, rfl, _, _, rfl, rfl, ?_⟩
    refine ⟨_, rfl, _, rfl, w', rfl, by omega, fun v2 H2 s2 hv2 => ?_⟩
    obtain ⟨t2, rfl, ht2⟩ := hv2
    have g2' := g2.tk (Same.tk s2)
    obtain ⟨tx', e', htx2⟩ := g2'
    cases e'
    have g4' := s2 q _ g4
    have s12 := s1.trans s2
    refine q_eqT (K := K) htx2 ht2 ⟨_, rfl, ?_⟩
    have key : ∀ bs : List Nat, wri M w' p = bs → ∀ pp H3, Same H2 H3 → H3 pp = some (.tup (vN bs)) → Q (.ref pp) H3 := fun bs e pp H3 s3 h3 => by
      subst e
      exact k _ _ (s12.trans s3) ⟨pp, rfl, SqT.of h3⟩
    by_cases c : (goes M w' (r0 w') p).l = 0 ∧ (goes M w' (r0 w') p).s = 2 ^ w' ∧ (enc ([], 0) (goes M w' (r0 w') p).o).2 = 0
    · refine iD (by rw [c.1, c.2.1, c.2.2]) ⟨_, rfl, q, _, rfl, SqL.of g4', fun p3 h3 => ?_⟩
      refine key _ ?_ p3 _ (Same.new h3) upd_same
      unfold wri fin
      rw [if_pos c]
    · refine iDF (fun z => c ?_) ⟨_, rfl, _, rfl, _, _, rfl, rfl, _, _, rfl, rfl, cp2 (by omega) (by omega), _, _, rfl, rfl, _, rfl, ?_⟩
      · simp at z
        have e1 : ((2 : Int) ^ w') = ((2 ^ w' : Nat) : Int) := by rw [Int.natCast_pow]; rfl
        rw [e1] at z
        omega
      · rw [shl2 (by omega)]
        by_cases c2 : (goes M w' (r0 w') p).l < 2 ^ (w' - 2)
        · refine iD (by omega) (q_last (K := K) rfl rfl g4' (by omega) fun p3 H3 s3 h3 => ?_)
          refine key _ ?_ p3 _ s3 (by rw [h3]; exact congrArg (fun z => some (HO.tup z)) (vN_emit _ 0 _ 1).symm)
          unfold wri fin
          rw [if_neg c, if_pos c2]
        · refine iDF (by omega) (q_last (K := K) rfl rfl g4' (by omega) fun p3 H3 s3 h3 => ?_)
          refine key _ ?_ p3 _ s3 (by rw [h3]; exact congrArg (fun z => some (HO.tup z)) (vN_emit _ 1 _ 0).symm)
          unfold wri fin
          rw [if_neg c, if_neg c2]
theorem sc_raw_real_chance : FnScope ["model", "w", "way", "state", "held", "found", "outcome", "a", "b", "bits"] ["model", "w", "way"] (defScope s_raw_real_chance) := ⟨rfl, rfl, rfl, by decide +kernel, rfl, by decide +kernel, by decide +kernel⟩
def sp_raw_real_chance (K : PySem.W.Frag) : Sp := fun vs H Q _ => ∃ (u v : V) (M : Md) (n w : Nat) (p : List Nat), vs = [u, .int w, v] ∧ Mod_ K H u M ∧ MOk M n w ∧ TupN K H v p ∧ VW M 0 p ∧ p.length ≤ 4 ∧ Ret H (fun v H' => TupN K H' v [rt (topW M w (r0 w) p) (botW M w (r0 w) p), rb (topW M w (r0 w) p) (botW M w (r0 w) p)]) Q
theorem c_raw_real_chance (T : Fx K mg) (c_cut_of : Cal P w K mg base 5 "cut_of" (sp_cut_of K) []) (c_first_register : Cal P w K mg base 1 "first_register" (sp_first_register K) []) (c_lowest : Cal P w K mg base 2 "lowest" (sp_lowest K) []) (c_stepped : Cal P w K mg base 6 "stepped" (sp_stepped K) []) (c_times : Cal P w K mg base 3 "times" (sp_times K) []) : Cal P w K mg base 7 "raw_real_chance" (sp_raw_real_chance K) [] := by
  refine T.cal 29 29 rfl rfl sc_raw_real_chance (fun _ _ _ _ _ _ us hl => match us, hl with | [_, _, _], _ => rfl) (fun vs H Q E h => ?_) (fun cdv A outer s H vs Q E hr h => ?_)
  · obtain ⟨u, v, M, n, w', p, rfl, hu', m, ⟨t, rfl, ht⟩, vw, hp4, k⟩ := h
    rfl
  · obtain ⟨u, v, M, n, w', p, rfl, hu', m, ⟨t, rfl, ht⟩, vw, hp4, k⟩ := h
    have hu := hu_of hr
    refine ⟨_, (pss_cons (ps_par3 (i := 3) (j := 4) (l := 5) (by rfl) sc_raw_real_chance.nd rfl rfl rfl (by decide) (by decide) (by decide) rfl rfl rfl (pa_cons pe_int (pa_cons (pe_c c_first_register hr (by decide) (by rfl) (pa_cons (pv 1) pa_nil)) (pa_cons (pe_glob (v := .ref (He.ga K "ONE")) (by rfl) T.g_ONE rfl) pa_nil))) (by rfl))
    (pss_cons (ps_for PassesOwn.never rfl (pi_tup (pv 2)) (pg_name (i := 6) sc_raw_real_chance.nd rfl (Or.inl rfl))
      (pss_cons (ps_asg (pe_c c_cut_of hr (by decide) (by rfl) (pa_cons (pe_ix (k_ixT K rfl) (pe_ix (k_ixT K rfl) (pv 0) (pv 3) (fun _ _ => rfl)) pe_int (fun _ _ => rfl)) (pa_cons (pe_ix (k_ixT K rfl) (pv 4) pe_int (fun _ _ => rfl)) (pa_cons (pv 6) pa_nil)))) (pg_tupK K 2 rfl rfl (pgs_cons (pg_name (i := 7) sc_raw_real_chance.nd rfl (Or.inl rfl)) (pgs_cons (pg_name (i := 8) sc_raw_real_chance.nd rfl (Or.inl rfl)) pgs_nil))))
    (pss_cons (ps_set (i := 5) sc_raw_real_chance.nd rfl (Or.inl rfl) (pe_c c_times hr (by decide) (by rfl) (pa_cons (pv 5) (pa_cons (pe_c c_lowest hr (by decide) (by rfl) (pa_cons (pe_op op_sub (pv 8) (pv 7)) (pa_cons (pe_ix (k_ixT K rfl) (pv 4) pe_int (fun _ _ => rfl)) pa_nil))) pa_nil))))
    (pss_cons (ps_asg (pe_c c_stepped hr (by decide) (by rfl) (pa_cons (pv 1) (pa_cons (pe_ix (k_ixT K rfl) (pe_ix (k_ixT K rfl) (pv 0) (pv 3) (fun _ _ => rfl)) pe_int (fun _ _ => rfl)) (pa_cons (pv 4) (pa_cons (pv 6) pa_nil))))) (pg_tupK K 2 rfl rfl (pgs_cons (pg_name (i := 4) sc_raw_real_chance.nd rfl (Or.inl rfl)) (pgs_cons (pg_name (i := 9) sc_raw_real_chance.nd rfl (Or.inl rfl)) pgs_nil))))
    (pss_one (ps_set (i := 3) sc_raw_real_chance.nd rfl (Or.inl rfl) (pe_ix (k_ixT K rfl) (pe_ix (k_ixT K rfl) (pe_ix (k_ixT K rfl) (pv 0) (pv 3) (fun _ _ => rfl)) pe_int (fun _ _ => rfl)) (pv 6) (fun _ _ => rfl))))))))
    (pss_one (ps_ret (pv 5))))), ?_⟩
    obtain ⟨tm, xs, rfl, htm, hl, hd, hx⟩ := hu'.items
    have hw := m.w2
    have hw5 := m.w16
    have hq5 : 2 ^ (w' - 2) ≤ 2 ^ 3 := Nat.pow_le_pow_right (by decide) (by omega)
    have hq6 : 2 ^ w' ≤ 2 ^ 5 := Nat.pow_le_pow_right (by decide) (by omega)
    refine ⟨_, rfl, w', rfl, by omega, fun v1 H1 s1 hv1 => ⟨_, _, _, rfl, ?_⟩⟩
    refine ⟨_, rfl, t, rfl, ⟨_, (Same.tk s1).sq ht⟩, for_tup (K := K) (a := t) (xs := (p.map fun n : Nat => (n : Int)).map V.int) (fun i σ H2 => ∃ (h f : V) (z : Nat) (a b c d : Option V), σ = [some (.ref tm), some (.int w'), some (.ref t), some (.int (goes M w' (r0 w') (p.take i)).st), some h, some f, a, b, c, d] ∧ Same H H2 ∧
      TupN K H2 h [(goes M w' (r0 w') (p.take i)).l, (goes M w' (r0 w') (p.take i)).s, z] ∧ z ≤ 40 * i ∧ TupN K H2 f [rt (topW M w' (r0 w') (p.take i)) (botW M w' (r0 w') (p.take i)), rb (topW M w' (r0 w') (p.take i)) (botW M w' (r0 w') (p.take i))])
      ⟨v1, .ref (He.ga K "ONE"), 0, none, none, none, none, rfl, s1, hv1, by omega, ?_⟩ (fun i σ H1 _ h => let ⟨_, _, _, _, _, _, _, _, s, _⟩ := h; (Same.tk s).sq ht) (fun i x σ H2 hi h => ?_) (fun σ H2 h => ?_)⟩
    · have e : rt 1 1 = 1 ∧ rb 1 1 = 1 := by decide
      show TupN K H1 (.ref (He.ga K "ONE")) [rt 1 1, rb 1 1]
      rw [e.1, e.2]
      exact ⟨_, rfl, T.t_ONE H1⟩
    · obtain ⟨h, f, z, a, b, c, d, rfl, s2, hh, hz, hf⟩ := h
      have hip : i < p.length := by have := (List.getElem?_eq_some_iff.mp hi).1; simpa using this
      rw [nat_map_get hip] at hi
      cases hi
      obtain ⟨I, j1, j2, j3⟩ := VW.at m vw hip
      have vt : VW M 0 (p.take i) := VW.app (s := p.drop i) (by rw [List.take_append_drop]; exact vw)
      obtain ⟨b1, b2, b3, b4⟩ := bot_pos m (p.take i) (r0 w') (RI.zero m) vt
      have et : p.take (i + 1) = p.take i ++ [p.getD i 0] := by
        rw [List.take_succ_eq_append_getElem hip, List.getD_eq_getElem?_getD, List.getElem?_eq_getElem hip]; rfl
      have b5 : botW M w' (r0 w') (p.take i) ≤ 2 ^ 15 := Nat.le_trans b2 (Nat.pow_le_pow_right (by decide) (by
        rw [List.length_take, Nat.min_eq_left (by omega)]
        exact Nat.le_trans (Nat.mul_le_mul hw5 (show i ≤ 3 by omega)) (by decide)))
      rw [j3, et, topW_app, botW_app]
      generalize topW M w' (r0 w') (p.take i) = tp at *
      generalize botW M w' (r0 w') (p.take i) = bt at *
      generalize goes M w' (r0 w') (p.take i) = r at *
      generalize p.getD i 0 = j at *
      obtain ⟨g1, g2, g3⟩ := stp_stl m I j2
      have hql := g3.len (by omega) (by have := I.lo; omega) (by omega)
      obtain ⟨y, hy⟩ : ∃ y, xs[r.st]? = some y := ⟨xs[r.st]'(by have := I.st; omega), List.getElem?_eq_getElem (by have := I.st; omega)⟩
      have hst := hx r.st y hy
      obtain ⟨ts, yt, yf, rfl, hts, hyt, hyf⟩ := hst.tk (Same.tk s2)
      have lf := m.lef _ I.st
      have lq := m.len _ I.st
      have fit := m.fit _ I.st
      have ps := m.pos _ I.st
      have lo := I.lo
      have bg := I.big
      obtain ⟨th, rfl, hth⟩ := id hh
      refine ⟨_, rfl, _, rfl, tm, xs, _, _, rfl, rfl, (Same.tk s2).sq htm, atI_nat hy, ts, _, _, _, rfl, rfl, hts, rfl, _, rfl, th, _, 1, _, rfl, rfl, hth, rfl, _, rfl, ?_⟩
      refine ⟨yt, parts M r.st, r.s, j, rfl, hyt, ps, by omega, j1, by omega, fun v2 H3 s3 hv2 => ?_⟩
      obtain ⟨t2, rfl, ht2⟩ := hv2
      refine ⟨t2, _, rfl, ht2, rfl, _, _, rfl, _, _, rfl, rfl, ?_⟩
      have hth3 := (Same.tk s3).sq hth
      refine ⟨_, rfl, _, rfl, _, rfl, _, _, rfl, rfl, _, rfl, th, _, 1, _, rfl, rfl, hth3, rfl, ca (parts M r.st) r.s (j + 1) - ca (parts M r.st) r.s j, r.s, ?_, by omega, by omega, fun v4 H4 s4 hv4 => ?_⟩
      · show [V.int ((ca (parts M r.st) r.s (j + 1) : Nat) - (ca (parts M r.st) r.s j : Nat) : Int), V.int r.s] = _
        rw [show ((ca (parts M r.st) r.s (j + 1) : Nat) - (ca (parts M r.st) r.s j : Nat) : Int) = ((ca (parts M r.st) r.s (j + 1) - ca (parts M r.st) r.s j : Nat) : Int) by omega]
      · have hs0 : 0 < r.s := by omega
        refine ⟨f, v4, _, _, _, _, rfl, hf.tk ((Same.tk s3).trans (Same.tk s4)), hv4, rb_pos b1, rb_pos hs0, Nat.lt_of_le_of_lt (rt_le _ _) (by omega), Nat.lt_of_le_of_lt (rb_le _ _) (by omega), ?_, fun v5 H5 s5 hv5 => ?_⟩
        · have e1 := rb_le tp bt
          have e2 := rb_le (ca (parts M r.st) r.s (j + 1) - ca (parts M r.st) r.s j) r.s
          have e3 := Nat.mul_le_mul (Nat.le_trans e1 b5) (Nat.le_trans e2 (show r.s ≤ 2 ^ 5 by omega))
          exact Nat.lt_of_le_of_lt e3 (by decide)
        · rw [times_t b1 hs0, times_b b1 hs0] at hv5
          have s345 := (s3.trans s4).trans s5
          have tk3 := Same.tk s345
          refine ⟨_, rfl, _, rfl, _, rfl, tm, xs, _, _, rfl, rfl, tk3.sq ((Same.tk s2).sq htm), atI_nat hy, ts, _, _, _, rfl, rfl, tk3.sq hts, rfl, _, rfl, _, rfl, ?_⟩
          refine ⟨yt, .ref th, w', j, r.l, r.s, z, (stp M w' r j).l, (stp M w' r j).s, parts M r.st, (qst M w' r j).1, rfl, hyt.tk tk3, ps, by omega, j1, hh.tk tk3, by omega, by omega, g3, by omega, by omega, by omega, fun v6 H6 s6 ⟨p6, x6, q6, e6, k1, k2, k3, k4⟩ => ?_⟩
          subst e6
          refine ⟨p6, _, rfl, k1, rfl, _, _, rfl, _, _, rfl, rfl, ?_⟩
          have tk6 := tk3.trans (Same.tk s6)
          have hel := enc_len (qst M w' r j).1 ([], z)
          simp at hel
          refine ⟨_, rfl, _, rfl, tm, xs, _, _, rfl, rfl, tk6.sq ((Same.tk s2).sq htm), atI_nat hy, ts, _, _, _, rfl, rfl, tk6.sq hts, rfl, _, rfl, q_ixN (hyf.tk tk6) (by rw [lf, ← lq]; exact j1) ?_⟩
          refine ⟨x6, v5, _, _, _, _, _, rfl, (s2.trans s345).trans s6, k2, by omega, ?_⟩
          have e7 : topW M w' r [j] = ca (parts M r.st) r.s (j + 1) - ca (parts M r.st) r.s j := by simp [topW]
          have e8 : botW M w' r [j] = r.s := by simp [botW]
          rw [e7, e8]
          exact hv5.tk (Same.tk s6)
    · obtain ⟨h, f, z, a, b, c, d, rfl, s2, hh, hz, hf⟩ := h
      rw [List.length_map, List.length_map, List.take_length] at hf
      exact ⟨_, rfl, k f H2 s2 hf⟩
end
end K59

namespace K59
open PySem PySem.Spec PyProof.Rows L2
open C8 (Cal Met Mak pe_c pe_mk pe_mt pe_mt0 pe_gc)
section
variable {P : Program} {w : World} {K : PySem.W.Frag} {mg : Str → Option Value} {base : Heap}
abbrev RC (K : PySem.W.Frag) : Addr := He.ga K "Reader"
def rf (vm vw vb va vq vl vs vv : V) : List (Str × V) := [("model", vm), ("w", vw), ("bits", vb), ("at", va), ("state", vq), ("low", vl), ("size", vs), ("value", vv)]
section
variable {vm vw vb va vq vl vs vv z : V}
theorem rf_at : putF "at" z (rf vm vw vb va vq vl vs vv) = rf vm vw vb z vq vl vs vv := by kernel_rfl
theorem rf_state : putF "state" z (rf vm vw vb va vq vl vs vv) = rf vm vw vb va z vl vs vv := by kernel_rfl
theorem rf_low : putF "low" z (rf vm vw vb va vq vl vs vv) = rf vm vw vb va vq z vs vv := by kernel_rfl
theorem rf_size : putF "size" z (rf vm vw vb va vq vl vs vv) = rf vm vw vb va vq vl z vv := by kernel_rfl
theorem rf_value : putF "value" z (rf vm vw vb va vq vl vs vv) = rf vm vw vb va vq vl vs z := by kernel_rfl
theorem rf_init : putF "value" vv (putF "size" vs (putF "low" vl (putF "state" vq (putF "at" va (putF "bits" vb (putF "w" vw (putF "model" vm []))))))) = rf vm vw vb va vq vl vs vv := by kernel_rfl
theorem rl_model : (rf vm vw vb va vq vl vs vv).lookup ("model" : Str) = some vm := by kernel_rfl
theorem rl_w : (rf vm vw vb va vq vl vs vv).lookup ("w" : Str) = some vw := by kernel_rfl
theorem rl_bits : (rf vm vw vb va vq vl vs vv).lookup ("bits" : Str) = some vb := by kernel_rfl
theorem rl_at : (rf vm vw vb va vq vl vs vv).lookup ("at" : Str) = some va := by kernel_rfl
theorem rl_state : (rf vm vw vb va vq vl vs vv).lookup ("state" : Str) = some vq := by kernel_rfl
theorem rl_low : (rf vm vw vb va vq vl vs vv).lookup ("low" : Str) = some vl := by kernel_rfl
theorem rl_size : (rf vm vw vb va vq vl vs vv).lookup ("size" : Str) = some vs := by kernel_rfl
theorem rl_value : (rf vm vw vb va vq vl vs vv).lookup ("value" : Str) = some vv := by kernel_rfl
theorem rl_next_bit : (rf vm vw vb va vq vl vs vv).lookup ("next_bit" : Str) = none := by kernel_rfl
theorem rl_settle : (rf vm vw vb va vq vl vs vv).lookup ("settle" : Str) = none := by kernel_rfl
theorem rl_outcome : (rf vm vw vb va vq vl vs vv).lookup ("outcome" : Str) = none := by kernel_rfl
theorem rf_len : (rf vm vw vb va vq vl vs vv).length < 1000 := by show 8 < 1000; decide
end
theorem lp {f : Str} {v : V} : ∀ {fs : List (Str × V)} {m : Nat}, fs.length ≤ m → (putF f v fs).length ≤ m + 1
  | [], m, _ => by show 1 ≤ m + 1; omega
  | (g, x) :: r, m, h => by
    rw [List.length_cons] at h
    unfold putF
    split
    · rw [List.length_cons]; omega
    · obtain ⟨j, rfl⟩ : ∃ j, m = j + 1 := ⟨m - 1, by omega⟩
      have := lp (f := f) (v := v) (fs := r) (m := j) (by omega)
      rw [List.length_cons]; omega
/-- a reader at x -/
def RdAt (K : PySem.W.Frag) (H : Hp) (x : Addr) (vm : V) (w : Nat) (vb : V) (p q l s v : Nat) : Prop := ∃ dx, H x = some (.ins (RC K) dx (rf vm (.int w) vb (.int p) (.int q) (.int l) (.int s) (.int v)))
/-- all but x as it was -/
def Fx_ (x : Addr) (H H' : Hp) : Prop := ∀ b o, b ≠ x → H b = some o → H' b = some o
theorem Fx_.refl (x : Addr) (H : Hp) : Fx_ x H H := fun _ _ _ h => h
theorem Fx_.trans {x : Addr} {H H1 H2 : Hp} (a : Fx_ x H H1) (b : Fx_ x H1 H2) : Fx_ x H H2 := fun c o n h => b c o n (a c o n h)
theorem Fx_.put (x : Addr) (H : Hp) (o : HO) : Fx_ x H (upd H x o) := fun b u n h => by rw [upd_ne n]; exact h
theorem Same.fx {x : Addr} {H H' : Hp} (e : Same H H') : Fx_ x H H' := fun b o _ h => e b o h
theorem Fx_.tk {x : Addr} {H H' : Hp} (f : Fx_ x H H') {o : HO} (hx : H x = some o) (ht : isTup o = false) : Tk H H' := fun a xs z => by
  have ne : a ≠ x := by
    rintro rfl
    rcases z with z | ⟨q, z⟩ <;> (rw [hx] at z; cases z; cases ht)
  rcases z with z | ⟨q, z⟩
  · exact .inl (f a _ ne z)
  · exact .inr ⟨q, f a _ ne z⟩
theorem RdAt.tk {K : PySem.W.Frag} {H H' : Hp} {x : Addr} {vm vb : V} {w p q l s v : Nat} (r : RdAt K H x vm w vb p q l s v) (f : Fx_ x H H') : Tk H H' := let ⟨_, h⟩ := r; f.tk h rfl
theorem RdAt.same {K : PySem.W.Frag} {H H' : Hp} {x : Addr} {vm vb : V} {w p q l s v : Nat} (r : RdAt K H x vm w vb p q l s v) (f : Same H H') : RdAt K H' x vm w vb p q l s v := let ⟨d, h⟩ := r; ⟨d, f _ _ h⟩
theorem sc_Reader_next_bit : FnScope ["self"] ["self"] (defScope s_Reader_next_bit) := ⟨rfl, rfl, rfl, by decide +kernel, rfl, by decide +kernel, by decide +kernel⟩
def sp_Reader_next_bit (K : PySem.W.Frag) : Sp := fun vs H Q _ => ∃ (x : Addr) (vm vb : V) (w p q l s v : Nat) (b : List Nat), vs = [.ref x] ∧ RdAt K H x vm w vb p q l s v ∧ TupN K H vb b ∧ ∀ H', Fx_ x H H' → RdAt K H' x vm w vb (p + 1) q l s v → Q (.int (b.getD p 0 : Nat)) H'
theorem c_next_bit (T : Fx K mg)  : Met P w K mg base 1 (He.ga K "Reader") "next_bit" (sp_Reader_next_bit K) [] := by
  refine T.met 48 rfl T.me_next_bit sc_Reader_next_bit (fun _ _ _ _ _ _ us hl => match us, hl with | [_], _ => rfl) (fun vs H Q E h => ?_) (fun cdv A outer s H vs Q E hr h => ?_)
  · obtain ⟨x, vm, vb, w', p, q, l, s_, v, b, rfl, ⟨dx, hx⟩, hb, k⟩ := h
    rfl
  · obtain ⟨x, vm, vb, w', p, q, l, s_, v, b, rfl, ⟨dx, hx⟩, hb, k⟩ := h
    have hu := hu_of hr
    refine ⟨_, (pss_cons (ps_fldaug (pv 0) pe_int in_add)
    (pss_one (ps_ret (pe_ifExp (pt_cmpR op_le (pe_fld (pv 0) rfl) (pe_callB (k_len K rfl) (by rfl) T.m_len (by decide +kernel) (pa_cons (pe_fld (pv 0) rfl) pa_nil)) (nomark _)) (pe_ix (k_ixT K rfl) (pe_fld (pv 0) rfl) (pe_op op_sub (pe_fld (pv 0) rfl) pe_int) (fun _ _ => rfl)) pe_int)))), ?_⟩
    refine ⟨_, rfl, _, _, _, _, _, rfl, hx, T.cls, T.na_at, rl_at, _, _, rfl, rfl, dx, _, hx, rf_len, ?_⟩
    rw [rf_at]
    have f1 : Fx_ x H (upd H x (.ins (RC K) dx (rf vm (.int w') vb (.int ((p : Int) + 1)) (.int q) (.int l) (.int s_) (.int v)))) := Fx_.put _ _ _
    have hx1 : upd H x (.ins (RC K) dx (rf vm (.int w') vb (.int ((p : Int) + 1)) (.int q) (.int l) (.int s_) (.int v))) x = some (.ins (RC K) dx (rf vm (.int w') vb (.int ((p : Int) + 1)) (.int q) (.int l) (.int s_) (.int v))) := upd_same
    have k1 := k _ f1 ⟨dx, hx1⟩
    have hb1 := hb.tk (f1.tk hx rfl)
    generalize upd H x (.ins (RC K) dx (rf vm (.int w') vb (.int ((p : Int) + 1)) (.int q) (.int l) (.int s_) (.int v))) = H1 at *
    obtain ⟨tb, rfl, htb⟩ := id hb1
    refine ⟨_, rfl, _, _, _, _, _, rfl, hx1, T.cls, T.na_at, rl_at, _, rfl, _, _, _, _, _, rfl, hx1, T.cls, T.na_bits, rl_bits, _, _, rfl, .inr htb, _, _, rfl, rfl, _, rfl, ?_⟩
    rw [List.length_map, List.length_map]
    by_cases c : p < b.length
    · refine iD (by omega) ⟨_, rfl, _, _, _, _, _, rfl, hx1, T.cls, T.na_bits, rl_bits, _, rfl, _, _, _, _, _, rfl, hx1, T.cls, T.na_at, rl_at, _, _, rfl, rfl, tb, _, (p : Int), _, rfl, congrArg V.int (by show (p : Int) + 1 - 1 = (p : Int); omega), htb, atI_nat (nat_map_get c), k1⟩
    · refine iDF (by omega) ?_
      have e : b.getD p 0 = 0 := by rw [List.getD_eq_getElem?_getD, List.getElem?_eq_none_iff.mpr (by omega)]; rfl
      rw [e] at k1
      exact k1
/-- value, along the ops -/
def vst (w : Nat) (b : List Nat) : List Nat → Nat → Nat → Nat
  | [], _, v => v
  | op :: o, p, v => vst w b o (p + 1) (2 * (v - sb w op) + b.getD p 0)
theorem vst_num {w : Nat} {b : List Nat} {l s l' s' : Nat} {o : List Nat} (h : Stl w l s o l' s') : ∀ {p v A : Nat}, l ≤ v → v + A = num b p + l → l' ≤ vst w b o p v ∧ vst w b o p v + A * 2 ^ o.length = num b (p + o.length) + l' := by
  induction h with
  | done => intro p v A h1 h2; simp [vst]; omega
  | @zero l s l' s' o c1 _ ih =>
    intro p v A h1 h2
    have := ih (p := p + 1) (v := 2 * (v - sb w 0) + b.getD p 0) (A := 2 * A) (by simp [sb]; omega) (by rw [num]; simp [sb]; omega)
    rw [List.length_cons, Nat.pow_succ, Nat.mul_comm (2 ^ _) 2, ← Nat.mul_assoc, Nat.mul_comm A 2, Nat.add_comm _ 1, ← Nat.add_assoc]
    exact this
  | @one l s l' s' o c1 c2 _ ih =>
    intro p v A h1 h2
    have e : sb w 1 = 2 ^ (w - 1) := rfl
    have := ih (p := p + 1) (v := 2 * (v - sb w 1) + b.getD p 0) (A := 2 * A) (by rw [e]; omega) (by rw [num, e]; omega)
    rw [List.length_cons, Nat.pow_succ, Nat.mul_comm (2 ^ _) 2, ← Nat.mul_assoc, Nat.mul_comm A 2, Nat.add_comm _ 1, ← Nat.add_assoc]
    exact this
  | @mid l s l' s' o c1 c2 c3 _ ih =>
    intro p v A h1 h2
    have e : sb w 2 = 2 ^ (w - 2) := rfl
    have := ih (p := p + 1) (v := 2 * (v - sb w 2) + b.getD p 0) (A := 2 * A) (by rw [e]; omega) (by rw [num, e]; omega)
    rw [List.length_cons, Nat.pow_succ, Nat.mul_comm (2 ^ _) 2, ← Nat.mul_assoc, Nat.mul_comm A 2, Nat.add_comm _ 1, ← Nat.add_assoc]
    exact this
theorem sc_Reader___init__ : FnScope ["self", "model", "w", "bits", "place"] ["self", "model", "w", "bits"] (defScope s_Reader___init__) := ⟨rfl, rfl, rfl, by decide +kernel, rfl, by decide +kernel, by decide +kernel⟩
def sp_Reader___init__ (K : PySem.W.Frag) : Sp := fun vs H Q _ => ∃ (x dx : Addr) (vm vb : V) (w : Nat) (b : List Nat), vs = [.ref x, vm, .int w, vb] ∧ H x = some (.ins (RC K) dx []) ∧ TupN K H vb b ∧ w ≤ 20 ∧ ∀ H', Fx_ x H H' → RdAt K H' x vm w vb w 0 0 (2 ^ w) (num b w) → Q .non H'
theorem c_Reader (T : Fx K mg) (c_next_bit : Met P w K mg base 1 (He.ga K "Reader") "next_bit" (sp_Reader_next_bit K) []) : Mak P w K mg base 2 "Reader" (He.ga K "Reader") (sp_Reader___init__ K) [] := by
  refine T.mak 47 47 rfl rfl sc_Reader___init__ (fun _ _ _ _ _ _ us hl => match us, hl with | [_, _, _, _], _ => rfl) (fun vs H Q E h => ?_) (fun cdv A outer s H vs Q E hr h => ?_)
  · obtain ⟨x, dx, vm, vb, w', b, rfl, hx, hb, hw, k⟩ := h
    rfl
  · obtain ⟨x, dx, vm, vb, w', b, rfl, hx, hb, hw, k⟩ := h
    have hu := hu_of hr
    refine ⟨_, (pss_cons (ps_fld (pv 0) (pv 1) rfl)
    (pss_cons (ps_fld (pv 0) (pv 2) rfl)
    (pss_cons (ps_fld (pv 0) (pv 3) rfl)
    (pss_cons (ps_fld (pv 0) pe_int rfl)
    (pss_cons (ps_fld (pv 0) pe_int rfl)
    (pss_cons (ps_fld (pv 0) pe_int rfl)
    (pss_cons (ps_fld (pv 0) (pe_op op_shl pe_int (pv 2)) rfl)
    (pss_cons (ps_fld (pv 0) pe_int rfl)
    (pss_one (ps_for PassesOwn.never rfl (pi_range1 (by rfl) T.m_range (pa_cons (pv 2) pa_nil)) (pg_name (i := 4) sc_Reader___init__.nd rfl (Or.inl rfl))
      (pss_one (ps_fld (pv 0) (pe_op op_add (pe_op op_mul pe_int (pe_fld (pv 0) rfl)) (pe_mt0 c_next_bit hr (by decide) (pv 0))) rfl)))))))))))), ?_⟩
    refine ⟨_, rfl, _, rfl, _, _, _, _, rfl, hx, T.cls, T.na_model, (by refine Nat.lt_of_le_of_lt (m := 8) ?_ (by decide); repeat (first | exact Nat.zero_le _ | apply lp)), ?_⟩
    refine ⟨_, rfl, _, rfl, _, _, _, _, rfl, upd_same, T.cls, T.na_w, (by refine Nat.lt_of_le_of_lt (m := 8) ?_ (by decide); repeat (first | exact Nat.zero_le _ | apply lp)), ?_⟩
    refine ⟨_, rfl, _, rfl, _, _, _, _, rfl, upd_same, T.cls, T.na_bits, (by refine Nat.lt_of_le_of_lt (m := 8) ?_ (by decide); repeat (first | exact Nat.zero_le _ | apply lp)), ?_⟩
    refine ⟨_, rfl, _, _, _, _, rfl, upd_same, T.cls, T.na_at, (by refine Nat.lt_of_le_of_lt (m := 8) ?_ (by decide); repeat (first | exact Nat.zero_le _ | apply lp)), ?_⟩
    refine ⟨_, rfl, _, _, _, _, rfl, upd_same, T.cls, T.na_state, (by refine Nat.lt_of_le_of_lt (m := 8) ?_ (by decide); repeat (first | exact Nat.zero_le _ | apply lp)), ?_⟩
    refine ⟨_, rfl, _, _, _, _, rfl, upd_same, T.cls, T.na_low, (by refine Nat.lt_of_le_of_lt (m := 8) ?_ (by decide); repeat (first | exact Nat.zero_le _ | apply lp)), ?_⟩
    refine ⟨_, rfl, _, _, rfl, rfl, ⟨by omega, by omega, by decide⟩, _, rfl, _, _, _, _, rfl, upd_same, T.cls, T.na_size, (by refine Nat.lt_of_le_of_lt (m := 8) ?_ (by decide); repeat (first | exact Nat.zero_le _ | apply lp)), ?_⟩
    refine ⟨_, rfl, _, _, _, _, rfl, upd_same, T.cls, T.na_value, (by refine Nat.lt_of_le_of_lt (m := 8) ?_ (by decide); repeat (first | exact Nat.zero_le _ | apply lp)), ?_⟩
    rw [rf_init, upd_upd, upd_upd, upd_upd, upd_upd, upd_upd, upd_upd, upd_upd]
    have e2 : (fun i j : Int => V.int (i * 2 ^ j.toNat)) 1 (w' : Int) = V.int ((2 ^ w' : Nat) : Int) := congrArg V.int (shlN rfl)
    rw [e2]
    refine ⟨_, rfl, w', rfl, by omega, by omega, for_range (lo := 0) (n := w') (fun i σ H1 => ∃ u : Option V, σ = [some (.ref x), some vm, some (.int w'), some vb, u] ∧ Fx_ x H H1 ∧ RdAt K H1 x vm w' vb i 0 0 (2 ^ w') (num b i)) ⟨none, rfl, Fx_.put _ _ _, dx, upd_same⟩ (fun i σ H1 hi h => ?_) (fun σ H1 h => ?_)⟩
    · obtain ⟨u, rfl, f1, r1⟩ := h
      obtain ⟨d1, g1⟩ := id r1
      have hb1 := hb.tk (f1.tk hx rfl)
      refine ⟨_, rfl, _, _, _, _, _, rfl, g1, T.cls, T.na_value, rl_value, _, _, rfl, rfl, .inl ⟨by decide, by decide⟩, _, rfl, x, d1, _, rfl, g1, rl_next_bit, x, vm, vb, w', i, 0, 0, 2 ^ w', num b i, b, rfl, r1, hb1, fun H2 f2 ⟨d2, g2⟩ => ?_⟩
      refine ⟨_, _, rfl, rfl, _, rfl, _, _, _, _, rfl, g2, T.cls, T.na_value, rf_len, ?_⟩
      rw [rf_value]
      exact ⟨_, rfl, (f1.trans f2).trans (Fx_.put _ _ _), d2, upd_same⟩
    · obtain ⟨u, rfl, f1, r1⟩ := h
      exact k H1 f1 r1
theorem sc_Reader_settle : FnScope ["self", "half", "quarter", "less"] ["self"] (defScope s_Reader_settle) := ⟨rfl, rfl, rfl, by decide +kernel, rfl, by decide +kernel, by decide +kernel⟩
def sp_Reader_settle (K : PySem.W.Frag) : Sp := fun vs H Q _ => ∃ (x : Addr) (vm vb : V) (w p q l s v l' s' : Nat) (b o : List Nat), vs = [.ref x] ∧ RdAt K H x vm w vb p q l s v ∧ TupN K H vb b ∧ Stl w l s o l' s' ∧ l ≤ v ∧ 2 ≤ w ∧ w ≤ 20 ∧ ∀ H', Fx_ x H H' → RdAt K H' x vm w vb (p + o.length) q l' s' (vst w b o p v) → Q .non H'
theorem c_settle (T : Fx K mg) (c_next_bit : Met P w K mg base 1 (He.ga K "Reader") "next_bit" (sp_Reader_next_bit K) []) : Met P w K mg base 2 (He.ga K "Reader") "settle" (sp_Reader_settle K) [] := by
  refine T.met 49 rfl T.me_settle sc_Reader_settle (fun _ _ _ _ _ _ us hl => match us, hl with | [_], _ => rfl) (fun vs H Q E h => ?_) (fun cdv A outer s H vs Q E hr h => ?_)
  · obtain ⟨x, vm, vb, w', p, q, l, s_, v_, l', s', b, o, rfl, r0, hb, st, hv, hw, hw2, k⟩ := h
    rfl
  · obtain ⟨x, vm, vb, w', p, q, l, s_, v_, l', s', b, o, rfl, r0, hb, st, hv, hw, hw2, k⟩ := h
    have hu := hu_of hr
    refine ⟨_, (pss_cons (ps_par (i := 1) (j := 2) (by rfl) sc_Reader_settle.nd rfl rfl (by decide) rfl rfl (pa_cons (pe_op op_shl pe_int (pe_op op_sub (pe_fld (pv 0) rfl) pe_int)) (pa_cons (pe_op op_shl pe_int (pe_op op_sub (pe_fld (pv 0) rfl) pe_int)) pa_nil)) (by rfl))
    (pss_one (ps_while PassesOwn.never (pt_val pe_bl)
      (pss_cons (ps_if (pt_cmpR op_le (pe_op op_add (pe_fld (pv 0) rfl) (pe_fld (pv 0) rfl)) (pv 1) (nomark _))
      (pss_one (ps_set (i := 3) sc_Reader_settle.nd rfl (Or.inl rfl) pe_int))
      (pss_one (ps_if (pt_cmpR op_ge (pe_fld (pv 0) rfl) (pv 1) (nomark _))
      (pss_one (ps_set (i := 3) sc_Reader_settle.nd rfl (Or.inl rfl) (pv 1)))
      (pss_one (ps_if (PW.pt (pw_and (pt_cmpR op_ge (pe_fld (pv 0) rfl) (pv 2) (nomark _)) (pw_and1 (pt_cmpR op_le (pe_op op_add (pe_fld (pv 0) rfl) (pe_fld (pv 0) rfl)) (pe_op op_add (pv 1) (pv 2)) (nomark _)))))
      (pss_one (ps_set (i := 3) sc_Reader_settle.nd rfl (Or.inl rfl) (pv 2)))
      (pss_one (ps_retN)))))))
    (pss_cons (ps_fld (pv 0) (pe_op op_mul pe_int (pe_op op_sub (pe_fld (pv 0) rfl) (pv 3))) rfl)
    (pss_cons (ps_fld (pv 0) (pe_op op_mul pe_int (pe_fld (pv 0) rfl)) rfl)
    (pss_one (ps_fld (pv 0) (pe_op op_add (pe_op op_mul pe_int (pe_op op_sub (pe_fld (pv 0) rfl) (pv 3))) (pe_mt0 c_next_bit hr (by decide) (pv 0))) rfl)))))))), ?_⟩
    obtain ⟨dx, hx⟩ := id r0
    refine ⟨_, rfl, _, _, _, _, _, rfl, hx, T.cls, T.na_w, rl_w, _, _, rfl, rfl, _, _, rfl, rfl, cp1 (by omega) (by omega), _, rfl, _, _, _, _, _, rfl, hx, T.cls, T.na_w, rl_w, _, _, rfl, rfl, _, _, rfl, rfl, cp2 (by omega) (by omega), _, _, rfl, ?_⟩
    refine ⟨fun m σ H1 => ∃ (l s v p1 : Nat) (o2 : List Nat) (u : Option V), σ = [some (.ref x), some (.int ((2 ^ (w' - 1) : Nat) : Int)), some (.int ((2 ^ (w' - 2) : Nat) : Int)), u] ∧ Fx_ x H H1 ∧ RdAt K H1 x vm w' vb p1 q l s v ∧ Stl w' l s o2 l' s' ∧ l ≤ v ∧ p1 + o2.length = p + o.length ∧ vst w' b o2 p1 v = vst w' b o p v_ ∧ m = o2.length,
      ⟨o.length, l, s_, v_, p, o, none, ?_, Fx_.refl x H, r0, st, hv, rfl, rfl, rfl⟩, ?_⟩
    · show [some (V.ref x), some (V.int ((1 : Int) * 2 ^ ((w' : Int) - 1).toNat)), some (V.int ((1 : Int) * 2 ^ ((w' : Int) - 2).toNat)), none] = _
      rw [shl1 (by omega), shl2 hw]
    clear hx st hv
    rintro m σ H1 ⟨l, s_, v, p1, o2, u, rfl, f1, r1, st, hv, hp, he, rfl⟩
    obtain ⟨dx1, hx⟩ := id r1
    have hb1 := hb.tk (r0.tk f1)
    refine ⟨true, rfl, _, fun _ _ z => z, _, rfl, _, _, _, _, _, rfl, hx, T.cls, T.na_low, rl_low, _, rfl, _, _, _, _, _, rfl, hx, T.cls, T.na_size, rl_size, _, _, rfl, rfl, _, rfl, _, _, rfl, rfl, _, rfl, ?_⟩
    cases st with
    | @zero _ _ _ _ o3 c1 st =>
      refine iD (by omega) ?_
      have es : sb w' 0 ≤ l := by first | (show 0 ≤ l; omega) | (show 2 ^ (w' - 1) ≤ l; omega) | (show 2 ^ (w' - 2) ≤ l; omega)
      have e1 : (2 : Int) * ((l : Int) - 0) = ((2 * (l - sb w' 0) : Nat) : Int) := by
        have e0 : ((sb w' 0 : Nat) : Int) = 0 := rfl
        omega
      have e3 : (2 : Int) * ((v : Int) - 0) = ((2 * (v - sb w' 0) : Nat) : Int) := by
        have e0 : ((sb w' 0 : Nat) : Int) = 0 := rfl
        omega
      refine ⟨_, rfl, _, _, _, _, _, rfl, hx, T.cls, T.na_low, rl_low, _, rfl, _, _, rfl, rfl, _, _, rfl, rfl, .inl ⟨by decide, by decide⟩, _, rfl, _, _, _, _, rfl, hx, T.cls, T.na_low, rf_len, ?_⟩
      rw [rf_low]
      refine ⟨_, rfl, _, _, _, _, _, rfl, upd_same, T.cls, T.na_size, rl_size, _, _, rfl, rfl, .inl ⟨by decide, by decide⟩, _, rfl, _, _, _, _, rfl, upd_same, T.cls, T.na_size, rf_len, ?_⟩
      rw [rf_size, upd_upd]
      dsimp only
      rw [e1]
      have f2 : Fx_ x H1 (upd H1 x (.ins (RC K) dx1 (rf vm (.int w') vb (.int p1) (.int q) (.int ((2 * (l - sb w' 0) : Nat) : Int)) (.int (2 * (s_ : Int))) (.int v)))) := Fx_.put _ _ _
      have hb2 := hb1.tk (r1.tk f2)
      refine ⟨_, rfl, _, _, _, _, _, rfl, upd_same, T.cls, T.na_value, rl_value, _, rfl, _, _, rfl, rfl, _, _, rfl, rfl, .inl ⟨by decide, by decide⟩, _, rfl, x, dx1, _, rfl, upd_same, rl_next_bit, x, vm, vb, w', p1, q, 2 * (l - sb w' 0), 2 * s_, v, b, rfl, ⟨dx1, upd_same⟩, hb2, fun H2 f3 ⟨d2, g2⟩ => ?_⟩
      refine ⟨_, _, rfl, rfl, _, rfl, _, _, _, _, rfl, g2, T.cls, T.na_value, rf_len, ?_⟩
      rw [rf_value]
      dsimp only
      rw [e3]
      rw [List.length_cons] at hp
      exact ⟨o3.length, by simp, 2 * (l - sb w' 0), 2 * s_, 2 * (v - sb w' 0) + b.getD p1 0, p1 + 1, o3, _, rfl, ((f1.trans f2).trans f3).trans (Fx_.put _ _ _), ⟨d2, upd_same⟩, st, by omega, by omega, he, rfl⟩
    | @one _ _ _ _ o3 c1 c2 st =>
      refine iDF (by omega) ⟨_, rfl, _, _, _, _, _, rfl, hx, T.cls, T.na_low, rl_low, _, rfl, _, _, rfl, rfl, _, rfl, iD (by omega) ⟨_, rfl, ?_⟩⟩
      have es : sb w' 1 ≤ l := by first | (show 0 ≤ l; omega) | (show 2 ^ (w' - 1) ≤ l; omega) | (show 2 ^ (w' - 2) ≤ l; omega)
      have e1 : (2 : Int) * ((l : Int) - ((2 ^ (w' - 1) : Nat) : Int)) = ((2 * (l - sb w' 1) : Nat) : Int) := by
        have e0 : ((sb w' 1 : Nat) : Int) = ((2 ^ (w' - 1) : Nat) : Int) := rfl
        omega
      have e3 : (2 : Int) * ((v : Int) - ((2 ^ (w' - 1) : Nat) : Int)) = ((2 * (v - sb w' 1) : Nat) : Int) := by
        have e0 : ((sb w' 1 : Nat) : Int) = ((2 ^ (w' - 1) : Nat) : Int) := rfl
        omega
      refine ⟨_, rfl, _, _, _, _, _, rfl, hx, T.cls, T.na_low, rl_low, _, rfl, _, _, rfl, rfl, _, _, rfl, rfl, .inl ⟨by decide, by decide⟩, _, rfl, _, _, _, _, rfl, hx, T.cls, T.na_low, rf_len, ?_⟩
      rw [rf_low]
      refine ⟨_, rfl, _, _, _, _, _, rfl, upd_same, T.cls, T.na_size, rl_size, _, _, rfl, rfl, .inl ⟨by decide, by decide⟩, _, rfl, _, _, _, _, rfl, upd_same, T.cls, T.na_size, rf_len, ?_⟩
      rw [rf_size, upd_upd]
      dsimp only
      rw [e1]
      have f2 : Fx_ x H1 (upd H1 x (.ins (RC K) dx1 (rf vm (.int w') vb (.int p1) (.int q) (.int ((2 * (l - sb w' 1) : Nat) : Int)) (.int (2 * (s_ : Int))) (.int v)))) := Fx_.put _ _ _
      have hb2 := hb1.tk (r1.tk f2)
      refine ⟨_, rfl, _, _, _, _, _, rfl, upd_same, T.cls, T.na_value, rl_value, _, rfl, _, _, rfl, rfl, _, _, rfl, rfl, .inl ⟨by decide, by decide⟩, _, rfl, x, dx1, _, rfl, upd_same, rl_next_bit, x, vm, vb, w', p1, q, 2 * (l - sb w' 1), 2 * s_, v, b, rfl, ⟨dx1, upd_same⟩, hb2, fun H2 f3 ⟨d2, g2⟩ => ?_⟩
      refine ⟨_, _, rfl, rfl, _, rfl, _, _, _, _, rfl, g2, T.cls, T.na_value, rf_len, ?_⟩
      rw [rf_value]
      dsimp only
      rw [e3]
      rw [List.length_cons] at hp
      exact ⟨o3.length, by simp, 2 * (l - sb w' 1), 2 * s_, 2 * (v - sb w' 1) + b.getD p1 0, p1 + 1, o3, _, rfl, ((f1.trans f2).trans f3).trans (Fx_.put _ _ _), ⟨d2, upd_same⟩, st, by omega, by omega, he, rfl⟩
    | @mid _ _ _ _ o3 c1 c2 c3 st =>
      refine iDF (by omega) ⟨_, rfl, _, _, _, _, _, rfl, hx, T.cls, T.na_low, rl_low, _, rfl, _, _, rfl, rfl, _, rfl, iDF (by omega) ⟨_, rfl, _, _, _, _, _, rfl, hx, T.cls, T.na_low, rl_low, _, rfl, _, _, rfl, rfl, _, rfl, iD (by omega) ⟨_, rfl, _, _, _, _, _, rfl, hx, T.cls, T.na_low, rl_low, _, rfl, _, _, _, _, _, rfl, hx, T.cls, T.na_size, rl_size, _, _, rfl, rfl, _, rfl, _, rfl, _, _, rfl, rfl, _, _, rfl, rfl, _, rfl, iD (by omega) ⟨_, rfl, ?_⟩⟩⟩⟩
      have es : sb w' 2 ≤ l := by first | (show 0 ≤ l; omega) | (show 2 ^ (w' - 1) ≤ l; omega) | (show 2 ^ (w' - 2) ≤ l; omega)
      have e1 : (2 : Int) * ((l : Int) - ((2 ^ (w' - 2) : Nat) : Int)) = ((2 * (l - sb w' 2) : Nat) : Int) := by
        have e0 : ((sb w' 2 : Nat) : Int) = ((2 ^ (w' - 2) : Nat) : Int) := rfl
        omega
      have e3 : (2 : Int) * ((v : Int) - ((2 ^ (w' - 2) : Nat) : Int)) = ((2 * (v - sb w' 2) : Nat) : Int) := by
        have e0 : ((sb w' 2 : Nat) : Int) = ((2 ^ (w' - 2) : Nat) : Int) := rfl
        omega
      refine ⟨_, rfl, _, _, _, _, _, rfl, hx, T.cls, T.na_low, rl_low, _, rfl, _, _, rfl, rfl, _, _, rfl, rfl, .inl ⟨by decide, by decide⟩, _, rfl, _, _, _, _, rfl, hx, T.cls, T.na_low, rf_len, ?_⟩
      rw [rf_low]
      refine ⟨_, rfl, _, _, _, _, _, rfl, upd_same, T.cls, T.na_size, rl_size, _, _, rfl, rfl, .inl ⟨by decide, by decide⟩, _, rfl, _, _, _, _, rfl, upd_same, T.cls, T.na_size, rf_len, ?_⟩
      rw [rf_size, upd_upd]
      dsimp only
      rw [e1]
      have f2 : Fx_ x H1 (upd H1 x (.ins (RC K) dx1 (rf vm (.int w') vb (.int p1) (.int q) (.int ((2 * (l - sb w' 2) : Nat) : Int)) (.int (2 * (s_ : Int))) (.int v)))) := Fx_.put _ _ _
      have hb2 := hb1.tk (r1.tk f2)
      refine ⟨_, rfl, _, _, _, _, _, rfl, upd_same, T.cls, T.na_value, rl_value, _, rfl, _, _, rfl, rfl, _, _, rfl, rfl, .inl ⟨by decide, by decide⟩, _, rfl, x, dx1, _, rfl, upd_same, rl_next_bit, x, vm, vb, w', p1, q, 2 * (l - sb w' 2), 2 * s_, v, b, rfl, ⟨dx1, upd_same⟩, hb2, fun H2 f3 ⟨d2, g2⟩ => ?_⟩
      refine ⟨_, _, rfl, rfl, _, rfl, _, _, _, _, rfl, g2, T.cls, T.na_value, rf_len, ?_⟩
      rw [rf_value]
      dsimp only
      rw [e3]
      rw [List.length_cons] at hp
      exact ⟨o3.length, by simp, 2 * (l - sb w' 2), 2 * s_, 2 * (v - sb w' 2) + b.getD p1 0, p1 + 1, o3, _, rfl, ((f1.trans f2).trans f3).trans (Fx_.put _ _ _), ⟨d2, upd_same⟩, st, by omega, by omega, he, rfl⟩
    | done c1 c2 c3 =>
      have fin : Q .non H1 := k H1 f1 (by
        rw [List.length_nil] at hp
        rw [← hp, ← he]
        exact r1)
      refine iDF (by omega) ⟨_, rfl, _, _, _, _, _, rfl, hx, T.cls, T.na_low, rl_low, _, rfl, _, _, rfl, rfl, _, rfl, iDF (by omega) ⟨_, rfl, _, _, _, _, _, rfl, hx, T.cls, T.na_low, rl_low, _, rfl, _, _, rfl, rfl, _, rfl, ?_⟩⟩
      by_cases c4 : 2 ^ (w' - 2) ≤ l'
      · exact iD (by omega) ⟨_, rfl, _, _, _, _, _, rfl, hx, T.cls, T.na_low, rl_low, _, rfl, _, _, _, _, _, rfl, hx, T.cls, T.na_size, rl_size, _, _, rfl, rfl, _, rfl, _, rfl, _, _, rfl, rfl, _, _, rfl, rfl, _, rfl, iDF (by omega) fin⟩
      · exact iDF (by omega) fin
end
end K59

namespace K59
open PySem PySem.Spec PyProof.Rows L2
open C8 (Cal Met Mak pe_c pe_mk pe_mt pe_mt0 pe_gc)
section
variable {P : Program} {w : World} {K : PySem.W.Frag} {mg : Str → Option Value} {base : Heap}
/-- the reader at x stands at the register r -/
def RdR (K : PySem.W.Frag) (H : Hp) (x : Addr) (vm : V) (w : Nat) (vb : V) (b : List Nat) (r : Rg) : Prop := ∃ v, RdAt K H x vm w vb (w + r.o.length) r.st r.l r.s v ∧ v + r.A = num b (w + r.o.length) + r.l
theorem sc_Reader_outcome : FnScope ["self", "table", "followers", "outcome", "a", "b"] ["self"] (defScope s_Reader_outcome) := ⟨rfl, rfl, rfl, by decide +kernel, rfl, by decide +kernel, by decide +kernel⟩
def sp_Reader_outcome (K : PySem.W.Frag) : Sp := fun vs H Q _ => ∃ (x : Addr) (vm vb : V) (M : Md) (n w : Nat) (b : List Nat) (r : Rg), vs = [.ref x] ∧ RdR K H x vm w vb b r ∧ Mod_ K H vm M ∧ MOk M n w ∧ TupN K H vb b ∧ Bits b ∧ RI M w r ∧ Ins w b r ∧ ∀ H', Fx_ x H H' → RdR K H' x vm w vb b (stp M w r (oc M w b r)) → Q (.int (oc M w b r : Nat)) H'
theorem c_outcome (T : Fx K mg) (c_cut_of : Cal P w K mg base 5 "cut_of" (sp_cut_of K) []) (c_settle : Met P w K mg base 2 (He.ga K "Reader") "settle" (sp_Reader_settle K) []) : Met P w K mg base 6 (He.ga K "Reader") "outcome" (sp_Reader_outcome K) [] := by
  refine T.met 50 rfl T.me_outcome sc_Reader_outcome (fun _ _ _ _ _ _ us hl => match us, hl with | [_], _ => rfl) (fun vs H Q E h => ?_) (fun cdv A outer s H vs Q E hr h => ?_)
  · obtain ⟨x, vm, vb, M, n, w', b, r, rfl, ⟨v, r1, hv⟩, hm, m, hb, hbits, I, ins, k⟩ := h
    rfl
  · obtain ⟨x, vm, vb, M, n, w', b, r, rfl, ⟨v, r1, hv⟩, hm, m, hb, hbits, I, ins, k⟩ := h
    have hu := hu_of hr
    refine ⟨_, (pss_cons (ps_asg (pe_ix (k_ixT K rfl) (pe_fld (pv 0) rfl) (pe_fld (pv 0) rfl) (fun _ _ => rfl)) (pg_tupK K 2 rfl rfl (pgs_cons (pg_name (i := 1) sc_Reader_outcome.nd rfl (Or.inl rfl)) (pgs_cons (pg_name (i := 2) sc_Reader_outcome.nd rfl (Or.inl rfl)) pgs_nil))))
    (pss_cons (ps_for PassesOwn.never rfl (pi_range1 (by rfl) T.m_range (pa_cons (pe_callB (k_len K rfl) (by rfl) T.m_len (by decide +kernel) (pa_cons (pv 1) pa_nil)) pa_nil)) (pg_name (i := 3) sc_Reader_outcome.nd rfl (Or.inl rfl))
      (pss_cons (ps_asg (pe_c c_cut_of hr (by decide) (by rfl) (pa_cons (pv 1) (pa_cons (pe_fld (pv 0) rfl) (pa_cons (pv 3) pa_nil)))) (pg_tupK K 2 rfl rfl (pgs_cons (pg_name (i := 4) sc_Reader_outcome.nd rfl (Or.inl rfl)) (pgs_cons (pg_name (i := 5) sc_Reader_outcome.nd rfl (Or.inl rfl)) pgs_nil))))
    (pss_one (ps_if (pt_chain op_le op_lt (pv 4) (pe_op op_sub (pe_fld (pv 0) rfl) (pe_fld (pv 0) rfl)) (pv 5))
      (pss_cons (ps_fld (pv 0) (pe_op op_add (pe_fld (pv 0) rfl) (pv 4)) rfl)
    (pss_cons (ps_fld (pv 0) (pe_op op_sub (pv 5) (pv 4)) rfl)
    (pss_cons (ps_fld (pv 0) (pe_ix (k_ixT K rfl) (pv 2) (pv 3) (fun _ _ => rfl)) rfl)
    (pss_cons (ps_expr (pe_mt0 c_settle hr (by decide) (pv 0)))
    (pss_one (ps_ret (pv 3)))))))
      pss_nil))))
    (pss_one (ps_ret pe_non)))), ?_⟩
    obtain ⟨dx, hx⟩ := id r1
    obtain ⟨tm, xs, rfl, htm, hl, hd, hxs⟩ := hm.items
    have hw := m.w2
    have hw5 := m.w16
    obtain ⟨y, hy⟩ : ∃ y, xs[r.st]? = some y := ⟨xs[r.st]'(by have := I.st; omega), List.getElem?_eq_getElem (by have := I.st; omega)⟩
    obtain ⟨ts, yt, yf, rfl, hts, hyt, hyf⟩ := hxs r.st y hy
    have lf := m.lef _ I.st
    have lq := m.len _ I.st
    have fit := m.fit _ I.st
    have ps := m.pos _ I.st
    have lo := I.lo
    have n4 := m.n8
    have hq5 : 2 ^ (w' - 2) ≤ 2 ^ 3 := Nat.pow_le_pow_right (by decide) (by omega)
    have hq6 : 2 ^ w' ≤ 2 ^ 5 := Nat.pow_le_pow_right (by decide) (by omega)
    obtain ⟨o1, o2, o3⟩ := oc_spec m I hbits ins
    have hu : num b (w' + r.o.length) - r.A < r.s := by have := ins.1; have := ins.2; omega
    obtain ⟨u1, u2, u3⟩ := out_spec (m.pos _ I.st) hu
    have e0 : oc M w' b r = out (parts M r.st) r.s (num b (w' + r.o.length) - r.A) := rfl
    rw [← e0] at u1 u2 u3
    have hA := ins.1
    refine ⟨_, rfl, _, _, _, _, _, rfl, hx, T.cls, T.na_model, rl_model, _, rfl, _, _, _, _, _, rfl, hx, T.cls, T.na_state, rl_state, tm, xs, _, _, rfl, rfl, htm, atI_nat hy, ts, _, rfl, hts, rfl, _, _, rfl, _, _, rfl, rfl, ?_⟩
    obtain ⟨tt, zs, rfl, htt, hlz, hz⟩ := id hyt
    have hlz' : zs.length = (parts M r.st).length := hlz
    refine ⟨_, rfl, _, _, rfl, .inr htt, (zs.length : Int), rfl, by omega, by omega, for_range (lo := 0) (n := zs.length) (fun i σ H1 => ∃ a1 a2 a3 : Option V, σ = [some (.ref x), some (.ref tt), some yf, a1, a2, a3] ∧ Same H H1 ∧ i ≤ oc M w' b r) ⟨none, none, none, rfl, Same.refl H, Nat.zero_le _⟩ (fun i σ H1 hi h => ?_) (fun σ H1 h => ?_)⟩
    · rw [Int.zero_add]
      obtain ⟨a_, b', c_, rfl, s1, hio⟩ := h
      have hx1 := s1 _ _ hx
      refine ⟨_, rfl, _, rfl, _, _, _, _, _, rfl, hx1, T.cls, T.na_size, rl_size, _, rfl, .ref tt, parts M r.st, r.s, i, rfl, hyt.tk (Same.tk s1), ps, by omega, by omega, by omega, fun v2 H2 s2 hv2 => ?_⟩
      obtain ⟨t2, rfl, ht2⟩ := hv2.sq2
      have hx2 := s2 _ _ hx1
      refine ⟨t2, _, rfl, ht2, rfl, _, _, rfl, _, _, rfl, rfl, ?_⟩
      refine ⟨_, rfl, _, rfl, _, _, _, _, _, rfl, hx2, T.cls, T.na_value, rl_value, _, rfl, _, _, _, _, _, rfl, hx2, T.cls, T.na_low, rl_low, _, _, rfl, rfl, _, _, rfl, rfl, _, rfl, ?_⟩
      by_cases c1 : i = oc M w' b r
      · rw [← c1] at u2 u3
        refine iD (by omega) ⟨_, rfl, _, _, rfl, rfl, _, rfl, iD (by omega) ?_⟩
        rw [← c1] at o1 o2 k
        clear c1 hio e0 u1
        obtain ⟨g1, g2, g3⟩ := stp_stl m I o2
        refine ⟨_, rfl, _, _, _, _, _, rfl, hx2, T.cls, T.na_low, rl_low, _, rfl, _, _, rfl, rfl, _, rfl, _, _, _, _, rfl, hx2, T.cls, T.na_low, rf_len, ?_⟩
        rw [rf_low]
        refine ⟨_, rfl, _, rfl, _, _, rfl, rfl, _, rfl, _, _, _, _, rfl, upd_same, T.cls, T.na_size, rf_len, ?_⟩
        rw [rf_size, upd_upd]
        dsimp only
        have e5 : ((ca (parts M r.st) r.s (i + 1) : Nat) : Int) - (ca (parts M r.st) r.s i : Nat) = ((ca (parts M r.st) r.s (i + 1) - ca (parts M r.st) r.s i : Nat) : Int) := by omega
        have e6 : ((r.l : Nat) : Int) + (ca (parts M r.st) r.s i : Nat) = ((r.l + ca (parts M r.st) r.s i : Nat) : Int) := rfl
        rw [e5, e6]
        have s12 := s1.trans s2
        have f1 : Fx_ x H2 (upd H2 x (.ins (RC K) dx (rf (.ref tm) (.int w') vb (.int (w' + r.o.length : Nat)) (.int r.st) (.int (r.l + ca (parts M r.st) r.s i : Nat)) (.int (ca (parts M r.st) r.s (i + 1) - ca (parts M r.st) r.s i : Nat)) (.int v)))) := Fx_.put _ _ _
        have f0 := (Same.fx s12 (x := x)).trans f1
        have t0 := r1.tk f0
        refine ⟨_, rfl, _, rfl, q_ixN (hyf.tk ((Same.tk s12).trans (f1.tk hx2 rfl))) (by rw [lf, ← lq]; exact o1) ?_⟩
        refine ⟨_, rfl, _, _, _, _, rfl, upd_same, T.cls, T.na_state, rf_len, ?_⟩
        rw [rf_state, upd_upd]
        have f2 : Fx_ x H2 (upd H2 x (.ins (RC K) dx (rf (.ref tm) (.int w') vb (.int (w' + r.o.length : Nat)) (.int (fol M r.st i : Nat)) (.int (r.l + ca (parts M r.st) r.s i : Nat)) (.int (ca (parts M r.st) r.s (i + 1) - ca (parts M r.st) r.s i : Nat)) (.int v)))) := Fx_.put _ _ _
        have f3 := (Same.fx s12 (x := x)).trans f2
        have nv := vst_num (b := b) g3 (p := w' + r.o.length) (v := v) (A := r.A + ca (parts M r.st) r.s i) (by omega) (by omega)
        refine ⟨_, rfl, x, dx, _, rfl, upd_same, rl_settle, x, .ref tm, vb, w', w' + r.o.length, fol M r.st i, r.l + ca (parts M r.st) r.s i, ca (parts M r.st) r.s (i + 1) - ca (parts M r.st) r.s i, v, (stp M w' r i).l, (stp M w' r i).s, b, (qst M w' r i).1, rfl, ⟨dx, upd_same⟩, hb.tk (r1.tk f3), g3, by omega, by omega, by omega, fun H3 f4 r3 => ⟨_, rfl, ?_⟩⟩
        refine k H3 (f3.trans f4) ⟨vst w' b (qst M w' r i).1 (w' + r.o.length) v, ?_, ?_⟩
        · have : (stp M w' r i).o.length = r.o.length + (qst M w' r i).1.length := by show (r.o ++ (qst M w' r i).1).length = _; rw [List.length_append]
          rw [this, ← Nat.add_assoc]
          exact r3
        · have : (stp M w' r i).o.length = r.o.length + (qst M w' r i).1.length := by show (r.o ++ (qst M w' r i).1).length = _; rw [List.length_append]
          rw [this, ← Nat.add_assoc]
          exact nv.2
      · have hlt : i < oc M w' b r := by omega
        have hmono := ca_mono (parts M r.st) r.s (show i + 1 ≤ oc M w' b r by omega)
        refine iD (by have := ca_mono (parts M r.st) r.s (show i ≤ oc M w' b r by omega); omega) ⟨_, rfl, _, _, rfl, rfl, _, rfl, iDF (by omega) ?_⟩
        exact ⟨_, _, _, rfl, s1.trans s2, by omega⟩
    · obtain ⟨a_, b', c_, rfl, s1, hio⟩ := h
      omega
end
end K59

namespace K59
open PySem PySem.Spec PyProof.Rows L2
open C8 (Cal Met Mak pe_c pe_mk pe_mt pe_mt0 pe_gc)
section
variable {P : Program} {w : World} {K : PySem.W.Frag} {mg : Str → Option Value} {base : Heap}
theorem readW_snoc (M : Md) (w : Nat) (b : List Nat) : ∀ (i : Nat) (r : Rg), readW M w b (i + 1) r = readW M w b i r ++ [oc M w b (goes M w r (readW M w b i r))]
  | 0, r => rfl
  | i + 1, r => by
    rw [readW, readW_snoc M w b i (stp M w r (oc M w b r))]
    rfl
theorem RdR.upd {K : PySem.W.Frag} {H : Hp} {x D : Addr} {vm vb : V} {w : Nat} {b : List Nat} {r : Rg} {o : HO} (h : RdR K H x vm w vb b r) (n : x ≠ D) : RdR K (upd H D o) x vm w vb b r := by
  obtain ⟨v, ⟨dx, hx⟩, e⟩ := h
  exact ⟨v, ⟨dx, by rw [upd_ne n]; exact hx⟩, e⟩
theorem sc_raw_read : FnScope ["model", "w", "bits", "k", "reader", "step"] ["model", "w", "bits", "k"] (defScope s_raw_read) := ⟨rfl, rfl, rfl, by decide +kernel, rfl, by decide +kernel, by decide +kernel⟩
def sp_raw_read (K : PySem.W.Frag) : Sp := fun vs H Q _ => ∃ (u v : V) (M : Md) (n w k : Nat) (b : List Nat), vs = [u, .int w, v, .int k] ∧ Mod_ K H u M ∧ MOk M n w ∧ TupN K H v b ∧ Bits b ∧ k ≤ 8 ∧ Ret H (fun v H' => ∃ t, v = .ref t ∧ H' t = some (.tup (vN (readW M w b k (r0 w))))) Q
theorem c_raw_read (T : Fx K mg) (c_Reader : Mak P w K mg base 2 "Reader" (He.ga K "Reader") (sp_Reader___init__ K) []) (c_outcome : Met P w K mg base 6 (He.ga K "Reader") "outcome" (sp_Reader_outcome K) []) : Cal P w K mg base 7 "raw_read" (sp_raw_read K) [] := by
  refine T.cal 30 30 rfl rfl sc_raw_read (fun _ _ _ _ _ _ us hl => match us, hl with | [_, _, _, _], _ => rfl) (fun vs H Q E h => ?_) (fun cdv A outer s H vs Q E hr h => ?_)
  · obtain ⟨u, v, M, n, w', kk, b, rfl, hm, m, hb, hbits, hk, k⟩ := h
    rfl
  · obtain ⟨u, v, M, n, w', kk, b, rfl, hm, m, hb, hbits, hk, k⟩ := h
    have hu := hu_of hr
    refine ⟨_, (pss_cons (ps_set (i := 4) sc_raw_read.nd rfl (Or.inr rfl) (pe_mk c_Reader hr (by decide) (by rfl) (pa_cons (pv 0) (pa_cons (pv 1) (pa_cons (pv 2) pa_nil)))))
    (pss_one (ps_ret (pe_callTy (k_tuple K rfl) (by rfl) T.m_tuple (by decide +kernel) (pa_cons (pe_lc (own := [("step", 5)]) rfl sc_raw_read.nd (pi_range1 (by rfl) T.m_range (pa_cons (pv 3) pa_nil)) (blkOk_by (own := [("step", 5)]) (N := ["model", "w", "bits", "k", "reader", "step"]) (sc := defScope s_raw_read) (by decide +kernel)) (fun _ _ _ _ _ => (pg_name (i := 5) sc_raw_read.nd rfl (Or.inl rfl) (Or.inr rfl))) (fun _ _ _ _ _ => pts_nil) (fun _ _ _ _ _ => (pe_mt0 c_outcome hr (by decide) (pv 4)))) pa_nil))))), ?_⟩
    have hw := m.w2
    have hw5 := m.w16
    refine ⟨_, rfl, _, rfl, _, rfl, fun x dx nx ndx ne => ?_⟩
    have s0 : Same H (upd (upd H dx (.own x)) x (.ins (RC K) dx [])) := (Same.new ndx).trans (Same.new (by rw [upd_ne ne.symm]; exact nx))
    refine ⟨x, dx, u, v, w', b, rfl, upd_same, hb.tk (Same.tk s0), by omega, fun H1 f1 r1 => ⟨rfl, ?_⟩⟩
    have s1 : Same H H1 := fun c o h => f1 c o (ne_of_none h nx) (s0 c o h)
    have rr0 : RdR K H1 x u w' v b (r0 w') := ⟨num b w', r1, rfl⟩
    have I0 := RI.zero m
    have ins0 : Ins w' b (r0 w') := ins_zero hbits
    refine ⟨_, rfl, (kk : Int), rfl, by omega, by omega, fun D hD => ?_⟩
    have hDx : x ≠ D := by obtain ⟨d1, g1⟩ := r1; exact ne_of_none g1 hD
    have hHD : H D = none := s1.free hD
    refine lc_range (lo := 0) (n := kk) (fun i H2 => Same H H2 ∧ RdR K H2 x u w' v b (goes M w' (r0 w') (readW M w' b i (r0 w'))) ∧ H2 D = some (.lst (vN (readW M w' b i (r0 w'))))) ⟨Same.upd s1 hHD, rr0.upd hDx, upd_same⟩ (fun i H2 hi ⟨s2, rr, hl⟩ => ?_) (fun H2 ⟨s2, rr, hl⟩ => ?_)
    · obtain ⟨vr, insr⟩ := readW_ok m hbits i (r0 w') I0 ins0
      have Ir := RI.goes m I0 vr
      obtain ⟨vv, ⟨d1, g1⟩, ee⟩ := id rr
      refine ⟨rfl, _, rfl, x, d1, _, rfl, g1, rl_outcome, x, u, v, M, n, w', b, _, rfl, rr, hm.tk (Same.tk s2), m, hb.tk (Same.tk s2), hbits, Ir, insr, fun H3 f3 rr3 => ?_⟩
      refine ⟨_, f3 D _ hDx.symm hl, szl_ (by rw [vN_len, readW_len]; omega), ?_, ?_, ?_⟩
      · exact Same.upd (fun c o h => f3 c o (ne_of_none h nx) (s2 c o h)) hHD
      · rw [readW_snoc, goes_app]
        exact rr3.upd hDx
      · rw [upd_same, readW_snoc]; simp [vN]
    · exact ⟨D, _, rfl, SqL.of hl, fun l hl' => k _ _ (s2.trans (Same.new hl')) ⟨l, rfl, upd_same⟩⟩
theorem sc_need_width : FnScope ["model", "w"] ["model", "w"] (defScope s_need_width) := ⟨rfl, rfl, rfl, by decide +kernel, rfl, by decide +kernel, by decide +kernel⟩
def sp_need_width (K : PySem.W.Frag) : Sp := fun vs H Q _ => ∃ (v : V) (M : Md) (n w : Nat), vs = [v, .int w] ∧ Mod_ K H v M ∧ MOk M n w ∧ ∀ H', Same H H' → Q .non H'
theorem c_need_width (T : Fx K mg) (c_does_fit : Cal P w K mg base 1 "does_fit" (sp_does_fit K) []) (c_is_between : Cal P w K mg base 2 "is_between" (sp_is_between K) []) (c_need_model : Cal P w K mg base 8 "need_model" (sp_need_model K) []) : Cal P w K mg base 9 "need_width" (sp_need_width K) [] := by
  refine T.cal 31 31 rfl rfl sc_need_width (fun _ _ _ _ _ _ us hl => match us, hl with | [_, _], _ => rfl) (fun vs H Q E h => ?_) (fun cdv A outer s H vs Q E hr h => ?_)
  · obtain ⟨v, M, n, w', rfl, hm, m, k⟩ := h
    rfl
  · obtain ⟨v, M, n, w', rfl, hm, m, k⟩ := h
    have hu := hu_of hr
    refine ⟨_, (pss_cons (ps_expr (pe_c c_need_model hr (by decide) (by rfl) (pa_cons (pv 0) pa_nil)))
    (pss_one (ps_if (PW.pt (pw_or (pt_not (pt_val (pe_c c_is_between hr (by decide) (by rfl) (pa_cons (pv 1) (pa_cons (pe_gc (by rfl) T.g_LEAST_WIDTH) (pa_cons (pe_gc (by rfl) T.g_MOST_WIDTH) pa_nil)))))) (pw_or1 (pt_not (pt_val (pe_c c_does_fit hr (by decide) (by rfl) (pa_cons (pv 0) (pa_cons (pv 1) pa_nil))))))))
      (pss_one ps_never)
      pss_nil))), ?_⟩
    have hw := m.w2
    have hw5 := m.w16
    refine ⟨_, rfl, v, M, n, w', rfl, hm, m, fun H1 s1 => ?_⟩
    refine ⟨_, rfl, _, _, _, rfl, by omega, by omega, true, rfl, ?_⟩
    exact ⟨_, rfl, _, rfl, v, M, n, w', rfl, hm.tk (Same.tk s1), m, true, rfl, k H1 s1⟩
theorem sc_written : FnScope ["model", "w", "way"] ["model", "w", "way"] (defScope s_written) := ⟨rfl, rfl, rfl, by decide +kernel, rfl, by decide +kernel, by decide +kernel⟩
def sp_written (K : PySem.W.Frag) : Sp := fun vs H Q _ => ∃ (u v : V) (M : Md) (n w : Nat) (p : List Nat), vs = [u, .int w, v] ∧ Mod_ K H u M ∧ MOk M n w ∧ TupN K H v p ∧ VW M 0 p ∧ p.length ≤ 8 ∧ Ret H (fun v H' => TupN K H' v (wri M w p)) Q
theorem c_written (T : Fx K mg) (c_need_way : Cal P w K mg base 4 "need_way" (sp_need_way K) []) (c_need_width : Cal P w K mg base 9 "need_width" (sp_need_width K) []) (c_raw_written : Cal P w K mg base 8 "raw_written" (sp_raw_written K) []) : Cal P w K mg base 10 "written" (sp_written K) [] := by
  refine T.cal 32 32 rfl rfl sc_written (fun _ _ _ _ _ _ us hl => match us, hl with | [_, _, _], _ => rfl) (fun vs H Q E h => ?_) (fun cdv A outer s H vs Q E hr h => ?_)
  · obtain ⟨u, v, M, n, w', p, rfl, hm, m, hv, vw, hp, k⟩ := h
    rfl
  · obtain ⟨u, v, M, n, w', p, rfl, hm, m, hv, vw, hp, k⟩ := h
    have hu := hu_of hr
    refine ⟨_, (pss_cons (ps_expr (pe_c c_need_width hr (by decide) (by rfl) (pa_cons (pv 0) (pa_cons (pv 1) pa_nil))))
    (pss_cons (ps_expr (pe_c c_need_way hr (by decide) (by rfl) (pa_cons (pv 0) (pa_cons (pv 2) pa_nil))))
    (pss_one (ps_ret (pe_c c_raw_written hr (by decide) (by rfl) (pa_cons (pv 0) (pa_cons (pv 1) (pa_cons (pv 2) pa_nil)))))))), ?_⟩
    refine ⟨_, rfl, _, rfl, u, M, n, w', rfl, hm, m, fun H1 s1 => ?_⟩
    refine ⟨_, rfl, _, rfl, u, v, M, n, w', p, rfl, hm.tk (Same.tk s1), m, hv.tk (Same.tk s1), vw, fun H2 s2 => ?_⟩
    have t := Same.tk (s1.trans s2)
    exact ⟨_, rfl, _, rfl, _, rfl, u, v, M, n, w', p, rfl, hm.tk t, m, hv.tk t, vw, hp, fun v3 H3 s3 h3 => k v3 H3 ((s1.trans s2).trans s3) h3⟩
theorem sc_real_chance : FnScope ["model", "w", "way"] ["model", "w", "way"] (defScope s_real_chance) := ⟨rfl, rfl, rfl, by decide +kernel, rfl, by decide +kernel, by decide +kernel⟩
def sp_real_chance (K : PySem.W.Frag) : Sp := fun vs H Q _ => ∃ (u v : V) (M : Md) (n w : Nat) (p : List Nat), vs = [u, .int w, v] ∧ Mod_ K H u M ∧ MOk M n w ∧ TupN K H v p ∧ VW M 0 p ∧ p.length ≤ 4 ∧ Ret H (fun v H' => TupN K H' v [rt (topW M w (r0 w) p) (botW M w (r0 w) p), rb (topW M w (r0 w) p) (botW M w (r0 w) p)]) Q
theorem c_real_chance (T : Fx K mg) (c_need_way : Cal P w K mg base 4 "need_way" (sp_need_way K) []) (c_need_width : Cal P w K mg base 9 "need_width" (sp_need_width K) []) (c_raw_real_chance : Cal P w K mg base 7 "raw_real_chance" (sp_raw_real_chance K) []) : Cal P w K mg base 10 "real_chance" (sp_real_chance K) [] := by
  refine T.cal 33 33 rfl rfl sc_real_chance (fun _ _ _ _ _ _ us hl => match us, hl with | [_, _, _], _ => rfl) (fun vs H Q E h => ?_) (fun cdv A outer s H vs Q E hr h => ?_)
  · obtain ⟨u, v, M, n, w', p, rfl, hm, m, hv, vw, hp, k⟩ := h
    rfl
  · obtain ⟨u, v, M, n, w', p, rfl, hm, m, hv, vw, hp, k⟩ := h
    have hu := hu_of hr
    refine ⟨_, (pss_cons (ps_expr (pe_c c_need_width hr (by decide) (by rfl) (pa_cons (pv 0) (pa_cons (pv 1) pa_nil))))
    (pss_cons (ps_expr (pe_c c_need_way hr (by decide) (by rfl) (pa_cons (pv 0) (pa_cons (pv 2) pa_nil))))
    (pss_one (ps_ret (pe_c c_raw_real_chance hr (by decide) (by rfl) (pa_cons (pv 0) (pa_cons (pv 1) (pa_cons (pv 2) pa_nil)))))))), ?_⟩
    refine ⟨_, rfl, _, rfl, u, M, n, w', rfl, hm, m, fun H1 s1 => ?_⟩
    refine ⟨_, rfl, _, rfl, u, v, M, n, w', p, rfl, hm.tk (Same.tk s1), m, hv.tk (Same.tk s1), vw, fun H2 s2 => ?_⟩
    have t := Same.tk (s1.trans s2)
    exact ⟨_, rfl, _, rfl, _, rfl, u, v, M, n, w', p, rfl, hm.tk t, m, hv.tk t, vw, hp, fun v3 H3 s3 h3 => k v3 H3 ((s1.trans s2).trans s3) h3⟩
theorem sc_way_read : FnScope ["model", "w", "bits", "k"] ["model", "w", "bits", "k"] (defScope s_way_read) := ⟨rfl, rfl, rfl, by decide +kernel, rfl, by decide +kernel, by decide +kernel⟩
def sp_way_read (K : PySem.W.Frag) : Sp := fun vs H Q _ => ∃ (u v : V) (M : Md) (n w k : Nat) (b : List Nat), vs = [u, .int w, v, .int k] ∧ Mod_ K H u M ∧ MOk M n w ∧ TupN K H v b ∧ Bits b ∧ b.length ≤ 1000 ∧ k ≤ 8 ∧ Ret H (fun v H' => ∃ t, v = .ref t ∧ H' t = some (.tup (vN (readW M w b k (r0 w))))) Q
theorem c_way_read (T : Fx K mg) (c_need_bits : Cal P w K mg base 5 "need_bits" (sp_need_bits K) []) (c_need_count : Cal P w K mg base 3 "need_count" (sp_need_count K) []) (c_need_width : Cal P w K mg base 9 "need_width" (sp_need_width K) []) (c_raw_read : Cal P w K mg base 7 "raw_read" (sp_raw_read K) []) : Cal P w K mg base 10 "way_read" (sp_way_read K) [] := by
  refine T.cal 34 34 rfl rfl sc_way_read (fun _ _ _ _ _ _ us hl => match us, hl with | [_, _, _, _], _ => rfl) (fun vs H Q E h => ?_) (fun cdv A outer s H vs Q E hr h => ?_)
  · obtain ⟨u, v, M, n, w', kk, b, rfl, hm, m, hb, hbits, hbl, hk, k⟩ := h
    rfl
  · obtain ⟨u, v, M, n, w', kk, b, rfl, hm, m, hb, hbits, hbl, hk, k⟩ := h
    have hu := hu_of hr
    refine ⟨_, (pss_cons (ps_expr (pe_c c_need_width hr (by decide) (by rfl) (pa_cons (pv 0) (pa_cons (pv 1) pa_nil))))
    (pss_cons (ps_expr (pe_c c_need_bits hr (by decide) (by rfl) (pa_cons (pv 2) pa_nil)))
    (pss_cons (ps_expr (pe_c c_need_count hr (by decide) (by rfl) (pa_cons (pv 3) pa_nil)))
    (pss_one (ps_ret (pe_c c_raw_read hr (by decide) (by rfl) (pa_cons (pv 0) (pa_cons (pv 1) (pa_cons (pv 2) (pa_cons (pv 3) pa_nil)))))))))), ?_⟩
    refine ⟨_, rfl, _, rfl, u, M, n, w', rfl, hm, m, fun H1 s1 => ?_⟩
    refine ⟨_, rfl, v, _, rfl, hb.tk (Same.tk s1), fun z hz => ?_, by rw [List.length_map]; exact hbl, fun H2 s2 => ?_⟩
    · obtain ⟨y, hy, rfl⟩ := List.mem_map.mp hz
      have := hbits y hy
      omega
    have t := Same.tk (s1.trans s2)
    refine ⟨_, rfl, _, rfl, by omega, ?_⟩
    exact ⟨_, rfl, _, rfl, _, rfl, _, rfl, u, v, M, n, w', kk, b, rfl, hm.tk t, m, hb.tk t, hbits, hk, fun v3 H3 s3 h3 => k v3 H3 ((s1.trans s2).trans s3) h3⟩
theorem sc_is_way : FnScope ["model", "thing"] ["model", "thing"] (defScope s_is_way) := ⟨rfl, rfl, rfl, by decide +kernel, rfl, by decide +kernel, by decide +kernel⟩
def sp_is_way (K : PySem.W.Frag) : Sp := fun vs H Q _ => ∃ (u v : V) (M : Md) (n w : Nat) (p : List Nat), vs = [u, v] ∧ Mod_ K H u M ∧ MOk M n w ∧ TupN K H v p ∧ VW M 0 p ∧ ∀ H', Same H H' → Q (.bl true) H'
theorem c_is_way (T : Fx K mg) (c_is_way_value : Cal P w K mg base 3 "is_way_value" (sp_is_way_value K) []) (c_need_model : Cal P w K mg base 8 "need_model" (sp_need_model K) []) : Cal P w K mg base 9 "is_way" (sp_is_way K) [] := by
  refine T.cal 35 35 rfl rfl sc_is_way (fun _ _ _ _ _ _ us hl => match us, hl with | [_, _], _ => rfl) (fun vs H Q E h => ?_) (fun cdv A outer s H vs Q E hr h => ?_)
  · obtain ⟨u, v, M, n, w', p, rfl, hm, m, hv, vw, k⟩ := h
    rfl
  · obtain ⟨u, v, M, n, w', p, rfl, hm, m, hv, vw, k⟩ := h
    have hu := hu_of hr
    refine ⟨_, (pss_cons (ps_expr (pe_c c_need_model hr (by decide) (by rfl) (pa_cons (pv 0) pa_nil)))
    (pss_one (ps_ret (pe_c c_is_way_value hr (by decide) (by rfl) (pa_cons (pv 0) (pa_cons (pv 1) pa_nil)))))), ?_⟩
    refine ⟨_, rfl, u, M, n, w', rfl, hm, m, fun H1 s1 => ?_⟩
    exact ⟨_, rfl, _, rfl, u, v, M, n, w', p, rfl, hm.tk (Same.tk s1), m, hv.tk (Same.tk s1), vw, fun H2 s2 => k H2 (s1.trans s2)⟩
end
end K59

namespace K59
open PySem PySem.Spec PyProof.Rows L2
open C8 (Cal Met Mak pe_c pe_mk pe_mt pe_mt0 pe_gc)
section
variable {P : Program} {w : World} {K : PySem.W.Frag} {mg : Str → Option Value} {base : Heap}
theorem sc__law_common : FnScope ["_law_one", "_law_other", "_law_go"] ["_law_one", "_law_other"] (defScope s__law_common) := ⟨rfl, rfl, rfl, by decide +kernel, rfl, by decide +kernel, by decide +kernel⟩
def sp__law_common (K : PySem.W.Frag) : Sp := fun vs H Q _ => ∃ a b : Nat, vs = [.int a, .int b] ∧ b < 2 ^ 40 ∧ Q (.int (Nat.gcd a b : Nat)) H
theorem c__law_common (T : Fx K mg)  : Cal P w K mg base 1 "_law_common" (sp__law_common K) [] := by
  refine T.cal 39 39 rfl rfl sc__law_common (fun _ _ _ _ _ _ us hl => match us, hl with | [_, _], _ => rfl) (fun vs H Q E h => ?_) (fun cdv A outer s H vs Q E hr h => ?_)
  · obtain ⟨a, b, rfl, hb, k⟩ := h
    rfl
  · obtain ⟨a, b, rfl, hb, k⟩ := h
    have hu := hu_of hr
    refine ⟨_, (pss_cons (ps_for PassesOwn.never rfl (pi_range1 (by rfl) T.m_range (pa_cons pe_int pa_nil)) (pg_name (i := 2) sc__law_common.nd rfl (Or.inl rfl))
      (pss_cons (ps_if (pt_cmpR op_eq (pv 1) pe_int (nomark _))
      (pss_one ps_break)
      pss_nil)
    (pss_one (ps_par (i := 0) (j := 1) (by rfl) sc__law_common.nd rfl rfl (by decide) rfl rfl (pa_cons (pv 1) (pa_cons (pe_op op_mod (pe_callTy call_int1 (by rfl) T.m_int (by decide +kernel) (pa_cons (pv 0) pa_nil)) (pv 1)) pa_nil)) (by rfl)))))
    (pss_one (ps_ret (pv 0)))), ?_⟩
    refine ⟨3000, rfl, by decide, by decide, for_range (lo := 0) (n := 3000) (fun i σ H1 => ∃ (x y : Nat) (u : Option V), σ = [some (.int x), some (.int y), u] ∧ H1 = H ∧ gcdI (3000 - i) x y = Nat.gcd a b) ⟨a, b, none, rfl, rfl, gcdI_eq 40 3000 a b hb (by decide)⟩ (fun i σ H1 hi h => ?_) (fun σ H1 h => ?_)⟩
    · obtain ⟨x, y, u, rfl, rfl, e⟩ := h
      obtain ⟨f, hf⟩ : ∃ f, 3000 - i = f + 1 := ⟨3000 - i - 1, by omega⟩
      rw [hf, gcdI] at e
      refine ⟨_, rfl, rfl, _, rfl, ?_⟩
      by_cases hy : y = 0
      · rw [if_pos hy] at e
        subst hy
        refine iD rfl ⟨_, rfl, ?_⟩
        rw [e]
        exact k
      · rw [if_neg hy] at e
        refine iDF (fun z => hy (by injection z; omega)) ⟨_, rfl, _, rfl, .inl ⟨x, rfl, _, rfl, _, _, rfl, rfl, (by show (0 : Int) < (y : Int); omega), _, _, rfl, y, x % y, _, rfl, rfl, ?_⟩⟩
        rw [show 3000 - (i + 1) = f by omega]
        exact e
    · obtain ⟨x, y, u, rfl, rfl, e⟩ := h
      refine ⟨_, rfl, ?_⟩
      rw [Nat.sub_self, gcdI] at e
      rw [e]
      exact k
theorem sc__law_fraction : FnScope ["_law_top", "_law_bottom", "_law_whole"] ["_law_top", "_law_bottom"] (defScope s__law_fraction) := ⟨rfl, rfl, rfl, by decide +kernel, rfl, by decide +kernel, by decide +kernel⟩
def sp__law_fraction (K : PySem.W.Frag) : Sp := fun vs H Q _ => ∃ a b : Nat, vs = [.int a, .int b] ∧ 0 < b ∧ b < 1073741824 ∧ Ret H (fun v H' => TupN K H' v [rt a b, rb a b]) Q
theorem c__law_fraction (T : Fx K mg) (c__law_common : Cal P w K mg base 1 "_law_common" (sp__law_common K) []) : Cal P w K mg base 2 "_law_fraction" (sp__law_fraction K) [] := by
  refine T.cal 40 40 rfl rfl sc__law_fraction (fun _ _ _ _ _ _ us hl => match us, hl with | [_, _], _ => rfl) (fun vs H Q E h => ?_) (fun cdv A outer s H vs Q E hr h => ?_)
  · obtain ⟨a, b, rfl, h1, h2, k⟩ := h
    rfl
  · obtain ⟨a, b, rfl, h1, h2, k⟩ := h
    have hu := hu_of hr
    refine ⟨_, (pss_cons (ps_set (i := 2) sc__law_fraction.nd rfl (Or.inl rfl) (pe_c c__law_common hr (by decide) (by rfl) (pa_cons (pe_callB call_abs (by rfl) T.m_abs (by decide +kernel) (pa_cons (pv 0) pa_nil)) (pa_cons (pv 1) pa_nil))))
    (pss_one (ps_ret (pe_tup (pa_cons (pe_op op_fdiv (pv 0) (pv 2)) (pa_cons (pe_op op_fdiv (pv 1) (pv 2)) pa_nil)))))), ?_⟩
    have e0 : (if (a : Int) < 0 then -(a : Int) else a) = (a : Int) := if_neg (by omega)
    have g1 := gcd_pos (a := a) h1
    have g2 : Nat.gcd a b ≤ b := Nat.le_of_dvd h1 (Nat.gcd_dvd_right a b)
    refine ⟨_, rfl, _, rfl, _, rfl, a, b, by rw [e0]; rfl, by omega, ?_⟩
    refine ⟨_, rfl, _, rfl, _, _, rfl, rfl, cd g1 (by omega), _, rfl, _, rfl, _, _, rfl, rfl, cd g1 (by omega), (show 2 ≤ sizeLine by decide), fun p hp => ?_⟩
    exact k _ _ (Same.new hp) ⟨p, rfl, SqT.of upd_same⟩
theorem q_catT {K : PySem.W.Frag} {H : Hp} {Q : VK} {a b : Addr} {xs ys : List V} (h1 : SqT K H a xs) (h2 : SqT K H b ys) (hl : xs.length + ys.length ≤ 100000) (k : ∀ t H', Same H H' → SqT K H' t (xs ++ ys) → Q (.ref t) H') : rCatA K (.ref a) (.ref b) H Q := by
  refine ⟨a, b, xs, ys, rfl, rfl, h1, h2, sz_ hl, fun e => ?_, fun _ e => ?_, fun _ _ p hp => ?_⟩
  · subst e; exact k b H (Same.refl H) h2
  · subst e; exact k a H (Same.refl H) (by rw [List.append_nil]; exact h1)
  · exact k p _ (Same.new hp) (SqT.of upd_same)
theorem q_repT {K : PySem.W.Frag} {H : Hp} {Q : VK} {a : Addr} {v : V} {t : Nat} (h1 : SqT K H a [v]) (ht : t ≤ 1000) (k : ∀ r H', Same H H' → SqT K H' r (List.replicate t v) → Q (.ref r) H') : rRepA K (.ref a) (.int (t : Int)) H Q := by
  refine ⟨a, t, [v], rfl, rfl, h1, by simp, by omega, by omega, by simp, fun e => ?_, fun _ p hp => ?_⟩
  · obtain rfl : t = 1 := by omega
    exact k a H (Same.refl H) h1
  · refine k p _ (Same.new hp) (SqT.of ?_)
    rw [upd_same, Int.toNat_natCast]
    congr 2
    induction t with
    | zero => rfl
    | succ t ih => simp [List.replicate_succ]
theorem q_emitT {K : PySem.W.Frag} {σ : L2.St} {H : Hp} {Q : VK} {i j : Nat} {c d : Int} {q : Addr} {xs : List V} {t : Nat} (hb : σ[i]? = some (some (.ref q))) (hw : σ[j]? = some (some (.int (t : Int)))) (hq : SqT K H q xs) (hl : xs.length + 1 + t ≤ 1000)
    (k : ∀ p H' ys, Same H H' → SqT K H' p ys → ys.length = xs.length + 1 + t → Q (.ref p) H') :
    tOp (rCatA K) (tOp (rCatA K) (tVar i) (tTup (tCons (tC (.int c)) tNil))) (tOp (rRepA K) (tTup (tCons (tC (.int d)) tNil)) (tVar j)) σ H Q := by
  refine ⟨_, hb, (show 1 ≤ sizeLine by decide), fun p1 h1 => q_catT (ys := [V.int c]) ((Same.tk (Same.new h1)).sq hq) (SqT.of upd_same) (by simp; omega) fun p2 H2 s2 h2 => ?_⟩
  refine ⟨(show 1 ≤ sizeLine by decide), fun p3 h3 => ⟨_, hw, q_repT (SqT.of upd_same) (by omega) fun p4 H4 s4 h4 => ?_⟩⟩
  have s : Same H2 H4 := (Same.new h3).trans s4
  refine q_catT ((Same.tk s).sq h2) h4 (by simp; omega) fun p5 H5 s5 h5 => k p5 H5 _ (((Same.new h1).trans s2).trans (s.trans s5)) h5 (by simp; omega)
theorem sc__law_widened : FnScope ["_law_w", "_law_low", "_law_size", "_law_waiting", "_law_bits", "_law_half", "_law_quarter", "_law_go"] ["_law_w", "_law_low", "_law_size", "_law_waiting", "_law_bits"] (defScope s__law_widened) := ⟨rfl, rfl, rfl, by decide +kernel, rfl, by decide +kernel, by decide +kernel⟩
def sp__law_widened (K : PySem.W.Frag) : Sp := fun vs H Q _ => ∃ (w l s t l' s' : Nat) (o : List Nat) (tb : Addr) (xs : List V), vs = [.int w, .int l, .int s, .int t, .ref tb] ∧ Stl w l s o l' s' ∧ o.length ≤ 98 ∧ 2 ≤ w ∧ w ≤ 20 ∧ SqT K H tb xs ∧ xs.length + t ≤ 100 ∧ Ret H (fun v H' => ∃ p x y t', v = .ref p ∧ SqT K H' p [x, y] ∧ TupN K H' x [l', s', t']) Q
theorem c__law_widened (T : Fx K mg)  : Cal P w K mg base 1 "_law_widened" (sp__law_widened K) [] := by
  refine T.cal 44 44 rfl rfl sc__law_widened (fun _ _ _ _ _ _ us hl => match us, hl with | [_, _, _, _, _], _ => rfl) (fun vs H Q E h => ?_) (fun cdv A outer s H vs Q E hr h => ?_)
  · obtain ⟨w', l, s, t, l', s', o, tb, xs, rfl, st, ho, hw, hw2, htb, hxs, k⟩ := h
    rfl
  · obtain ⟨w', l, s, t, l', s', o, tb, xs, rfl, st, ho, hw, hw2, htb, hxs, k⟩ := h
    have hu := hu_of hr
    refine ⟨_, (pss_cons (ps_par (i := 5) (j := 6) (by rfl) sc__law_widened.nd rfl rfl (by decide) rfl rfl (pa_cons (pe_op op_shl pe_int (pe_op op_sub (pv 0) pe_int)) (pa_cons (pe_op op_shl pe_int (pe_op op_sub (pv 0) pe_int)) pa_nil)) (by rfl))
    (pss_cons (ps_for PassesOwn.never rfl (pi_range1 (by rfl) T.m_range (pa_cons pe_int pa_nil)) (pg_name (i := 7) sc__law_widened.nd rfl (Or.inl rfl))
      (pss_cons (ps_if (pt_cmpR op_le (pe_op op_add (pv 1) (pv 2)) (pv 5) (nomark _))
      (pss_one (ps_par3 (i := 4) (j := 3) (l := 1) (by rfl) sc__law_widened.nd rfl rfl rfl (by decide) (by decide) (by decide) rfl rfl rfl (pa_cons (pe_op (k_cat K rfl) (pe_op (k_cat K rfl) (pv 4) (pe_tup (pa_cons pe_int pa_nil))) (pe_op (k_rep K rfl) (pe_tup (pa_cons pe_int pa_nil)) (pv 3))) (pa_cons pe_int (pa_cons (pe_op op_mul pe_int (pv 1)) pa_nil))) (by rfl)))
      (pss_one (ps_if (pt_cmpR op_ge (pv 1) (pv 5) (nomark _))
      (pss_one (ps_par3 (i := 4) (j := 3) (l := 1) (by rfl) sc__law_widened.nd rfl rfl rfl (by decide) (by decide) (by decide) rfl rfl rfl (pa_cons (pe_op (k_cat K rfl) (pe_op (k_cat K rfl) (pv 4) (pe_tup (pa_cons pe_int pa_nil))) (pe_op (k_rep K rfl) (pe_tup (pa_cons pe_int pa_nil)) (pv 3))) (pa_cons pe_int (pa_cons (pe_op op_mul pe_int (pe_op op_sub (pv 1) (pv 5))) pa_nil))) (by rfl)))
      (pss_one (ps_if (PW.pt (pw_and (pt_cmpR op_ge (pv 1) (pv 6) (nomark _)) (pw_and1 (pt_cmpR op_le (pe_op op_add (pv 1) (pv 2)) (pe_op op_add (pv 5) (pv 6)) (nomark _)))))
      (pss_one (ps_par (i := 3) (j := 1) (by rfl) sc__law_widened.nd rfl rfl (by decide) rfl rfl (pa_cons (pe_op op_add (pv 3) pe_int) (pa_cons (pe_op op_mul pe_int (pe_op op_sub (pv 1) (pv 6))) pa_nil)) (by rfl)))
      (pss_one ps_break))))))
    (pss_one (ps_set (i := 2) sc__law_widened.nd rfl (Or.inl rfl) (pe_op op_mul pe_int (pv 2))))))
    (pss_one (ps_ret (pe_tup (pa_cons (pe_tup (pa_cons (pv 1) (pa_cons (pv 2) (pa_cons (pv 3) pa_nil)))) (pa_cons (pv 4) pa_nil))))))), ?_⟩
    refine ⟨_, rfl, _, _, rfl, rfl, _, _, rfl, rfl, cp1 (by omega) (by omega), _, rfl, _, _, rfl, rfl, _, _, rfl, rfl, cp2 (by omega) (by omega), _, _, rfl, ?_⟩
    have fin : ∀ (D : Ends) (H1 : Hp) (t : Nat) (tb : Addr) (a b c : Option V), D.rt = Q → Same H H1 → tRet (tTup (tCons (tTup (tCons (tVar 1) (tCons (tVar 2) (tCons (tVar 3) tNil)))) (tCons (tVar 4) tNil))) D
        [some (.int w'), some (.int l'), some (.int s'), some (.int t), some (.ref tb), a, b, c] H1 := by
      rintro D H1 t tb a b c rfl s1
      refine ⟨_, rfl, _, rfl, _, rfl, (show 3 ≤ sizeLine by decide), fun p1 h1 => ⟨_, rfl, (show 2 ≤ sizeLine by decide), fun p2 h2 => ?_⟩⟩
      refine k _ _ (s1.trans ((Same.new h1).trans (Same.new h2))) ⟨p2, .ref p1, _, t, rfl, SqT.of upd_same, ⟨p1, rfl, SqT.of ?_⟩⟩
      rw [upd_ne (ne_of_none upd_same h2), upd_same]
      rfl
    refine ⟨99, rfl, by decide, by decide, for_range (lo := 0) (n := 99) (fun i σ H1 => ∃ (l s t : Nat) (o2 : List Nat) (tb : Addr) (xs : List V) (u : Option V), σ = [some (.int w'), some (.int l), some (.int s), some (.int t), some (.ref tb), some (.int ((2 ^ (w' - 1) : Nat) : Int)), some (.int ((2 ^ (w' - 2) : Nat) : Int)), u] ∧
      Same H H1 ∧ Stl w' l s o2 l' s' ∧ o2.length + i ≤ 98 ∧ SqT K H1 tb xs ∧ xs.length + t ≤ 100 + i) ⟨l, s, t, o, tb, xs, none, ?_, Same.refl H, st, ho, htb, hxs⟩ (fun i σ H1 hi h => ?_) (fun σ H1 h => ?_)⟩
    · show [some (V.int w'), some (V.int l), some (V.int s), some (V.int t), some (V.ref tb), some (V.int ((1 : Int) * 2 ^ ((w' : Int) - 1).toNat)), some (V.int ((1 : Int) * 2 ^ ((w' : Int) - 2).toNat)), none] = _
      rw [shl1 (by omega), shl2 hw]
    · clear st ho htb hxs xs tb o t s l
      obtain ⟨l, s, t, o2, tb, xs, u, rfl, s1, st, ho, htb, hxs⟩ := h
      refine ⟨_, rfl, _, rfl, _, _, rfl, rfl, _, rfl, _, _, rfl, rfl, _, rfl, ?_⟩
      cases st with
      | @zero _ _ _ _ o3 c1 st =>
        rw [List.length_cons] at ho
        refine iD (by omega) (q_par3 (q_cons (q_emitT (K := K) (t := t) rfl rfl htb (by omega) fun p H2 ys s2 hp hl2 => ⟨_, rfl, _, _, rfl, rfl, .inl ⟨by decide, by decide⟩, _, _, _, rfl, ?_⟩)))
        refine ⟨_, rfl, _, _, rfl, rfl, .inl ⟨by decide, by decide⟩, ?_⟩
        exact ⟨2 * l, 2 * s, 0, o3, p, ys, _, rfl, s1.trans s2, st, by omega, hp, by omega⟩
      | @one _ _ _ _ o3 c1 c2 st =>
        rw [List.length_cons] at ho
        refine iDF (by omega) ⟨_, rfl, _, rfl, _, _, rfl, rfl, _, rfl, iD (by omega) (q_par3 (q_cons (q_emitT (K := K) (t := t) rfl rfl htb (by omega) fun p H2 ys s2 hp hl2 => ⟨_, rfl, _, rfl, _, _, rfl, rfl, _, _, rfl, rfl, .inl ⟨by decide, by decide⟩, _, _, _, rfl, ?_⟩)))⟩
        refine ⟨_, rfl, _, _, rfl, rfl, .inl ⟨by decide, by decide⟩, ?_⟩
        refine ⟨2 * (l - 2 ^ (w' - 1)), 2 * s, 0, o3, p, ys, some (.int (0 + (i : Int))), ?_, s1.trans s2, st, by omega, hp, by omega⟩
        show [some (V.int w'), some (V.int ((2 : Int) * ((l : Int) - ((2 ^ (w' - 1) : Nat) : Int)))), some (V.int (2 * s : Nat)), some (V.int (0 : Nat)), some (V.ref p), _, _, _] = _
        rw [show (2 : Int) * ((l : Int) - ((2 ^ (w' - 1) : Nat) : Int)) = ((2 * (l - 2 ^ (w' - 1)) : Nat) : Int) by omega]
      | @mid _ _ _ _ o3 c1 c2 c3 st =>
        rw [List.length_cons] at ho
        refine iDF (by omega) ⟨_, rfl, _, rfl, _, _, rfl, rfl, _, rfl, iDF (by omega) ⟨_, rfl, _, rfl, _, _, rfl, rfl, _, rfl, iD (by omega) ⟨_, rfl, _, rfl, _, _, rfl, rfl, _, rfl, _, rfl, _, _, rfl, rfl, _, _, rfl, rfl, _, rfl, iD (by omega) ?_⟩⟩⟩
        refine ⟨_, rfl, _, _, rfl, rfl, _, rfl, _, rfl, _, _, rfl, rfl, _, _, rfl, rfl, .inl ⟨by decide, by decide⟩, _, _, rfl, ?_⟩
        refine ⟨_, rfl, _, _, rfl, rfl, .inl ⟨by decide, by decide⟩, ?_⟩
        refine ⟨2 * (l - 2 ^ (w' - 2)), 2 * s, t + 1, o3, tb, xs, some (.int (0 + (i : Int))), ?_, s1, st, by omega, htb, by omega⟩
        show [some (V.int w'), some (V.int ((2 : Int) * ((l : Int) - ((2 ^ (w' - 2) : Nat) : Int)))), some (V.int (2 * s : Nat)), some (V.int (t + 1 : Nat)), some (V.ref tb), _, _, _] = _
        rw [show (2 : Int) * ((l : Int) - ((2 ^ (w' - 2) : Nat) : Int)) = ((2 * (l - 2 ^ (w' - 2)) : Nat) : Int) by omega]
      | done c1 c2 c3 =>
        refine iDF (by omega) ⟨_, rfl, _, rfl, _, _, rfl, rfl, _, rfl, iDF (by omega) ⟨_, rfl, _, rfl, _, _, rfl, rfl, _, rfl, ?_⟩⟩
        by_cases c4 : 2 ^ (w' - 2) ≤ l'
        · exact iD (by omega) ⟨_, rfl, _, rfl, _, _, rfl, rfl, _, rfl, _, rfl, _, _, rfl, rfl, _, _, rfl, rfl, _, rfl, iDF (by omega) (fin _ H1 t tb _ _ _ rfl s1)⟩
        · exact iDF (by omega) (fin _ H1 t tb _ _ _ rfl s1)
    · obtain ⟨l, s, t, o2, tb, xs, u, rfl, s1, st, ho, htb, hxs⟩ := h
      omega
end
end K59

namespace K59
open PySem PySem.Spec PyProof.Rows L2
open C8 (Cal Met Mak pe_c pe_mk pe_mt pe_mt0 pe_gc)
section
variable {P : Program} {w : World} {K : PySem.W.Frag} {mg : Str → Option Value} {base : Heap}
theorem sum_cast : ∀ ns : List Nat, (ns.map fun n : Nat => (n : Int)).sum = ((ns.sum : Nat) : Int)
  | [] => rfl
  | n :: ns => by rw [List.map_cons, List.sum_cons, List.sum_cons, sum_cast ns]; rfl
theorem getD_mem {L : List Nat} {i : Nat} (h : i < L.length) : L.getD i 0 ∈ L := by
  rw [List.getD_eq_getElem?_getD, List.getElem?_eq_getElem h]; exact List.getElem_mem h
theorem take_snoc {L : List Nat} {i : Nat} (h : i < L.length) : L.take (i + 1) = L.take i ++ [L.getD i 0] := by
  rw [List.take_succ_eq_append_getElem h, List.getD_eq_getElem?_getD, List.getElem?_eq_getElem h]; rfl
theorem sc__law_part : FnScope ["_law_table_here", "_law_size", "_law_outcome", "_law_common_here", "_law_top", "_law_under", "_law_ahead", "_law_own"] ["_law_table_here", "_law_size", "_law_outcome"] (defScope s__law_part) := ⟨rfl, rfl, rfl, by decide +kernel, rfl, by decide +kernel, by decide +kernel⟩
def sp__law_part (K : PySem.W.Frag) : Sp := fun vs H Q _ => ∃ (v : V) (L : List Nat) (s i : Nat), vs = [v, .int s, .int i] ∧ Tab K H v L ∧ 0 < L.sum ∧ L.sum < 1000 ∧ i < L.length ∧ L.length ≤ 1000 ∧ s < 1099511627776 ∧ Ret H (fun v H' => TupN K H' v [ca L s i, ca L s (i + 1)]) Q
theorem c__law_part (T : Fx K mg) (c__law_common : Cal P w K mg base 1 "_law_common" (sp__law_common K) []) : Cal P w K mg base 2 "_law_part" (sp__law_part K) [] := by
  refine T.cal 43 43 rfl rfl sc__law_part (fun _ _ _ _ _ _ us hl => match us, hl with | [_, _, _], _ => rfl) (fun vs H Q E h => ?_) (fun cdv A outer s H vs Q E hr h => ?_)
  · obtain ⟨v, L, s_, i, rfl, hv, h1, h2, h3, h5, h4, k⟩ := h
    rfl
  · obtain ⟨v, L, s_, i, rfl, hv, h1, h2, h3, h5, h4, k⟩ := h
    have hu := hu_of hr
    refine ⟨_, (pss_cons (ps_set (i := 3) sc__law_part.nd rfl (Or.inr rfl) pe_int)
    (pss_cons (ps_for PassesOwn.never rfl (pi_tup (pv 0)) (pg_tupK K 2 rfl rfl (pgs_cons (pg_name (i := 4) sc__law_part.nd rfl (Or.inl rfl)) (pgs_cons (pg_name (i := 5) sc__law_part.nd rfl (Or.inl rfl)) pgs_nil)))
      (pss_one (ps_set (i := 3) sc__law_part.nd rfl (Or.inr rfl) (pe_op op_fdiv (pe_op op_mul (pv 3) (pv 5)) (pe_c c__law_common hr (by decide) (by rfl) (pa_cons (pv 3) (pa_cons (pv 5) pa_nil)))))))
    (pss_cons (ps_set (i := 6) sc__law_part.nd rfl (Or.inl rfl) (pe_callB (k_sum K rfl rfl) (by rfl) T.m_sum (by decide +kernel) (pa_cons (pe_lc (own := [("_law_top", 4), ("_law_under", 5)]) rfl sc__law_part.nd (pi_tup (pe_slice (k_slT K rfl) (pv 0) po_none (po_some (pv 2)))) (blkOk_by (own := [("_law_top", 4), ("_law_under", 5)]) (N := ["_law_table_here", "_law_size", "_law_outcome", "_law_common_here", "_law_top", "_law_under", "_law_ahead", "_law_own"]) (sc := defScope s__law_part) (by decide +kernel)) (fun _ _ _ _ _ => (pg_tupK K 2 rfl rfl (pgs_cons (pg_name (i := 4) sc__law_part.nd rfl (Or.inl rfl) (Or.inr rfl)) (pgs_cons (pg_name (i := 5) sc__law_part.nd rfl (Or.inl rfl) (Or.inr rfl)) pgs_nil)))) (fun _ _ _ _ _ => pts_nil) (fun _ _ _ _ _ => (pe_op op_fdiv (pe_op op_mul (pv 4) (pv 3)) (pv 5)))) pa_nil)))
    (pss_cons (ps_set (i := 7) sc__law_part.nd rfl (Or.inl rfl) (pe_op op_fdiv (pe_op op_mul (pe_ix (k_ixT K rfl) (pe_ix (k_ixT K rfl) (pv 0) (pv 2) (fun _ _ => rfl)) pe_int (fun _ _ => rfl)) (pv 3)) (pe_ix (k_ixT K rfl) (pe_ix (k_ixT K rfl) (pv 0) (pv 2) (fun _ _ => rfl)) pe_int (fun _ _ => rfl))))
    (pss_one (ps_ret (pe_tup (pa_cons (pe_op op_fdiv (pe_op op_mul (pv 1) (pv 6)) (pv 3)) (pa_cons (pe_op op_fdiv (pe_op op_mul (pv 1) (pe_op op_add (pv 6) (pv 7))) (pv 3)) pa_nil))))))))), ?_⟩
    obtain ⟨t, xs, rfl, ht, hl, hx⟩ := id hv
    refine ⟨_, rfl, t, rfl, ⟨_, ht⟩, for_tup (K := K) (a := t) (xs := xs) (fun j σ H1 => ∃ (a b : Option V), σ = [some (.ref t), some (.int s_), some (.int i), some (.int ((L.take j).foldl (lcmS L.sum) 1 : Nat)), a, b, none, none] ∧ Same H H1) ⟨none, none, rfl, Same.refl H⟩ (fun j σ H1 _ h => let ⟨_, _, _, s⟩ := h; (Same.tk s).sq ht) (fun j x σ H1 hi h => ?_) (fun σ H1 h => ?_)⟩
    · obtain ⟨a, b, rfl, s1⟩ := h
      have hj : j < L.length := by rw [← hl]; exact (List.getElem?_eq_some_iff.mp hi).1
      obtain ⟨tx, rfl, htx⟩ := ((hx j x hi).tk (Same.tk s1)).sq2
      rw [take_snoc hj, List.foldl_append]
      obtain ⟨c1, c2, _, _⟩ := cmn_dvd h1 (L.take j) 1 (by decide) ⟨L.sum, (Nat.one_mul _).symm⟩
      have c3 := Nat.le_of_dvd h1 c2
      generalize (L.take j).foldl (lcmS L.sum) 1 = c at *
      generalize L.getD j 0 = p at *
      have b1 := rb_pos (a := p) h1
      have b2 := rb_le p L.sum
      have g1 := gcd_pos (a := c) b1
      have g2 : Nat.gcd c (rb p L.sum) ≤ rb p L.sum := Nat.le_of_dvd b1 (Nat.gcd_dvd_right _ _)
      refine ⟨tx, _, rfl, htx, rfl, _, _, rfl, _, _, rfl, rfl, ?_⟩
      refine ⟨_, rfl, _, rfl, _, _, rfl, rfl, .inl (cm (by omega)), _, rfl, _, rfl, c, rb p L.sum, rfl, by omega, _, _, rfl, rfl, cd g1 (by omega), _, _, rfl, s1⟩
    · obtain ⟨a, b, rfl, s1⟩ := h
      rw [hl, List.take_length]
      obtain ⟨c1, c2, _, c4⟩ := cmn_dvd h1 L 1 (by decide) ⟨L.sum, (Nat.one_mul _).symm⟩
      have c3 := Nat.le_of_dvd h1 c2
      generalize L.foldl (lcmS L.sum) 1 = c at *
      refine ⟨_, rfl, _, rfl, i, rfl, sl_take (by omega) ((Same.tk s1).sq ht) fun t0 H0 s0 ht0 => ?_⟩
      have s01 := s1.trans s0
      refine ⟨t0, rfl, ⟨_, ht0⟩, fun D hD => lc_tup (K := K) (a := t0) (xs := xs.take i) (fun j H2 => Same H0 H2 ∧ H2 D = some (.lst (vN (terms L.sum c (L.take j))))) ⟨Same.new hD, upd_same⟩ (fun j H2 _ h => (Same.tk h.1).sq ht0) (fun j x H2 hi ⟨s2, hd⟩ => ?_) (fun H2 ⟨s2, hd⟩ => ?_)⟩
      · have hji : j < i := by
          have h9 := (List.getElem?_eq_some_iff.mp hi).1
          rw [List.length_take] at h9
          omega
        have hi' : xs[j]? = some x := by rw [List.getElem?_take_of_lt hji] at hi; exact hi
        have hj : j < L.length := by omega
        obtain ⟨tx, rfl, htx⟩ := ((hx j x hi').tk (Same.tk (s01.trans s2))).sq2
        have e : terms L.sum c (L.take (j + 1)) = terms L.sum c (L.take j) ++ [rt (L.getD j 0) L.sum * c / rb (L.getD j 0) L.sum] := by rw [take_snoc hj]; simp [terms]
        rw [e]
        generalize L.getD j 0 = p at *
        have b1 := rb_pos (a := p) h1
        have b2 := rb_le p L.sum
        refine ⟨tx, _, rfl, htx, rfl, _, _, rfl, _, _, rfl, rfl, rfl, ?_⟩
        refine ⟨_, rfl, _, rfl, _, _, rfl, rfl, .inr (cm (by omega)), _, rfl, _, _, rfl, rfl, cd b1 (by omega), _, hd, szl_ (by rw [vN_len]; simp [terms]; omega), Same.upd s2 hD, ?_⟩
        rw [upd_same]
        simp [vN]
      · rw [List.length_take, Nat.min_eq_left (by omega)] at hd
        have s02 := s01.trans s2
        refine ⟨D, _, rfl, SqL.of hd, ?_⟩
        rw [sum_cast]
        obtain ⟨x, hi⟩ : ∃ x, xs[i]? = some x := ⟨xs[i]'(by omega), List.getElem?_eq_getElem (by omega)⟩
        obtain ⟨tx, rfl, htx⟩ := ((hx i x hi).tk (Same.tk s02)).sq2
        have ht2 := (Same.tk s02).sq ht
        have q1 : (terms L.sum c (L.take i)).sum * L.sum = c * ga_ L i := terms_sum h1 (L.take i) fun p hp => c4 p (List.mem_of_mem_take hp)
        have q2 : (terms L.sum c (L.take (i + 1))).sum * L.sum = c * ga_ L (i + 1) := terms_sum h1 (L.take (i + 1)) fun p hp => c4 p (List.mem_of_mem_take hp)
        have q3 : (terms L.sum c (L.take (i + 1))).sum = (terms L.sum c (L.take i)).sum + rt (L.getD i 0) L.sum * c / rb (L.getD i 0) L.sum := by rw [take_snoc h3]; simp [terms]
        rw [q3] at q2
        have r1 := part_eq (s := s_) h1 c1 q1
        have r2 := part_eq (s := s_) h1 c1 q2
        have b1 := rb_pos (a := L.getD i 0) h1
        have b2 := rb_le (L.getD i 0) L.sum
        unfold ca at k
        rw [← r1, ← r2] at k
        generalize (terms L.sum c (L.take i)).sum = e at *
        generalize L.getD i 0 = p at *
        refine ⟨_, rfl, _, rfl, t, xs, _, _, rfl, rfl, ht2, atI_nat hi, tx, _, _, _, rfl, rfl, htx, rfl, _, rfl, _, _, rfl, rfl, .inr (cm (by omega)), ?_⟩
        refine ⟨_, rfl, _, rfl, t, xs, _, _, rfl, rfl, ht2, atI_nat hi, tx, _, _, _, rfl, rfl, htx, rfl, _, _, rfl, rfl, cd b1 (by omega), ?_⟩
        refine ⟨_, rfl, _, rfl, _, _, rfl, rfl, .inl (cm h4), _, rfl, _, _, rfl, rfl, cd c1 (by omega), ?_⟩
        refine ⟨_, rfl, _, rfl, _, rfl, _, _, rfl, rfl, _, _, rfl, rfl, .inl (cm h4), _, rfl, _, _, rfl, rfl, cd c1 (by omega), (show 2 ≤ sizeLine by decide), fun q hq => ?_⟩
        exact k _ _ (s02.trans (Same.new hq)) ⟨q, rfl, SqT.of upd_same⟩
end
end K59

namespace K59
open PySem PySem.Spec PyProof.Rows L2
open C8 (Cal Met Mak pe_c pe_mk pe_mt pe_mt0 pe_gc)
section
variable {P : Program} {w : World} {K : PySem.W.Frag} {mg : Str → Option Value} {base : Heap}
def dk (l : Addr) (m t : Int) : List (Key × V) := [(.inr "cells", .ref l), (.inr "mixed", .int m), (.inr "turn", .int t)]
theorem vd_cells {l : Addr} {m t : Int} : valV (dk l m t) (.inr "cells") = some (.ref l) := by kernel_rfl
theorem vd_mixed {l : Addr} {m t : Int} : valV (dk l m t) (.inr "mixed") = some (.int m) := by kernel_rfl
theorem vd_turn {l : Addr} {m t : Int} : valV (dk l m t) (.inr "turn") = some (.int t) := by kernel_rfl
theorem pd_turn {l : Addr} {m t u : Int} : putK (dk l m t) (.inr "turn") (.int u) = dk l m u := by kernel_rfl
theorem md_all {l : Addr} {m t : Int} : mergeK [] (dk l m t) = dk l m t := by kernel_rfl
theorem gC {H : Hp} {d l : Addr} {m t : Int} (h : H d = some (.dK (dk l m t))) : DGet H d (.str "cells") (some (.ref l)) := by
  have := DGet.k (k := .inr "cells") h
  rw [vd_cells] at this
  exact this
theorem gM {H : Hp} {d l : Addr} {m t : Int} (h : H d = some (.dK (dk l m t))) : DGet H d (.str "mixed") (some (.int m)) := by
  have := DGet.k (k := .inr "mixed") h
  rw [vd_mixed] at this
  exact this
theorem gT {H : Hp} {d l : Addr} {m t : Int} (h : H d = some (.dK (dk l m t))) : DGet H d (.str "turn") (some (.int t)) := by
  have := DGet.k (k := .inr "turn") h
  rw [vd_turn] at this
  exact this
theorem pT {H : Hp} {d l : Addr} {m t u : Int} (h : H d = some (.dK (dk l m t))) : DPut H d (.str "turn") (.int u) (upd H d (.dK (dk l m u))) := by
  have := DPut.k (k := .inr "turn") (v := .int u) h (show 3 < sizeLine by decide)
  rw [pd_turn] at this
  exact this
/-- a deck -/
def DeckAt (H : Hp) (d l : Addr) : Prop := ∃ (m t : Int) (cs : List Int), H d = some (.dK (dk l m t)) ∧ H l = some (.lst (cs.map V.int)) ∧ cs.length ≤ 63
/-- all but a deck as it was -/
def FrD (d l : Addr) (H H' : Hp) : Prop := ∀ b o, b ≠ d → b ≠ l → H b = some o → H' b = some o
theorem FrD.trans {d l : Addr} {H H1 H2 : Hp} (a : FrD d l H H1) (b : FrD d l H1 H2) : FrD d l H H2 := fun c o n m h => b c o n m (a c o n m h)
theorem Same.frd {d l : Addr} {H H' : Hp} (e : Same H H') : FrD d l H H' := fun b o _ _ h => e b o h
theorem FrD.put1 {d l : Addr} {H : Hp} {o : HO} : FrD d l H (upd H d o) := fun b u n _ h => by rw [upd_ne n]; exact h
theorem FrD.put2 {d l : Addr} {H : Hp} {o : HO} : FrD d l H (upd H l o) := fun b u _ n h => by rw [upd_ne n]; exact h
theorem FrD.tk {d l : Addr} {H H' : Hp} (f : FrD d l H H') (D : DeckAt H d l) : Tk H H' := fun a xs z => by
  obtain ⟨m, t, cs, h1, h2, _⟩ := D
  have n1 : a ≠ d := by
    rintro rfl
    rcases z with z | ⟨q, z⟩ <;> (rw [h1] at z; cases z)
  have n2 : a ≠ l := by
    rintro rfl
    rcases z with z | ⟨q, z⟩ <;> (rw [h2] at z; cases z)
  rcases z with z | ⟨q, z⟩
  · exact .inl (f a _ n1 n2 z)
  · exact .inr ⟨q, f a _ n1 n2 z⟩
theorem FrD.sql {K : PySem.W.Frag} {d l a : Addr} {H H' : Hp} {xs : List V} (f : FrD d l H H') (n1 : a ≠ d) (n2 : a ≠ l) (h : SqL K H a xs) : SqL K H' a xs := by
  rcases h with (h | ⟨o, h⟩) | h
  · exact .inl (.inl (f a _ n1 n2 h))
  · exact .inl (.inr ⟨o, f a _ n1 n2 h⟩)
  · exact .inr h
theorem DeckAt.ne {H : Hp} {d l a : Addr} (D : DeckAt H d l) (h : H a = none) : a ≠ d ∧ a ≠ l := by
  obtain ⟨m, t, cs, h1, h2, _⟩ := D
  constructor
  · rintro rfl; rw [h] at h1; cases h1
  · rintro rfl; rw [h] at h2; cases h2
theorem DeckAt.same {H H' : Hp} {d l : Addr} (D : DeckAt H d l) (s : Same H H') : DeckAt H' d l := let ⟨m, t, cs, h1, h2, h3⟩ := D; ⟨m, t, cs, s _ _ h1, s _ _ h2, h3⟩
theorem qmod {Q : VK} {H : Hp} {x : Int} {n : Nat} (hn : 0 < n) (k : ∀ r : Nat, r < n → Q (.int r) H) : Q (.int (x % n)) H := by
  have h1 := Int.emod_nonneg x (show (n : Int) ≠ 0 by omega)
  have h2 := Int.emod_lt_of_pos x (show (0 : Int) < n by omega)
  have := k (x % n).toNat (by omega)
  rw [Int.toNat_of_nonneg h1] at this
  exact this
theorem md1 {x y : Int} : CMul (x % 2147483587) y := by
  have h1 := Int.emod_nonneg x (show (2147483587 : Int) ≠ 0 by decide)
  have h2 := Int.emod_lt_of_pos x (show (0 : Int) < 2147483587 by decide)
  exact .inl ⟨by omega, by omega⟩
theorem cut63 (ns : List Int) : cutV (ns.map V.int) none (some 63) = (ns.take 63).map V.int := by
  have e1 : HT.sIx (ns.map V.int).length 0 none = 0 := rfl
  have e2 : HT.sIx (ns.map V.int).length (ns.map V.int).length (some (63 : Int)) = min 63 ns.length := by
    rw [show (63 : Int) = ((63 : Nat) : Int) from rfl, HT.sIx_nat, List.length_map]
  unfold cutV
  rw [e1, e2, List.drop_zero, Nat.sub_zero, List.map_take]
  by_cases h : 63 ≤ ns.length
  · rw [Nat.min_eq_left h]
  · rw [Nat.min_eq_right (by omega), List.take_of_length_le (by simp), List.take_of_length_le (by simp; omega)]
theorem sc__law_deck : FnScope ["_law_script", "_law_mixed", "_law_cell"] ["_law_script"] (defScope s__law_deck) := ⟨rfl, rfl, rfl, by decide +kernel, rfl, by decide +kernel, by decide +kernel⟩
def sp__law_deck (K : PySem.W.Frag) : Sp := fun vs H Q _ => ∃ (a : Addr) (ns : List Int), vs = [.ref a] ∧ SqL K H a (ns.map V.int) ∧ ∀ d l H', Same H H' → H d = none → H l = none → DeckAt H' d l → Q (.ref d) H'
theorem c__law_deck (T : Fx K mg)  : Cal P w K mg base 1 "_law_deck" (sp__law_deck K) [] := by
  refine T.cal 36 36 rfl rfl sc__law_deck (fun _ _ _ _ _ _ us hl => match us, hl with | [_], _ => rfl) (fun vs H Q E h => ?_) (fun cdv A outer s H vs Q E hr h => ?_)
  · obtain ⟨a, ns, rfl, hs, k⟩ := h
    rfl
  · obtain ⟨a, ns, rfl, hs, k⟩ := h
    have hu := hu_of hr
    refine ⟨_, (pss_cons (ps_set (i := 1) sc__law_deck.nd rfl (Or.inl rfl) pe_int)
    (pss_cons (ps_for PassesOwn.never rfl (pi_list (pe_slice (k_slL K rfl) (pv 0) po_none (po_some pe_int))) (pg_name (i := 2) sc__law_deck.nd rfl (Or.inl rfl))
      (pss_one (ps_set (i := 1) sc__law_deck.nd rfl (Or.inl rfl) (pe_op op_mod (pe_callTy call_int1 (by rfl) T.m_int (by decide +kernel) (pa_cons (pe_op op_add (pe_op op_add (pe_op op_mul (pv 1) pe_int) (pe_op op_mod (pe_callTy call_int1 (by rfl) T.m_int (by decide +kernel) (pa_cons (pv 2) pa_nil)) pe_int)) pe_int) pa_nil)) pe_int))))
    (pss_one (ps_ret (pe_disp (pps_cons pe_str (pe_revL (pe_lc (own := [("_law_cell", 2)]) rfl sc__law_deck.nd (pi_list (pe_slice (k_slL K rfl) (pv 0) po_none (po_some pe_int))) (blkOk_by (own := [("_law_cell", 2)]) (N := ["_law_script", "_law_mixed", "_law_cell"]) (sc := defScope s__law_deck) (by decide +kernel)) (fun _ _ _ _ _ => (pg_name (i := 2) sc__law_deck.nd rfl (Or.inl rfl) (Or.inr rfl))) (fun _ _ _ _ _ => pts_nil) (fun _ _ _ _ _ => (pe_callTy call_int1 (by rfl) T.m_int (by decide +kernel) (pa_cons (pv 2) pa_nil))))) (pps_cons pe_str (pv 1) (pps_cons pe_str pe_int pps_nil))) (by rfl) (by rfl) (fun z => by cases z) (by decide)))))), ?_⟩
    have keepL : ∀ {H1 : Hp} {b : Addr} {xs : List V}, Same H H1 → SqL K H b xs → SqL K H1 b xs := fun e h => by
      rcases h with (h | ⟨o, h⟩) | h
      · exact .inl (.inl (e _ _ h))
      · exact .inl (.inr ⟨o, e _ _ h⟩)
      · exact .inr h
    refine ⟨_, rfl, 63, rfl, a, _, rfl, hs, fun p hp => ?_⟩
    rw [cut63]
    have s1 : Same H (upd H p (.lst ((ns.take 63).map V.int))) := Same.new hp
    have hp1 : upd H p (.lst ((ns.take 63).map V.int)) p = some (.lst ((ns.take 63).map V.int)) := upd_same
    generalize upd H p (.lst ((ns.take 63).map V.int)) = H1 at *
    refine ⟨p, rfl, ⟨_, SqL.of hp1⟩, for_list (K := K) (a := p) (xs := (ns.take 63).map V.int) (fun j σ H2 => ∃ (x : Int) (u : Option V), σ = [some (.ref a), some (.int x), u] ∧ H2 = H1) ⟨_, none, rfl, rfl⟩ (fun j σ H2 _ h => let ⟨_, _, _, e⟩ := h; by rw [e]; exact SqL.of hp1) (fun j x σ H2 hi h => ?_) (fun σ H2 h => ?_)⟩
    · obtain ⟨y, u, rfl, rfl⟩ := h
      obtain ⟨c, _, rfl⟩ := List.mem_map.mp (List.mem_of_getElem? hi)
      refine ⟨_, rfl, _, _, rfl, rfl, .inr ⟨by decide, by decide⟩, _, rfl, .inl ⟨_, rfl, _, _, rfl, rfl, (by show (0 : Int) < _; decide), _, _, rfl, rfl, _, _, rfl, rfl, .inl ⟨_, rfl, _, _, rfl, rfl, (by show (0 : Int) < _; decide), _, _, rfl, rfl⟩⟩⟩
    · obtain ⟨y, u, rfl, rfl⟩ := h
      refine fun d hd => ?_
      have s2 : Same H2 (upd H2 d (.dK [])) := Same.new hd
      have hdd : upd H2 d (.dK []) d = some (.dK []) := upd_same
      have hd0 : H d = none := s1.free hd
      generalize upd H2 d (.dK []) = H3 at *
      refine ⟨_, rfl, 63, rfl, a, _, rfl, keepL (s1.trans s2) hs, fun q hq => ?_⟩
      rw [cut63]
      have s3 : Same H3 (upd H3 q (.lst ((ns.take 63).map V.int))) := Same.new hq
      have hq1 : upd H3 q (.lst ((ns.take 63).map V.int)) q = some (.lst ((ns.take 63).map V.int)) := upd_same
      generalize upd H3 q (.lst ((ns.take 63).map V.int)) = H4 at *
      refine ⟨q, rfl, ⟨_, SqL.of hq1⟩, fun D hD => lc_list (K := K) (a := q) (xs := (ns.take 63).map V.int) (fun j H5 => Same H4 H5 ∧ H5 D = some (.lst (((ns.take 63).map V.int).take j))) ⟨Same.new hD, by rw [upd_same]; rfl⟩ (fun j H5 _ h => SqL.of (h.1 _ _ hq1)) (fun j x H5 hi ⟨s5, h5⟩ => ?_) (fun H5 ⟨s5, h5⟩ => ?_)⟩
      · obtain ⟨c, _, rfl⟩ := List.mem_map.mp (List.mem_of_getElem? hi)
        have hj := (List.getElem?_eq_some_iff.mp hi).1
        refine ⟨rfl, _, rfl, .inl ⟨_, rfl, _, h5, szl_ (by simp; omega), Same.upd s5 hD, ?_⟩⟩
        rw [upd_same, List.take_succ_eq_append_getElem hj, (List.getElem?_eq_some_iff.mp hi).2]
      · rw [List.take_length] at h5
        refine ⟨D, _, rfl, SqL.of h5, fun l hl => ?_⟩
        have s6 : Same H5 (upd H5 l (.lst ((ns.take 63).map V.int).reverse)) := Same.new hl
        have hl6 : upd H5 l (.lst ((ns.take 63).map V.int).reverse) l = some (.lst ((ns.take 63).map V.int).reverse) := upd_same
        generalize upd H5 l (.lst ((ns.take 63).map V.int).reverse) = H6 at *
        have s35 := (s3.trans s5).trans s6
        have hdd6 := s35 _ _ hdd
        have ndl : d ≠ l := by rintro rfl; rw [hl6] at hdd6; cases hdd6
        have hl0 : H l = none := (((s1.trans s2).trans s3).trans s5).free hl
        refine ⟨_, rfl, hdd6, dk l y 0, rfl, (show 3 ≤ 15 by decide), ?_⟩
        rw [md_all]
        refine k d l _ (fun b o z => ?_) hd0 hl0 ⟨y, 0, (ns.take 63).reverse, upd_same, ?_, ?_⟩
        · rw [upd_ne (ne_of_none z hd0)]
          exact ((s1.trans s2).trans s35) b o z
        · rw [upd_ne ndl.symm, List.map_reverse]; exact hl6
        · simp; omega
theorem sc__law_draw : FnScope ["_law_deck_here", "_law_below", "_law_figure", "_law_cell"] ["_law_deck_here", "_law_below"] (defScope s__law_draw) := ⟨rfl, rfl, rfl, by decide +kernel, rfl, by decide +kernel, by decide +kernel⟩
def sp__law_draw (K : PySem.W.Frag) : Sp := fun vs H Q _ => ∃ (d l : Addr) (n : Nat), vs = [.ref d, .int n] ∧ DeckAt H d l ∧ 0 < n ∧ n < 1073741824 ∧ ∀ (r : Nat) H', r < n → FrD d l H H' → DeckAt H' d l → Q (.int r) H'
theorem c__law_draw (T : Fx K mg)  : Cal P w K mg base 1 "_law_draw" (sp__law_draw K) [] := by
  refine T.cal 37 37 rfl rfl sc__law_draw (fun _ _ _ _ _ _ us hl => match us, hl with | [_, _], _ => rfl) (fun vs H Q E h => ?_) (fun cdv A outer s H vs Q E hr h => ?_)
  · obtain ⟨d, l, n, rfl, ⟨m, t, cs, hd, hl, hc⟩, hn, hn2, k⟩ := h
    rfl
  · obtain ⟨d, l, n, rfl, ⟨m, t, cs, hd, hl, hc⟩, hn, hn2, k⟩ := h
    have hu := hu_of hr
    refine ⟨_, (pss_cons (ps_dput hu (pv 0) pe_str (pe_op op_add (pe_dget hu (pv 0) pe_str (fun _ _ => rfl)) pe_int) rfl)
    (pss_cons (ps_set (i := 2) sc__law_draw.nd rfl (Or.inl rfl) (pe_op op_add (pe_dget hu (pv 0) pe_str (fun _ _ => rfl)) (pe_op op_mul pe_int (pe_dget hu (pv 0) pe_str (fun _ _ => rfl)))))
    (pss_cons (ps_if (pt_cmpR (k_neD K rfl hr.units) (pe_dget hu (pv 0) pe_str (fun _ _ => rfl)) (pe_lst pa_nil) (nomark _))
      (pss_cons (ps_set (i := 3) sc__law_draw.nd rfl (Or.inl rfl) (pe_bm0 PySem.F.plainAttrs_list PySem.F.slot_list_pop PySem.F.type_list_pop mt_pop (pe_dget hu (pv 0) pe_str (fun _ _ => rfl))))
    (pss_cons (ps_if (pt_cmpR op_ge (pv 3) (pe_op op_pow pe_int pe_int) (nomark _))
      (pss_cons (ps_expr (pe_bm PySem.F.plainAttrs_list PySem.F.slot_list_append PySem.F.type_list_append mt_append (pe_dget hu (pv 0) pe_str (fun _ _ => rfl)) (pa_cons (pe_op op_fdiv (pv 3) (pe_callB (call_max2 rfl) (by rfl) T.m_max (by decide +kernel) (pa_cons pe_int (pa_cons (pv 1) pa_nil)))) pa_nil)))
    (pss_one (ps_ret (pe_op op_mod (pe_callTy call_int1 (by rfl) T.m_int (by decide +kernel) (pa_cons (pv 3) pa_nil)) (pv 1)))))
      pss_nil)
    (pss_one (ps_set (i := 2) sc__law_draw.nd rfl (Or.inl rfl) (pe_op op_add (pv 2) (pe_op op_mod (pe_callTy call_int1 (by rfl) T.m_int (by decide +kernel) (pa_cons (pv 3) pa_nil)) pe_int))))))
      pss_nil)
    (pss_cons (ps_set (i := 2) sc__law_draw.nd rfl (Or.inl rfl) (pe_op op_mod (pe_callTy call_int1 (by rfl) T.m_int (by decide +kernel) (pa_cons (pe_op op_add (pe_op op_mul (pv 2) pe_int) pe_int) pa_nil)) pe_int))
    (pss_cons (ps_set (i := 2) sc__law_draw.nd rfl (Or.inl rfl) (pe_op op_mod (pe_callTy call_int1 (by rfl) T.m_int (by decide +kernel) (pa_cons (pe_op op_add (pe_op op_add (pe_op op_mul (pv 2) (pv 2)) (pe_op op_mul pe_int (pe_dget hu (pv 0) pe_str (fun _ _ => rfl)))) pe_int) pa_nil)) pe_int))
    (pss_cons (ps_set (i := 2) sc__law_draw.nd rfl (Or.inl rfl) (pe_op op_mod (pe_callTy call_int1 (by rfl) T.m_int (by decide +kernel) (pa_cons (pe_op op_mul (pv 2) pe_int) pa_nil)) pe_int))
    (pss_one (ps_ret (pe_op op_mod (pe_callTy call_int1 (by rfl) T.m_int (by decide +kernel) (pa_cons (pe_op op_fdiv (pv 2) pe_int) pa_nil)) (pv 1)))))))))), ?_⟩
    have ndl : d ≠ l := by rintro rfl; rw [hd] at hl; cases hl
    have hd1 : upd H d (.dK (dk l m (t + 1))) d = some (.dK (dk l m (t + 1))) := upd_same
    have hl1 : upd H d (.dK (dk l m (t + 1))) l = some (.lst (cs.map V.int)) := by rw [upd_ne ndl.symm]; exact hl
    have f1 : FrD d l H (upd H d (.dK (dk l m (t + 1)))) := FrD.put1
    refine ⟨_, rfl, _, _, rfl, gT hd, _, _, rfl, rfl, _, rfl, d, upd H d (.dK (dk l m (t + 1))), rfl, pT hd, ?_⟩
    generalize upd H d (.dK (dk l m (t + 1))) = H1 at *
    refine ⟨_, rfl, _, _, rfl, gM hd1, _, rfl, _, _, rfl, gT hd1, _, _, rfl, rfl, .inl ⟨by decide, by decide⟩, _, _, rfl, rfl, ?_⟩
    refine ⟨_, rfl, _, _, rfl, gC hd1, Nat.zero_le _, fun p hp => ?_⟩
    have s2 : Same H1 (upd H1 p (.lst [])) := Same.new hp
    have hp2 : upd H1 p (.lst []) p = some (.lst []) := upd_same
    generalize upd H1 p (.lst []) = H2 at *
    have hd2 := s2 _ _ hd1
    have hl2 := s2 _ _ hl1
    have f2 : FrD d l H H2 := f1.trans (Same.frd s2)
    obtain ⟨ds, g1, g2, g3, g4⟩ := DpK.lst (K := K) (k := 0) (SqL.of hl2) (fun x hx => by obtain ⟨n, _, rfl⟩ := List.mem_map.mp hx; exact ⟨.int n, .int n, rfl, Nat.le_refl _⟩)
    refine ⟨_, _, g1, .lst (SqL.of hp2) .nil, shaped_of g3 g4 (by decide), rfl, _, rfl, ?_⟩
    rcases List.eq_nil_or_concat cs with e | ⟨cs', c, e⟩
    · subst e
      obtain rfl : ds = [] := List.eq_nil_of_length_eq_zero g2
      refine iteF ?_
      refine ⟨_, rfl, _, _, rfl, rfl, .inr ⟨by decide, by decide⟩, _, _, rfl, rfl, .inl ⟨_, rfl, _, _, rfl, rfl, (by show (0 : Int) < _; decide), ?_⟩⟩
      refine ⟨_, rfl, _, rfl, _, _, rfl, rfl, md1, _, rfl, _, _, rfl, gT hd2, _, _, rfl, rfl, .inl ⟨by decide, by decide⟩, _, _, rfl, rfl, _, _, rfl, rfl, .inl ⟨_, rfl, _, _, rfl, rfl, (by show (0 : Int) < _; decide), ?_⟩⟩
      refine ⟨_, rfl, _, _, rfl, rfl, .inr ⟨by decide, by decide⟩, .inl ⟨_, rfl, _, _, rfl, rfl, (by show (0 : Int) < _; decide), ?_⟩⟩
      exact ⟨_, rfl, _, _, rfl, rfl, ⟨by decide, by decide⟩, .inl ⟨_, rfl, _, rfl, _, _, rfl, rfl, by omega, qmod (Q := Q) hn fun r hr => k r H2 hr f2 ⟨m, t + 1, [], hd2, hl2, hc⟩⟩⟩
    · rw [List.concat_eq_append] at e
      subst e
      have e2 : (!PyData.eqv (.list ds) (.list [])) = true := by
        cases ds with
        | nil => simp at g2
        | cons d ds => rfl
      rw [e2]
      have hc' : cs'.length + 1 ≤ 63 := by simpa using hc
      refine iteT ⟨_, rfl, _, _, rfl, gC hd2, .inl ⟨rfl, _, SqL.of hl2⟩, l, _, .int c, rfl, rfl, hl2, by simp, ?_⟩
      have e3 : ((cs' ++ [c]).map V.int).dropLast = cs'.map V.int := by simp
      rw [e3]
      have hl3 : upd H2 l (.lst (cs'.map V.int)) l = some (.lst (cs'.map V.int)) := upd_same
      have hd3 : upd H2 l (.lst (cs'.map V.int)) d = some (.dK (dk l m (t + 1))) := by rw [upd_ne ndl]; exact hd2
      have f3 : FrD d l H (upd H2 l (.lst (cs'.map V.int))) := f2.trans FrD.put2
      generalize upd H2 l (.lst (cs'.map V.int)) = H3 at *
      refine ⟨_, rfl, _, _, rfl, rfl, ⟨by decide, by decide, by decide⟩, _, _, rfl, rfl, _, rfl, ?_⟩
      by_cases c0 : (10 : Int) ^ (18 : Int).toNat ≤ c
      · refine iD c0 ⟨_, rfl, _, _, rfl, gC hd3, .inl ⟨rfl, _, SqL.of hl3⟩, _, rfl, _, rfl, _, _, rfl, _, _, rfl, rfl, ?_, ?_⟩
        · constructor
          · split <;> omega
          · split <;> omega
        · refine ⟨l, _, _, rfl, rfl, hl3, szl_ (by simp; omega), ?_⟩
          refine ⟨_, rfl, .inl ⟨_, rfl, _, rfl, _, _, rfl, rfl, by omega, qmod (Q := Q) hn fun r hr => k r _ hr (f3.trans FrD.put2) ⟨m, t + 1, cs' ++ [c / (if (n : Int) > 2 then (n : Int) else 2)], ?_, ?_, ?_⟩⟩⟩
          · rw [upd_ne ndl]; exact hd3
          · rw [upd_same, List.map_append]; rfl
          · simpa using hc'
      · refine iDF c0 ⟨_, rfl, _, rfl, .inl ⟨_, rfl, _, _, rfl, rfl, (by show (0 : Int) < _; decide), _, _, rfl, rfl, ?_⟩⟩
        have hcc : cs'.length ≤ 63 := by omega
        refine ⟨_, rfl, _, _, rfl, rfl, .inr ⟨by decide, by decide⟩, _, _, rfl, rfl, .inl ⟨_, rfl, _, _, rfl, rfl, (by show (0 : Int) < _; decide), ?_⟩⟩
        refine ⟨_, rfl, _, rfl, _, _, rfl, rfl, md1, _, rfl, _, _, rfl, gT hd3, _, _, rfl, rfl, .inl ⟨by decide, by decide⟩, _, _, rfl, rfl, _, _, rfl, rfl, .inl ⟨_, rfl, _, _, rfl, rfl, (by show (0 : Int) < _; decide), ?_⟩⟩
        refine ⟨_, rfl, _, _, rfl, rfl, .inr ⟨by decide, by decide⟩, .inl ⟨_, rfl, _, _, rfl, rfl, (by show (0 : Int) < _; decide), ?_⟩⟩
        exact ⟨_, rfl, _, _, rfl, rfl, ⟨by decide, by decide⟩, .inl ⟨_, rfl, _, rfl, _, _, rfl, rfl, by omega, qmod (Q := Q) hn fun r hr => k r H3 hr f3 ⟨m, t + 1, cs', hd3, hl3, hcc⟩⟩⟩
theorem sc__law_pick : FnScope ["_law_deck_here", "_law_some"] ["_law_deck_here", "_law_some"] (defScope s__law_pick) := ⟨rfl, rfl, rfl, by decide +kernel, rfl, by decide +kernel, by decide +kernel⟩
def sp__law_pick (K : PySem.W.Frag) : Sp := fun vs H Q _ => ∃ (d l p : Addr) (xs : List V), vs = [.ref d, .ref p] ∧ DeckAt H d l ∧ SqL K H p xs ∧ p ≠ d ∧ p ≠ l ∧ 0 < xs.length ∧ xs.length < 1073741824 ∧ ∀ (r : Nat) y H', xs[r]? = some y → FrD d l H H' → DeckAt H' d l → Q y H'
theorem c__law_pick (T : Fx K mg) (c__law_draw : Cal P w K mg base 1 "_law_draw" (sp__law_draw K) []) : Cal P w K mg base 2 "_law_pick" (sp__law_pick K) [] := by
  refine T.cal 38 38 rfl rfl sc__law_pick (fun _ _ _ _ _ _ us hl => match us, hl with | [_, _], _ => rfl) (fun vs H Q E h => ?_) (fun cdv A outer s H vs Q E hr h => ?_)
  · obtain ⟨d, l, p, xs, rfl, hD, hs, n1, n2, h0, h1, k⟩ := h
    rfl
  · obtain ⟨d, l, p, xs, rfl, hD, hs, n1, n2, h0, h1, k⟩ := h
    have hu := hu_of hr
    refine ⟨_, (pss_one (ps_ret (pe_ix (k_ixL K rfl) (pv 1) (pe_c c__law_draw hr (by decide) (by rfl) (pa_cons (pv 0) (pa_cons (pe_callB (k_len K rfl) (by rfl) T.m_len (by decide +kernel) (pa_cons (pv 1) pa_nil)) pa_nil))) (fun _ _ => rfl)))), ?_⟩
    refine ⟨_, rfl, _, rfl, _, rfl, p, xs, rfl, .inl hs, d, l, xs.length, rfl, hD, h0, h1, fun r H1 hr f1 D1 => ?_⟩
    have hy : xs[r]? = some xs[r] := List.getElem?_eq_getElem hr
    exact ⟨p, xs, _, _, rfl, rfl, f1.sql n1 n2 hs, atI_nat hy, k r _ H1 hy f1 D1⟩
end
end K59

namespace K59
open PySem PySem.Spec PyProof.Rows L2
open C8 (Cal Met Mak pe_c pe_mk pe_mt pe_mt0 pe_gc)
section
variable {P : Program} {w : World} {K : PySem.W.Frag} {mg : Str → Option Value} {base : Heap}
theorem sj {a b : TS} {D : Ends} {σ : L2.St} {H : Hp} (J : L2.St → Hp → Prop) (h1 : ∀ R : L2.St → Hp → Prop, (∀ σ H, J σ H → R σ H) → a { D with nx := R } σ H) (h2 : ∀ σ H, J σ H → b D σ H) : tSeq a b D σ H := h1 _ h2
theorem FrD.new {d l p : Addr} {H H1 : Hp} {o : HO} (f : FrD d l H H1) (h : H p = none) : FrD d l H (upd H1 p o) := fun b u n m z => by rw [upd_ne (ne_of_none z h)]; exact f b u n m z
theorem DeckAt.put {d l p : Addr} {H : Hp} {o : HO} (D : DeckAt H d l) (n1 : p ≠ d) (n2 : p ≠ l) : DeckAt (upd H p o) d l :=
  let ⟨m, t, cs, h1, h2, h3⟩ := D; ⟨m, t, cs, by rw [upd_ne n1.symm]; exact h1, by rw [upd_ne n2.symm]; exact h2, h3⟩
theorem FrD.free {d l p : Addr} {H H1 : Hp} (f : FrD d l H H1) (D : DeckAt H1 d l) (h : H1 p = none) : H p = none := by
  obtain ⟨n1, n2⟩ := D.ne h
  cases e : H p with
  | none => rfl
  | some o => rw [f p o n1 n2 e] at h; cases h
theorem FrD.refl (d l : Addr) (H : Hp) : FrD d l H H := fun _ _ _ _ h => h
theorem sum_pos_mem {P : List Nat} {x : Nat} (h : x ∈ P) (hx : 0 < x) : 0 < P.sum := by
  induction P with
  | nil => cases h
  | cons y P ih =>
    rw [List.sum_cons]
    rcases List.mem_cons.mp h with e | h
    · omega
    · have := ih h; omega
theorem sum_pos_ex {P : List Nat} (h : 0 < P.sum) : ∃ x ∈ P, 0 < x := by
  induction P with
  | nil => simp at h
  | cons y P ih =>
    by_cases e : 0 < y
    · exact ⟨y, List.mem_cons_self, e⟩
    · obtain ⟨x, h1, h2⟩ := ih (by rw [List.sum_cons] at h; omega)
      exact ⟨x, List.mem_cons_of_mem _ h1, h2⟩
theorem ixN_n {n j : Nat} (h : j < n) : ixN n (j : Int) = some j := by
  unfold ixN
  rw [if_pos (Int.natCast_nonneg j), if_pos (by omega), Int.toNat_natCast]
theorem sum_rep0 : ∀ n, (List.replicate n 0).sum = 0
  | 0 => rfl
  | n + 1 => by rw [List.replicate_succ, List.sum_cons, sum_rep0 n]
theorem vN_snoc (P : List Nat) (n : Nat) : vN (P ++ [n]) = vN P ++ [.int (n : Int)] := by simp [vN]
theorem vN_get {P : List Nat} {i : Nat} {x : V} (h : (vN P)[i]? = some x) : ∃ n : Nat, P[i]? = some n ∧ x = .int (n : Int) := by
  unfold vN at h
  rw [List.getElem?_map, List.getElem?_map] at h
  cases e : P[i]? with
  | none => rw [e] at h; cases h
  | some n => rw [e] at h; cases h; exact ⟨n, rfl, rfl⟩
theorem vN_set (P : List Nat) (r n : Nat) : (vN P).set r (.int (n : Int)) = vN (P.set r n) := by unfold vN; rw [List.map_set, List.map_set]
/-- between the steps of _law_table -/
def TJ (d l : Addr) (n B : Nat) (H : Hp) (φ : List Nat → Prop) : L2.St → Hp → Prop := fun σ H1 => ∃ (p : Addr) (P : List Nat) (a b : Option V), σ = [some (.ref d), some (.int n), some (.int B), some (.ref p), a, b] ∧ FrD d l H H1 ∧ DeckAt H1 d l ∧
  p ≠ d ∧ p ≠ l ∧ H p = none ∧ H1 p = some (.lst (vN P)) ∧ P.length = n ∧ φ P
theorem sc__law_table : FnScope ["_law_deck_here", "_law_n", "_law_least", "_law_parts", "_law_i", "_law_part_here"] ["_law_deck_here", "_law_n", "_law_least"] (defScope s__law_table) := ⟨rfl, rfl, rfl, by decide +kernel, rfl, by decide +kernel, by decide +kernel⟩
def sp__law_table (K : PySem.W.Frag) : Sp := fun vs H Q _ => ∃ (d l : Addr) (n B : Nat), vs = [.ref d, .int n, .int B] ∧ DeckAt H d l ∧ 1 ≤ n ∧ n ≤ 4 ∧ 1 ≤ B ∧ B ≤ 900 ∧ ∀ v (P : List Nat) H', FrD d l H H' → DeckAt H' d l → P.length = n → 0 < P.sum → P.sum ≤ B → Tab K H' v P → Q v H'
theorem c__law_table (T : Fx K mg) (c__law_draw : Cal P w K mg base 1 "_law_draw" (sp__law_draw K) []) (c__law_fraction : Cal P w K mg base 2 "_law_fraction" (sp__law_fraction K) []) (c__law_pick : Cal P w K mg base 2 "_law_pick" (sp__law_pick K) []) : Cal P w K mg base 3 "_law_table" (sp__law_table K) [] := by
  refine T.cal 41 41 rfl rfl sc__law_table (fun _ _ _ _ _ _ us hl => match us, hl with | [_, _, _], _ => rfl) (fun vs H Q E h => ?_) (fun cdv A outer s H vs Q E hr h => ?_)
  · obtain ⟨d, l, n, B, rfl, hD, hn, hn4, hB, hB9, k⟩ := h
    rfl
  · obtain ⟨d, l, n, B, rfl, hD, hn, hn4, hB, hB9, k⟩ := h
    have hu := hu_of hr
    refine ⟨_, (pss_cons (ps_set (i := 3) sc__law_table.nd rfl (Or.inr rfl) (pe_lc (own := [("_law_i", 4)]) rfl sc__law_table.nd (pi_range1 (by rfl) T.m_range (pa_cons (pv 1) pa_nil)) (blkOk_by (own := [("_law_i", 4)]) (N := ["_law_deck_here", "_law_n", "_law_least", "_law_parts", "_law_i", "_law_part_here"]) (sc := defScope s__law_table) (by decide +kernel)) (fun _ _ _ _ _ => (pg_name (i := 4) sc__law_table.nd rfl (Or.inl rfl) (Or.inr rfl))) (fun _ _ _ _ _ => pts_nil) (fun _ _ _ _ _ => (pe_c c__law_pick hr (by decide) (by rfl) (pa_cons (pv 0) (pa_cons (pe_lst (pa_cons pe_int (pa_cons pe_int (pa_cons pe_int (pa_cons pe_int (pa_cons pe_int (pa_cons pe_int (pa_cons pe_int (pa_cons pe_int pa_nil))))))))) pa_nil))))))
    (pss_cons (ps_if (pt_cmpR op_eq (pe_callB (k_sum K rfl rfl) (by rfl) T.m_sum (by decide +kernel) (pa_cons (pv 3) pa_nil)) pe_int (nomark _))
      (pss_one (ps_asg pe_int (pg_sub (pv 3) (pe_c c__law_draw hr (by decide) (by rfl) (pa_cons (pv 0) (pa_cons (pv 1) pa_nil))) set_list)))
      pss_nil)
    (pss_cons (ps_if (pt_cmpR op_eq (pe_c c__law_draw hr (by decide) (by rfl) (pa_cons (pv 0) (pa_cons pe_int pa_nil))) pe_int (nomark _))
      (pss_one (ps_set (i := 3) sc__law_table.nd rfl (Or.inr rfl) (pe_lc (own := [("_law_i", 4)]) rfl sc__law_table.nd (pi_range1 (by rfl) T.m_range (pa_cons (pv 1) pa_nil)) (blkOk_by (own := [("_law_i", 4)]) (N := ["_law_deck_here", "_law_n", "_law_least", "_law_parts", "_law_i", "_law_part_here"]) (sc := defScope s__law_table) (by decide +kernel)) (fun _ _ _ _ _ => (pg_name (i := 4) sc__law_table.nd rfl (Or.inl rfl) (Or.inr rfl))) (fun _ _ _ _ _ => pts_nil) (fun _ _ _ _ _ => (pe_op op_shl pe_int (pe_c c__law_draw hr (by decide) (by rfl) (pa_cons (pv 0) (pa_cons pe_int pa_nil))))))))
      pss_nil)
    (pss_cons (ps_if (pt_cmpR op_gt (pe_callB (k_sum K rfl rfl) (by rfl) T.m_sum (by decide +kernel) (pa_cons (pv 3) pa_nil)) (pv 2) (nomark _))
      (pss_one (ps_set (i := 3) sc__law_table.nd rfl (Or.inr rfl) (pe_lc (own := [("_law_part_here", 5)]) rfl sc__law_table.nd (pi_list (pv 3)) (blkOk_by (own := [("_law_part_here", 5)]) (N := ["_law_deck_here", "_law_n", "_law_least", "_law_parts", "_law_i", "_law_part_here"]) (sc := defScope s__law_table) (by decide +kernel)) (fun _ _ _ _ _ => (pg_name (i := 5) sc__law_table.nd rfl (Or.inl rfl) (Or.inr rfl))) (fun _ _ _ _ _ => pts_nil) (fun _ _ _ _ _ => (pe_callB (call_min2 rfl) (by rfl) T.m_min (by decide +kernel) (pa_cons pe_int (pa_cons (pv 5) pa_nil)))))))
      pss_nil)
    (pss_cons (ps_if (pt_cmpR op_gt (pe_callB (k_sum K rfl rfl) (by rfl) T.m_sum (by decide +kernel) (pa_cons (pv 3) pa_nil)) (pv 2) (nomark _))
      (pss_one (ps_set (i := 3) sc__law_table.nd rfl (Or.inr rfl) (pe_op op_cat (pe_lst (pa_cons pe_int pa_nil)) (pe_op op_rep (pe_lst (pa_cons pe_int pa_nil)) (pe_op op_sub (pv 1) pe_int)))))
      pss_nil)
    (pss_one (ps_ret (pe_callTy (k_tuple K rfl) (by rfl) T.m_tuple (by decide +kernel) (pa_cons (pe_lc (own := [("_law_part_here", 5)]) rfl sc__law_table.nd (pi_list (pv 3)) (blkOk_by (own := [("_law_part_here", 5)]) (N := ["_law_deck_here", "_law_n", "_law_least", "_law_parts", "_law_i", "_law_part_here"]) (sc := defScope s__law_table) (by decide +kernel)) (fun _ _ _ _ _ => (pg_name (i := 5) sc__law_table.nd rfl (Or.inl rfl) (Or.inr rfl))) (fun _ _ _ _ _ => pts_nil) (fun _ _ _ _ _ => (pe_c c__law_fraction hr (by decide) (by rfl) (pa_cons (pv 5) (pa_cons (pe_callB (k_sum K rfl rfl) (by rfl) T.m_sum (by decide +kernel) (pa_cons (pv 3) pa_nil)) pa_nil))))) pa_nil))))))))), ?_⟩
    refine sj (TJ d l n B H fun _ => True) (fun R hR => ?_) (fun σ H1 h => ?_)
    · refine ⟨_, rfl, n, rfl, by omega, by omega, fun p hp => ?_⟩
      obtain ⟨n1, n2⟩ := hD.ne hp
      refine lc_range (lo := 0) (n := n) (fun i H2 => FrD d l H H2 ∧ DeckAt H2 d l ∧ ∃ P : List Nat, H2 p = some (.lst (vN P)) ∧ P.length = i) ⟨(FrD.refl d l H).new hp, hD.put n1 n2, [], upd_same, rfl⟩ (fun i H2 hi ⟨f2, D2, P, hP, hl⟩ => ?_) (fun H2 ⟨f2, D2, P, hP, hl⟩ => ?_)
      · refine ⟨rfl, _, rfl, (show 8 ≤ sizeLine by decide), fun q hq => ?_⟩
        obtain ⟨m1, m2⟩ := D2.ne hq
        refine ⟨d, l, q, vN [1, 1, 2, 3, 0, 5, 4, 8], rfl, D2.put m1 m2, SqL.of upd_same, m1, m2, (show 0 < 8 by decide), (show 8 < 1073741824 by decide), fun r y H3 hy f3 D3 => ?_⟩
        obtain ⟨z, _, rfl⟩ := vN_get hy
        have f23 : FrD d l H2 H3 := (Same.frd (Same.new hq)).trans f3
        refine ⟨_, f23 p _ n1 n2 hP, szl_ (by rw [vN_len]; omega), (f2.trans f23).new hp, D3.put n1 n2, P ++ [z], ?_, by simp [hl]⟩
        rw [upd_same, vN_snoc]
      · exact hR _ _ ⟨p, P, none, none, rfl, f2, D2, n1, n2, hp, hP, hl, trivial⟩
    obtain ⟨p, P, a, b, rfl, f1, D1, n1, n2, hp, hP, hl, -⟩ := h
    refine sj (TJ d l n B H fun P => 0 < P.sum) (fun R hR => ?_) (fun σ H2 h => ?_)
    · refine ⟨_, rfl, p, _, rfl, SqL.of hP, rfl, _, rfl, ?_⟩
      rw [sum_cast]
      by_cases c : P.sum = 0
      · refine iD (by rw [c]; rfl) ⟨_, rfl, _, rfl, _, rfl, d, l, n, rfl, D1, by omega, by omega, fun r H3 hr f3 D3 => ?_⟩
        refine ⟨p, vN P, _, r, rfl, rfl, f3 p _ n1 n2 hP, ixN_n (by rw [vN_len]; omega), ?_⟩
        refine hR _ _ ⟨p, P.set r 1, a, b, rfl, (f1.trans f3).new hp, D3.put n1 n2, n1, n2, hp, ?_, by simp [hl], ?_⟩
        · rw [upd_same, ← vN_set]; rfl
        · exact sum_pos_mem (x := 1) (List.mem_iff_getElem?.mpr ⟨r, by rw [List.getElem?_set_self (by omega)]⟩) (by decide)
      · refine iDF (fun z => c (by injection z; omega)) ?_
        exact hR _ _ ⟨p, P, a, b, rfl, f1, D1, n1, n2, hp, hP, hl, by omega⟩
    clear hP hl hp n1 n2 D1 f1
    obtain ⟨p, P, a, b, rfl, f1, D1, n1, n2, hp, hP, hl, hs⟩ := h
    refine sj (TJ d l n B H fun P => 0 < P.sum) (fun R hR => ?_) (fun σ H2 h => ?_)
    · refine ⟨_, rfl, d, l, 4, rfl, D1, by decide, by decide, fun r H3 hr f3 D3 => ⟨rfl, _, rfl, ?_⟩⟩
      by_cases c : r = 0
      · refine iD (by rw [c]; rfl) ⟨_, rfl, n, rfl, by omega, by omega, fun q hq => ?_⟩
        obtain ⟨m1, m2⟩ := D3.ne hq
        have hq0 : H q = none := (f1.trans f3).free D3 hq
        refine lc_range (lo := 0) (n := n) (fun i H4 => FrD d l H H4 ∧ DeckAt H4 d l ∧ ∃ P : List Nat, H4 q = some (.lst (vN P)) ∧ P.length = i ∧ ∀ x ∈ P, 0 < x) ⟨(f1.trans f3).new hq0, D3.put m1 m2, [], upd_same, rfl, fun x hx => nomatch hx⟩ (fun i H4 hi ⟨f4, D4, P, hP, hl, hx⟩ => ?_) (fun H4 ⟨f4, D4, P, hP, hl, hx⟩ => ?_)
        · refine ⟨rfl, _, rfl, d, l, 3, rfl, D4, by decide, by decide, fun r H5 hr f5 D5 => ?_⟩
          refine ⟨_, _, rfl, rfl, ⟨by omega, by omega, by decide⟩, _, f5 q _ m1 m2 hP, szl_ (by rw [vN_len]; omega), (f4.trans f5).new hq0, D5.put m1 m2, P ++ [2 ^ r], ?_, by simp [hl], fun x hx' => ?_⟩
          · rw [upd_same, vN_snoc, ← shlN rfl]
          · rcases List.mem_append.mp hx' with h | h
            · exact hx x h
            · rw [List.mem_singleton.mp h]; exact Nat.pow_pos (by decide)
        · refine hR _ _ ⟨q, P, a, b, rfl, f4, D4, m1, m2, hq0, hP, hl, ?_⟩
          obtain ⟨x, hx'⟩ := List.exists_mem_of_length_pos (l := P) (by omega)
          exact sum_pos_mem hx' (hx x hx')
      · refine iDF (fun z => c (by injection z; omega)) ?_
        exact hR _ _ ⟨p, P, a, b, rfl, f1.trans f3, D3, n1, n2, hp, f3 p _ n1 n2 hP, hl, hs⟩
    clear hP hl hp n1 n2 D1 f1 hs
    obtain ⟨p, P, a, b, rfl, f1, D1, n1, n2, hp, hP, hl, hs⟩ := h
    refine sj (TJ d l n B H fun P => 0 < P.sum) (fun R hR => ?_) (fun σ H2 h => ?_)
    · refine ⟨_, rfl, p, _, rfl, SqL.of hP, _, rfl, _, _, rfl, rfl, _, rfl, ?_⟩
      rw [sum_cast]
      by_cases c : B < P.sum
      · refine iD (by omega) ⟨_, rfl, p, rfl, ⟨_, SqL.of hP⟩, fun q hq => ?_⟩
        obtain ⟨m1, m2⟩ := D1.ne hq
        have hq0 : H q = none := f1.free D1 hq
        have npq : p ≠ q := ne_of_none hP hq
        refine lc_list (K := K) (a := p) (xs := vN P) (fun i H4 => FrD d l H H4 ∧ DeckAt H4 d l ∧ H4 p = some (.lst (vN P)) ∧ H4 q = some (.lst (vN ((P.map fun x => if x < 1 then x else 1).take i)))) ⟨f1.new hq0, D1.put m1 m2, by rw [upd_ne npq]; exact hP, upd_same⟩ (fun i H4 _ h => SqL.of h.2.2.1) (fun i x H4 hi ⟨f4, D4, hp4, hq4⟩ => ?_) (fun H4 ⟨f4, D4, hp4, hq4⟩ => ?_)
        · obtain ⟨z, hz, rfl⟩ := vN_get hi
          have hzl := (List.getElem?_eq_some_iff.mp hz).1
          refine ⟨rfl, _, rfl, _, _, rfl, _, hq4, szl_ (by rw [vN_len]; simp; omega), f4.new hq0, D4.put m1 m2, by rw [upd_ne npq]; exact hp4, ?_⟩
          have e1 : (P.map fun x => if x < 1 then x else 1).take (i + 1) = (P.map fun x => if x < 1 then x else 1).take i ++ [if z < 1 then z else 1] := by
            rw [List.take_succ_eq_append_getElem (by simpa using hzl), List.getElem_map, (List.getElem?_eq_some_iff.mp hz).2]
          have e2 : (if (z : Int) < 1 then (z : Int) else 1) = ((if z < 1 then z else 1 : Nat) : Int) := by split <;> split <;> omega
          rw [upd_same, e1, vN_snoc, ← e2]
        · rw [vN_len, List.take_of_length_le (by simp)] at hq4
          refine hR _ _ ⟨q, _, a, b, ?_, f4, D4, m1, m2, hq0, hq4, by simp [hl], ?_⟩
          · rfl
          · obtain ⟨x, h1, h2⟩ := sum_pos_ex hs
            exact sum_pos_mem (x := if x < 1 then x else 1) (List.mem_map.mpr ⟨x, h1, rfl⟩) (by split <;> omega)
      · refine iDF (by omega) ?_
        exact hR _ _ ⟨p, P, a, b, rfl, f1, D1, n1, n2, hp, hP, hl, hs⟩
    clear hP hl hp n1 n2 D1 f1 hs
    obtain ⟨p, P, a, b, rfl, f1, D1, n1, n2, hp, hP, hl, hs⟩ := h
    refine sj (TJ d l n B H fun P => 0 < P.sum ∧ P.sum ≤ B) (fun R hR => ?_) (fun σ H2 h => ?_)
    · refine ⟨_, rfl, p, _, rfl, SqL.of hP, _, rfl, _, _, rfl, rfl, _, rfl, ?_⟩
      rw [sum_cast]
      by_cases c : B < P.sum
      · refine iD (by omega) ⟨(show 1 ≤ sizeLine by decide), fun q1 hq1 => ⟨(show 1 ≤ sizeLine by decide), fun q2 hq2 => ⟨_, rfl, _, _, rfl, rfl, ?_⟩⟩⟩
        have s1 := Same.new (o := .lst [V.int 1]) hq1
        have h1 : upd _ q1 (.lst [V.int 1]) q1 = some (.lst [V.int 1]) := upd_same (H := H2)
        have s2 := Same.new (o := .lst [V.int 0]) hq2
        refine ⟨q2, ((n - 1 : Nat) : Int), [V.int 0], rfl, congrArg V.int (by omega), upd_same, by omega, by omega, sz_ (by simp; omega), fun q3 hq3 => ?_⟩
        have e3 : (List.replicate (((n - 1 : Nat) : Int).toNat) [V.int 0]).flatten = vN (List.replicate (n - 1) 0) := by
          rw [Int.toNat_natCast]
          generalize n - 1 = m
          induction m with
          | zero => rfl
          | succ m ih => simp [List.replicate_succ] at ih ⊢
        rw [e3]
        have s3 := Same.new (o := .lst (vN (List.replicate (n - 1) 0))) hq3
        refine ⟨q1, q3, [V.int 1], _, rfl, rfl, s3 _ _ (s2 _ _ h1), upd_same, sz_ (by rw [vN_len]; simp; omega), fun q4 hq4 => ?_⟩
        have s := ((s1.trans s2).trans s3).trans (Same.new (o := .lst ([V.int 1] ++ vN (List.replicate (n - 1) 0))) hq4)
        have hq40 : H2 q4 = none := ((s1.trans s2).trans s3).free hq4
        obtain ⟨m1, m2⟩ := D1.ne hq40
        refine hR _ _ ⟨q4, 1 :: List.replicate (n - 1) 0, a, b, rfl, f1.trans (Same.frd s), D1.same s, m1, m2, f1.free D1 hq40, upd_same, by simp; omega, ?_⟩
        show 0 < (1 :: List.replicate (n - 1) 0).sum ∧ (1 :: List.replicate (n - 1) 0).sum ≤ B
        rw [List.sum_cons, sum_rep0]
        omega
      · refine iDF (by omega) ?_
        exact hR _ _ ⟨p, P, a, b, rfl, f1, D1, n1, n2, hp, hP, hl, hs, by omega⟩
    clear hP hl hp n1 n2 D1 f1 hs
    obtain ⟨p, P, a, b, rfl, f1, D1, n1, n2, hp, hP, hl, hs, hs2⟩ := h
    refine ⟨_, rfl, p, rfl, ⟨_, SqL.of hP⟩, fun q hq => ?_⟩
    refine lc_list (K := K) (a := p) (xs := vN P) (fun i H4 => Same H2 H4 ∧ ∃ ys : List V, H4 q = some (.lst ys) ∧ ys.length = i ∧ ∀ j y, ys[j]? = some y → TupN K H4 y [rt (P.getD j 0) P.sum, rb (P.getD j 0) P.sum]) ⟨Same.new hq, [], upd_same, rfl, fun j y hy => by simp at hy⟩ (fun i H4 _ h => SqL.of (h.1 _ _ hP)) (fun i x H4 hi ⟨s4, ys, hq4, hl4, hy4⟩ => ?_) (fun H4 ⟨s4, ys, hq4, hl4, hy4⟩ => ?_)
    · obtain ⟨z, hz, rfl⟩ := vN_get hi
      have hzl := (List.getElem?_eq_some_iff.mp hz).1
      refine ⟨rfl, _, rfl, _, rfl, p, _, rfl, SqL.of (s4 _ _ hP), z, P.sum, by rw [sum_cast]; rfl, hs, by omega, fun v H5 s5 hv => ?_⟩
      have hq5 := s5 _ _ hq4
      have tk5 : Tk H5 (upd H5 q (.lst (ys ++ [v]))) := Tk.put hq5 rfl
      refine ⟨_, hq5, szl_ (by omega), Same.upd (s4.trans s5) hq, ys ++ [v], upd_same, by simp [hl4], fun j y hy => ?_⟩
      by_cases c : j < ys.length
      · rw [List.getElem?_append_left c] at hy
        exact ((hy4 j y hy).tk (Same.tk s5)).tk tk5
      · rw [List.getElem?_append_right (by omega)] at hy
        obtain rfl : j = i := by
          have := (List.getElem?_eq_some_iff.mp hy).1
          simp at this
          omega
        rw [hl4, Nat.sub_self] at hy
        cases hy
        rw [List.getD_eq_getElem?_getD, hz]
        exact hv.tk tk5
    · rw [vN_len] at hl4
      refine ⟨q, ys, rfl, SqL.of hq4, fun t ht => ?_⟩
      have s5 := Same.new (o := .tup ys) ht
      exact k _ P _ (f1.trans (Same.frd (s4.trans s5))) (D1.same (s4.trans s5)) hl hs hs2 ⟨t, ys, rfl, SqT.of upd_same, hl4, fun j y hy => (hy4 j y hy).tk (Same.tk s5)⟩
end
end K59

namespace K59
open PySem PySem.Spec PyProof.Rows L2
open C8 (Cal Met Mak pe_c pe_mk pe_mt pe_mt0 pe_gc)
section
variable {P : Program} {w : World} {K : PySem.W.Frag} {mg : Str → Option Value} {base : Heap}
/-- between the steps of _law_model -/
def MJ (d l : Addr) (oc B : Nat) (H : Hp) : L2.St → Hp → Prop := fun σ H1 => ∃ (n m : Nat), σ = [some (.ref d), some (.int 3), some (.int oc), some (.int B), some (.int n), some (.int m), none, none, none, none] ∧ FrD d l H H1 ∧ DeckAt H1 d l ∧
  1 ≤ n ∧ n ≤ 4 ∧ 1 ≤ m ∧ m ≤ 3
theorem FrD.at {K : PySem.W.Frag} {d l : Addr} {H H' : Hp} (f : FrD d l H H') (D : DeckAt H d l) {v : V} {s : List Nat × List Nat} (h : Sta K H v s) : Sta K H' v s := h.tk (f.tk D)
theorem sc__law_model : FnScope ["_law_deck_here", "_law_states", "_law_outcomes", "_law_least", "_law_n", "_law_many", "_law_found", "_law_state", "_law_followers", "_law_i"] ["_law_deck_here", "_law_states", "_law_outcomes", "_law_least"] (defScope s__law_model) := ⟨rfl, rfl, rfl, by decide +kernel, rfl, by decide +kernel, by decide +kernel⟩
def sp__law_model (K : PySem.W.Frag) : Sp := fun vs H Q _ => ∃ (d l : Addr) (w oc : Nat), vs = [.ref d, .int 3, .int oc, .int (2 ^ (w - 2) + 1 : Nat)] ∧ DeckAt H d l ∧ 1 ≤ oc ∧ oc ≤ 4 ∧ 3 ≤ w ∧ w ≤ 5 ∧ ∀ v M n H', FrD d l H H' → DeckAt H' d l → Mod_ K H' v M → MOk M n w → Q v H'
theorem c__law_model (T : Fx K mg) (c__law_draw : Cal P w K mg base 1 "_law_draw" (sp__law_draw K) []) (c__law_table : Cal P w K mg base 3 "_law_table" (sp__law_table K) []) : Cal P w K mg base 4 "_law_model" (sp__law_model K) [] := by
  refine T.cal 42 42 rfl rfl sc__law_model (fun _ _ _ _ _ _ us hl => match us, hl with | [_, _, _, _], _ => rfl) (fun vs H Q E h => ?_) (fun cdv A outer s H vs Q E hr h => ?_)
  · obtain ⟨d, l, w', oc, rfl, hD, ho, ho4, hw, hw5, k⟩ := h
    rfl
  · obtain ⟨d, l, w', oc, rfl, hD, ho, ho4, hw, hw5, k⟩ := h
    have hu := hu_of hr
    refine ⟨_, (pss_cons (ps_asg (pe_tup (pa_cons (pe_op op_add pe_int (pe_c c__law_draw hr (by decide) (by rfl) (pa_cons (pv 0) (pa_cons (pv 2) pa_nil)))) (pa_cons (pe_op op_add pe_int (pe_c c__law_draw hr (by decide) (by rfl) (pa_cons (pv 0) (pa_cons (pv 1) pa_nil)))) pa_nil))) (pg_tupK K 2 rfl rfl (pgs_cons (pg_name (i := 4) sc__law_model.nd rfl (Or.inl rfl)) (pgs_cons (pg_name (i := 5) sc__law_model.nd rfl (Or.inr rfl)) pgs_nil))))
    (pss_cons (ps_if (pt_cmpR op_gt (pe_c c__law_draw hr (by decide) (by rfl) (pa_cons (pv 0) (pa_cons pe_int pa_nil))) pe_int (nomark _))
      (pss_one (ps_set (i := 4) sc__law_model.nd rfl (Or.inl rfl) (pe_callB (call_max2 rfl) (by rfl) T.m_max (by decide +kernel) (pa_cons pe_int (pa_cons (pv 4) pa_nil)))))
      pss_nil)
    (pss_cons (ps_set (i := 6) sc__law_model.nd rfl (Or.inl rfl) (pe_lst pa_nil))
    (pss_cons (ps_for PassesOwn.never rfl (pi_range1 (by rfl) T.m_range (pa_cons (pv 5) pa_nil)) (pg_name (i := 7) sc__law_model.nd rfl (Or.inl rfl))
      (pss_cons (ps_set (i := 8) sc__law_model.nd rfl (Or.inl rfl) (pe_callTy (k_tuple K rfl) (by rfl) T.m_tuple (by decide +kernel) (pa_cons (pe_lc (own := [("_law_i", 9)]) rfl sc__law_model.nd (pi_range1 (by rfl) T.m_range (pa_cons (pv 4) pa_nil)) (blkOk_by (own := [("_law_i", 9)]) (N := ["_law_deck_here", "_law_states", "_law_outcomes", "_law_least", "_law_n", "_law_many", "_law_found", "_law_state", "_law_followers", "_law_i"]) (sc := defScope s__law_model) (by decide +kernel)) (fun _ _ _ _ _ => (pg_name (i := 9) sc__law_model.nd rfl (Or.inl rfl) (Or.inr rfl))) (fun _ _ _ _ _ => pts_nil) (fun _ _ _ _ _ => (pe_c c__law_draw hr (by decide) (by rfl) (pa_cons (pv 0) (pa_cons (pv 5) pa_nil))))) pa_nil)))
    (pss_one (ps_expr (pe_bm PySem.F.plainAttrs_list PySem.F.slot_list_append PySem.F.type_list_append mt_append (pv 6) (pa_cons (pe_tup (pa_cons (pe_c c__law_table hr (by decide) (by rfl) (pa_cons (pv 0) (pa_cons (pv 4) (pa_cons (pv 3) pa_nil)))) (pa_cons (pv 8) pa_nil))) pa_nil))))))
    (pss_one (ps_ret (pe_callTy (k_tuple K rfl) (by rfl) T.m_tuple (by decide +kernel) (pa_cons (pv 6) pa_nil)))))))), ?_⟩
    have hB : 2 ^ (w' - 2) ≤ 2 ^ 3 := Nat.pow_le_pow_right (by decide) (by omega)
    have hB1 : 1 ≤ 2 ^ (w' - 2) + 1 := Nat.le_add_left 1 _
    have hB9 : 2 ^ (w' - 2) + 1 ≤ 900 := by omega
    generalize eB : 2 ^ (w' - 2) + 1 = B at hB1 hB9 ⊢
    refine sj (MJ d l oc B H) (fun R hR => ?_) (fun σ H1 h => ?_)
    · refine ⟨_, rfl, _, rfl, d, l, oc, rfl, hD, by omega, by omega, fun r1 H1 hr1 f1 D1 => ⟨_, _, rfl, rfl, _, rfl, _, rfl, d, l, 3, rfl, D1, by decide, by decide, fun r2 H2 hr2 f2 D2 => ⟨_, _, rfl, rfl, (show 2 ≤ sizeLine by decide), fun p hp => ?_⟩⟩⟩
      refine ⟨p, _, rfl, SqT.of upd_same, rfl, _, _, rfl, _, _, rfl, rfl, ?_⟩
      have s := Same.new (o := .tup [V.int (1 + (r1 : Int)), V.int (1 + (r2 : Int))]) hp
      exact hR _ _ ⟨1 + r1, 1 + r2, rfl, (f1.trans f2).trans (Same.frd s), D2.same s, by omega, by omega, by omega, by omega⟩
    obtain ⟨n, m, rfl, f1, D1, hn, hn4, hm, hm3⟩ := h
    refine sj (MJ d l oc B H) (fun R hR => ?_) (fun σ H2 h => ?_)
    · refine ⟨_, rfl, d, l, 5, rfl, D1, by decide, by decide, fun r H3 hr f3 D3 => ⟨_, _, rfl, rfl, _, rfl, ?_⟩⟩
      by_cases c : 0 < r
      · refine iD (by show (0 : Int) < (r : Int); omega) ⟨_, rfl, _, _, rfl, ?_⟩
        refine hR _ _ ⟨if n > 2 then n else 2, m, ?_, f1.trans f3, D3, by split <;> omega, by split <;> omega, hm, hm3⟩
        show [some (V.ref d), some (.int 3), some (.int oc), some (.int B), some (V.int (if (n : Int) > 2 then (n : Int) else 2)), some (V.int m), none, none, none, none] = _
        have e : (if (n : Int) > 2 then (n : Int) else 2) = ((if n > 2 then n else 2 : Nat) : Int) := by split <;> split <;> omega
        rw [e]
      · refine iDF (by show ¬ (0 : Int) < (r : Int); omega) ?_
        exact hR _ _ ⟨n, m, rfl, f1.trans f3, D3, hn, hn4, hm, hm3⟩
    clear hn hn4 hm hm3 D1 f1
    obtain ⟨n, m, rfl, f1, D1, hn, hn4, hm, hm3⟩ := h
    refine ⟨Nat.zero_le _, fun p hp => ?_⟩
    obtain ⟨n1, n2⟩ := D1.ne hp
    have hp0 : H p = none := f1.free D1 hp
    refine ⟨_, rfl, m, rfl, by omega, by omega, for_range (lo := 0) (n := m) (fun i σ H3 => ∃ (a b c : Option V) (xs : List V) (M : Md), σ = [some (.ref d), some (.int 3), some (.int oc), some (.int B), some (.int n), some (.int m), some (.ref p), a, b, c] ∧
      FrD d l H H3 ∧ DeckAt H3 d l ∧ H3 p = some (.lst xs) ∧ xs.length = i ∧ M.length = i ∧ (∀ j x, xs[j]? = some x → Sta K H3 x (M.getD j ([], []))) ∧
      ∀ s ∈ M, s.1.length = n ∧ s.2.length = n ∧ (∀ f ∈ s.2, f < m) ∧ 0 < s.1.sum ∧ s.1.sum ≤ B) ⟨none, none, none, [], [], rfl, f1.new hp0, D1.put n1 n2, upd_same, rfl, rfl, fun j x hx => by simp at hx, fun s hs => nomatch hs⟩ (fun i σ H3 hi h => ?_) (fun σ H3 h => ?_)⟩
    · obtain ⟨a, b, c, xs, M, rfl, f3, D3, h3, hx, hM, hsx, hsM⟩ := h
      refine ⟨_, rfl, n, rfl, by omega, by omega, fun q hq => ?_⟩
      obtain ⟨m1, m2⟩ := D3.ne hq
      have hq0 : H q = none := f3.free D3 hq
      refine lc_range (lo := 0) (n := n) (fun i H4 => FrD d l H3 H4 ∧ DeckAt H4 d l ∧ ∃ fs : List Nat, H4 q = some (.lst (vN fs)) ∧ fs.length = i ∧ ∀ f ∈ fs, f < m) ⟨(FrD.refl d l H3).new hq, D3.put m1 m2, [], upd_same, rfl, fun f hf => nomatch hf⟩ (fun i H4 hi ⟨f4, D4, fs, h4, hl4, hf4⟩ => ?_) (fun H4 ⟨f4, D4, fs, h4, hl4, hf4⟩ => ?_)
      · refine ⟨rfl, _, rfl, _, rfl, d, l, m, rfl, D4, by omega, by omega, fun r H5 hr f5 D5 => ?_⟩
        refine ⟨_, f5 q _ m1 m2 h4, szl_ (by rw [vN_len]; omega), (f4.trans f5).new hq, D5.put m1 m2, fs ++ [r], ?_, by simp [hl4], fun f hf => ?_⟩
        · rw [upd_same, vN_snoc]
        · rcases List.mem_append.mp hf with h | h
          · exact hf4 f h
          · rw [List.mem_singleton.mp h]; exact hr
      · refine ⟨q, _, rfl, SqL.of h4, fun t ht => ?_⟩
        have s5 : Same H4 (upd H4 t (.tup (vN fs))) := Same.new ht
        have ht5 : TupN K (upd H4 t (.tup (vN fs))) (.ref t) fs := ⟨t, rfl, SqT.of upd_same⟩
        have D5 := D4.same s5
        have f35 : FrD d l H3 (upd H4 t (.tup (vN fs))) := f4.trans (Same.frd s5)
        generalize upd H4 t (.tup (vN fs)) = H5 at *
        have h5 := f35 p _ n1 n2 h3
        refine ⟨_, rfl, .inl ⟨rfl, _, SqL.of h5⟩, _, rfl, _, rfl, _, rfl, d, l, n, B, rfl, D5, hn, hn4, hB1, hB9, fun v P H6 f6 D6 hPl hP0 hPB hT => ⟨_, rfl, (show 2 ≤ sizeLine by decide), fun u hu => ?_⟩⟩
        have s7 : Same H6 (upd H6 u (.tup [v, .ref t])) := Same.new hu
        have hu7 : upd H6 u (.tup [v, .ref t]) u = some (.tup [v, .ref t]) := upd_same
        have D7 := D6.same s7
        have f37 : FrD d l H3 (upd H6 u (.tup [v, .ref t])) := (f35.trans f6).trans (Same.frd s7)
        have hT7 := hT.tk (Same.tk s7)
        have ht7 := (ht5.tk (f6.tk D5)).tk (Same.tk s7)
        generalize upd H6 u (.tup [v, .ref t]) = H7 at *
        have h7 := f37 p _ n1 n2 h3
        have tk8 : Tk H7 (upd H7 p (.lst (xs ++ [.ref u]))) := Tk.put h7 rfl
        have hS : Sta K (upd H7 p (.lst (xs ++ [.ref u]))) (.ref u) (P, fs) := Sta.tk ⟨u, v, .ref t, rfl, SqT.of hu7, hT7, ht7⟩ tk8
        refine ⟨p, xs, _, rfl, rfl, h7, szl_ (by omega), _, _, _, xs ++ [.ref u], M ++ [(P, fs)], rfl, (f3.trans f37).new hp0, D7.put n1 n2, upd_same, by simp [hx], by simp [hM], fun j x hj => ?_, fun s hs => ?_⟩
        · by_cases c : j < xs.length
          · rw [List.getElem?_append_left c] at hj
            have := hsx j x hj
            rw [List.getD_eq_getElem?_getD, List.getElem?_append_left (by omega), ← List.getD_eq_getElem?_getD]
            exact (this.tk (f37.tk D3)).tk tk8
          · rw [List.getElem?_append_right (by omega)] at hj
            obtain rfl : j = i := by
              have := (List.getElem?_eq_some_iff.mp hj).1
              simp at this
              omega
            rw [hx, Nat.sub_self] at hj
            cases hj
            rw [List.getD_eq_getElem?_getD, List.getElem?_append_right (by omega), hM, Nat.sub_self]
            exact hS
        · rcases List.mem_append.mp hs with h | h
          · exact hsM s h
          · rw [List.mem_singleton.mp h]; exact ⟨hPl, hl4, hf4, hP0, hPB⟩
    · obtain ⟨a, b, c, xs, M, rfl, f3, D3, h3, hx, hM, hsx, hsM⟩ := h
      refine ⟨_, rfl, p, xs, rfl, SqL.of h3, fun t ht => ?_⟩
      have s4 := Same.new (o := .tup xs) ht
      have mem : ∀ q, q < M.length → M.getD q ([], []) ∈ M := fun q hq => by rw [List.getD_eq_getElem?_getD, List.getElem?_eq_getElem hq]; exact List.getElem_mem hq
      refine k _ M n _ (f3.trans (Same.frd s4)) (D3.same s4) ⟨t, xs, rfl, SqT.of upd_same, by omega, fun j x hj => (hsx j x hj).tk (Same.tk s4)⟩ ⟨by omega, hw, hw5, hn, hn4, by omega, fun q hq => (hsM _ (mem q hq)).1, fun q hq => (hsM _ (mem q hq)).2.1, fun q i hq hi => ?_, fun q hq => (hsM _ (mem q hq)).2.2.2.1, fun q hq => by rw [eB]; exact (hsM _ (mem q hq)).2.2.2.2⟩
      have h1 := (hsM _ (mem q hq)).2.2.1
      have h2 := (hsM _ (mem q hq)).2.1
      rw [hM]
      exact h1 _ (getD_mem (by omega))
end
end K59

namespace K59
open PySem PySem.Spec PyProof.Rows L2
open C8 (Cal Met Mak pe_c pe_mk pe_mt pe_mt0 pe_gc)
section
variable {P : Program} {w : World} {K : PySem.W.Frag} {mg : Str → Option Value} {base : Heap}
theorem gn {i : Nat} {x : V} {σ : L2.St} {H : Hp} {R : L2.St → Hp → Prop} (h : R (σ.set i (some x)) H) : gName i x σ H R := h
theorem for_enT {K : PySem.W.Frag} {a : Addr} {xs : List V} {g : TG} {tb : TS} {D : Ends} {σ : L2.St} {H : Hp} (Pv : Nat → L2.St → Hp → Prop) (h0 : Pv 0 σ H) (hl : ∀ i σ H, i ≤ xs.length → Pv i σ H → SqT K H a xs)
    (hs : ∀ i x σ H, xs[i]? = some x → Pv i σ H → ∀ T, H T = none → g (.ref T) σ (upd H T (.tup [.int (i : Nat), x])) fun σ2 H2 => tb { D with nx := Pv (i + 1), ct := Pv (i + 1), bk := D.nx } σ2 H2) (hd : ∀ σ H, Pv xs.length σ H → D.nx σ H) :
    ∃ W : Nat → Nat → L2.St → Hp → Prop, (∃ m, W 0 m σ H) ∧ ∀ i m σ H, W i m σ H →
      ((Iet K a).stop i H ∧ D.nx σ H) ∨ ((Iet K a).go i H ∧ ∃ N : L2.St → Hp → Prop, (∀ σ' H', N σ' H' → ∃ m', m' < m ∧ W (i + 1) m' σ' H') ∧ ∀ x H', (Iet K a).yld i H x H' → g x σ H' fun σ2 H2 => tb { D with nx := N, ct := N, bk := D.nx } σ2 H2) := by
  refine ⟨fun i m σ H => m = xs.length - i ∧ i ≤ xs.length ∧ Pv i σ H, ⟨xs.length, by simp, Nat.zero_le _, h0⟩, ?_⟩
  rintro i m σ H ⟨rfl, hi, p⟩
  have q := hl i σ H hi p
  by_cases hlt : i < xs.length
  · refine .inr ⟨⟨xs, xs[i], q, by simp [hlt]⟩, Pv (i + 1), fun σ' H' p' => ⟨xs.length - (i + 1), by omega, rfl, hlt, p'⟩, fun x H' y => ?_⟩
    obtain ⟨T, z, e, hT, e2, y⟩ := y
    subst e e2
    exact hs i z σ _ (y xs q) p T hT
  · have e : i = xs.length := by omega
    subst e
    exact .inl ⟨⟨xs, q, Nat.le_refl _⟩, hd σ H p⟩
/-- tuples stay, tracked ones tracked -/
def TT (H H' : Hp) : Prop := Tk H H' ∧ ∀ a xs, H a = some (.tup xs) → H' a = some (.tup xs)
theorem TT.refl (H : Hp) : TT H H := ⟨Tk.refl H, fun _ _ h => h⟩
theorem TT.trans {H H1 H2 : Hp} (a : TT H H1) (b : TT H1 H2) : TT H H2 := ⟨a.1.trans b.1, fun c o h => b.2 c o (a.2 c o h)⟩
theorem Same.tt {H H' : Hp} (e : Same H H') : TT H H' := ⟨Same.tk e, fun a xs h => e a _ h⟩
theorem TT.put {H : Hp} {p : Addr} {o u : HO} (h : H p = some u) (hn : isTup u = false) : TT H (upd H p o) := ⟨Tk.put h hn, fun a xs z => by
  rw [upd_ne (fun e => by subst e; rw [h] at z; cases z; cases hn)]; exact z⟩
theorem q_catH {K : PySem.W.Frag} {H : Hp} {Q : VK} {a b : Addr} {xs ys : List V} (h1 : H a = some (.tup xs)) (h2 : H b = some (.tup ys)) (hl : xs.length + ys.length ≤ 100000) (k : ∀ t H', Same H H' → H' t = some (.tup (xs ++ ys)) → Q (.ref t) H') : rCatA K (.ref a) (.ref b) H Q := by
  refine ⟨a, b, xs, ys, rfl, rfl, SqT.of h1, SqT.of h2, sz_ hl, fun e => ?_, fun _ e => ?_, fun _ _ p hp => ?_⟩
  · subst e; exact k b H (Same.refl H) h2
  · subst e; exact k a H (Same.refl H) (by rw [List.append_nil]; exact h1)
  · exact k p _ (Same.new hp) upd_same
/-- one of all ways, by its number -/
def Ent (K : PySem.W.Frag) (M : Md) (w : Nat) (H : Hp) (x : V) (p : List Nat) : Prop := ∃ (t tw tt : Addr) (z : Nat), x = .ref t ∧
  H t = some (.tup [.ref tw, .int (topW M w (r0 w) p : Nat), .int (botW M w (r0 w) p : Nat), .int (w + (goes M w (r0 w) p).o.length : Nat), .ref tt, .int (goes M w (r0 w) p).st]) ∧
  H tw = some (.tup (vN p)) ∧ TupN K H (.ref tt) [(goes M w (r0 w) p).l, (goes M w (r0 w) p).s, z]
theorem Ent.tt {K : PySem.W.Frag} {M : Md} {w : Nat} {H H' : Hp} {x : V} {p : List Nat} (h : Ent K M w H x p) (e : TT H H') : Ent K M w H' x p :=
  let ⟨t, tw, tt, z, a, b, c, d⟩ := h; ⟨t, tw, tt, z, a, e.2 _ _ b, e.2 _ _ c, d.tk e.1⟩
/-- what _law_all_ways hands back of it -/
def W4 (K : PySem.W.Frag) (M : Md) (w : Nat) (H : Hp) (x : V) (p : List Nat) : Prop := ∃ (t tw : Addr), x = .ref t ∧
  SqT K H t [.ref tw, .int (topW M w (r0 w) p : Nat), .int (botW M w (r0 w) p : Nat), .int (w + (goes M w (r0 w) p).o.length : Nat)] ∧ H tw = some (.tup (vN p))
theorem W4.tt {K : PySem.W.Frag} {M : Md} {w : Nat} {H H' : Hp} {x : V} {p : List Nat} (h : W4 K M w H x p) (e : TT H H') : W4 K M w H' x p :=
  let ⟨t, tw, a, b, c⟩ := h; ⟨t, tw, a, e.1.sq b, e.2 _ _ c⟩
def All2 (R : V → List Nat → Prop) (xs : List V) (L : List (List Nat)) : Prop := xs.length = L.length ∧ ∀ (j : Nat) (x : V) (p : List Nat), xs[j]? = some x → L[j]? = some p → R x p
theorem All2.mono {R S : V → List Nat → Prop} {xs : List V} {L : List (List Nat)} (h : All2 R xs L) (f : ∀ x p, R x p → S x p) : All2 S xs L := ⟨h.1, fun j x p a b => f _ _ (h.2 j x p a b)⟩
theorem All2.snoc {R : V → List Nat → Prop} {xs : List V} {L : List (List Nat)} {x : V} {p : List Nat} (h : All2 R xs L) (hx : R x p) : All2 R (xs ++ [x]) (L ++ [p]) := by
  obtain ⟨h1, h2⟩ := h
  refine ⟨by simp [h1], fun j y q hy hq => ?_⟩
  by_cases c : j < xs.length
  · rw [List.getElem?_append_left c] at hy
    rw [List.getElem?_append_left (by omega)] at hq
    exact h2 j y q hy hq
  · rw [List.getElem?_append_right (by omega)] at hy
    rw [List.getElem?_append_right (by omega), ← h1] at hq
    have e : j - xs.length = 0 := by
      have := (List.getElem?_eq_some_iff.mp hy).1
      simpa using this
    rw [e] at hy hq
    cases hy; cases hq
    exact hx
theorem All2.get {R : V → List Nat → Prop} {xs : List V} {L : List (List Nat)} (h : All2 R xs L) {j : Nat} {x : V} (hx : xs[j]? = some x) : ∃ p, L[j]? = some p ∧ R x p := by
  have hj : j < L.length := by rw [← h.1]; exact (List.getElem?_eq_some_iff.mp hx).1
  exact ⟨L[j], List.getElem?_eq_getElem hj, h.2 j x _ hx (List.getElem?_eq_getElem hj)⟩
theorem nxt_snoc (M : Md) (w : Nat) (L : List (List Nat)) (p : List Nat) : nxt M w (L ++ [p]) = nxt M w L ++ (outs (parts M (goes M w (r0 w) p).st)).map fun i => p ++ [i] := by simp [nxt]
theorem rt_iff {p S : Nat} (hS : 0 < S) : 0 < rt p S ↔ 0 < p := by
  constructor
  · intro h
    cases p with
    | zero => rw [(rt_zero hS).1] at h; exact h
    | succ p => omega
  · exact rt_pos
/-- told[1] is told's size -/
theorem goes1 (M : Md) (w : Nat) (r : Rg) (p : List Nat) (i : Nat) : goes M w r (p ++ [i]) = stp M w (goes M w r p) i := by rw [goes_app]; rfl
theorem sc__law_all_ways : FnScope ["_law_model_here", "_law_w", "_law_k", "_law_found", "_law_go", "_law_later", "_law_way", "_law_top", "_law_bottom", "_law_many", "_law_told", "_law_state", "_law_table_here", "_law_followers", "_law_i", "_law_chance", "_law_a", "_law_b", "_law_near", "_law_more", "_law_it", "_law_step"] ["_law_model_here", "_law_w", "_law_k"] (defScope s__law_all_ways) := ⟨rfl, rfl, rfl, by decide +kernel, rfl, by decide +kernel, by decide +kernel⟩
def sp__law_all_ways (K : PySem.W.Frag) : Sp := fun vs H Q _ => ∃ (v : V) (M : Md) (n w k : Nat), vs = [v, .int w, .int k] ∧ Mod_ K H v M ∧ MOk M n w ∧ k ≤ 8 ∧ ∀ (q : Addr) (xs : List V) H', Same H H' → H q = none → H' q = some (.lst xs) → ((xs = [] ∧ ∃ g, g ≤ k ∧ 60 < (lv M w g).length) ∨ (All2 (W4 K M w H') xs (lv M w k) ∧ ∀ g, g ≤ k → (lv M w g).length ≤ 60)) → Q (.ref q) H'
theorem c__law_all_ways (T : Fx K mg) (c__law_part : Cal P w K mg base 2 "_law_part" (sp__law_part K) []) (c__law_widened : Cal P w K mg base 1 "_law_widened" (sp__law_widened K) []) : Cal P w K mg base 3 "_law_all_ways" (sp__law_all_ways K) [] := by
  refine T.cal 45 45 rfl rfl sc__law_all_ways (fun _ _ _ _ _ _ us hl => match us, hl with | [_, _, _], _ => rfl) (fun vs H Q E h => ?_) (fun cdv A outer s H vs Q E hr h => ?_)
  · obtain ⟨v, M, n, w', kk, rfl, hm, m, hk, k⟩ := h
    rfl
  · obtain ⟨v, M, n, w', kk, rfl, hm, m, hk, k⟩ := h
    have hu := hu_of hr
    refine ⟨_, (pss_cons (ps_set (i := 3) sc__law_all_ways.nd rfl (Or.inl rfl) (pe_lst (pa_cons (pe_tup (pa_cons (pe_tup pa_nil) (pa_cons pe_int (pa_cons pe_int (pa_cons (pv 1) (pa_cons (pe_tup (pa_cons pe_int (pa_cons (pe_op op_shl pe_int (pv 1)) (pa_cons pe_int pa_nil)))) (pa_cons pe_int pa_nil))))))) pa_nil)))
    (pss_cons (ps_for PassesOwn.never rfl (pi_range1 (by rfl) T.m_range (pa_cons (pv 2) pa_nil)) (pg_name (i := 4) sc__law_all_ways.nd rfl (Or.inl rfl))
      (pss_cons (ps_set (i := 5) sc__law_all_ways.nd rfl (Or.inl rfl) (pe_lst pa_nil))
    (pss_cons (ps_for PassesOwn.never rfl (pi_list (pv 3)) (pg_tupK K 6 rfl rfl (pgs_cons (pg_name (i := 6) sc__law_all_ways.nd rfl (Or.inl rfl)) (pgs_cons (pg_name (i := 7) sc__law_all_ways.nd rfl (Or.inl rfl)) (pgs_cons (pg_name (i := 8) sc__law_all_ways.nd rfl (Or.inl rfl)) (pgs_cons (pg_name (i := 9) sc__law_all_ways.nd rfl (Or.inl rfl)) (pgs_cons (pg_name (i := 10) sc__law_all_ways.nd rfl (Or.inl rfl)) (pgs_cons (pg_name (i := 11) sc__law_all_ways.nd rfl (Or.inl rfl)) pgs_nil)))))))
      (pss_cons (ps_asg (pe_ix (k_ixT K rfl) (pv 0) (pv 11) (fun _ _ => rfl)) (pg_tupK K 2 rfl rfl (pgs_cons (pg_name (i := 12) sc__law_all_ways.nd rfl (Or.inl rfl)) (pgs_cons (pg_name (i := 13) sc__law_all_ways.nd rfl (Or.inl rfl)) pgs_nil))))
    (pss_one (ps_for PassesOwn.never rfl (pi_enT (by rfl) T.m_enumerate (pa_cons (pv 12) pa_nil)) (pg_tupK K 2 rfl rfl (pgs_cons (pg_name (i := 14) sc__law_all_ways.nd rfl (Or.inl rfl)) (pgs_cons (pg_name (i := 15) sc__law_all_ways.nd rfl (Or.inl rfl)) pgs_nil)))
      (pss_one (ps_if (pt_cmpR op_gt (pe_ix (k_ixT K rfl) (pv 15) pe_int (fun _ _ => rfl)) pe_int (nomark _))
      (pss_cons (ps_asg (pe_c c__law_part hr (by decide) (by rfl) (pa_cons (pv 12) (pa_cons (pe_ix (k_ixT K rfl) (pv 10) pe_int (fun _ _ => rfl)) (pa_cons (pv 14) pa_nil)))) (pg_tupK K 2 rfl rfl (pgs_cons (pg_name (i := 16) sc__law_all_ways.nd rfl (Or.inr rfl)) (pgs_cons (pg_name (i := 17) sc__law_all_ways.nd rfl (Or.inr rfl)) pgs_nil))))
    (pss_cons (ps_set (i := 18) sc__law_all_ways.nd rfl (Or.inr rfl) (pe_ix (k_ixT K rfl) (pe_c c__law_widened hr (by decide) (by rfl) (pa_cons (pv 1) (pa_cons (pe_op op_add (pe_ix (k_ixT K rfl) (pv 10) pe_int (fun _ _ => rfl)) (pv 16)) (pa_cons (pe_op op_sub (pv 17) (pv 16)) (pa_cons pe_int (pa_cons (pe_tup pa_nil) pa_nil)))))) pe_int (fun _ _ => rfl)))
    (pss_cons (ps_set (i := 19) sc__law_all_ways.nd rfl (Or.inl rfl) (pe_ix (k_ixL K rfl) (pe_lc (own := [("_law_step", 21)]) rfl sc__law_all_ways.nd (pi_range1 (by rfl) T.m_range (pa_cons pe_int pa_nil)) (blkOk_by (own := [("_law_step", 21)]) (N := ["_law_model_here", "_law_w", "_law_k", "_law_found", "_law_go", "_law_later", "_law_way", "_law_top", "_law_bottom", "_law_many", "_law_told", "_law_state", "_law_table_here", "_law_followers", "_law_i", "_law_chance", "_law_a", "_law_b", "_law_near", "_law_more", "_law_it", "_law_step"]) (sc := defScope s__law_all_ways) (by decide +kernel)) (fun _ _ _ _ _ => (pg_name (i := 21) sc__law_all_ways.nd rfl (Or.inl rfl) (Or.inr rfl))) (fun _ _ _ _ _ => (pts_one (pt_cmpR op_eq (pe_op op_shl (pe_op op_sub (pv 17) (pv 16)) (pv 21)) (pe_ix (k_ixT K rfl) (pv 18) pe_int (fun _ _ => rfl)) (nomark _)))) (fun _ _ _ _ _ => (pv 21))) pe_int (fun _ _ => rfl)))
    (pss_one (ps_expr (pe_bm PySem.F.plainAttrs_list PySem.F.slot_list_append PySem.F.type_list_append mt_append (pv 5) (pa_cons (pe_tup (pa_cons (pe_op (k_cat K rfl) (pv 6) (pe_tup (pa_cons (pv 14) pa_nil))) (pa_cons (pe_op op_mul (pv 7) (pe_op op_sub (pv 17) (pv 16))) (pa_cons (pe_op op_mul (pv 8) (pe_ix (k_ixT K rfl) (pv 10) pe_int (fun _ _ => rfl))) (pa_cons (pe_op op_add (pv 9) (pv 19)) (pa_cons (pv 18) (pa_cons (pe_ix (k_ixT K rfl) (pv 13) (pv 14) (fun _ _ => rfl)) pa_nil))))))) pa_nil)))))))
      pss_nil))))))
    (pss_cons (ps_set (i := 3) sc__law_all_ways.nd rfl (Or.inl rfl) (pv 5))
    (pss_one (ps_if (pt_cmpR op_gt (pe_callB (k_len K rfl) (by rfl) T.m_len (by decide +kernel) (pa_cons (pv 3) pa_nil)) pe_int (nomark _))
      (pss_one (ps_ret (pe_lst pa_nil)))
      pss_nil))))))
    (pss_one (ps_ret (pe_lc (own := [("_law_it", 20)]) rfl sc__law_all_ways.nd (pi_list (pv 3)) (blkOk_by (own := [("_law_it", 20)]) (N := ["_law_model_here", "_law_w", "_law_k", "_law_found", "_law_go", "_law_later", "_law_way", "_law_top", "_law_bottom", "_law_many", "_law_told", "_law_state", "_law_table_here", "_law_followers", "_law_i", "_law_chance", "_law_a", "_law_b", "_law_near", "_law_more", "_law_it", "_law_step"]) (sc := defScope s__law_all_ways) (by decide +kernel)) (fun _ _ _ _ _ => (pg_name (i := 20) sc__law_all_ways.nd rfl (Or.inl rfl) (Or.inr rfl))) (fun _ _ _ _ _ => pts_nil) (fun _ _ _ _ _ => (pe_slice (k_slT K rfl) (pv 20) po_none (po_some pe_int)))))))), ?_⟩
    obtain ⟨tm, xsm, rfl, htm, hlm, _, hxm⟩ := hm.items
    have hw := m.w2
    have hw5 := m.w16
    have hq6 : 2 ^ w' ≤ 2 ^ 5 := Nat.pow_le_pow_right (by decide) (by omega)
    have hq5 : 2 ^ (w' - 2) ≤ 2 ^ 3 := Nat.pow_le_pow_right (by decide) (by omega)
    refine sj (fun σ H1 => ∃ (F : Addr) (xs : List V), σ = [some (.ref tm), some (.int w'), some (.int kk), some (.ref F), none, none, none, none, none, none, none, none, none, none, none, none, none, none, none, none, none, none] ∧ Same H H1 ∧ H F = none ∧ H1 F = some (.lst xs) ∧ All2 (Ent K M w' H1) xs (lv M w' 0)) (fun R hR => ?_) (fun σ H1 h => ?_)
    · refine ⟨Nat.zero_le _, fun p1 h1 => ?_⟩
      have s1 : Same H (upd H p1 (.tup [])) := Same.new h1
      have g1 : upd H p1 (.tup []) p1 = some (.tup []) := upd_same
      generalize upd H p1 (.tup []) = H1 at *
      refine ⟨_, rfl, _, rfl, _, _, rfl, rfl, ⟨by omega, by omega, by decide⟩, (show 3 ≤ sizeLine by decide), fun p2 h2 => ?_⟩
      have e2 : (1 : Int) * 2 ^ (w' : Int).toNat = ((2 ^ w' : Nat) : Int) := shlN rfl
      have e3 : (HO.tup [V.int 0, (fun i j : Int => V.int (i * 2 ^ j.toNat)) 1 (w' : Int), V.int 0]) = HO.tup [V.int (0 : Nat), V.int ((2 ^ w' : Nat) : Int), V.int (0 : Nat)] := by dsimp only; rw [e2]; rfl
      rw [e3]
      have s2 : Same H1 (upd H1 p2 (.tup [V.int (0 : Nat), V.int ((2 ^ w' : Nat) : Int), V.int (0 : Nat)])) := Same.new h2
      have g2 : upd H1 p2 (.tup [V.int (0 : Nat), V.int ((2 ^ w' : Nat) : Int), V.int (0 : Nat)]) p2 = some (.tup [V.int (0 : Nat), V.int ((2 ^ w' : Nat) : Int), V.int (0 : Nat)]) := upd_same
      generalize upd H1 p2 (.tup [V.int (0 : Nat), V.int ((2 ^ w' : Nat) : Int), V.int (0 : Nat)]) = H2 at *
      refine ⟨(show 6 ≤ sizeLine by decide), fun p3 h3 => ?_⟩
      have s3 : Same H2 (upd H2 p3 (.tup [.ref p1, .int 1, .int 1, .int w', .ref p2, .int 0])) := Same.new h3
      have g3 : upd H2 p3 (.tup [.ref p1, .int 1, .int 1, .int w', .ref p2, .int 0]) p3 = some (.tup [.ref p1, .int 1, .int 1, .int w', .ref p2, .int 0]) := upd_same
      generalize upd H2 p3 (.tup [.ref p1, .int 1, .int 1, .int w', .ref p2, .int 0]) = H3 at *
      refine ⟨(show 1 ≤ sizeLine by decide), fun p4 h4 => ?_⟩
      have s4 : Same H3 (upd H3 p4 (.lst [.ref p3])) := Same.new h4
      refine hR _ _ ⟨p4, _, rfl, ((s1.trans s2).trans s3).trans s4, ((s1.trans s2).trans s3).free h4, upd_same, rfl, fun j x p hx hp => ?_⟩
      have hj : j = 0 := by have := (List.getElem?_eq_some_iff.mp hx).1; simpa using this
      subst hj
      cases hx
      cases hp
      exact ⟨p3, p1, p2, 0, rfl, s4 _ _ g3, s4 _ _ (s3 _ _ (s2 _ _ g1)), p2, rfl, SqT.of (s4 _ _ (s3 _ _ g2))⟩
    obtain ⟨F, xs, rfl, s1, hF0, hF, hA⟩ := h
    refine sj (fun σ H2 => ∃ (F : Addr) (xs : List V) (x4 x5 x6 x7 x8 x9 x10 x11 x12 x13 x14 x15 x16 x17 x18 x19 : Option V), σ = [some (.ref tm), some (.int w'), some (.int kk), some (.ref F), x4, x5, x6, x7, x8, x9, x10, x11, x12, x13, x14, x15, x16, x17, x18, x19, none, none] ∧ Same H H2 ∧ H F = none ∧ H2 F = some (.lst xs) ∧ All2 (Ent K M w' H2) xs (lv M w' kk) ∧ ∀ g, g ≤ kk → (lv M w' g).length ≤ 60) (fun R hR => ?_) (fun σ H2 h => ?_)
    · refine ⟨_, rfl, kk, rfl, by omega, by omega, for_range (lo := 0) (n := kk) (fun g σ H2 => ∃ (F : Addr) (xs : List V) (x4 x5 x6 x7 x8 x9 x10 x11 x12 x13 x14 x15 x16 x17 x18 x19 : Option V), σ = [some (.ref tm), some (.int w'), some (.int kk), some (.ref F), x4, x5, x6, x7, x8, x9, x10, x11, x12, x13, x14, x15, x16, x17, x18, x19, none, none] ∧ Same H H2 ∧ H F = none ∧ H2 F = some (.lst xs) ∧ All2 (Ent K M w' H2) xs (lv M w' g) ∧ ∀ g', g' ≤ g → (lv M w' g').length ≤ 60)
        ⟨F, xs, _, _, _, _, _, _, _, _, _, _, _, _, _, _, _, _, rfl, s1, hF0, hF, hA, fun g hg => ?_⟩ (fun g σ H2 hg h => ?_) (fun σ H2 h => ?_)⟩
      · obtain rfl : g = 0 := by omega
        simp [lv]
      · clear hA hF hF0 s1
        obtain ⟨F, xs, x4, x5, x6, x7, x8, x9, x10, x11, x12, x13, x14, x15, x16, x17, x18, x19, rfl, s2, hF0, hF, hA, hG⟩ := h
        refine ⟨Nat.zero_le _, fun D hD => gn ?_⟩
        have nDF : F ≠ D := ne_of_none hF hD
        have hD0 : H D = none := s2.free hD
        have s3 : Same H2 (upd H2 D (.lst [])) := Same.new hD
        have hL60 := hG g (Nat.le_refl g)
        have hmem : ∀ p, p ∈ lv M w' g → VW M 0 p := fun p hp => ((lv_mem m g p).mp hp).1
        have hlen : ∀ p, p ∈ lv M w' g → p.length = g := fun p hp => ((lv_mem m g p).mp hp).2
        dsimp only
        refine sj (fun σ H3 => ∃ (ys : List V) (x4 x6 x7 x8 x9 x10 x11 x12 x13 x14 x15 x16 x17 x18 x19 : Option V), σ = [some (.ref tm), some (.int w'), some (.int kk), some (.ref F), x4, some (.ref D), x6, x7, x8, x9, x10, x11, x12, x13, x14, x15, x16, x17, x18, x19, none, none] ∧ Same H H3 ∧ H3 D = some (.lst ys) ∧ All2 (Ent K M w' H3) ys (lv M w' (g + 1))) (fun R hR => ?_) (fun σ H3 h => ?_)
        · refine ⟨_, rfl, F, rfl, ⟨_, SqL.of (s3 _ _ hF)⟩, for_list (K := K) (a := F) (xs := xs) (fun j σ H3 => ∃ (ys : List V) (x4 x6 x7 x8 x9 x10 x11 x12 x13 x14 x15 x16 x17 x18 x19 : Option V), σ = [some (.ref tm), some (.int w'), some (.int kk), some (.ref F), x4, some (.ref D), x6, x7, x8, x9, x10, x11, x12, x13, x14, x15, x16, x17, x18, x19, none, none] ∧
            Same H H3 ∧ TT H2 H3 ∧ H3 F = some (.lst xs) ∧ H3 D = some (.lst ys) ∧ All2 (Ent K M w' H3) ys (nxt M w' ((lv M w' g).take j)) ∧ ys.length ≤ 4 * j)
            ⟨[], _, _, _, _, _, _, _, _, _, _, _, _, _, _, _, rfl, s2.trans s3, Same.tt s3, s3 _ _ hF, upd_same, ⟨rfl, fun j x p hx => by simp at hx⟩, Nat.zero_le _⟩ (fun j σ H3 _ h => let ⟨_, _, _, _, _, _, _, _, _, _, _, _, _, _, _, _, _, _, _, h, _⟩ := h; SqL.of h) (fun j x σ H3 hj h => ?_) (fun σ H3 h => ?_)⟩
          · obtain ⟨ys, x4, x6, x7, x8, x9, x10, x11, x12, x13, x14, x15, x16, x17, x18, x19, rfl, s4, t4, hF3, hD3, hB, hyl⟩ := h
            obtain ⟨p, hp, hE⟩ := hA.get hj
            have hpm := List.mem_of_getElem? hp
            have vw := hmem p hpm
            have hpl := hlen p hpm
            have hjl : j < (lv M w' g).length := (List.getElem?_eq_some_iff.mp hp).1
            obtain ⟨t, tw, tt, z, rfl, ht, htw, htt⟩ := hE.tt t4
            have I := RI.goes m (RI.zero m) vw
            have vw0 : VW M (r0 w').st p := vw
            have et : (lv M w' g).take (j + 1) = (lv M w' g).take j ++ [p] := by
              rw [List.take_succ_eq_append_getElem hjl, (List.getElem?_eq_some_iff.mp hp).2]
            rw [et, nxt_snoc]
            generalize nxt M w' ((lv M w' g).take j) = N at *
            have eT : ∀ i, topW M w' (r0 w') (p ++ [i]) = topW M w' (r0 w') p * (ca (parts M (goes M w' (r0 w') p).st) (goes M w' (r0 w') p).s (i + 1) - ca (parts M (goes M w' (r0 w') p).st) (goes M w' (r0 w') p).s i) := fun i => by rw [topW_app]; simp [topW]
            have eBo : ∀ i, botW M w' (r0 w') (p ++ [i]) = botW M w' (r0 w') p * (goes M w' (r0 w') p).s := fun i => by rw [botW_app]; simp [botW]
            have eG : ∀ i, goes M w' (r0 w') (p ++ [i]) = stp M w' (goes M w' (r0 w') p) i := fun i => goes1 M w' (r0 w') p i
            generalize eR : goes M w' (r0 w') p = r at *
            generalize topW M w' (r0 w') p = tp at *
            generalize botW M w' (r0 w') p = bt at *
            obtain ⟨y, hy⟩ : ∃ y, xsm[r.st]? = some y := ⟨xsm[r.st]'(by have := I.st; omega), List.getElem?_eq_getElem (by have := I.st; omega)⟩
            obtain ⟨ts, yt, yf, rfl, hts, hyt, hyf⟩ := (hxm r.st y hy).tk (Same.tk s4)
            obtain ⟨tb, zs, rfl, htb, hlz, hz⟩ := id hyt
            have lq := m.len _ I.st
            have lf := m.lef _ I.st
            have fit := m.fit _ I.st
            have ps := m.pos _ I.st
            have lo := I.lo
            have bg := I.big
            have n8 := m.n8
            have hlz' : zs.length = (parts M r.st).length := hlz
            have hz' : ∀ i x, zs[i]? = some x → TupN K H3 x [rt ((parts M r.st).getD i 0) (parts M r.st).sum, rb ((parts M r.st).getD i 0) (parts M r.st).sum] := hz
            refine ⟨t, _, rfl, SqT.of ht, rfl, _, _, rfl, _, _, rfl, _, _, rfl, _, _, rfl, _, _, rfl, _, _, rfl, rfl, ?_⟩
            refine ⟨_, rfl, _, rfl, tm, xsm, _, _, rfl, rfl, (Same.tk s4).sq htm, atI_nat hy, ts, _, rfl, hts, rfl, _, _, rfl, _, _, rfl, rfl, ?_⟩
            refine ⟨_, rfl, tb, zs, rfl, htb, for_enT (K := K) (a := tb) (xs := zs) (fun i σ H4 => ∃ (ys : List V) (x14 x15 x16 x17 x18 x19 : Option V), σ = [some (.ref tm), some (.int w'), some (.int kk), some (.ref F), x4, some (.ref D), some (.ref tw), some (.int (tp : Nat)), some (.int (bt : Nat)), some (.int (w' + r.o.length : Nat)), some (.ref tt), some (.int r.st), some (.ref tb), some yf, x14, x15, x16, x17, x18, x19, none, none] ∧
              Same H H4 ∧ TT H3 H4 ∧ H4 F = some (.lst xs) ∧ H4 D = some (.lst ys) ∧ All2 (Ent K M w' H4) ys (N ++ ((List.range i).filter fun i => decide (0 < (parts M r.st).getD i 0)).map fun i => p ++ [i]) ∧ ys.length ≤ 4 * j + i)
              ⟨ys, _, _, _, _, _, _, rfl, s4, TT.refl H3, hF3, hD3, by simpa using hB, hyl⟩ (fun i σ H4 _ h => let ⟨_, _, _, _, _, _, _, _, _, t, _⟩ := h; t.1.sq htb) (fun i x σ H4 hi h T hT => ?_) (fun σ H4 h => ?_)⟩
            · clear hB hyl hD3 hF3
              obtain ⟨ys, x14, x15, x16, x17, x18, x19, rfl, s5, t5, hF4, hD4, hB, hyl⟩ := h
              have hil : i < (parts M r.st).length := by rw [← hlz']; exact (List.getElem?_eq_some_iff.mp hi).1
              have s6 : Same H4 (upd H4 T (.tup [.int (i : Nat), x])) := Same.new hT
              have hT6 : upd H4 T (.tup [.int (i : Nat), x]) T = some (.tup [.int (i : Nat), x]) := upd_same
              generalize upd H4 T (.tup [.int (i : Nat), x]) = H6 at *
              have s06 := s5.trans s6
              have t36 := t5.trans (Same.tt s6)
              have hF6 := s6 _ _ hF4
              have hD6 := s6 _ _ hD4
              have hB6 : All2 (Ent K M w' H6) ys _ := hB.mono fun x p h => h.tt (Same.tt s6)
              clear hB hF4 hD4 s6 hT t5 s5
              obtain ⟨tx, rfl, htx⟩ := ((hz' i x hi).tk t36.1).sq2
              obtain ⟨tt', ett, htt6⟩ : ∃ t', V.ref tt = .ref t' ∧ SqT K H6 t' [.int (r.l : Int), .int (r.s : Int), .int (z : Int)] := htt.tk t36.1
              cases ett
              refine ⟨T, _, rfl, SqT.of hT6, rfl, _, _, rfl, _, _, rfl, rfl, ?_⟩
              refine ⟨_, rfl, _, _, _, _, rfl, rfl, htx, rfl, _, _, rfl, rfl, _, rfl, ?_⟩
              rw [List.range_succ, List.filter_append]
              by_cases c : 0 < (parts M r.st).getD i 0
              · have c' : 0 < rt ((parts M r.st).getD i 0) (parts M r.st).sum := rt_pos c
                rw [List.filter_cons_of_pos (by simpa using c), List.filter_nil, List.map_append, ← List.append_assoc]
                refine iD (by show (0 : Int) < _; omega) ?_
                obtain ⟨g1, g2, g3⟩ := stp_stl m I c
                have hsz := g3.size
                have hol := g3.len (by omega) (by omega) (by omega)
                have eG' := eG i
                have eT' := eT i
                have eB' := eBo i
                have hs32 : r.s ≤ 32 := by omega
                refine ⟨_, rfl, _, rfl, _, _, _, _, rfl, rfl, htt6, rfl, _, rfl, .ref tb, parts M r.st, r.s, i, rfl, Tab.tk hyt t36.1, ps, by omega, hil, by omega, by omega, fun v7 H7 s7 hv7 => ?_⟩
                obtain ⟨t7, rfl, ht7⟩ := hv7.sq2
                refine ⟨t7, _, rfl, ht7, rfl, _, _, rfl, _, _, rfl, rfl, ?_⟩
                have hsub : ((ca (parts M r.st) r.s (i + 1) : Nat) : Int) - (ca (parts M r.st) r.s i : Nat) = ((ca (parts M r.st) r.s (i + 1) - ca (parts M r.st) r.s i : Nat) : Int) := by omega
                generalize hA1 : ca (parts M r.st) r.s i = A1 at *
                generalize hA2 : ca (parts M r.st) r.s (i + 1) = A2 at *
                have htt7 := (Same.tk s7).sq htt6
                refine ⟨_, rfl, _, rfl, _, _, _, _, rfl, rfl, htt7, rfl, _, rfl, _, _, rfl, rfl, _, rfl, _, rfl, _, _, rfl, rfl, Nat.zero_le _, fun p8 hp8 => ?_⟩
                have s8 : Same H7 (upd H7 p8 (.tup [])) := Same.new hp8
                have hp88 : upd H7 p8 (.tup []) p8 = some (.tup []) := upd_same
                generalize upd H7 p8 (.tup []) = H8 at *
                refine ⟨w', r.l + A1, A2 - A1, 0, (stp M w' r i).l, (stp M w' r i).s, (qst M w' r i).1, p8, [], ?_, g3, by omega, by omega, by omega, SqT.of hp88, by decide, fun v9 H9 s9 h9 => ?_⟩
                · show [V.int w', V.int ((r.l : Int) + A1), V.int ((A2 : Int) - A1), V.int 0, V.ref p8] = _
                  rw [hsub]
                  rfl
                obtain ⟨p9, x9', y9, z9, rfl, hp9, hx9⟩ := h9
                obtain ⟨tn, rfl, htn⟩ : ∃ t', x9' = .ref t' ∧ SqT K H9 t' [.int ((stp M w' r i).l : Int), .int ((stp M w' r i).s : Int), .int (z9 : Int)] := hx9
                refine ⟨p9, _, _, _, rfl, rfl, hp9, rfl, ?_⟩
                refine ⟨40, rfl, by decide, by decide, fun D2 hD2 => ?_⟩
                have e2 : (stp M w' r i).s = (A2 - A1) * 2 ^ (qst M w' r i).1.length := hsz
                refine lc_range (lo := 0) (n := 40) (fun j H10 => Same H9 H10 ∧ H10 D2 = some (.lst (if (qst M w' r i).1.length < j then [.int ((qst M w' r i).1.length : Nat)] else []))) ⟨Same.new hD2, by rw [upd_same, if_neg (Nat.not_lt_zero _)]⟩ (fun j H10 hj ⟨s10, h10⟩ => ?_) (fun H10 ⟨s10, h10⟩ => ?_)
                · have htn10 := (Same.tk s10).sq htn
                  rw [Int.zero_add]
                  refine ⟨rfl, _, rfl, _, rfl, _, _, rfl, rfl, _, rfl, _, _, rfl, rfl, ⟨by omega, by omega, by omega⟩, _, rfl, _, _, _, _, rfl, rfl, htn10, rfl, rfl, _, rfl, ?_⟩
                  have e3 : ((A2 : Int) - (A1 : Int)) * 2 ^ (j : Int).toNat = (((A2 - A1) * 2 ^ j : Nat) : Int) := by
                    rw [hsub, Int.toNat_natCast, Int.natCast_mul, Int.natCast_pow]; rfl
                  by_cases c2 : j = (qst M w' r i).1.length
                  · rw [← c2, if_neg (Nat.lt_irrefl _)] at h10
                    refine iD (by show V.int (((A2 : Int) - (A1 : Int)) * 2 ^ (j : Int).toNat) = V.int (((stp M w' r i).s : Nat) : Int); rw [e3, e2, c2]) ⟨_, rfl, _, h10, (show 0 < sizeLine by decide), Same.upd s10 hD2, ?_⟩
                    rw [upd_same, ← c2, if_pos (Nat.lt_succ_self _)]
                    rfl
                  · refine iDF (fun z => c2 ?_) ⟨s10, ?_⟩
                    · have z0 : V.int (((A2 : Int) - (A1 : Int)) * 2 ^ (j : Int).toNat) = V.int (((stp M w' r i).s : Nat) : Int) := z
                      rw [e3, e2] at z0
                      have z1 : (A2 - A1) * 2 ^ j = (A2 - A1) * 2 ^ (qst M w' r i).1.length := by injection z0; omega
                      have z2 : 2 ^ j = 2 ^ (qst M w' r i).1.length := Nat.eq_of_mul_eq_mul_left (by omega) z1
                      exact Nat.le_antisymm ((Nat.pow_le_pow_iff_right (by decide)).mp (Nat.le_of_eq z2)) ((Nat.pow_le_pow_iff_right (by decide)).mp (Nat.le_of_eq z2.symm))
                    · rw [h10]
                      congr 2
                      by_cases c3 : (qst M w' r i).1.length < j
                      · rw [if_pos c3, if_pos (by omega)]
                      · rw [if_neg c3, if_neg (by omega)]
                · rw [if_pos (by omega)] at h10
                  refine ⟨D2, _, 0, _, rfl, rfl, SqL.of h10, rfl, ?_⟩
                  have s610 := ((s7.trans s8).trans s9).trans s10
                  have hD10 := s610 _ _ hD6
                  refine ⟨_, rfl, .inl ⟨rfl, _, SqL.of hD10⟩, _, rfl, _, rfl, (show 1 ≤ sizeLine by decide), fun p11 hp11 => ?_⟩
                  have s11 : Same H10 (upd H10 p11 (.tup [.int (i : Nat)])) := Same.new hp11
                  have h11 : upd H10 p11 (.tup [.int (i : Nat)]) p11 = some (.tup [.int (i : Nat)]) := upd_same
                  generalize upd H10 p11 (.tup [.int (i : Nat)]) = H11 at *
                  have htw11 : H11 tw = some (.tup (vN p)) := s11 _ _ (s610 _ _ (t36.2 _ _ htw))
                  refine q_catH (xs := vN p) htw11 h11 (by rw [vN_len]; simp; omega) fun p12 H12 s12 h12 => ?_
                  have s612 := (s610.trans s11).trans s12
                  have htt12 := (Same.tk s612).sq htt6
                  have hyf12 := (hyf.tk t36.1).tk (Same.tk s612)
                  refine ⟨_, rfl, _, rfl, _, rfl, _, _, rfl, rfl, _, _, rfl, rfl, .inr ?_, _, rfl, _, rfl, _, _, _, _, rfl, rfl, htt12, rfl, _, _, rfl, rfl, .inr (cm (by omega)), _, rfl, _, rfl, _, _, rfl, rfl, _, rfl, _, rfl, _, rfl, q_ixN hyf12 (by rw [lf, ← lq]; exact hil) ?_⟩
                  · rw [hsub]; exact cm (by omega)
                  refine ⟨(show 6 ≤ sizeLine by decide), fun p13 hp13 => ?_⟩
                  have ex : (HO.tup [V.ref p12, V.int ((tp : Int) * ((A2 : Int) - A1)), V.int ((bt : Int) * r.s), V.int (((w' + r.o.length : Nat) : Int) + ((qst M w' r i).1.length : Nat)), V.ref tn, V.int ((M.getD r.st ([], [])).2.getD i 0 : Nat)]) =
                      HO.tup [V.ref p12, .int (topW M w' (r0 w') (p ++ [i]) : Nat), .int (botW M w' (r0 w') (p ++ [i]) : Nat), .int (w' + (goes M w' (r0 w') (p ++ [i])).o.length : Nat), .ref tn, .int (goes M w' (r0 w') (p ++ [i])).st] := by
                    rw [hsub, eT', eB', eG']
                    have eo : (stp M w' r i).o.length = r.o.length + (qst M w' r i).1.length := by show (r.o ++ (qst M w' r i).1).length = _; rw [List.length_append]
                    rw [eo, ← Nat.add_assoc]
                    rfl
                  have s13 : Same H12 (upd H12 p13 (HO.tup [V.ref p12, V.int ((tp : Int) * ((A2 : Int) - A1)), V.int ((bt : Int) * r.s), V.int (((w' + r.o.length : Nat) : Int) + ((qst M w' r i).1.length : Nat)), V.ref tn, V.int ((M.getD r.st ([], [])).2.getD i 0 : Nat)])) := Same.new hp13
                  have h13 : upd H12 p13 (HO.tup [V.ref p12, V.int ((tp : Int) * ((A2 : Int) - A1)), V.int ((bt : Int) * r.s), V.int (((w' + r.o.length : Nat) : Int) + ((qst M w' r i).1.length : Nat)), V.ref tn, V.int ((M.getD r.st ([], [])).2.getD i 0 : Nat)]) p13 =
                    some (HO.tup [V.ref p12, .int (topW M w' (r0 w') (p ++ [i]) : Nat), .int (botW M w' (r0 w') (p ++ [i]) : Nat), .int (w' + (goes M w' (r0 w') (p ++ [i])).o.length : Nat), .ref tn, .int (goes M w' (r0 w') (p ++ [i])).st]) := by rw [upd_same, ex]
                  have s613 := s612.trans s13
                  have hD13 := s613 _ _ hD6
                  have t14 := TT.put (o := .lst (ys ++ [.ref p13])) hD13 rfl
                  refine ⟨D, ys, _, rfl, rfl, hD13, szl_ (by omega), ys ++ [.ref p13], _, _, _, _, _, _, rfl, Same.upd (s06.trans s613) hD0, (t36.trans (Same.tt s613)).trans t14, ?_, upd_same, ?_, by simp; omega⟩
                  · rw [upd_ne nDF]; exact s613 _ _ hF6
                  · refine All2.snoc (hB6.mono fun x p h => (h.tt (Same.tt s613)).tt t14) ?_
                    refine ⟨p13, p12, tn, z9, rfl, t14.2 _ _ h13, t14.2 _ _ (s13 _ _ ?_), ?_⟩
                    · rw [h12, vN_snoc]
                    · rw [eG']
                      exact ⟨tn, rfl, t14.1.sq ((Same.tk ((s10.trans s11).trans (s12.trans s13))).sq htn)⟩
              · have c' : ¬ 0 < rt ((parts M r.st).getD i 0) (parts M r.st).sum := fun z => c ((rt_iff ps).mp z)
                rw [List.filter_cons_of_neg (by simpa using c), List.filter_nil, List.append_nil]
                refine iDF (by show ¬ (0 : Int) < _; omega) ?_
                exact ⟨ys, _, _, _, _, _, _, rfl, s06, t36, hF6, hD6, hB6, by omega⟩
            · obtain ⟨ys, x14, x15, x16, x17, x18, x19, rfl, s5, t5, hF4, hD4, hB, hyl⟩ := h
              rw [hlz'] at hB hyl
              exact ⟨ys, _, _, _, _, _, _, _, _, _, _, _, _, _, _, _, rfl, s5, t4.trans t5, hF4, hD4, hB, by omega⟩
          · obtain ⟨ys, x4, x6, x7, x8, x9, x10, x11, x12, x13, x14, x15, x16, x17, x18, x19, rfl, s4, t4, hF3, hD3, hB, hyl⟩ := h
            rw [hA.1, List.take_length] at hB
            exact hR _ _ ⟨ys, _, _, _, _, _, _, _, _, _, _, _, _, _, _, _, rfl, s4, hD3, hB⟩
        · obtain ⟨ys, x4, x6, x7, x8, x9, x10, x11, x12, x13, x14, x15, x16, x17, x18, x19, rfl, s4, hD3, hB⟩ := h
          refine ⟨_, rfl, ?_⟩
          refine ⟨_, rfl, D, ys, rfl, .inl (SqL.of hD3), _, _, rfl, rfl, _, rfl, ?_⟩
          by_cases c : 60 < ys.length
          · refine iD (by show (60 : Int) < (ys.length : Int); omega) ⟨Nat.zero_le _, fun q hq => ?_⟩
            exact k q [] _ (s4.trans (Same.new hq)) (s4.free hq) upd_same (.inl ⟨rfl, g + 1, by omega, by rw [← hB.1]; exact c⟩)
          · refine iDF (by show ¬ (60 : Int) < (ys.length : Int); omega) ?_
            refine ⟨D, ys, _, _, _, _, _, _, _, _, _, _, _, _, _, _, _, _, rfl, s4, hD0, hD3, hB, fun g' hg' => ?_⟩
            by_cases c2 : g' ≤ g
            · exact hG g' c2
            · obtain rfl : g' = g + 1 := by omega
              rw [← hB.1]; omega
      · exact hR _ _ h
    obtain ⟨F, xs, x4, x5, x6, x7, x8, x9, x10, x11, x12, x13, x14, x15, x16, x17, x18, x19, rfl, s2, hF0, hF, hA, hG⟩ := h
    refine ⟨_, rfl, F, rfl, ⟨_, SqL.of hF⟩, fun D hD => lc_list (K := K) (a := F) (xs := xs) (fun j H3 => Same H2 H3 ∧ ∃ ys, H3 D = some (.lst ys) ∧ All2 (W4 K M w' H3) ys ((lv M w' kk).take j)) ⟨Same.new hD, [], upd_same, rfl, fun j x p hx => by simp at hx⟩ (fun j H3 _ h => SqL.of (h.1 _ _ hF)) (fun j x H3 hj ⟨s3, ys, h3, hB⟩ => ?_) (fun H3 ⟨s3, ys, h3, hB⟩ => ?_)⟩
    · obtain ⟨p, hp, hE⟩ := hA.get hj
      obtain ⟨t, tw, tt, z, rfl, ht, htw, htt⟩ := hE.tt (Same.tt s3)
      have hjl : j < (lv M w' kk).length := (List.getElem?_eq_some_iff.mp hp).1
      have hyl := hB.1
      rw [List.length_take] at hyl
      have := hG kk (Nat.le_refl _)
      refine ⟨rfl, _, rfl, 4, rfl, sl_take (n := 4) (by simp) (SqT.of ht) fun q H4 s4 hq => ?_⟩
      have h4 := s4 _ _ h3
      have t5 : TT H4 (upd H4 D (.lst (ys ++ [.ref q]))) := TT.put h4 rfl
      refine ⟨ys, h4, szl_ (by omega), Same.upd (s3.trans s4) hD, ys ++ [.ref q], upd_same, ?_⟩
      rw [List.take_succ_eq_append_getElem hjl, (List.getElem?_eq_some_iff.mp hp).2]
      exact All2.snoc (hB.mono fun x p h => (h.tt (Same.tt s4)).tt t5) ⟨q, tw, rfl, t5.1.sq hq, t5.2 _ _ (s4 _ _ htw)⟩
    · rw [hA.1, List.take_length] at hB
      exact k D ys _ (s2.trans s3) (s2.free hD) h3 (.inr ⟨hB, hG⟩)
end
end K59

namespace K59
open PySem PySem.Spec PyProof.Rows L2
/-! ### keys -/
def ky (p : List Nat) : List Key := p.map fun n : Nat => Sum.inl (n : Int)
theorem ky_map (p : List Nat) : (ky p).map kV = vN p := by unfold ky vN; rw [List.map_map, List.map_map]; rfl
theorem ky_inj {p q : List Nat} (h : ky p = ky q) : p = q := by
  unfold ky at h
  refine List.map_inj_right (f := fun n : Nat => (Sum.inl (n : Int) : Key)) (fun x y e => ?_) |>.mp h
  have : (x : Int) = (y : Int) := by injection e
  omega
/-! ### repr of two small ints -/
theorem repr2 {x y : Nat} (hx : x < 1073741824) (hy : y < 1073741824) : (PyData.tuple ([(x : Int), (y : Int)].map PyData.int)).showable = true ∧ (PyData.tuple ([(x : Int), (y : Int)].map PyData.int)).shown.length ≤ sizeLine := by
  have lg : ∀ {z : Nat}, z < 1073741824 → ((z : Int).natAbs.log2 < 1920) := fun {z} h => by
    rw [Int.natAbs_natCast]
    by_cases h0 : z = 0
    · rw [h0]; decide
    · exact Nat.lt_of_lt_of_le ((Nat.log2_lt h0).mpr (show z < 2 ^ 30 from h)) (by decide)
  have sh : ∀ {z : Nat}, z < 1073741824 → PyData.intsShort 13 (.int (z : Int)) = true := fun {z} h => by
    refine intsShort_of_noneOrIn (lo := -1) (hi := 999999999999) (by decide) (by decide) _ ?_
    unfold noneOrIn
    simp
    omega
  constructor
  · simp only [List.map_cons, List.map_nil, PyData.showable, PyData.showableAll, decide_eq_true (lg hx), decide_eq_true (lg hy)]
    rfl
  · refine Nat.le_trans (shown_le13 (by
      have l30 : ∀ z : Nat, z < 1073741824 → (if z = 0 then 0 else z.log2 + 1) ≤ 30 := fun z h => by
        by_cases h0 : z = 0
        · rw [if_pos h0]; decide
        · rw [if_neg h0]; exact (Nat.log2_lt h0).mpr h
      have a1 := l30 x hx
      have a2 := l30 y hy
      simp [PyData.layable0, PyData.canLay0, PyData.canLayAll0, PyData.depth, PyData.depthAll, PyData.weight, PyData.weightAll]
      omega) ?_) (by decide)
    show PyData.intsShortAll 13 [.int (x : Int), .int (y : Int)] = true
    simp only [PyData.intsShortAll, sh hx, sh hy]
    rfl
theorem bit_at {m N a : Nat} (h : a < m) : Builtin.bitAnd ((N : Int) / 2 ^ ((m : Int) - 1 - (a : Int)).toNat) 1 = ((N / 2 ^ (m - 1 - a) % 2 : Nat) : Int) := by
  have e := PySem.W.kbt_mask ((N : Int) / 2 ^ ((m : Int) - 1 - (a : Int)).toNat) 1
  rw [show (2 : Int) ^ 1 - 1 = 1 by decide] at e
  rw [e, show ((m : Int) - 1 - (a : Int)).toNat = m - 1 - a by omega, Int.natCast_emod, Int.natCast_ediv, Int.natCast_pow]
  rfl
/-! ### counts -/
/-- m bits are enough for all ways of k outcomes -/
def Enough (M : Md) (w m k : Nat) : Prop := k = 0 ∨ ∀ p ∈ lv M w (k - 1), w + (goes M w (r0 w) p).o.length ≤ m
theorem count_eq {M : Md} {n w m k : Nat} (mo : MOk M n w) (h : Enough M w m k) {p : List Nat} (hp : p ∈ lv M w k) :
    topW M w (r0 w) p * 2 ^ m = botW M w (r0 w) p * cnt M w m p (2 ^ m) ∧ 0 < cnt M w m p (2 ^ m) := by
  obtain ⟨v, hl⟩ := (lv_mem mo k p).mp hp
  obtain ⟨b1, b2, b3, b4⟩ := bot_pos mo p (r0 w) (RI.zero mo) v
  have key : topW M w (r0 w) p * 2 ^ m = botW M w (r0 w) p * cnt M w m p (2 ^ m) := by
    rcases h with h | h
    · subst h
      obtain rfl := List.eq_nil_of_length_eq_zero hl
      rw [cnt_nil]
      simp [topW, botW]
    · cases k with
      | zero =>
        obtain rfl := List.eq_nil_of_length_eq_zero hl
        rw [cnt_nil]
        simp [topW, botW]
      | succ k =>
        have hne : p ≠ [] := by intro e; rw [e] at hl; simp at hl
        obtain ⟨q, i, rfl⟩ : ∃ q i, p = q ++ [i] := ⟨p.dropLast, p.getLast hne, (List.dropLast_concat_getLast hne).symm⟩
        have vq : VW M 0 q := VW.app v
        exact top_snoc mo v (h q ((lv_mem mo k q).mpr ⟨vq, by simpa using hl⟩))
  refine ⟨key, Nat.pos_of_ne_zero fun e => ?_⟩
  rw [e, Nat.mul_zero] at key
  have := Nat.mul_pos b3 (Nat.pow_pos (n := m) (show 0 < 2 by decide))
  omega
theorem more_bits {M : Md} {n w m k : Nat} (mo : MOk M n w) (h : Enough M w m k) {b c : List Nat} (hb : Bits b) (hc : Bits c) (hl : b.length = m) : readW M w (b ++ c) k (r0 w) = readW M w b k (r0 w) := by
  have hbc := bits_app hb hc
  refine readW_app mo hb hbc k (r0 w) (RI.zero mo) (ins_zero hb) (fun _ => ins_zero hbc) fun p v e => ?_
  rcases h with h | h
  · omega
  · rw [hl]
    exact h p ((lv_mem mo (k - 1) p).mpr ⟨v, by omega⟩)
/-! ### the dict of what was found -/
structure FInv (M : Md) (w m k : Nat) (kvs : List (List Key × V)) (N : Nat) : Prop where
  nd : (kvs.map Prod.fst).Nodup
  len : kvs.length ≤ N
  val : ∀ p : List Nat, p.length = k → valV kvs (ky p) = if cnt M w m p N = 0 then none else some (.int (cnt M w m p N : Nat))
  key : ∀ e ∈ kvs, ∃ p : List Nat, e.1 = ky p ∧ p.length = k ∧ VW M 0 p
theorem FInv.zero (M : Md) (w m k : Nat) : FInv M w m k [] 0 := ⟨List.nodup_nil, Nat.le_refl _, fun p _ => by rw [valV_nil, if_pos]; rfl, fun e he => nomatch he⟩
theorem FInv.get {M : Md} {w m k N : Nat} {kvs : List (List Key × V)} (h : FInv M w m k kvs N) {p : List Nat} (hp : p.length = k) : (valV kvs (ky p)).getD (.int 0) = .int (cnt M w m p N : Nat) := by
  rw [h.val p hp]
  by_cases c : cnt M w m p N = 0
  · rw [if_pos c, c]; rfl
  · rw [if_neg c]; rfl
theorem putK_keys {kvs : List (List Key × V)} {k : List Key} {y : V} : ∀ e ∈ putK kvs k y, e.1 = k ∨ ∃ e' ∈ kvs, e'.1 = e.1 := by
  intro e he
  unfold putK at he
  split at he
  · obtain ⟨e', h1, h2⟩ := List.mem_map.mp he
    refine .inr ⟨e', h1, ?_⟩
    rw [← h2]
    split <;> rfl
  · rcases List.mem_append.mp he with h | h
    · exact .inr ⟨e, h, rfl⟩
    · rw [List.mem_singleton.mp h]; exact .inl rfl
theorem valV_none {kvs : List (List Key × V)} {k : List Key} (h : valV kvs k = none) : k ∉ kvs.map Prod.fst := by
  intro hk
  obtain ⟨e, he, rfl⟩ := List.mem_map.mp hk
  have := valV_any e.1 kvs
  rw [h] at this
  have h2 : (kvs.any fun kv => decide (kv.1 = e.1)) = true := List.any_eq_true.mpr ⟨e, he, by simp⟩
  rw [h2] at this
  cases this
theorem valV_some {kvs : List (List Key × V)} {k : List Key} {y : V} (h : valV kvs k = some y) : k ∈ kvs.map Prod.fst := by
  have := valV_any k kvs
  rw [h] at this
  obtain ⟨e, he, h2⟩ := List.any_eq_true.mp this
  exact List.mem_map.mpr ⟨e, he, by simpa using h2⟩
theorem putK_nodup {kvs : List (List Key × V)} {k : List Key} {y : V} (h : (kvs.map Prod.fst).Nodup) : ((putK kvs k y).map Prod.fst).Nodup := by
  cases e : valV kvs k with
  | none =>
    rw [putK_new y e, List.map_append, List.nodup_append]
    refine ⟨h, by simp, fun a ha b hb => ?_⟩
    simp at hb
    rintro rfl
    subst hb
    exact valV_none e ha
  | some z =>
    have h2 : (kvs.any fun kv => decide (kv.1 = k)) = true := by rw [valV_any, e]; rfl
    unfold putK
    rw [if_pos h2, List.map_map]
    have : (Prod.fst ∘ fun kv : List Key × V => if kv.1 = k then (kv.1, y) else kv) = Prod.fst := by
      funext kv
      simp only [Function.comp]
      split <;> rfl
    rw [this]
    exact h
theorem FInv.put {M : Md} {n w m k N : Nat} {kvs : List (List Key × V)} (mo : MOk M n w) (h : FInv M w m k kvs N) {p : List Nat} (e : readW M w (rowOf m N) k (r0 w) = p) : FInv M w m k (putK kvs (ky p) (.int ((cnt M w m p N : Nat) + 1))) (N + 1) := by
  have hpl : p.length = k := by rw [← e, readW_len]
  refine ⟨putK_nodup h.nd, Nat.le_trans (length_putK _ _ _) (by have := h.len; omega), fun q hq => ?_, fun x hx => ?_⟩
  · rw [valV_put, cnt_succ]
    by_cases c : q = p
    · subst c
      rw [if_pos rfl, hpl, if_pos e, if_neg (by omega)]
      rfl
    · rw [if_neg (fun z : ky q = ky p => c (ky_inj z)), hq, if_neg (fun z : readW M w (rowOf m N) k (r0 w) = q => c (z.symm.trans e)), Nat.add_zero]
      exact h.val q hq
  · rcases putK_keys x hx with h1 | ⟨e', h1, h2⟩
    · refine ⟨p, h1, hpl, ?_⟩
      rw [← e]
      exact (readW_ok mo (rowOf_bits m N) k (r0 w) (RI.zero mo) (ins_zero (rowOf_bits m N))).1
    · obtain ⟨q, g1, g2⟩ := h.key e' h1
      exact ⟨q, h2.symm.trans g1, g2⟩
/-- what is due -/
def dueK (M : Md) (w m : Nat) (L : List (List Nat)) : List (List Key × V) := L.map fun p => (ky p, .int (cnt M w m p (2 ^ m) : Nat))
theorem due_keys (M : Md) (w m : Nat) (L : List (List Nat)) : (dueK M w m L).map Prod.fst = L.map ky := by unfold dueK; rw [List.map_map]; rfl
theorem due_val {M : Md} {w m : Nat} : ∀ {L : List (List Nat)} {p : List Nat}, p ∈ L → valV (dueK M w m L) (ky p) = some (.int (cnt M w m p (2 ^ m) : Nat))
  | q :: L, p, h => by
    show valV ((ky q, _) :: dueK M w m L) (ky p) = _
    by_cases c : q = p
    · subst c; exact valV_pos rfl
    · rw [valV_neg (fun z => c (ky_inj z))]
      rcases List.mem_cons.mp h with h | h
      · exact absurd h.symm c
      · exact due_val h
theorem due_none {M : Md} {w m : Nat} : ∀ {L : List (List Nat)} {p : List Nat}, p ∉ L → valV (dueK M w m L) (ky p) = none
  | [], p, h => rfl
  | q :: L, p, h => by
    show valV ((ky q, _) :: dueK M w m L) (ky p) = _
    rw [valV_neg (fun z => h (by rw [ky_inj z]; exact List.mem_cons_self))]
    exact due_none fun z => h (List.mem_cons_of_mem _ z)
/-- found and due have the same keys -/
theorem keys_perm {M : Md} {n w m k : Nat} {kvs : List (List Key × V)} (mo : MOk M n w) (en : Enough M w m k) (h : FInv M w m k kvs (2 ^ m)) : (kvs.map Prod.fst).Perm ((lv M w k).map ky) := by
  have nd2 : ((lv M w k).map ky).Nodup := List.Pairwise.map ky (fun a b hab z => hab (ky_inj z)) (lv_nodup M w k)
  refine (List.perm_ext_iff_of_nodup h.nd nd2).mpr fun x => ⟨fun hx => ?_, fun hx => ?_⟩
  · obtain ⟨e, he, rfl⟩ := List.mem_map.mp hx
    obtain ⟨p, h1, h2, h3⟩ := h.key e he
    rw [h1]
    exact List.mem_map.mpr ⟨p, (lv_mem mo k p).mpr ⟨h3, h2⟩, rfl⟩
  · obtain ⟨p, hp, rfl⟩ := List.mem_map.mp hx
    have c := (count_eq mo en hp).2
    have := h.val p ((lv_mem mo k p).mp hp).2
    rw [if_neg (by omega)] at this
    exact valV_some this
/-! ### a list of tuples, told by their numbers -/
def Wy (H : Hp) (x : V) (p : List Nat) : Prop := ∃ b, x = .ref b ∧ H b = some (.tup (vN p))
theorem Wy.mono {H H' : Hp} {x : V} {p : List Nat} (h : Wy H x p) (e : TT H H') : Wy H' x p := let ⟨b, h1, h2⟩ := h; ⟨b, h1, e.2 _ _ h2⟩
theorem vN_inj {p q : List Nat} (h : vN p = vN q) : p = q := by
  rw [← ky_map, ← ky_map] at h
  apply ky_inj
  refine List.map_inj_right (f := kV) (fun x y e => ?_) |>.mp h
  cases x <;> cases y <;> simp [kV] at e <;> simp [e]
theorem Wy.inj {H : Hp} {x : V} {p q : List Nat} (h : Wy H x p) (g : Wy H x q) : p = q := by
  obtain ⟨b, rfl, h2⟩ := h
  obtain ⟨c, e, g2⟩ := g
  cases e
  rw [h2] at g2
  exact vN_inj (by injection g2 with z; injection z)
/-- each of xs is one of L, the same often -/
theorem wys_perm {H : Hp} : ∀ {xs ys : List V}, ys.Perm xs → ∀ {L : List (List Nat)}, All2 (Wy H) xs L → ∃ L', All2 (Wy H) ys L' ∧ L'.Perm L := by
  intro xs ys h
  induction h with
  | nil => intro L hL; exact ⟨L, hL, List.Perm.refl _⟩
  | @cons x l1 l2 h ih =>
    rintro L ⟨h1, h2⟩
    cases L with
    | nil => simp at h1
    | cons p L =>
      obtain ⟨L', g1, g2⟩ := ih (L := L) ⟨by simpa using h1, fun j a b ha hb => h2 (j + 1) a b (by simpa using ha) (by simpa using hb)⟩
      refine ⟨p :: L', ⟨by simp [g1.1], fun j a b ha hb => ?_⟩, g2.cons p⟩
      cases j with
      | zero => simp at ha hb; subst ha hb; exact h2 0 _ _ rfl rfl
      | succ j => exact g1.2 j a b (by simpa using ha) (by simpa using hb)
  | @swap x y l =>
    rintro L ⟨h1, h2⟩
    match L, h1 with
    | p :: q :: L, h1 =>
      refine ⟨q :: p :: L, ⟨by simpa using h1, fun j a b ha hb => ?_⟩, List.Perm.swap p q L⟩
      match j with
      | 0 => simp at ha hb; subst ha hb; exact h2 1 _ _ rfl rfl
      | 1 => simp at ha hb; subst ha hb; exact h2 0 _ _ rfl rfl
      | j + 2 => exact h2 (j + 2) a b (by simpa using ha) (by simpa using hb)
  | @trans l1 l2 l3 _ _ ih1 ih2 =>
    intro L hL
    obtain ⟨L', g1, g2⟩ := ih2 hL
    obtain ⟨L'', g3, g4⟩ := ih1 g1
    exact ⟨L'', g3, g4.trans g2⟩
theorem code_inj {B : Int} : ∀ {ns ms : List Int}, ns.length = ms.length → TS.Bd B ns → TS.Bd B ms → TS.code B ns = TS.code B ms → ns = ms
  | [], [], _, _, _, _ => rfl
  | n :: ns, m :: ms, hl, h1, h2, e => by
    have hl' : ns.length = ms.length := by simpa using hl
    by_cases a : n < m
    · have := TS.code_lt hl' h1.tail h2.tail a; omega
    · by_cases b : m < n
      · have := TS.code_lt hl'.symm h2.tail h1.tail b; omega
      · obtain rfl : n = m := by omega
        have e2 : TS.code B ns = TS.code B ms := by
          have z : n * B ^ ns.length + TS.code B ns = n * B ^ ms.length + TS.code B ms := e
          rw [hl'] at z
          omega
        rw [code_inj hl' h1.tail h2.tail e2]
def cs (p : List Nat) : List Int := p.map fun n : Nat => (n : Int)
theorem Wy.tupI {K : PySem.W.Frag} {H : Hp} {x : V} {p : List Nat} (h : Wy H x p) : TupI K H x (cs p) := let ⟨b, h1, h2⟩ := h; ⟨b, h1, SqT.of h2⟩
theorem cs_inj {p q : List Nat} (h : cs p = cs q) : p = q := by
  unfold cs at h
  refine List.map_inj_right (f := fun n : Nat => (n : Int)) (fun x y e => ?_) |>.mp h
  omega
/-- what sorted says, of the numbers -/
theorem wys_sorted {K : PySem.W.Frag} {H : Hp} {xs : List V} {L : List (List Nat)} (h : All2 (Wy H) xs L) (s : xs.Pairwise (fun x y => ∀ n m, TupI K H x n → TupI K H y m → TS.code 16 n ≤ TS.code 16 m)) : L.Pairwise fun p q => TS.code 16 (cs p) ≤ TS.code 16 (cs q) := by
  rw [List.pairwise_iff_getElem] at s ⊢
  intro i j hi hj hij
  have hi' : i < xs.length := by rw [h.1]; exact hi
  have hj' : j < xs.length := by rw [h.1]; exact hj
  exact s i j hi' hj' hij _ _ (h.2 i _ _ (List.getElem?_eq_getElem hi') (List.getElem?_eq_getElem hi)).tupI (h.2 j _ _ (List.getElem?_eq_getElem hj') (List.getElem?_eq_getElem hj)).tupI
theorem cs_bd {p : List Nat} (h : ∀ x ∈ p, x < 16) : TS.Bd 16 (cs p) := fun m hm => by
  obtain ⟨x, hx, rfl⟩ := List.mem_map.mp hm
  have := h x hx
  omega
/-- two sorted lists of the same ways are the same -/
theorem sorted_eq {k : Nat} {L1 L2 : List (List Nat)} (hp : L1.Perm L2) (hk : ∀ p ∈ L1, p.length = k ∧ ∀ x ∈ p, x < 16)
    (s1 : L1.Pairwise fun p q => TS.code 16 (cs p) ≤ TS.code 16 (cs q)) (s2 : L2.Pairwise fun p q => TS.code 16 (cs p) ≤ TS.code 16 (cs q)) : L1 = L2 := by
  refine List.Perm.eq_of_pairwise (fun a b ha hb h3 h4 => ?_) s1 s2 hp
  have hb' := hp.mem_iff.mpr hb
  refine cs_inj (code_inj ?_ (cs_bd (hk a ha).2) (cs_bd (hk b hb').2) (by omega))
  unfold cs
  rw [List.length_map, List.length_map, (hk a ha).1, (hk b hb').1]
/-- sorted of a list of ways of k outcomes -/
theorem q_sorted {K : PySem.W.Frag} {H : Hp} {Q : VK} {p : Addr} {xs : List V} {L : List (List Nat)} {k : Nat} (hp : H p = some (.lst xs)) (h : All2 (Wy H) xs L) (h64 : L.length < 64) (h1 : k = 0 → L.length = 1) (hk : ∀ p ∈ L, p.length = k ∧ ∀ x ∈ p, x < 16)
    (q : ∀ t H' zs Z, Same H H' → H t = none → H' t = some (.lst zs) → All2 (Wy H') zs Z → Z.Perm L → (Z.Pairwise fun p q => TS.code 16 (cs p) ≤ TS.code 16 (cs q)) → Q (.ref t) H') : rSorts K [.ref p] H Q := by
  by_cases k0 : k = 0
  · have l1 := h1 k0
    have x1 : xs.length = 1 := h.1.trans l1
    obtain ⟨x, rfl⟩ := List.length_eq_one_iff.mp x1
    obtain ⟨y, rfl⟩ := List.length_eq_one_iff.mp l1
    exact .inr ⟨p, x, rfl, SqL.of hp, fun t ht => q t _ [x] [y] (Same.new ht) ht upd_same (h.mono fun x p w => w.mono (Same.tt (Same.new ht))) (List.Perm.refl _) (List.pairwise_singleton _ _)⟩
  · refine .inl ⟨k, 16, Nat.pos_of_ne_zero k0, p, xs, rfl, SqL.of hp, by rw [h.1]; exact h64, fun x hx => ?_, fun ys t hperm hs ht => ?_⟩
    · obtain ⟨j, hj⟩ := List.getElem?_of_mem hx
      obtain ⟨z, hz, hw⟩ := h.get hj
      obtain ⟨e1, e2⟩ := hk z (List.mem_of_getElem? hz)
      exact ⟨cs z, hw.tupI, by unfold cs; rw [List.length_map, e1], cs_bd e2⟩
    · obtain ⟨Z, g1, g2⟩ := wys_perm hperm h
      exact q t _ ys Z (Same.new ht) ht upd_same (g1.mono fun x p w => w.mono (Same.tt (Same.new ht))) g2 (wys_sorted g1 hs)
theorem isKeys_wys {H : Hp} : ∀ {kvs : List (List Key × V)} {bs : List Addr} {L : List (List Nat)}, IsKeys H kvs bs → kvs.map Prod.fst = L.map ky → All2 (Wy H) (bs.map V.ref) L := by
  intro kvs bs L h
  unfold IsKeys at h
  induction h generalizing L with
  | nil =>
    intro e
    cases L with
    | nil => exact ⟨rfl, fun j x p hx => by simp at hx⟩
    | cons p L => simp at e
  | @cons a b l1 l2 hab _ ih =>
    intro e
    cases L with
    | nil => simp at e
    | cons p L =>
      rw [List.map_cons, List.map_cons] at e
      injection e with e1 e2
      obtain ⟨g1, g2⟩ := ih e2
      refine ⟨by simpa using g1, fun j x q hx hq => ?_⟩
      cases j with
      | zero =>
        simp at hx hq
        subst hx hq
        exact ⟨b, rfl, by rw [hab, e1, ky_map]⟩
      | succ j => exact g2 j x q (by simpa using hx) (by simpa using hq)
def uk (k : List Key) : List Nat := k.map fun | .inl i => i.toNat | .inr _ => 0
theorem uk_ky (p : List Nat) : uk (ky p) = p := by
  unfold uk ky
  rw [List.map_map]
  induction p with
  | nil => rfl
  | cons x p ih => rw [List.map_cons, ih]; rfl
/-- the keys of what was found, as ways -/
theorem found_keys {M : Md} {n w m k : Nat} {kvs : List (List Key × V)} (mo : MOk M n w) (en : Enough M w m k) (h : FInv M w m k kvs (2 ^ m)) : ∃ L : List (List Nat), kvs.map Prod.fst = L.map ky ∧ L.Perm (lv M w k) := by
  refine ⟨(kvs.map Prod.fst).map uk, ?_, ?_⟩
  · rw [List.map_map]
    symm
    rw [List.map_congr_left (g := id) fun x hx => ?_, List.map_id]
    obtain ⟨e, he, rfl⟩ := List.mem_map.mp hx
    obtain ⟨p, h1, _⟩ := h.key e he
    rw [h1]
    show ky (uk (ky p)) = ky p
    rw [uk_ky]
  · have := (keys_perm mo en h).map uk
    have e : ((lv M w k).map ky).map uk = lv M w k := by
      rw [List.map_map, show (uk ∘ ky) = id from funext uk_ky, List.map_id]
    rw [e] at this
    exact this
/-- over the keys of a dict of tuples -/
theorem lc_kt {d : Addr} {o : Obj} {kvs : List (List Key × V)} {g : TG} {tt : L2.TT} {te : TE} {vs : List Nat} {σ : L2.St} {H1 : Hp} {D : Addr} {Qd : Hp → Prop} (Pv : Nat → Hp → Prop) (h0 : Pv 0 (upd H1 D (.lst []))) (hl : ∀ i H, i ≤ kvs.length → Pv i H → H d = some (.frz o (.dT kvs)))
    (hs : ∀ i k v q H, kvs[i]? = some (k, v) → H q = some (.tup (k.map kV)) → Pv i H → g (.ref q) (wipe σ vs) H fun σ2 H2 => wipe σ2 vs = wipe σ vs ∧ tt σ2 H2 fun b H3 =>
      if b = true then te σ2 H3 fun y H4 => ∃ acc, H4 D = some (.lst acc) ∧ acc.length < sizeLine ∧ Pv (i + 1) (upd H4 D (.lst (acc ++ [y]))) else Pv (i + 1) H3) (hd : ∀ H, Pv kvs.length H → Qd H) :
    ∃ W : Nat → Nat → Hp → Prop, (∃ m, W 0 m (upd H1 D (.lst []))) ∧ ∀ i m H, W i m H →
      ((Itkt d o kvs).stop i H ∧ Qd H) ∨ ((Itkt d o kvs).go i H ∧ ∃ Nx : Hp → Prop, (∀ H', Nx H' → ∃ m', m' < m ∧ W (i + 1) m' H') ∧ ∀ x H', (Itkt d o kvs).yld i H x H' → g x (wipe σ vs) H' fun σ2 H2 => wipe σ2 vs = wipe σ vs ∧ tt σ2 H2 fun b H3 =>
        if b = true then te σ2 H3 fun y H4 => ∃ acc, H4 D = some (.lst acc) ∧ acc.length < sizeLine ∧ Nx (upd H4 D (.lst (acc ++ [y]))) else Nx H3) := by
  refine ⟨fun i m H => m = kvs.length - i ∧ i ≤ kvs.length ∧ Pv i H, ⟨kvs.length, by simp, Nat.zero_le _, h0⟩, ?_⟩
  rintro i m H ⟨rfl, hi, p⟩
  have q := hl i H hi p
  by_cases hlt : i < kvs.length
  · refine .inr ⟨⟨q, hlt⟩, Pv (i + 1), fun H' p' => ⟨kvs.length - (i + 1), by omega, rfl, hlt, p'⟩, fun x H' y => ?_⟩
    obtain ⟨e, k, v, z, e2, e3, e4⟩ := y
    subst e e3
    exact hs i k v z _ e2 e4 p
  · have e : i = kvs.length := by omega
    subst e
    exact .inl ⟨⟨q, Nat.le_refl _⟩, hd H p⟩
/-! ### such lists, compared -/
def dL (L : List (List Nat)) : PyData := .list (L.map fun p => .tuple ((cs p).map PyData.int))
theorem wys_dp {K : PySem.W.Frag} {H : Hp} : ∀ {xs : List V} {L : List (List Nat)}, All2 (Wy H) xs L → DpAll K H xs (L.map fun p => .tuple ((cs p).map PyData.int))
  | [], [], _ => .nil
  | [], p :: L, h => by have := h.1; simp at this
  | x :: xs, [], h => by have := h.1; simp at this
  | x :: xs, p :: L, h => by
    obtain ⟨b, rfl, h2⟩ := h.2 0 x p rfl rfl
    exact .cons (.tup (SqT.of h2) (dp_ints (cs p))) (wys_dp ⟨by have := h.1; simpa using this, fun j a b ha hb => h.2 (j + 1) a b (by simpa using ha) (by simpa using hb)⟩)
theorem dL_shaped (L : List (List Nat)) : SeqAt.shaped (dL L) = true := by
  have one : ∀ p : List Nat, (PyData.tuple ((cs p).map PyData.int)).canLay0 = true ∧ (PyData.tuple ((cs p).map PyData.int)).depth ≤ 1 := fun p => by
    constructor
    · rw [PyData.canLay0]
      generalize cs p = ns
      induction ns with
      | nil => rfl
      | cons n ns ih => rw [List.map_cons, PyData.canLayAll0, ih]; rfl
    · rw [PyData.depth, (ints_flat (cs p)).2]; exact Nat.le_refl 1
  refine shaped_of (k := 2) ?_ ?_ (by decide)
  · unfold dL
    rw [PyData.canLay0]
    induction L with
    | nil => rfl
    | cons p L ih => rw [List.map_cons, PyData.canLayAll0, (one p).1, ih]; rfl
  · unfold dL
    rw [PyData.depth]
    have : PyData.depthAll (L.map fun p => PyData.tuple ((cs p).map PyData.int)) ≤ 1 := by
      induction L with
      | nil => decide
      | cons p L ih =>
        rw [List.map_cons, PyData.depthAll]
        exact Nat.max_le.mpr ⟨(one p).2, ih⟩
    omega
theorem dL_same (L : List (List Nat)) : PyData.eqv (dL L) (dL L) = true := by
  unfold dL
  rw [PyData.eqv]
  induction L with
  | nil => rfl
  | cons p L ih =>
    rw [List.map_cons, PyData.eqvAll, eqv_ints, decide_eq_true rfl, Bool.true_and]
    exact ih
end K59

namespace K59
open PySem PySem.Spec PyProof.Rows L2
open C8 (Cal Met Mak pe_c pe_mk pe_mt pe_mt0 pe_gc)
section
variable {P : Program} {w : World} {K : PySem.W.Frag} {mg : Str → Option Value} {base : Heap}
theorem Fx.calk (T : Fx K mg) {x : Str} {st : Stmt} {N ps ks : List Str} {k : Nat} {sp : Sp} {g : List Value → List Value → List Value} {gV : List V → List V → List V} (i j : Nat) (hd : fn[i]? = some (dOf (x, none) x x st)) (hg : fa[j]? = some (.glo x)) (S : FnScope N ps (defScope st))
    (hrel : ∀ {vs : List V} {us : List Value} {zs : List V} {ws : List Value}, Vals vs us → Vals zs ws → Vals (gV vs zs) (g us ws))
    (b : ∀ (kV dc pm : Value) (an : Option Addr) (cdv ct : Value) (us ws : List Value), (g us ws).length = ps.length → bindArgs (PySem.W.fnOf x x (defArgs st) (defBody st) (defScope st) .none kV dc pm an cdv ct) ⟨us, ks.zip ws⟩ = pure (ps.zip (g us ws)))
    (len : ∀ vs H Q E, sp vs H Q E → vs.length = ps.length)
    (hbody : ∀ (cdv : Value) (A : Around) (outer : List Env) (s : Shared) (H : Hp) (vs : List V) (Q : VK) (E : XK), Room k (A.deeper (envOfC x (defScope st) s.heap.objs.size (He.ga K x) cdv)) → sp vs H Q E →
      ∃ t, PSs (cxOf CX0 P w K mg base N x (defScope st) (He.ga K x) cdv A outer s H E).nox (defBody st) t ∧ t { nx := fun _ H' => Q .non H', rt := Q } (start N vs) H) : ∃ (f : Addr) (fd : FuncData), CalK P w K mg base (k + 1) x f fd ps ks g gV sp := by
  obtain ⟨fd, F⟩ := T.says.def_ i hd
  have kp := F.kp
  refine ⟨He.ga K x, fd, FunD.ok F S len fun cdv A outer s H vs Q E hr hs => ?_, T.glo j hg, kp, ⟨fun s us ws _ hl => ?_, hrel⟩⟩
  · obtain ⟨t, p, q⟩ := hbody cdv A outer s H vs Q E hr hs
    exact ⟨t, PSs.nox p, q⟩
  · obtain ⟨oc, od, dV, kV, doc, pm, an, cdv, ct, osl, rfl, lk, hcd, hD, hK⟩ := F.ex
    rcases hD with ⟨_, rfl⟩ | ⟨e, _⟩
    · exact .of_eq (b kV doc pm an cdv ct us ws hl)
    · exact absurd rfl e
def gk {α : Type} (us ws : List α) : List α := match us, ws with
  | [], [a, b, c, d] => [d, c, b, a]
  | _, _ => []
theorem gk_rel {vs : List V} {us : List Value} {zs : List V} {ws : List Value} (h1 : Vals vs us) (h2 : Vals zs ws) : Vals (gk vs zs) (gk us ws) := by
  cases h1 with
  | cons _ _ => exact .nil
  | nil =>
    match h2 with
    | .nil => exact .nil
    | .cons _ .nil => exact .nil
    | .cons _ (.cons _ .nil) => exact .nil
    | .cons _ (.cons _ (.cons _ .nil)) => exact .nil
    | .cons a (.cons b (.cons c (.cons d .nil))) => exact .cons d (.cons c (.cons b (.cons a .nil)))
    | .cons _ (.cons _ (.cons _ (.cons _ (.cons _ _)))) => exact .nil
theorem gk_four {us ws : List Value} (h : (gk us ws).length = 4) : ∃ a b c d, us = [] ∧ ws = [a, b, c, d] := by
  unfold gk at h
  split at h
  · exact ⟨_, _, _, _, rfl, rfl⟩
  · cases h
theorem ck_way_read (T : Fx K mg) (c_need_bits : Cal P w K mg base 5 "need_bits" (sp_need_bits K) []) (c_need_count : Cal P w K mg base 3 "need_count" (sp_need_count K) []) (c_need_width : Cal P w K mg base 9 "need_width" (sp_need_width K) []) (c_raw_read : Cal P w K mg base 7 "raw_read" (sp_raw_read K) []) : ∃ (f : Addr) (fd : FuncData), CalK P w K mg base 10 "way_read" f fd ["model", "w", "bits", "k"] ["k", "bits", "w", "model"] gk gk (sp_way_read K) := by
  refine T.calk 34 34 rfl rfl sc_way_read gk_rel (fun _ _ _ _ _ _ us ws hl => ?_) (fun vs H Q E h => ?_) (fun cdv A outer s H vs Q E hr h => ?_)
  · obtain ⟨a, b, c, d, rfl, rfl⟩ := gk_four hl
    rfl
  · obtain ⟨u, v, M, n, w', kk, b, rfl, hm, m, hb, hbits, hbl, hk, k⟩ := h
    rfl
  · obtain ⟨u, v, M, n, w', kk, b, rfl, hm, m, hb, hbits, hbl, hk, k⟩ := h
    have hu := hu_of hr
    refine ⟨_, (pss_cons (ps_expr (pe_c c_need_width hr (by decide) (by rfl) (pa_cons (pv 0) (pa_cons (pv 1) pa_nil))))
    (pss_cons (ps_expr (pe_c c_need_bits hr (by decide) (by rfl) (pa_cons (pv 2) pa_nil)))
    (pss_cons (ps_expr (pe_c c_need_count hr (by decide) (by rfl) (pa_cons (pv 3) pa_nil)))
    (pss_one (ps_ret (pe_c c_raw_read hr (by decide) (by rfl) (pa_cons (pv 0) (pa_cons (pv 1) (pa_cons (pv 2) (pa_cons (pv 3) pa_nil)))))))))), ?_⟩
    refine ⟨_, rfl, _, rfl, u, M, n, w', rfl, hm, m, fun H1 s1 => ?_⟩
    refine ⟨_, rfl, v, _, rfl, hb.tk (Same.tk s1), fun z hz => ?_, by rw [List.length_map]; exact hbl, fun H2 s2 => ?_⟩
    · obtain ⟨y, hy, rfl⟩ := List.mem_map.mp hz
      have := hbits y hy
      omega
    have t := Same.tk (s1.trans s2)
    refine ⟨_, rfl, _, rfl, by omega, ?_⟩
    exact ⟨_, rfl, _, rfl, _, rfl, _, rfl, u, v, M, n, w', kk, b, rfl, hm.tk t, m, hb.tk t, hbits, hk, fun v3 H3 s3 h3 => k v3 H3 ((s1.trans s2).trans s3) h3⟩
end
end K59

namespace K59
open PySem PySem.Spec PyProof.Rows L2
open C8 (Cal Met Mak pe_c pe_mk pe_mt pe_mt0 pe_gc)
section
variable {P : Program} {w : World} {K : PySem.W.Frag} {mg : Str → Option Value} {base : Heap}
theorem nox_of {X : Cx} {body : List Stmt} {D : Ends} {σ : L2.St} {H : Hp} (h : ∃ t, PSs X.nox body t ∧ t D σ H) : ∃ t, PSs X body t ∧ t D σ H := let ⟨t, p, q⟩ := h; ⟨t, PSs.nox p, q⟩
theorem if34 {b : Bool} {σ : L2.St} {H : Hp} {Q : VK} (h : ∀ oc : Nat, oc = 3 ∨ oc = 4 → Q (.int (oc : Nat)) H) : if b = true then tC (.int 4) σ H Q else tC (.int 3) σ H Q := by
  cases b
  · exact h 3 (.inl rfl)
  · exact h 4 (.inr rfl)
theorem ifB {b : Bool} {A B : Prop} (h1 : A) (h2 : B) : if b = true then A else B := by cases b <;> simp [h1, h2]
theorem W4.dp {K : PySem.W.Frag} {M : Md} {w : Nat} {H : Hp} {x : V} {p : List Nat} (h : W4 K M w H x p) : DpK K H 2 x := by
  obtain ⟨t, tw, rfl, h1, h2⟩ := h
  refine DpK.of h1 fun y hy => ?_
  have i : ∀ n : Int, DpK K H 1 (.int n) := fun n => ⟨.int n, .int n, rfl, Nat.zero_le _⟩
  simp only [List.mem_cons, List.not_mem_nil, or_false] at hy
  rcases hy with rfl | rfl | rfl | rfl
  · exact TupI.dp (ns := cs p) ⟨tw, rfl, SqT.of h2⟩
  · exact i _
  · exact i _
  · exact i _
/-- what stays while the law counts -/
structure LF (K : PySem.W.Frag) (d l : Addr) (w k m : Nat) (M : Md) (vm : V) (qw : Addr) (xs : List V) (H : Hp) : Prop where
  D : DeckAt H d l
  hM : Mod_ K H vm M
  hq : H qw = some (.lst xs)
  hW : All2 (W4 K M w H) xs (lv M w k)
section
variable {K : PySem.W.Frag} {d l : Addr} {w k m : Nat} {M : Md} {vm : V} {qw : Addr} {xs : List V} {H H' : Hp}
theorem LF.same (h : LF K d l w k m M vm qw xs H) (s : Same H H') : LF K d l w k m M vm qw xs H' := ⟨h.D.same s, h.hM.tk (Same.tk s), s _ _ h.hq, h.hW.mono fun x p z => z.tt (Same.tt s)⟩
theorem LF.upd {f : Addr} {kv : List (List Key × V)} {o : HO} (h : LF K d l w k m M vm qw xs H) (hf : H f = some (.dT kv)) : LF K d l w k m M vm qw xs (upd H f o) := by
  have t : TT H (L2.upd H f o) := TT.put hf rfl
  have n0 : f ≠ qw := by rintro rfl; have := h.hq; rw [hf] at this; cases this
  obtain ⟨m', t', cs', h1, h2, h3⟩ := id h.D
  have n1 : f ≠ d := by rintro rfl; rw [hf] at h1; cases h1
  have n2 : f ≠ l := by rintro rfl; rw [hf] at h2; cases h2
  exact ⟨h.D.put n1 n2, h.hM.tk t.1, by rw [upd_ne n0.symm]; exact h.hq, h.hW.mono fun x p z => z.tt t⟩
end
theorem wy_tup {K : PySem.W.Frag} {H : Hp} {t : Addr} {p : List Nat} (h : H t = some (.tup (vN p))) : TupN K H (.ref t) p := ⟨t, rfl, SqT.of h⟩
theorem lv_lt {M : Md} {n w k : Nat} (mo : MOk M n w) {p : List Nat} (h : p ∈ lv M w k) : p.length = k ∧ ∀ x ∈ p, x < 16 := by
  obtain ⟨v, hl⟩ := (lv_mem mo k p).mp h
  refine ⟨hl, ?_⟩
  have go : ∀ (p : List Nat) (q : Nat), q < M.length → VW M q p → ∀ x ∈ p, x < 16 := by
    intro p
    induction p with
    | nil => intro q _ _ x hx; cases hx
    | cons i p ih =>
      intro q hq hv x hx
      have h1 := mo.len q hq
      have h2 := mo.n8
      obtain ⟨v1, v2, v3⟩ := hv
      rcases List.mem_cons.mp hx with e | hx
      · omega
      · exact ih _ (mo.fl q i hq (by omega)) v3 x hx
  exact go p 0 mo.ne v
theorem wri_len {M : Md} {n w : Nat} (m : MOk M n w) {p : List Nat} (v : VW M 0 p) (hp : p.length ≤ 8) : (wri M w p).length ≤ 1000 := by
  have h1 := wri_nat m v hp
  have h2 := fin_len (w := w) (l := (goes M w (r0 w) p).l) (s := (goes M w (r0 w) p).s) (x := enc ([], 0) (goes M w (r0 w) p).o)
  unfold wri
  omega
theorem sc_law : FnScope ["_law_script", "_law_deck_here", "_law_go", "_law_w", "_law_model_here", "_law_k", "_law_ways", "_law_many", "_law_found", "_law_number", "_law_bits", "_law_way", "_law_due", "_law_top", "_law_bottom", "_law_looked", "_law_at", "_law_it"] ["_law_script"] (defScope s_law) := ⟨rfl, rfl, rfl, by decide +kernel, rfl, by decide +kernel, by decide +kernel⟩
def sp_law (K : PySem.W.Frag) : Sp := fun vs H Q _ => ∃ (a : Addr) (ns : List Int), vs = [.ref a] ∧ SqL K H a (ns.map V.int) ∧ ∀ H', Q (.bl true) H'
theorem law_fn (T : Fx K mg) (c__law_all_ways : Cal P w K mg base 3 "_law_all_ways" (sp__law_all_ways K) []) (c__law_deck : Cal P w K mg base 1 "_law_deck" (sp__law_deck K) []) (c__law_fraction : Cal P w K mg base 2 "_law_fraction" (sp__law_fraction K) []) (c__law_model : Cal P w K mg base 4 "_law_model" (sp__law_model K) []) (c__law_pick : Cal P w K mg base 2 "_law_pick" (sp__law_pick K) []) (c_is_way : Cal P w K mg base 9 "is_way" (sp_is_way K) []) (c_real_chance : Cal P w K mg base 10 "real_chance" (sp_real_chance K) []) (c_way_read : Cal P w K mg base 10 "way_read" (sp_way_read K) []) (c_written : Cal P w K mg base 10 "written" (sp_written K) []) {fk : Addr} {fdk : FuncData} (Gk : CalK P w K mg base 10 "way_read" fk fdk ["model", "w", "bits", "k"] ["k", "bits", "w", "model"] gk gk (sp_way_read K)) {fd : FuncData}
    (F : FunD K "law" "law" (defArgs s_law) (defBody s_law) (defScope s_law) [] [] (He.ga K "law") fd) : FnC P w K mg base (He.ga K "law") fd ["_law_script"] (sp_law K) := by
  refine fnC_of (k := 10) F sc_law ⟨rfl, by decide, by decide⟩ (fun vs H Q E h => ?_) (fun cdv s H vs Q E hr h => ?_)
  · obtain ⟨a, ns, rfl, hs, k⟩ := h
    rfl
  · obtain ⟨a, ns, rfl, hs, k⟩ := h
    have hu := hu_of hr
    have gd : (callerA.deeper (envOfC "law" (defScope s_law) s.heap.objs.size (He.ga K "law") cdv)).guards = some [] := rfl
    refine nox_of ?_
    refine ⟨_, (pss_cons (ps_set (i := 1) sc_law.nd rfl (Or.inl rfl) (pe_c c__law_deck hr (by decide) (by rfl) (pa_cons (pv 0) pa_nil)))
    (pss_cons (ps_for PassesOwn.never rfl (pi_range1 (by rfl) T.m_range (pa_cons pe_int pa_nil)) (pg_name (i := 2) sc_law.nd rfl (Or.inl rfl))
      (pss_cons (ps_set (i := 3) sc_law.nd rfl (Or.inl rfl) (pe_c c__law_pick hr (by decide) (by rfl) (pa_cons (pv 1) (pa_cons (pe_lst (pa_cons pe_int (pa_cons pe_int (pa_cons pe_int (pa_cons pe_int pa_nil))))) pa_nil))))
    (pss_cons (ps_set (i := 4) sc_law.nd rfl (Or.inl rfl) (pe_c c__law_model hr (by decide) (by rfl) (pa_cons (pv 1) (pa_cons pe_int (pa_cons (pe_ifExp (pt_cmpR op_gt (pv 3) pe_int (nomark _)) pe_int pe_int) (pa_cons (pe_op op_add (pe_op op_shl pe_int (pe_op op_sub (pv 3) pe_int)) pe_int) pa_nil))))))
    (pss_cons (ps_set (i := 5) sc_law.nd rfl (Or.inl rfl) (pe_c c__law_pick hr (by decide) (by rfl) (pa_cons (pv 1) (pa_cons (pe_lst (pa_cons pe_int (pa_cons pe_int (pa_cons pe_int (pa_cons pe_int (pa_cons pe_int (pa_cons pe_int pa_nil))))))) pa_nil))))
    (pss_cons (ps_set (i := 6) sc_law.nd rfl (Or.inl rfl) (pe_c c__law_all_ways hr (by decide) (by rfl) (pa_cons (pv 4) (pa_cons (pv 3) (pa_cons (pv 5) pa_nil)))))
    (pss_cons (ps_set (i := 7) sc_law.nd rfl (Or.inr rfl) (pe_ifExp (pt_cmpR op_gt (pv 5) pe_int (nomark _)) (pe_callB (k_maxL K rfl rfl) (by rfl) T.m_max (by decide +kernel) (pa_cons (pe_op op_cat (pe_lst (pa_cons pe_int pa_nil)) (pe_lc (own := [("_law_it", 17)]) rfl sc_law.nd (pi_list (pe_c c__law_all_ways hr (by decide) (by rfl) (pa_cons (pv 4) (pa_cons (pv 3) (pa_cons (pe_op op_sub (pv 5) pe_int) pa_nil))))) (blkOk_by (own := [("_law_it", 17)]) (N := ["_law_script", "_law_deck_here", "_law_go", "_law_w", "_law_model_here", "_law_k", "_law_ways", "_law_many", "_law_found", "_law_number", "_law_bits", "_law_way", "_law_due", "_law_top", "_law_bottom", "_law_looked", "_law_at", "_law_it"]) (sc := defScope s_law) (by decide +kernel)) (fun _ _ _ _ _ => (pg_name (i := 17) sc_law.nd rfl (Or.inl rfl) (Or.inr rfl))) (fun _ _ _ _ _ => pts_nil) (fun _ _ _ _ _ => (pe_ix (k_ixT K rfl) (pv 17) pe_int (fun _ _ => rfl))))) pa_nil)) pe_int))
    (pss_cons (ps_if (PW.pt (pw_or (pt_cmpR (k_eqD K rfl hr.units) (pv 6) (pe_lst pa_nil) (nomark _)) (pw_or1 (pt_cmpR op_gt (pv 7) pe_int (nomark _)))))
      (pss_one ps_continue)
      pss_nil)
    (pss_cons (ps_set (i := 8) sc_law.nd rfl (Or.inr rfl) pe_dnewT)
    (pss_cons (ps_for PassesOwn.never rfl (pi_range1 (by rfl) T.m_range (pa_cons (pe_op op_shl pe_int (pv 7)) pa_nil)) (pg_name (i := 9) sc_law.nd rfl (Or.inr rfl))
      (pss_cons (ps_set (i := 10) sc_law.nd rfl (Or.inl rfl) (pe_callTy (k_tuple K rfl) (by rfl) T.m_tuple (by decide +kernel) (pa_cons (pe_lc (own := [("_law_at", 16)]) rfl sc_law.nd (pi_range1 (by rfl) T.m_range (pa_cons (pv 7) pa_nil)) (blkOk_by (own := [("_law_at", 16)]) (N := ["_law_script", "_law_deck_here", "_law_go", "_law_w", "_law_model_here", "_law_k", "_law_ways", "_law_many", "_law_found", "_law_number", "_law_bits", "_law_way", "_law_due", "_law_top", "_law_bottom", "_law_looked", "_law_at", "_law_it"]) (sc := defScope s_law) (by decide +kernel)) (fun _ _ _ _ _ => (pg_name (i := 16) sc_law.nd rfl (Or.inl rfl) (Or.inr rfl))) (fun _ _ _ _ _ => pts_nil) (fun _ _ _ _ _ => (pe_op op_and (pe_op op_shr (pv 9) (pe_op op_sub (pe_op op_sub (pv 7) pe_int) (pv 16))) pe_int))) pa_nil)))
    (pss_cons (ps_set (i := 11) sc_law.nd rfl (Or.inl rfl) (pe_ifExp (pt_cmpR op_gt (pe_op op_mod (pe_callTy call_int1 (by rfl) T.m_int (by decide +kernel) (pa_cons (pv 9) pa_nil)) pe_int) pe_int (nomark _)) (pe_c c_way_read hr (by decide) (by rfl) (pa_cons (pv 4) (pa_cons (pv 3) (pa_cons (pv 10) (pa_cons (pv 5) pa_nil))))) (pe_callKO Gk.ok (hr.mono (by decide)) (by rfl) Gk.mg Gk.kp Gk.kb pass0 (pk_cons (pv 5) (pk_cons (pv 10) (pk_cons (pv 3) (pk_cons (pv 4) pk_nil)))))))
    (pss_cons (ps_dput hu (pv 8) (pv 11) (pe_op op_add (pe_dget2 hu (pv 8) (pv 11) pe_int ⟨rfl, rfl, rfl, rfl⟩) pe_int) rfl)
    (pss_one (ps_if (PW.pt (pw_and (pt_cmpR op_eq (pe_op op_mod (pe_callTy call_int1 (by rfl) T.m_int (by decide +kernel) (pa_cons (pv 9) pa_nil)) pe_int) pe_int (nomark _)) (pw_and1 (pt_cmpR (k_neD K rfl hr.units) (pe_c c_way_read hr (by decide) (by rfl) (pa_cons (pv 4) (pa_cons (pv 3) (pa_cons (pe_op (k_cat K rfl) (pv 10) (pe_tup (pa_cons pe_int (pa_cons pe_int (pa_cons pe_int (pa_cons pe_int pa_nil)))))) (pa_cons (pv 5) pa_nil))))) (pv 11) (nomark _)))))
      (pss_one (ps_ret pe_bl))
      pss_nil))))))
    (pss_cons (ps_set (i := 12) sc_law.nd rfl (Or.inr rfl) pe_dnewT)
    (pss_cons (ps_for PassesOwn.never rfl (pi_list (pv 6)) (pg_tupK K 4 rfl rfl (pgs_cons (pg_name (i := 11) sc_law.nd rfl (Or.inl rfl)) (pgs_cons (pg_name (i := 13) sc_law.nd rfl (Or.inl rfl)) (pgs_cons (pg_name (i := 14) sc_law.nd rfl (Or.inl rfl)) (pgs_cons (pg_name (i := 15) sc_law.nd rfl (Or.inl rfl)) pgs_nil)))))
      (pss_cons (ps_dput hu (pv 12) (pv 11) (pe_op op_fdiv (pe_op op_shl (pv 13) (pv 7)) (pv 14)) rfl)
    (pss_one (ps_if (PW.pt (pw_or (pt_cmpR op_ne (pe_op op_mod (pe_callTy call_int1 (by rfl) T.m_int (by decide +kernel) (pa_cons (pe_op op_shl (pv 13) (pv 7)) pa_nil)) (pv 14)) pe_int (nomark _)) (pw_or1 (pt_cmpR op_ne (pe_callB (k_repr K rfl hr gd) (by rfl) T.m_repr (by decide +kernel) (pa_cons (pe_c c_real_chance hr (by decide) (by rfl) (pa_cons (pv 4) (pa_cons (pv 3) (pa_cons (pv 11) pa_nil)))) pa_nil)) (pe_callB (k_repr K rfl hr gd) (by rfl) T.m_repr (by decide +kernel) (pa_cons (pe_c c__law_fraction hr (by decide) (by rfl) (pa_cons (pv 13) (pa_cons (pv 14) pa_nil))) pa_nil)) (nomark _)))))
      (pss_one (ps_ret pe_bl))
      pss_nil))))
    (pss_cons (ps_if (PW.pt (pw_or (pt_cmpR (k_neD K rfl hr.units) (pe_callB (k_sorted K rfl) (by rfl) T.m_sorted (by decide +kernel) (pa_cons (pe_callTy (call_list_dT rfl) (by rfl) T.m_list (by decide +kernel) (pa_cons (pv 8) pa_nil)) pa_nil)) (pe_callB (k_sorted K rfl) (by rfl) T.m_sorted (by decide +kernel) (pa_cons (pe_callTy (call_list_dT rfl) (by rfl) T.m_list (by decide +kernel) (pa_cons (pv 12) pa_nil)) pa_nil)) (nomark _)) (pw_or1 (pt_cmpR (k_neD K rfl hr.units) (pe_lock (pe_lc (own := [("_law_way", 11)]) rfl sc_law.nd (pi_keys (pv 12)) (blkOk_by (own := [("_law_way", 11)]) (N := ["_law_script", "_law_deck_here", "_law_go", "_law_w", "_law_model_here", "_law_k", "_law_ways", "_law_many", "_law_found", "_law_number", "_law_bits", "_law_way", "_law_due", "_law_top", "_law_bottom", "_law_looked", "_law_at", "_law_it"]) (sc := defScope s_law) (by decide +kernel)) (fun _ _ _ _ _ => (pg_name (i := 11) sc_law.nd rfl (Or.inl rfl) (Or.inr rfl))) (fun _ _ _ _ _ => (pts_one (pt_cmpR op_ne (pe_dget hu (pv 8) (pv 11) (fun _ _ => rfl)) (pe_dget hu (pv 12) (pv 11) (fun _ _ => rfl)) (nomark _)))) (fun _ _ _ _ _ => pe_int))) (pe_lst pa_nil) (nomark _)))))
      (pss_one (ps_ret pe_bl))
      pss_nil)
    (pss_cons (ps_set (i := 11) sc_law.nd rfl (Or.inl rfl) (pe_c c__law_pick hr (by decide) (by rfl) (pa_cons (pv 1) (pa_cons (pe_callB (k_sorted K rfl) (by rfl) T.m_sorted (by decide +kernel) (pa_cons (pe_callTy (call_list_dT rfl) (by rfl) T.m_list (by decide +kernel) (pa_cons (pv 12) pa_nil)) pa_nil)) pa_nil))))
    (pss_cons (ps_set (i := 10) sc_law.nd rfl (Or.inl rfl) (pe_c c_written hr (by decide) (by rfl) (pa_cons (pv 4) (pa_cons (pv 3) (pa_cons (pv 11) pa_nil)))))
    (pss_one (ps_if (PW.pt (pw_or (pt_cmpR op_notBl (pe_c c_is_way hr (by decide) (by rfl) (pa_cons (pv 4) (pa_cons (pv 11) pa_nil))) pe_bl (nomark _)) (pw_or1 (pt_cmpR (k_neD K rfl hr.units) (pe_c c_way_read hr (by decide) (by rfl) (pa_cons (pv 4) (pa_cons (pv 3) (pa_cons (pv 10) (pa_cons (pv 5) pa_nil))))) (pv 11) (nomark _)))))
      (pss_one (ps_ret pe_bl))
      pss_nil))))))))))))))))
    (pss_one (ps_ret pe_bl)))), ?_⟩
    refine ⟨_, rfl, a, ns, rfl, hs, fun d l H1 s1 hd0 hl0 D1 => gn ?_⟩
    dsimp only
    refine ⟨2, rfl, by decide, by decide, for_range (lo := 0) (n := 2) (fun i σ H2 => ∃ (x2 x3 x4 x5 x6 x7 x8 x9 x10 x11 x12 x13 x14 x15 : Option V), σ = [some (.ref a), some (.ref d), x2, x3, x4, x5, x6, x7, x8, x9, x10, x11, x12, x13, x14, x15, none, none] ∧ DeckAt H2 d l) ⟨_, _, _, _, _, _, _, _, _, _, _, _, _, _, rfl, D1⟩ (fun i σ H2 hi h => ?_) (fun σ H2 h => k H2)⟩
    clear D1 hd0 hl0 s1 H1 hs
    obtain ⟨x2, x3, x4, x5, x6, x7, x8, x9, x10, x11, x12, x13, x14, x15, rfl, D2⟩ := h
    refine ⟨_, rfl, (show 4 ≤ sizeLine by decide), fun p1 hp1 => ?_⟩
    obtain ⟨n1, n2⟩ := D2.ne hp1
    refine ⟨d, l, p1, vN [3, 4, 3, 5], rfl, D2.put n1 n2, SqL.of upd_same, n1, n2, (show 0 < 4 by decide), (show 4 < 1073741824 by decide), fun r y H3 hy f3 D3 => ?_⟩
    obtain ⟨w', hw', rfl⟩ := vN_get hy
    have hw35 : 3 ≤ w' ∧ w' ≤ 5 := by
      have := List.mem_of_getElem? hw'
      simp at this
      omega
    obtain ⟨hw3, hw5⟩ := hw35
    clear hy hw' f3 n1 n2 hp1 D2
    refine ⟨_, rfl, _, rfl, _, _, rfl, rfl, _, rfl, if34 fun oc ho => ?_⟩
    refine ⟨_, rfl, _, _, rfl, rfl, _, _, rfl, rfl, cp2 (by omega) (by omega), _, _, rfl, rfl, d, l, w', oc, ?_, D3, by omega, by omega, hw3, hw5, fun vm M n H4 f4 D4 hM mo => ?_⟩
    · show [V.ref d, V.int 3, V.int oc, V.int ((1 : Int) * 2 ^ ((w' : Int) - 2).toNat + 1)] = _
      rw [shl2 (by omega)]
      rfl
    refine ⟨_, rfl, (show 6 ≤ sizeLine by decide), fun p2 hp2 => ?_⟩
    obtain ⟨n1, n2⟩ := D4.ne hp2
    refine ⟨d, l, p2, vN [1, 2, 0, 3, 2, 4], rfl, D4.put n1 n2, SqL.of upd_same, n1, n2, (show 0 < 6 by decide), (show 6 < 1073741824 by decide), fun r y H5 hy f5 D5 => ?_⟩
    obtain ⟨kk, hk', rfl⟩ := vN_get hy
    have k4 : kk ≤ 4 := by
      have := List.mem_of_getElem? hk'
      simp at this
      omega
    have hM5 := (hM.tk (Same.tk (Same.new (o := .lst (vN [1, 2, 0, 3, 2, 4])) hp2))).tk (f5.tk (D4.put n1 n2))
    clear hy hk' f5 n1 n2 hp2 D4 hM f4 D3 ho
    refine ⟨_, rfl, _, rfl, _, rfl, vm, M, n, w', kk, rfl, hM5, mo, by omega, fun qw xs H6 s6 hq0 hq hW => gn ?_⟩
    have D6 := D5.same s6
    have hM6 := hM5.tk (Same.tk s6)
    clear hM5 D5 s6 hq0
    dsimp only
    refine sj (fun σ H7 => ∃ (m : Nat) (x2 x8 x9 x10 x11 x12 x13 x14 x15 : Option V), σ = [some (.ref a), some (.ref d), x2, some (.int w'), some (vm), some (.int kk), some (.ref qw), some (.int m), x8, x9, x10, x11, x12, x13, x14, x15, none, none] ∧ Same H6 H7 ∧ (xs ≠ [] → Enough M w' m kk)) (fun R hR => ?_) (fun σ H7 h => ?_)
    · refine ⟨_, rfl, _, _, rfl, rfl, _, rfl, ?_⟩
      by_cases c : 0 < kk
      · refine iD (by show (0 : Int) < (kk : Int); omega) ⟨(show 1 ≤ sizeLine by decide), fun p1 hp1 => ⟨_, rfl, _, rfl, _, rfl, _, _, rfl, rfl, ?_⟩⟩
        have s7 : Same H6 (upd H6 p1 (.lst [V.int 0])) := Same.new hp1
        have h7 : upd H6 p1 (.lst [V.int 0]) p1 = some (.lst [V.int 0]) := upd_same
        generalize upd H6 p1 (.lst [V.int 0]) = H7 at *
        refine ⟨vm, M, n, w', kk - 1, ?_, hM6.tk (Same.tk s7), mo, by omega, fun q2 xs2 H8 s8 _ hq2 hW2 => ⟨q2, rfl, ⟨_, SqL.of hq2⟩, fun D hD => ?_⟩⟩
        · show [vm, V.int w', V.int ((kk : Int) - 1)] = _
          rw [show (kk : Int) - 1 = ((kk - 1 : Nat) : Int) by omega]
        obtain ⟨L2, hA2, hL2, hl2⟩ : ∃ L2 : List (List Nat), All2 (W4 K M w' H8) xs2 L2 ∧ (xs ≠ [] → L2 = lv M w' (kk - 1)) ∧ L2.length ≤ 60 := by
          rcases hW2 with ⟨rfl, g, hg, h60⟩ | ⟨h1, h2⟩
          · refine ⟨[], ⟨rfl, fun j x p hx => by simp at hx⟩, fun hne => ?_, Nat.zero_le _⟩
            rcases hW with ⟨e, _⟩ | ⟨_, e⟩
            · exact absurd e hne
            · have := e g (by omega)
              omega
          · exact ⟨_, h1, fun _ => rfl, h2 _ (Nat.le_refl _)⟩
        refine lc_list (K := K) (a := q2) (xs := xs2) (fun j H9 => Same H8 H9 ∧ H9 D = some (.lst (vN ((L2.map fun p => w' + (goes M w' (r0 w') p).o.length).take j)))) ⟨Same.new hD, upd_same⟩ (fun j H9 _ h => SqL.of (h.1 _ _ hq2)) (fun j x H9 hj ⟨s9, h9⟩ => ?_) (fun H9 ⟨s9, h9⟩ => ?_)
        · obtain ⟨p, hp, hp4⟩ := hA2.get hj
          obtain ⟨t, tw, rfl, ht, htw⟩ := hp4.tt (Same.tt s9)
          have hpl := (List.getElem?_eq_some_iff.mp hp).1
          refine ⟨rfl, _, rfl, t, _, 3, _, rfl, rfl, ht, rfl, _, h9, szl_ (by rw [vN_len]; simp; omega), Same.upd s9 hD, ?_⟩
          have e1 : (L2.map fun p => w' + (goes M w' (r0 w') p).o.length).take (j + 1) = (L2.map fun p => w' + (goes M w' (r0 w') p).o.length).take j ++ [w' + (goes M w' (r0 w') p).o.length] := by
            rw [List.take_succ_eq_append_getElem (by simpa using hpl), List.getElem_map, (List.getElem?_eq_some_iff.mp hp).2]
          rw [upd_same, e1, vN_snoc]
        · rw [hA2.1, List.take_of_length_le (by simp)] at h9
          refine ⟨p1, D, _, _, rfl, rfl, s9 _ _ (s8 _ _ h7), h9, sz_ (by rw [vN_len]; simp; omega), fun p3 hp3 => ?_⟩
          refine ⟨p3, (0 :: L2.map fun p => w' + (goes M w' (r0 w') p).o.length).map fun n : Nat => (n : Int), rfl, SqL.of upd_same, by simp, fun z hz hmax => ?_⟩
          obtain ⟨mN, hmN, rfl⟩ := List.mem_map.mp hz
          refine hR _ _ ⟨mN, _, _, _, _, _, _, _, _, _, rfl, ((s7.trans s8).trans s9).trans (Same.new hp3), fun hne => .inr fun p hp => ?_⟩
          rw [← hL2 hne] at hp
          have := hmax ((w' + (goes M w' (r0 w') p).o.length : Nat) : Int) (List.mem_map.mpr ⟨_, List.mem_cons_of_mem _ (List.mem_map.mpr ⟨p, hp, rfl⟩), rfl⟩)
          omega
      · refine iDF (by show ¬ (0 : Int) < (kk : Int); omega) ?_
        exact hR _ _ ⟨0, _, _, _, _, _, _, _, _, _, rfl, Same.refl H6, fun _ => .inl (by omega)⟩
    obtain ⟨m, x2, x8, x9, x10, x11, x12, x13, x14, x15, rfl, s7, hEn⟩ := h
    have D7 := D6.same s7
    have hM7 := hM6.tk (Same.tk s7)
    have hq7 := s7 _ _ hq
    refine sj (fun σ H8 => ∃ (x2 x8 x9 x10 x11 x12 x13 x14 x15 : Option V), σ = [some (.ref a), some (.ref d), x2, some (.int w'), some (vm), some (.int kk), some (.ref qw), some (.int m), x8, x9, x10, x11, x12, x13, x14, x15, none, none] ∧ LF K d l w' kk m M vm qw xs H8 ∧ xs ≠ [] ∧ m ≤ 7 ∧ (lv M w' kk).length ≤ 60) (fun R hR => ?_) (fun σ H8 h => ?_)
    · refine ⟨_, rfl, Nat.zero_le _, fun p1 hp1 => ?_⟩
      have s8 : Same H7 (upd H7 p1 (.lst [])) := Same.new hp1
      have h8 : upd H7 p1 (.lst []) p1 = some (.lst []) := upd_same
      generalize upd H7 p1 (.lst []) = H8 at *
      have s68 := s7.trans s8
      obtain ⟨ds, g1, g2, g3, g4⟩ := DpK.lst (K := K) (k := 2) (SqL.of (s8 _ _ hq7)) (fun x hx => by
        rcases hW with ⟨rfl, _⟩ | ⟨hW, _⟩
        · cases hx
        · obtain ⟨j, hj⟩ := List.getElem?_of_mem hx
          obtain ⟨p, _, h4⟩ := hW.get hj
          exact (h4.tt (Same.tt s68)).dp)
      refine ⟨_, _, g1, .lst (SqL.of h8) .nil, shaped_of g3 g4 (by decide), rfl, _, rfl, ?_⟩
      by_cases cx : xs = []
      · subst cx
        obtain rfl : ds = [] := List.eq_nil_of_length_eq_zero g2
        refine iteT (iteT ?_)
        exact ⟨_, _, _, _, _, _, _, _, _, _, _, _, _, _, rfl, D7.same s8⟩
      · have e2 : PyData.eqv (.list ds) (.list []) = false := by
          cases ds with
          | nil => exact absurd (List.eq_nil_of_length_eq_zero g2.symm) cx
          | cons d ds => rfl
        rw [e2]
        refine iteF ⟨_, rfl, _, _, rfl, rfl, _, rfl, ?_⟩
        by_cases c7 : 7 < m
        · refine iD (by show (7 : Int) < (m : Int); omega) ?_
          exact ⟨_, _, _, _, _, _, _, _, _, _, _, _, _, _, rfl, D7.same s8⟩
        · refine iDF (by show ¬ (7 : Int) < (m : Int); omega) ?_
          rcases hW with ⟨e, _⟩ | ⟨hW, hG⟩
          · exact absurd e cx
          exact hR _ _ ⟨_, _, _, _, _, _, _, _, _, rfl, ⟨D7.same s8, hM7.tk (Same.tk s8), s8 _ _ hq7, hW.mono fun x p h => h.tt (Same.tt s68)⟩, cx, by omega, hG kk (Nat.le_refl _)⟩
    clear hq7 hM7 D7 s7 hM6 D6 hq hW
    obtain ⟨x2, x8, x9, x10, x11, x12, x13, x14, x15, rfl, lf, hne, m7, l60⟩ := h
    have en := hEn hne
    clear hEn
    have hm128 : 2 ^ m ≤ 2 ^ 7 := Nat.pow_le_pow_right (by decide) m7
    refine fun fd hfd => gn ?_
    have lf1 := lf.same (Same.new (o := .dT []) hfd)
    have hfd1 : upd H8 fd (.dT []) fd = some (.dT []) := upd_same
    generalize upd H8 fd (.dT []) = H9 at *
    clear lf hfd H8
    dsimp only
    refine sj (fun σ H => ∃ (kvs : List (List Key × V)) (x2 x9 x10 x11 x12 x13 x14 x15 : Option V), σ = [some (.ref a), some (.ref d), x2, some (.int w'), some (vm), some (.int kk), some (.ref qw), some (.int m), some (.ref fd), x9, x10, x11, x12, x13, x14, x15, none, none] ∧ LF K d l w' kk m M vm qw xs H ∧ H fd = some (.dT kvs) ∧ FInv M w' m kk kvs (2 ^ m)) (fun R hR => ?_) (fun σ H10 h => ?_)
    · refine ⟨_, rfl, _, _, rfl, rfl, ⟨by omega, by omega, by decide⟩, ((2 ^ m : Nat) : Int), congrArg (fun z => [V.int z]) (shlN rfl), Int.le_trans (by decide) (Int.natCast_nonneg _), by omega, for_range (lo := 0) (n := 2 ^ m) (fun N σ H => ∃ (kvs : List (List Key × V)) (x2 x9 x10 x11 x12 x13 x14 x15 : Option V), σ = [some (.ref a), some (.ref d), x2, some (.int w'), some (vm), some (.int kk), some (.ref qw), some (.int m), some (.ref fd), x9, x10, x11, x12, x13, x14, x15, none, none] ∧ LF K d l w' kk m M vm qw xs H ∧ H fd = some (.dT kvs) ∧ FInv M w' m kk kvs N) ⟨[], _, _, _, _, _, _, _, _, rfl, lf1, hfd1, FInv.zero M w' m kk⟩ (fun N σ H10 hN h => ?_) (fun σ H10 h => hR _ _ h)⟩
      clear lf1 hfd1
      obtain ⟨kvs, x2, x9, x10, x11, x12, x13, x14, x15, rfl, lf, hfd, FI⟩ := h
      rw [Int.zero_add]
      refine sj (fun σ H => ∃ (tb : Addr) (x2 x11 x12 x13 x14 x15 : Option V), σ = [some (.ref a), some (.ref d), x2, some (.int w'), some (vm), some (.int kk), some (.ref qw), some (.int m), some (.ref fd), some (.int N), some (.ref tb), x11, x12, x13, x14, x15, none, none] ∧ LF K d l w' kk m M vm qw xs H ∧ H fd = some (.dT kvs) ∧ H tb = some (.tup (vN (rowOf m N)))) (fun R hR => ?_) (fun σ H11 h => ?_)
      · refine ⟨_, rfl, m, rfl, by omega, by omega, fun D hD => lc_range (lo := 0) (n := m) (fun j H2 => Same H10 H2 ∧ H2 D = some (.lst (vN ((rowOf m N).take j)))) ⟨Same.new hD, upd_same⟩ (fun j H2 hj ⟨s2, h2⟩ => ?_) (fun H2 ⟨s2, h2⟩ => ?_)⟩
        · rw [Int.zero_add]
          refine ⟨rfl, _, rfl, _, rfl, _, _, rfl, rfl, _, rfl, _, _, rfl, rfl, _, _, rfl, rfl, (by show (0 : Int) ≤ (m : Int) - 1 - (j : Int); omega), _, _, rfl, rfl, _, h2, szl_ (by rw [vN_len, List.length_take]; omega), Same.upd s2 hD, ?_⟩
          rw [upd_same, take_snoc (by rw [rowOf_len]; exact hj), vN_snoc, rowOf_get hj]
          dsimp only
          rw [bit_at hj]
        · rw [List.take_of_length_le (by rw [rowOf_len]; exact Nat.le_refl _)] at h2
          refine ⟨D, _, rfl, SqL.of h2, fun t ht => ?_⟩
          have s3 := s2.trans (Same.new (o := .tup (vN (rowOf m N))) ht)
          exact hR _ _ ⟨t, _, _, _, _, _, _, rfl, lf.same s3, s3 _ _ hfd, upd_same⟩
      clear lf hfd
      obtain ⟨tb, x2, x11, x12, x13, x14, x15, rfl, lf, hfd, htb⟩ := h
      have hrb := rowOf_bits m N
      have hrl := rowOf_len m N
      refine sj (fun σ H => ∃ (tw : Addr) (x2 x12 x13 x14 x15 : Option V), σ = [some (.ref a), some (.ref d), x2, some (.int w'), some (vm), some (.int kk), some (.ref qw), some (.int m), some (.ref fd), some (.int N), some (.ref tb), some (.ref tw), x12, x13, x14, x15, none, none] ∧ LF K d l w' kk m M vm qw xs H ∧ H fd = some (.dT kvs) ∧ H tb = some (.tup (vN (rowOf m N))) ∧ H tw = some (.tup (vN (readW M w' (rowOf m N) kk (r0 w'))))) (fun R hR => ?_) (fun σ H12 h => ?_)
      · refine ⟨_, rfl, .inl ⟨_, rfl, _, _, rfl, rfl, (by show (0 : Int) < _; decide), _, _, rfl, rfl, _, rfl, ifB ?_ ?_⟩⟩
        · refine ⟨_, rfl, _, rfl, _, rfl, _, rfl, vm, .ref tb, M, n, w', kk, rowOf m N, rfl, lf.hM, mo, wy_tup htb, hrb, by omega, by omega, fun v H12 s12 ⟨t, e, ht⟩ => ?_⟩
          subst e
          exact hR _ _ ⟨t, _, _, _, _, _, rfl, lf.same s12, s12 _ _ hfd, s12 _ _ htb, ht⟩
        · refine ⟨_, rfl, _, rfl, _, rfl, _, rfl, vm, .ref tb, M, n, w', kk, rowOf m N, rfl, lf.hM, mo, wy_tup htb, hrb, by omega, by omega, fun v H12 s12 ⟨t, e, ht⟩ => ?_⟩
          subst e
          exact hR _ _ ⟨t, _, _, _, _, _, rfl, lf.same s12, s12 _ _ hfd, s12 _ _ htb, ht⟩
      clear lf hfd htb
      obtain ⟨tw, x2, x12, x13, x14, x15, rfl, lf, hfd, htb, htw⟩ := h
      have hpl : (readW M w' (rowOf m N) kk (r0 w')).length = kk := readW_len ..
      have hky := htw
      rw [← ky_map] at hky
      have FI' := FI.put mo (rfl : readW M w' (rowOf m N) kk (r0 w') = _)
      have hget := FI.get hpl
      have hmb := more_bits mo en hrb (c := [1, 0, 1, 1]) (by intro x hx; simp at hx; omega) hrl
      generalize readW M w' (rowOf m N) kk (r0 w') = p at *
      refine ⟨_, rfl, fd, rfl, .inr ⟨kvs, .inl hfd⟩, _, rfl, _, DGet.t hfd hky, _, _, hget, rfl, _, rfl, _, rfl, fd, _, rfl, DPut.t hfd hky (szl_ (by have := FI.len; omega)), ?_⟩
      have lf' := lf.upd (o := .dT (putK kvs (ky p) (.int ((cnt M w' m p N : Nat) + 1)))) hfd
      have t' := TT.put (o := .dT (putK kvs (ky p) (.int ((cnt M w' m p N : Nat) + 1)))) hfd rfl
      have hfd' : upd H12 fd (.dT (putK kvs (ky p) (.int ((cnt M w' m p N : Nat) + 1)))) fd = some (.dT (putK kvs (ky p) (.int ((cnt M w' m p N : Nat) + 1)))) := upd_same
      have htb' := t'.2 _ _ htb
      have htw' := t'.2 _ _ htw
      refine ⟨_, rfl, .inl ⟨_, rfl, _, _, rfl, rfl, (by show (0 : Int) < _; decide), rfl, _, rfl, ifB ?_ (iteF ?_)⟩⟩
      · refine ⟨_, rfl, _, rfl, _, rfl, (show 4 ≤ sizeLine by decide), fun p4 hp4 => q_catT (K := K) (xs := vN (rowOf m N)) (ys := vN [1, 0, 1, 1]) ((Same.tk (Same.new hp4)).sq (SqT.of htb')) (SqT.of upd_same) (by rw [vN_len, vN_len, hrl]; show m + 4 ≤ _; omega) fun t5 H14 s14 ht5 => ?_⟩
        have s13 := (Same.new hp4).trans s14
        refine ⟨_, rfl, vm, .ref t5, M, n, w', kk, rowOf m N ++ [1, 0, 1, 1], rfl, (lf'.same s13).hM, mo, ⟨t5, rfl, by rw [List.map_append, List.map_append]; exact ht5⟩, bits_app hrb (by intro x hx; simp at hx; omega), by simp [hrl]; omega, by omega, fun v H15 s15 ⟨t6, e, ht6⟩ => ?_⟩
        subst e
        rw [hmb] at ht6
        refine ⟨_, rfl, q_neT (K := K) (SqT.of ht6) (SqT.of (s15 _ _ (s13 _ _ htw'))) ⟨_, rfl, iNF rfl ?_⟩⟩
        exact ⟨_, _, _, _, _, _, _, _, _, rfl, lf'.same (s13.trans s15), s15 _ _ (s13 _ _ hfd'), FI'⟩
      · exact ⟨_, _, _, _, _, _, _, _, _, rfl, lf', hfd', FI'⟩
    clear lf1 hfd1 hm128
    obtain ⟨kvs, x2, x9, x10, x11, x12, x13, x14, x15, rfl, lf, hfd, FI⟩ := h
    refine fun dd hdd => gn ?_
    have lf1 := lf.same (Same.new (o := .dT []) hdd)
    have hfd1 := Same.new (o := .dT []) hdd _ _ hfd
    have hdd1 : upd H10 dd (.dT []) dd = some (.dT []) := upd_same
    have nfd : fd ≠ dd := ne_of_none hfd hdd
    generalize upd H10 dd (.dT []) = H11 at *
    clear lf hdd hfd H10
    dsimp only
    refine sj (fun σ H => ∃ (x2 x9 x10 x11 x13 x14 x15 : Option V), σ = [some (.ref a), some (.ref d), x2, some (.int w'), some (vm), some (.int kk), some (.ref qw), some (.int m), some (.ref fd), x9, x10, x11, some (.ref dd), x13, x14, x15, none, none] ∧ LF K d l w' kk m M vm qw xs H ∧ H fd = some (.dT kvs) ∧ H dd = some (.dT (dueK M w' m (lv M w' kk)))) (fun R hR => ?_) (fun σ H12 h => ?_)
    · refine ⟨_, rfl, qw, rfl, ⟨_, SqL.of lf1.hq⟩, for_list (K := K) (a := qw) (xs := xs) (fun j σ H => ∃ (x2 x9 x10 x11 x13 x14 x15 : Option V), σ = [some (.ref a), some (.ref d), x2, some (.int w'), some (vm), some (.int kk), some (.ref qw), some (.int m), some (.ref fd), x9, x10, x11, some (.ref dd), x13, x14, x15, none, none] ∧ LF K d l w' kk m M vm qw xs H ∧ H fd = some (.dT kvs) ∧ H dd = some (.dT (dueK M w' m ((lv M w' kk).take j)))) ⟨_, _, _, _, _, _, _, rfl, lf1, hfd1, hdd1⟩ (fun j σ H _ h => by obtain ⟨x2, x9, x10, x11, x13, x14, x15, rfl, lf, _⟩ := h; exact SqL.of lf.hq) (fun j x σ H12 hj h => ?_) (fun σ H12 h => ?_)⟩
      · clear lf1 hfd1 hdd1
        obtain ⟨x2, x9, x10, x11, x13, x14, x15, rfl, lf, hfd, hdd⟩ := h
        obtain ⟨p, hp, hW4⟩ := lf.hW.get hj
        obtain ⟨t, tw, rfl, ht, htw⟩ := hW4
        have hpm := List.mem_of_getElem? hp
        have hjl : j < (lv M w' kk).length := (List.getElem?_eq_some_iff.mp hp).1
        obtain ⟨vw, hpl⟩ := (lv_mem mo kk p).mp hpm
        obtain ⟨b1, b2, b3, b4⟩ := bot_pos mo p (r0 w') (RI.zero mo) vw
        have b5 : botW M w' (r0 w') p ≤ 2 ^ 20 := Nat.le_trans b2 (Nat.pow_le_pow_right (by decide) (by
          rw [hpl]
          exact Nat.le_trans (Nat.mul_le_mul hw5 k4) (by decide)))
        have hky := htw
        rw [← ky_map] at hky
        obtain ⟨ce, _⟩ := count_eq mo en hpm
        have et : (lv M w' kk).take (j + 1) = (lv M w' kk).take j ++ [p] := by
          rw [List.take_succ_eq_append_getElem hjl, (List.getElem?_eq_some_iff.mp hp).2]
        have hnew : p ∉ (lv M w' kk).take j := fun hmem => by
          have nd := lv_nodup M w' kk
          rw [← List.take_append_drop (j + 1) (lv M w' kk), et, List.append_assoc, List.nodup_append] at nd
          exact nd.2.2 p hmem p (by simp) rfl
        have hput : putK (dueK M w' m ((lv M w' kk).take j)) (ky p) (.int (cnt M w' m p (2 ^ m) : Nat)) = dueK M w' m ((lv M w' kk).take (j + 1)) := by
          rw [putK_new _ (due_none hnew), et]
          unfold dueK
          rw [List.map_append]
          rfl
        have hval : (fun i j : Int => V.int (i / j)) ((topW M w' (r0 w') p : Nat) * 2 ^ (m : Int).toNat) (botW M w' (r0 w') p : Nat) = .int (cnt M w' m p (2 ^ m) : Nat) := by
          show V.int ((topW M w' (r0 w') p : Int) * 2 ^ (m : Int).toNat / (botW M w' (r0 w') p : Int)) = _
          have e1 : (topW M w' (r0 w') p : Int) * 2 ^ (m : Int).toNat = ((topW M w' (r0 w') p * 2 ^ m : Nat) : Int) := by rw [Int.toNat_natCast, Int.natCast_mul, Int.natCast_pow]; rfl
          rw [e1, ce, ← Int.natCast_ediv, Nat.mul_div_cancel_left _ b1]
        have hrest : ((topW M w' (r0 w') p : Int) * 2 ^ (m : Int).toNat) % (botW M w' (r0 w') p : Int) = 0 := by
          have e1 : (topW M w' (r0 w') p : Int) * 2 ^ (m : Int).toNat = ((topW M w' (r0 w') p * 2 ^ m : Nat) : Int) := by rw [Int.toNat_natCast, Int.natCast_mul, Int.natCast_pow]; rfl
          rw [e1, ce, ← Int.natCast_emod, Nat.mul_mod_right]
          rfl
        refine ⟨t, _, rfl, ht, rfl, _, _, rfl, _, _, rfl, _, _, rfl, _, _, rfl, rfl, ?_⟩
        have hsh : CPow (topW M w' (r0 w') p : Int) (m : Int) := ⟨by omega, by omega, by omega⟩
        refine ⟨_, rfl, _, rfl, _, _, rfl, rfl, hsh, _, rfl, _, _, rfl, rfl, cd b1 (by omega), _, rfl, _, rfl, dd, _, rfl, DPut.t hdd hky (szl_ (by unfold dueK; rw [List.length_map, List.length_take]; omega)), ?_⟩
        rw [hval, hput]
        have lf' := lf.upd (o := .dT (dueK M w' m ((lv M w' kk).take (j + 1)))) hdd
        have t' := TT.put (o := .dT (dueK M w' m ((lv M w' kk).take (j + 1)))) hdd rfl
        have hdd' : upd H12 dd (.dT (dueK M w' m ((lv M w' kk).take (j + 1)))) dd = some (.dT (dueK M w' m ((lv M w' kk).take (j + 1)))) := upd_same
        have hfd' : upd H12 dd (.dT (dueK M w' m ((lv M w' kk).take (j + 1)))) fd = some (.dT kvs) := by rw [upd_ne nfd]; exact hfd
        have htw' := t'.2 _ _ htw
        generalize upd H12 dd (.dT (dueK M w' m ((lv M w' kk).take (j + 1)))) = H13 at *
        refine ⟨_, rfl, _, rfl, _, _, rfl, rfl, hsh, .inl ⟨_, rfl, _, rfl, _, _, rfl, rfl, (by show (0 : Int) < (botW M w' (r0 w') p : Int); omega), rfl, _, rfl, ?_⟩⟩
        refine iNF (congrArg V.int hrest) ?_
        have sr := repr2 (x := rt (topW M w' (r0 w') p) (botW M w' (r0 w') p)) (y := rb (topW M w' (r0 w') p) (botW M w' (r0 w') p)) (Nat.lt_of_le_of_lt (rt_le _ _) (by omega)) (Nat.lt_of_le_of_lt (rb_le _ _) (by omega))
        refine ⟨_, rfl, _, rfl, _, rfl, vm, .ref tw, M, n, w', p, rfl, lf'.hM, mo, wy_tup htw', vw, by omega, fun v1 H14 s14 ⟨t1, e1, ht1⟩ => ?_⟩
        subst e1
        refine ⟨t1, _, rfl, ht1, sr.1, sr.2, ?_⟩
        refine ⟨_, rfl, _, rfl, _, _, rfl, b1, by omega, fun v2 H15 s15 ⟨t2, e2, ht2⟩ => ?_⟩
        subst e2
        refine ⟨t2, _, rfl, ht2, sr.1, sr.2, rfl, _, rfl, iNF rfl ?_⟩
        exact ⟨_, _, _, _, _, _, _, rfl, lf'.same (s14.trans s15), s15 _ _ (s14 _ _ hfd'), s15 _ _ (s14 _ _ hdd')⟩
      · obtain ⟨x2, x9, x10, x11, x13, x14, x15, rfl, lf, hfd, hdd⟩ := h
        rw [lf.hW.1, List.take_length] at hdd
        exact hR _ _ ⟨_, _, _, _, _, _, _, rfl, lf, hfd, hdd⟩
    clear lf1 hfd1 hdd1
    obtain ⟨x2, x9, x10, x11, x13, x14, x15, rfl, lf, hfd, hdd⟩ := h
    have hk16 : ∀ p ∈ lv M w' kk, p.length = kk ∧ ∀ x ∈ p, x < 16 := fun p hp => lv_lt mo hp
    have hk0 : kk = 0 → (lv M w' kk).length = 1 := fun e => by rw [e]; rfl
    have hLne : lv M w' kk ≠ [] := fun e => hne (List.eq_nil_of_length_eq_zero (by rw [lf.hW.1, e]; rfl))
    obtain ⟨Lf, hLf, hLp⟩ := found_keys mo en FI
    have hLl := hLp.length_eq
    refine sj (fun σ H => ∃ (x2 x9 x10 x11 x13 x14 x15 : Option V), σ = [some (.ref a), some (.ref d), x2, some (.int w'), some (vm), some (.int kk), some (.ref qw), some (.int m), some (.ref fd), x9, x10, x11, some (.ref dd), x13, x14, x15, none, none] ∧ LF K d l w' kk m M vm qw xs H ∧ H fd = some (.dT kvs) ∧ H dd = some (.dT (dueK M w' m (lv M w' kk)))) (fun R hR => ?_) (fun σ H13 h => ?_)
    · refine ⟨_, rfl, fd, kvs, rfl, .inl hfd, fun p1 bs1 hp1 hk1 => ?_⟩
      have s1 : Same H12 (upd H12 p1 (.lst (bs1.map V.ref))) := Same.new hp1
      have h1 : upd H12 p1 (.lst (bs1.map V.ref)) p1 = some (.lst (bs1.map V.ref)) := upd_same
      have w1 := (isKeys_wys hk1 hLf).mono fun x p w => w.mono (Same.tt s1)
      generalize upd H12 p1 (.lst (bs1.map V.ref)) = H13 at *
      refine q_sorted h1 w1 (by omega) (fun e => by rw [hLl]; exact hk0 e) (fun p hp => hk16 p (hLp.mem_iff.mp hp)) fun t2 H14 zs Z s2 _ h2 w2 pm2 so2 => ?_
      have s12 := s1.trans s2
      refine ⟨_, rfl, dd, _, rfl, .inl (s12 _ _ hdd), fun p3 bs3 hp3 hk3 => ?_⟩
      have s3 : Same H14 (upd H14 p3 (.lst (bs3.map V.ref))) := Same.new hp3
      have h3 : upd H14 p3 (.lst (bs3.map V.ref)) p3 = some (.lst (bs3.map V.ref)) := upd_same
      have w3 := (isKeys_wys hk3 (due_keys M w' m (lv M w' kk))).mono fun x p w => w.mono (Same.tt s3)
      generalize upd H14 p3 (.lst (bs3.map V.ref)) = H15 at *
      refine q_sorted h3 w3 (by omega) hk0 hk16 fun t4 H16 zs4 Z4 s4 _ h4 w4 pm4 so4 => ?_
      have s24 := s3.trans s4
      obtain rfl : Z = Z4 := sorted_eq ((pm2.trans hLp).trans pm4.symm) (fun p hp => hk16 p (hLp.mem_iff.mp (pm2.mem_iff.mp hp))) so2 so4
      refine ⟨dL Z, dL Z, .lst (SqL.of (s24 _ _ h2)) (wys_dp (w2.mono fun x p w => w.mono (Same.tt s24))), .lst (SqL.of h4) (wys_dp w4), dL_shaped Z, dL_shaped Z, _, rfl, ?_⟩
      rw [dL_same]
      have s5 := s12.trans s24
      have lf5 := lf.same s5
      have hfd5 := s5 _ _ hfd
      have hdd5 := s5 _ _ hdd
      refine iteF ⟨dd, _, hdd5, trivial, fun od => ⟨_, rfl, dd, od, rfl, .inr ⟨_, upd_same, fun D hD => ?_⟩⟩⟩
      have hfr : upd H16 dd (.frz od (.dT (dueK M w' m (lv M w' kk)))) dd = some (.frz od (.dT (dueK M w' m (lv M w' kk)))) := upd_same
      have hff : upd H16 dd (.frz od (.dT (dueK M w' m (lv M w' kk)))) fd = some (.dT kvs) := by rw [upd_ne nfd]; exact hfd5
      have nDd : D ≠ dd := by rintro rfl; rw [hfr] at hD; cases hD
      have hD16 : H16 D = none := by rw [upd_ne nDd] at hD; exact hD
      refine lc_kt (d := dd) (o := od) (kvs := dueK M w' m (lv M w' kk)) (fun j H17 => Same (upd H16 dd (.frz od (.dT (dueK M w' m (lv M w' kk))))) H17 ∧ H17 D = some (.lst [])) ⟨Same.new hD, upd_same⟩ (fun j H17 _ h => h.1 _ _ hfr) (fun j ke v q H17 hj hq ⟨s17, h17⟩ => ?_) (fun H17 ⟨s17, h17⟩ => ?_)
      · have hm := List.mem_of_getElem? hj
        unfold dueK at hm
        obtain ⟨p, hp, e⟩ := List.mem_map.mp hm
        cases e
        have g1 := FI.val p (hk16 p hp).1
        rw [if_neg (by have := (count_eq mo en hp).2; omega)] at g1
        have g2 := due_val (M := M) (w := w') (m := m) hp
        have d1 := DGet.t (s17 _ _ hff) hq
        rw [g1] at d1
        have d2 : DGet H17 dd (.ref q) (valV (dueK M w' m (lv M w' kk)) (ky p)) := .inr ⟨_, _, q, .inr ⟨od, s17 _ _ hfr⟩, rfl, hq, rfl⟩
        rw [g2] at d2
        refine ⟨rfl, _, rfl, _, rfl, fd, _, rfl, d1, _, rfl, _, rfl, dd, _, rfl, d2, rfl, _, rfl, ?_⟩
        exact iNF rfl ⟨s17, h17⟩
      · have un : ∀ b o, H16 b = some o → upd H17 dd (.dT (dueK M w' m (lv M w' kk))) b = some o := fun b o z => by
          by_cases e : b = dd
          · subst e; rw [upd_same, ← z, hdd5]
          · rw [upd_ne e]; exact s17 b o (by rw [upd_ne e]; exact z)
        have h18 : upd H17 dd (.dT (dueK M w' m (lv M w' kk))) D = some (.lst []) := by rw [upd_ne nDd]; exact h17
        refine ⟨s17 _ _ hfr, ?_⟩
        generalize upd H17 dd (.dT (dueK M w' m (lv M w' kk))) = H18 at *
        have s18 : Same H16 H18 := un
        refine ⟨Nat.zero_le _, fun p6 hp6 => ?_⟩
        have s19 := Same.new (o := .lst []) hp6
        refine ⟨.list [], .list [], .lst (SqL.of (s19 _ _ h18)) .nil, .lst (SqL.of upd_same) .nil, rfl, rfl, _, rfl, ?_⟩
        refine iteF ?_
        exact hR _ _ ⟨_, _, _, _, _, _, _, rfl, lf5.same (s18.trans s19), s19 _ _ (s18 _ _ hfd5), s19 _ _ (s18 _ _ hdd5)⟩
    clear lf hfd hdd
    obtain ⟨x2, x9, x10, x11, x13, x14, x15, rfl, lf, hfd, hdd⟩ := h
    refine ⟨_, rfl, _, rfl, dd, _, rfl, .inl hdd, fun p1 bs1 hp1 hk1 => ?_⟩
    have s1 : Same H13 (upd H13 p1 (.lst (bs1.map V.ref))) := Same.new hp1
    have h1 : upd H13 p1 (.lst (bs1.map V.ref)) p1 = some (.lst (bs1.map V.ref)) := upd_same
    have w1 := (isKeys_wys hk1 (due_keys M w' m (lv M w' kk))).mono fun x p w => w.mono (Same.tt s1)
    generalize upd H13 p1 (.lst (bs1.map V.ref)) = H14 at *
    refine q_sorted h1 w1 (by omega) hk0 hk16 fun t2 H15 zs Z s2 ht20 h2 w2 pm2 _ => ?_
    have lf2 := (lf.same s1).same s2
    have hzl : zs.length = (lv M w' kk).length := w2.1.trans pm2.length_eq
    obtain ⟨m1, m2⟩ := (lf.same s1).D.ne ht20
    refine ⟨d, l, t2, zs, rfl, lf2.D, SqL.of h2, m1, m2, by rw [hzl]; exact List.length_pos_iff.mpr hLne, by omega, fun r y H16 hy f3 D3 => ?_⟩
    obtain ⟨p, hp, hwy⟩ := w2.get hy
    have hpm : p ∈ lv M w' kk := pm2.mem_iff.mp (List.mem_of_getElem? hp)
    obtain ⟨vw, hpl⟩ := (lv_mem mo kk p).mp hpm
    have tk3 := f3.tk lf2.D
    have hM3 := lf2.hM.tk tk3
    obtain ⟨tw, rfl, htw⟩ := hwy
    have hw3' : TupN K H16 (.ref tw) p := (wy_tup (K := K) htw).tk tk3
    refine ⟨_, rfl, _, rfl, _, rfl, vm, .ref tw, M, n, w', p, rfl, hM3, mo, hw3', vw, by omega, fun v5 H17 s5 hv5 => ?_⟩
    refine ⟨_, rfl, _, rfl, vm, .ref tw, M, n, w', p, rfl, hM3.tk (Same.tk s5), mo, hw3'.tk (Same.tk s5), vw, fun H18 s6 => ?_⟩
    refine ⟨_, _, rfl, rfl, _, rfl, iNF rfl ?_⟩
    have s56 := s5.trans s6
    obtain ⟨bw, rw_⟩ := wri_read mo vw
    refine ⟨_, rfl, _, rfl, _, rfl, _, rfl, vm, v5, M, n, w', kk, wri M w' p, rfl, hM3.tk (Same.tk s56), mo, hv5.tk (Same.tk s6), bw, wri_len mo vw (by omega), by omega, fun v7 H19 s7 ⟨t7, e7, ht7⟩ => ?_⟩
    subst e7
    rw [hpl] at rw_
    rw [rw_] at ht7
    obtain ⟨tw', e8, ht8⟩ := hw3'.tk (Same.tk (s56.trans s7))
    cases e8
    refine ⟨_, rfl, q_neT (K := K) (SqT.of ht7) ht8 ⟨_, rfl, iNF rfl ?_⟩⟩
    exact ⟨_, _, _, _, _, _, _, _, _, _, _, _, _, _, rfl, D3.same (s56.trans s7)⟩
end
end K59

namespace K59
open PySem PySem.Spec PyProof.Rows L2
open C8 (Cal Met Mak pe_c pe_mk pe_mt pe_mt0 pe_gc)
/-- law, of every world -/
theorem law_all {P : Program} {w : World} {K : PySem.W.Frag} {mg : Str → Option Value} {base : Heap} (T : Fx K mg) {fd : FuncData}
    (F : FunD K "law" "law" (defArgs s_law) (defBody s_law) (defScope s_law) [] [] (He.ga K "law") fd) : FnC P w K mg base (He.ga K "law") fd ["_law_script"] (sp_law K) := by
  have c_is_integer : Cal P w K mg base 1 "is_integer" (sp_is_integer K) [] := c_is_integer T 
  have c_divisor_of : Cal P w K mg base 1 "divisor_of" (sp_divisor_of K) [] := c_divisor_of T 
  have c_whole_of : Cal P w K mg base 1 "whole_of" (sp_whole_of K) [] := c_whole_of T 
  have c_does_fit : Cal P w K mg base 1 "does_fit" (sp_does_fit K) [] := c_does_fit T 
  have c_settled : Cal P w K mg base 1 "settled" (sp_settled K) [] := c_settled T 
  have c_first_register : Cal P w K mg base 1 "first_register" (sp_first_register K) [] := c_first_register T 
  have c__law_deck : Cal P w K mg base 1 "_law_deck" (sp__law_deck K) [] := c__law_deck T 
  have c__law_draw : Cal P w K mg base 1 "_law_draw" (sp__law_draw K) [] := c__law_draw T 
  have c__law_common : Cal P w K mg base 1 "_law_common" (sp__law_common K) [] := c__law_common T 
  have c__law_widened : Cal P w K mg base 1 "_law_widened" (sp__law_widened K) [] := c__law_widened T 
  have c_next_bit : Met P w K mg base 1 (He.ga K "Reader") "next_bit" (sp_Reader_next_bit K) [] := c_next_bit T 
  have c_is_between : Cal P w K mg base 2 "is_between" (sp_is_between K) [] := c_is_between T c_is_integer
  have c_is_count : Cal P w K mg base 2 "is_count" (sp_is_count K) [] := c_is_count T c_is_integer
  have c_is_fraction_value : Cal P w K mg base 2 "is_fraction_value" (sp_is_fraction_value K) [] := c_is_fraction_value T c_divisor_of c_is_integer
  have c_lowest : Cal P w K mg base 2 "lowest" (sp_lowest K) [] := c_lowest T c_divisor_of
  have c__law_pick : Cal P w K mg base 2 "_law_pick" (sp__law_pick K) [] := c__law_pick T c__law_draw
  have c__law_fraction : Cal P w K mg base 2 "_law_fraction" (sp__law_fraction K) [] := c__law_fraction T c__law_common
  have c__law_part : Cal P w K mg base 2 "_law_part" (sp__law_part K) [] := c__law_part T c__law_common
  have c_Reader : Mak P w K mg base 2 "Reader" (He.ga K "Reader") (sp_Reader___init__ K) [] := c_Reader T c_next_bit
  have c_settle : Met P w K mg base 2 (He.ga K "Reader") "settle" (sp_Reader_settle K) [] := c_settle T c_next_bit
  have c_are_between : Cal P w K mg base 3 "are_between" (sp_are_between K) [] := c_are_between T c_is_between
  have c_is_share_value : Cal P w K mg base 3 "is_share_value" (sp_is_share_value K) [] := c_is_share_value T c_is_fraction_value
  have c_plus : Cal P w K mg base 3 "plus" (sp_plus K) [] := c_plus T c_lowest
  have c_times : Cal P w K mg base 3 "times" (sp_times K) [] := c_times T c_lowest
  have c_is_way_value : Cal P w K mg base 3 "is_way_value" (sp_is_way_value K) [] := c_is_way_value T c_is_between
  have c_need_count : Cal P w K mg base 3 "need_count" (sp_need_count K) [] := c_need_count T c_is_count
  have c__law_table : Cal P w K mg base 3 "_law_table" (sp__law_table K) [] := c__law_table T c__law_draw c__law_fraction c__law_pick
  have c__law_all_ways : Cal P w K mg base 3 "_law_all_ways" (sp__law_all_ways K) [] := c__law_all_ways T c__law_part c__law_widened
  have c_are_bits_value : Cal P w K mg base 4 "are_bits_value" (sp_are_bits_value K) [] := c_are_bits_value T c_are_between
  have c_total : Cal P w K mg base 4 "total" (sp_total K) [] := c_total T c_plus
  have c_need_way : Cal P w K mg base 4 "need_way" (sp_need_way K) [] := c_need_way T c_is_way_value
  have c_ahead_of : Cal P w K mg base 4 "ahead_of" (sp_ahead_of K) [] := c_ahead_of T c_plus
  have c__law_model : Cal P w K mg base 4 "_law_model" (sp__law_model K) [] := c__law_model T c__law_draw c__law_table
  have c_is_table_value : Cal P w K mg base 5 "is_table_value" (sp_is_table_value K) [] := c_is_table_value T c_is_share_value c_total
  have c_need_bits : Cal P w K mg base 5 "need_bits" (sp_need_bits K) [] := c_need_bits T c_are_bits_value
  have c_cut_of : Cal P w K mg base 5 "cut_of" (sp_cut_of K) [] := c_cut_of T c_ahead_of c_plus c_whole_of
  have c_is_state_value : Cal P w K mg base 6 "is_state_value" (sp_is_state_value K) [] := c_is_state_value T c_are_between c_is_table_value
  have c_stepped : Cal P w K mg base 6 "stepped" (sp_stepped K) [] := c_stepped T c_cut_of c_settled
  have c_outcome : Met P w K mg base 6 (He.ga K "Reader") "outcome" (sp_Reader_outcome K) [] := c_outcome T c_cut_of c_settle
  have c_is_model_value : Cal P w K mg base 7 "is_model_value" (sp_is_model_value K) [] := c_is_model_value T c_is_state_value
  have c_gone : Cal P w K mg base 7 "gone" (sp_gone K) [] := c_gone T c_first_register c_stepped
  have c_raw_real_chance : Cal P w K mg base 7 "raw_real_chance" (sp_raw_real_chance K) [] := c_raw_real_chance T c_cut_of c_first_register c_lowest c_stepped c_times
  have c_raw_read : Cal P w K mg base 7 "raw_read" (sp_raw_read K) [] := c_raw_read T c_Reader c_outcome
  have c_need_model : Cal P w K mg base 8 "need_model" (sp_need_model K) [] := c_need_model T c_is_model_value
  have c_raw_written : Cal P w K mg base 8 "raw_written" (sp_raw_written K) [] := c_raw_written T c_first_register c_gone
  have c_need_width : Cal P w K mg base 9 "need_width" (sp_need_width K) [] := c_need_width T c_does_fit c_is_between c_need_model
  have c_is_way : Cal P w K mg base 9 "is_way" (sp_is_way K) [] := c_is_way T c_is_way_value c_need_model
  have c_written : Cal P w K mg base 10 "written" (sp_written K) [] := c_written T c_need_way c_need_width c_raw_written
  have c_real_chance : Cal P w K mg base 10 "real_chance" (sp_real_chance K) [] := c_real_chance T c_need_way c_need_width c_raw_real_chance
  have c_way_read : Cal P w K mg base 10 "way_read" (sp_way_read K) [] := c_way_read T c_need_bits c_need_count c_need_width c_raw_read
  obtain ⟨fk, fdk, Gk⟩ := ck_way_read (P := P) (w := w) (base := base) T c_need_bits c_need_count c_need_width c_raw_read
  exact law_fn T c__law_all_ways c__law_deck c__law_fraction c__law_model c__law_pick c_is_way c_real_chance c_way_read c_written Gk F
end K59
open PySem PySem.W PySem.Calls PyProof.Rows
theorem PySem.Challenge.cw_drawnbits_k59_whole_all_rows_of_bits_rea_holds : PySem.Challenge.rw_drawnbits_k59_whole_all_rows_of_bits_rea.Holds := by
  w_on; o_law
  refine HandSHeadRun.head_any (r := OpenLaw.row PySem.Challenge.rw_drawnbits_k59_whole_all_rows_of_bits_rea) (q := K59.qv) (H := K59.hk) (ob := K59.ob) (M := 4000) (loose := K59.loose) (d := HandSHeadRun.topDef (OpenLaw.row PySem.Challenge.rw_drawnbits_k59_whole_all_rows_of_bits_rea).prog 65) (kwd := []) K59.ob_eq
    (by kernel_rfl) (fun s => by kernel_rfl) K59.run (by kernel_rfl) (by kernel_rfl) (by kernel_rfl) (by rfl) (by first | assumption | decide +kernel) (by decide +kernel) ⟨rfl, rfl, rfl, rfl, rfl, by decide +kernel⟩ ?hw ?hc
  case hw => w_witness2
  case hc =>
    refine K59.walkC (l := PySem.Challenge.rw_drawnbits_k59_whole_all_rows_of_bits_rea) (n := 63) (x := "_law_script") rfl (by decide) (by kernel_rfl) ?F
    intro w mg fa h Y G hmg0
    obtain ⟨K, KX, c⟩ := Y
    have hmg : mg ("law" : PySem.Str) = some (.ref fa) := by
      have e : (HandSHeadRun.topDef (OpenLaw.row PySem.Challenge.rw_drawnbits_k59_whole_all_rows_of_bits_rea).prog 65).name = ("law" : PySem.Str) := by kernel_rfl
      rw [← e]
      exact hmg0
    have T : K59.Fx K mg := ⟨⟨h, KX, G⟩, c.t.d, c.more⟩
    have e := hmg.symm.trans (T.glo 46 (x := "law") rfl)
    cases e
    obtain ⟨fd, F⟩ := T.says.def_ 46 (d := K59.d46) rfl
    have b := L2.FunD.bindsA (ps := ["_law_script"]) F fun _ _ _ _ _ _ us hl => match us, hl with | [_], _ => rfl
    exact ⟨K, fd, K59.sp_law K, KX, fun s v => b s [v] rfl, fun H a ns hl hS => ⟨a, ns, rfl, hS, fun _ => rfl⟩, fun base _ _ => K59.law_all T F⟩

