import PyProof.Rows.All
import Wide.All
import OpenK.AllK
import Wide.FinOn
import HandS.Evl
import HandS.Conv
import HandS.Style
import HandS.ForMost
import HandS.IsInst
import PySem.Challenge.RW_pastlooks_k40_whole_facts_moved
set_option Elab.async false
set_option linter.all false
set_option maxRecDepth 100000
set_option maxHeartbeats 4000000
set_option Elab.async false
set_option linter.all false
set_option maxRecDepth 100000
set_option maxHeartbeats 4000000
namespace Pl
open PySem L2
/-! ### heaps -/
theorem same_upd {H : Hp} {p : Addr} {o : HO} (h : H p = none) : Same H (upd H p o) := fun b x e => by
  rw [upd_ne (ne_of_none e h)]
  exact e
theorem same_mut {G H : Hp} {p : Addr} {o : HO} (s : Same G H) (h : G p = none) : Same G (upd H p o) := fun b x e => by
  rw [upd_ne (ne_of_none e h)]
  exact s b x e
theorem same_both {G H : Hp} {p : Addr} {o : HO} (s : Same G H) : Same (upd G p o) (upd H p o) := fun b x e => by
  unfold upd at *
  split
  · rename_i h
    rw [if_pos h] at e
    exact e
  · rename_i h
    rw [if_neg h] at e
    exact s b x e
theorem Same.rd {H H' : Hp} {a : Addr} {u : HO} (s : Same H H') (h : Rd H a u) : Rd H' a u := by
  rcases h with h | ⟨o, h⟩
  · exact .inl (s _ _ h)
  · exact .inr ⟨o, s _ _ h⟩
theorem Same.tup {K : PySem.W.Frag} {H H' : Hp} {a : Addr} {xs : List V} (s : Same H H') (h : SqT K H a xs) : SqT K H' a xs := by
  rcases h with (h | ⟨o, h⟩) | h
  · exact .inl (.inl (s _ _ h))
  · exact .inl (.inr ⟨o, s _ _ h⟩)
  · exact .inr h
theorem at_ix {xs : List V} {j : Int} {v : V} (h0 : 0 ≤ j) (h : xs[j.toNat]? = some v) : atI xs j = some v := by
  have e : j = ((j.toNat : Nat) : Int) := by omega
  rw [e]
  exact atI_nat h
theorem ix_in {n : Nat} {j : Int} (h0 : 0 ≤ j) (h1 : j < n) : ixN n j = some j.toNat := by
  unfold ixN
  rw [if_pos h0, if_pos h1]
theorem at_ints {cs : List Int} {j : Int} (h0 : 0 ≤ j) (h1 : j < cs.length) : ∃ x, atI (cs.map V.int) j = some (.int x) := by
  have h : j.toNat < cs.length := by omega
  exact ⟨cs[j.toNat], at_ix h0 (by rw [List.getElem?_map, List.getElem?_eq_getElem h]; rfl)⟩
theorem fm0 {a b : Int} (h : 0 < b) : 0 ≤ a.fmod b := by
  rw [Int.fmod_eq_emod_of_nonneg _ (Int.le_of_lt h)]
  exact Int.emod_nonneg _ (by omega)
theorem fm1 {a b : Int} (h : 0 < b) : a.fmod b < b := by
  rw [Int.fmod_eq_emod_of_nonneg _ (Int.le_of_lt h)]
  exact Int.emod_lt_of_pos _ h
theorem sz {n : Nat} (h : n ≤ 100000) : n ≤ sizeLine := Nat.le_trans h (by decide)
theorem szl {n : Nat} (h : n < 100000) : n < sizeLine := Nat.lt_of_lt_of_le h (by decide)
/-! ### the box from which a law draws -/
def BoxAt (b c : Addr) (H : Hp) : Prop := b ≠ c ∧ ∃ (cs : List Int) (k : Int), H b = some (.lst [.ref c, .int k]) ∧ H c = some (.lst (cs.map V.int)) ∧ 0 < cs.length ∧ cs.length ≤ 64
/-- G: what stays -/
structure Wd (b c : Addr) (G H : Hp) : Prop where
  box : BoxAt b c H
  gh : Same G H
  gb : G b = none
  gc : G c = none
/-- nothing that stood is changed; G is what is known and stays -/
structure Gr (G H G' H' : Hp) : Prop where
  gg : Same G G'
  gh : Same G' H'
  hh : Same H H'
  nw : ∀ a o, G' a = some o → G a = some o ∨ H a = none
theorem Gr.refl {G H : Hp} (s : Same G H) : Gr G H G H := ⟨Same.refl _, s, Same.refl _, fun _ _ h => .inl h⟩
theorem Gr.trans {G H G1 H1 G2 H2 : Hp} (a : Gr G H G1 H1) (b : Gr G1 H1 G2 H2) : Gr G H G2 H2 :=
  ⟨a.gg.trans b.gg, b.gh, a.hh.trans b.hh, fun x o h => by
    rcases b.nw x o h with h | h
    · exact a.nw x o h
    · exact .inr (a.hh.free h)⟩
theorem Gr.new {G H : Hp} {p : Addr} {o : HO} (s : Same G H) (h : H p = none) : Gr G H (upd G p o) (upd H p o) :=
  ⟨same_upd (s.free h), same_both s, same_upd h, fun a x e => by
    by_cases q : a = p
    · rw [q]; exact .inr h
    · rw [upd_ne q] at e; exact .inl e⟩
/-- a new thing that is not to be known -/
theorem Gr.drop {G H : Hp} {p : Addr} {o : HO} (s : Same G H) (h : H p = none) : Gr G H G (upd H p o) :=
  ⟨Same.refl _, same_mut s (s.free h), same_upd h, fun _ _ e => .inl e⟩
theorem Gr.none {G H G' H' : Hp} (g : Gr G H G' H') {a : Addr} {o : HO} (h : G a = none) (ha : H a = some o) : G' a = none := by
  cases e : G' a with
  | none => rfl
  | some u =>
    rcases g.nw a u e with q | q
    · rw [h] at q; cases q
    · rw [ha] at q; cases q
theorem BoxAt.same {b c : Addr} {H H' : Hp} (x : BoxAt b c H) (s : Same H H') : BoxAt b c H' := by
  obtain ⟨n, cs, k, h1, h2, h3⟩ := x
  exact ⟨n, cs, k, s _ _ h1, s _ _ h2, h3⟩
theorem BoxAt.b {b c : Addr} {H : Hp} (x : BoxAt b c H) : ∃ o, H b = some o := by
  obtain ⟨n, cs, k, h1, h2, h3⟩ := x
  exact ⟨_, h1⟩
theorem BoxAt.c {b c : Addr} {H : Hp} (x : BoxAt b c H) : ∃ o, H c = some o := by
  obtain ⟨n, cs, k, h1, h2, h3⟩ := x
  exact ⟨_, h2⟩
theorem Wd.gr {b c : Addr} {G H G' H' : Hp} (x : Wd b c G H) (g : Gr G H G' H') : Wd b c G' H' := by
  obtain ⟨_, h1⟩ := x.box.b
  obtain ⟨_, h2⟩ := x.box.c
  exact ⟨x.box.same g.hh, g.gh, g.none x.gb h1, g.none x.gc h2⟩
theorem Wd.gr0 {b c : Addr} {G H : Hp} (x : Wd b c G H) : Gr G H G H := Gr.refl x.gh
/-- a list that is not frozen may be written -/
theorem Wd.mut {b c p : Addr} {G H : Hp} {o : HO} (x : Wd b c G H) (h : G p = none) (hb : p ≠ b) (hc : p ≠ c) : Wd b c G (upd H p o) := by
  obtain ⟨n, cs, k, h1, h2, h3⟩ := x.box
  exact ⟨⟨n, cs, k, by rw [upd_ne (Ne.symm hb)]; exact h1, by rw [upd_ne (Ne.symm hc)]; exact h2, h3⟩, same_mut x.gh h, x.gb, x.gc⟩
/-! ### isinstance of built-in classes -/
theorem kb_int_int : kitB "int" "int" = some true := by decide +kernel
theorem kb_int_bool : kitB "int" "bool" = some false := by decide +kernel
theorem kb_int_tuple : kitB "int" "tuple" = some false := by decide +kernel
theorem kb_int_list : kitB "int" "list" = some false := by decide +kernel
theorem kb_int_str : kitB "int" "str" = some false := by decide +kernel
theorem kb_bool_int : kitB "bool" "int" = some true := by decide +kernel
theorem kb_bool_bool : kitB "bool" "bool" = some true := by decide +kernel
theorem kb_bool_tuple : kitB "bool" "tuple" = some false := by decide +kernel
theorem kb_bool_list : kitB "bool" "list" = some false := by decide +kernel
theorem kb_bool_str : kitB "bool" "str" = some false := by decide +kernel
theorem kb_tuple_int : kitB "tuple" "int" = some false := by decide +kernel
theorem kb_tuple_bool : kitB "tuple" "bool" = some false := by decide +kernel
theorem kb_tuple_tuple : kitB "tuple" "tuple" = some true := by decide +kernel
theorem kb_tuple_list : kitB "tuple" "list" = some false := by decide +kernel
theorem kb_tuple_str : kitB "tuple" "str" = some false := by decide +kernel
theorem kb_list_int : kitB "list" "int" = some false := by decide +kernel
theorem kb_list_bool : kitB "list" "bool" = some false := by decide +kernel
theorem kb_list_tuple : kitB "list" "tuple" = some false := by decide +kernel
theorem kb_list_list : kitB "list" "list" = some true := by decide +kernel
theorem kb_list_str : kitB "list" "str" = some false := by decide +kernel
theorem kb_str_int : kitB "str" "int" = some false := by decide +kernel
theorem kb_str_bool : kitB "str" "bool" = some false := by decide +kernel
theorem kb_str_tuple : kitB "str" "tuple" = some false := by decide +kernel
theorem kb_str_list : kitB "str" "list" = some false := by decide +kernel
theorem kb_str_str : kitB "str" "str" = some true := by decide +kernel
theorem kb_none_int : kitB "NoneType" "int" = some false := by decide +kernel
theorem kb_none_bool : kitB "NoneType" "bool" = some false := by decide +kernel
theorem kb_none_tuple : kitB "NoneType" "tuple" = some false := by decide +kernel
theorem kb_none_list : kitB "NoneType" "list" = some false := by decide +kernel
theorem kb_none_str : kitB "NoneType" "str" = some false := by decide +kernel
/-- the kinds of values that a law handles, by a built-in type's name -/
inductive Ty (H : Hp) : V → String → Prop
  | non : Ty H .non "NoneType"
  | bl (b : Bool) : Ty H (.bl b) "bool"
  | int (i : Int) : Ty H (.int i) "int"
  | str (x : Str) : Ty H (.str x) "str"
  | lst {a : Addr} {xs : List V} (h : H a = some (.lst xs)) : Ty H (.ref a) "list"
  | tup {a : Addr} {xs : List V} (h : H a = some (.tup xs)) : Ty H (.ref a) "tuple"
theorem Ty.x {K : PySem.W.Frag} {H : Hp} {v : V} {n : String} (t : Ty H v n) : TyX K H v (.type n) := by
  cases t with
  | non => exact .base .non
  | bl b => exact .base (.bl b)
  | int i => exact .base (.int i)
  | str x => exact .base (.str x)
  | lst h => exact .base (.lst h)
  | tup h => exact .base (.tup h)
theorem Ty.same {H H' : Hp} {v : V} {n : String} (s : Same H H') (t : Ty H v n) : Ty H' v n := by
  cases t with
  | non => exact .non
  | bl b => exact .bl b
  | int i => exact .int i
  | str x => exact .str x
  | lst h => exact .lst (s _ _ h)
  | tup h => exact .tup (s _ _ h)
/-- isinstance(x, n) of such a value -/
def tyB (t n : String) : Bool := (kitB t n).getD false
theorem Ty.kit {H : Hp} {v : V} {t : String} (h : Ty H v t) {n : String} (hn : n = "int" ∨ n = "bool" ∨ n = "tuple" ∨ n = "list" ∨ n = "str") : kitB t n = some (tyB t n) := by
  unfold tyB
  rcases hn with rfl | rfl | rfl | rfl | rfl <;> cases h <;> first
    | (rw [kb_int_int]; rfl) | (rw [kb_int_bool]; rfl) | (rw [kb_int_tuple]; rfl) | (rw [kb_int_list]; rfl) | (rw [kb_int_str]; rfl)
    | (rw [kb_bool_int]; rfl) | (rw [kb_bool_bool]; rfl) | (rw [kb_bool_tuple]; rfl) | (rw [kb_bool_list]; rfl) | (rw [kb_bool_str]; rfl)
    | (rw [kb_tuple_int]; rfl) | (rw [kb_tuple_bool]; rfl) | (rw [kb_tuple_tuple]; rfl) | (rw [kb_tuple_list]; rfl) | (rw [kb_tuple_str]; rfl)
    | (rw [kb_list_int]; rfl) | (rw [kb_list_bool]; rfl) | (rw [kb_list_tuple]; rfl) | (rw [kb_list_list]; rfl) | (rw [kb_list_str]; rfl)
    | (rw [kb_str_int]; rfl) | (rw [kb_str_bool]; rfl) | (rw [kb_str_tuple]; rfl) | (rw [kb_str_list]; rfl) | (rw [kb_str_str]; rfl)
    | (rw [kb_none_int]; rfl) | (rw [kb_none_bool]; rfl) | (rw [kb_none_tuple]; rfl) | (rw [kb_none_list]; rfl) | (rw [kb_none_str]; rfl)
theorem isI_int {K : PySem.W.Frag} {H : Hp} {v : V} {t : String} (h : Ty H v t) : PySem.W.kitOne K (.type t) (.type "int") = some (tyB t "int") := kit_ty (h.kit (.inl rfl))
theorem isI_bool {K : PySem.W.Frag} {H : Hp} {v : V} {t : String} (h : Ty H v t) : PySem.W.kitOne K (.type t) (.type "bool") = some (tyB t "bool") := kit_ty (h.kit (.inr (.inl rfl)))
theorem isI_tuple {K : PySem.W.Frag} {H : Hp} {v : V} {t : String} (h : Ty H v t) : PySem.W.kitOne K (.type t) (.type "tuple") = some (tyB t "tuple") := kit_ty (h.kit (.inr (.inr (.inl rfl))))
theorem isI_list {K : PySem.W.Frag} {H : Hp} {v : V} {t : String} (h : Ty H v t) : PySem.W.kitOne K (.type t) (.type "list") = some (tyB t "list") := kit_ty (h.kit (.inr (.inr (.inr (.inl rfl)))))
theorem isI_str {K : PySem.W.Frag} {H : Hp} {v : V} {t : String} (h : Ty H v t) : PySem.W.kitOne K (.type t) (.type "str") = some (tyB t "str") := kit_ty (h.kit (.inr (.inr (.inr (.inr rfl)))))
def isInt : V → Bool
  | .int _ => true
  | _ => false
theorem isInt_of {H : Hp} {v : V} {t : String} (h : Ty H v t) : (tyB t "int" && !tyB t "bool") = isInt v := by
  unfold tyB
  cases h
  · rw [kb_none_int]; rfl
  · rw [kb_bool_int, kb_bool_bool]; rfl
  · rw [kb_int_int, kb_int_bool]; rfl
  · rw [kb_str_int]; rfl
  · rw [kb_list_int]; rfl
  · rw [kb_tuple_int]; rfl
end Pl

namespace Pl
open PySem L2
def topS (i : Nat) : Stmt := PySem.Challenge.pw_pastlooks_k40_whole_facts_moved.main.body.getD i (.Pass ⟨0, 0, 0, 0⟩)
abbrev s_is_integer : Stmt := topS 4
abbrev N_is_integer : List Str := ["value"]
theorem sc_is_integer : FnScope N_is_integer ["value"] (defScope s_is_integer) := ⟨rfl, rfl, rfl, by decide +kernel, rfl, by decide +kernel, by decide +kernel⟩
abbrev s_is_fact : Stmt := topS 6
abbrev N_is_fact : List Str := ["count", "entry", "number"]
theorem sc_is_fact : FnScope N_is_fact ["count", "entry"] (defScope s_is_fact) := ⟨rfl, rfl, rfl, by decide +kernel, rfl, by decide +kernel, by decide +kernel⟩
abbrev s_check_facts : Stmt := topS 7
abbrev N_check_facts : List Str := ["count", "facts", "place", "entry"]
theorem sc_check_facts : FnScope N_check_facts ["count", "facts"] (defScope s_check_facts) := ⟨rfl, rfl, rfl, by decide +kernel, rfl, by decide +kernel, by decide +kernel⟩
abbrev s_relaxed : Stmt := topS 8
abbrev N_relaxed : List Str := ["facts", "values", "origins", "lowered", "place", "a", "b", "c"]
theorem sc_relaxed : FnScope N_relaxed ["facts", "values", "origins"] (defScope s_relaxed) := ⟨rfl, rfl, rfl, by decide +kernel, rfl, by decide +kernel, by decide +kernel⟩
abbrev s_ring_behind : Stmt := topS 9
abbrev N_ring_behind : List Str := ["count", "facts", "origins", "lowered", "start", "turn", "found", "place"]
theorem sc_ring_behind : FnScope N_ring_behind ["count", "facts", "origins", "lowered"] (defScope s_ring_behind) := ⟨rfl, rfl, rfl, by decide +kernel, rfl, by decide +kernel, by decide +kernel⟩
abbrev s_ring : Stmt := topS 10
abbrev N_ring : List Str := ["count", "facts", "values", "origins", "turn", "lowered"]
theorem sc_ring : FnScope N_ring ["count", "facts"] (defScope s_ring) := ⟨rfl, rfl, rfl, by decide +kernel, rfl, by decide +kernel, by decide +kernel⟩
abbrev s_is_ring : Stmt := topS 11
abbrev N_is_ring : List Str := ["facts", "thing", "place", "total", "ahead"]
theorem sc_is_ring : FnScope N_is_ring ["facts", "thing"] (defScope s_is_ring) := ⟨rfl, rfl, rfl, by decide +kernel, rfl, by decide +kernel, by decide +kernel⟩
abbrev s_bound : Stmt := topS 12
abbrev N_bound : List Str := ["count", "facts", "a", "b", "values", "origins"]
theorem sc_bound : FnScope N_bound ["count", "facts", "a", "b"] (defScope s_bound) := ⟨rfl, rfl, rfl, by decide +kernel, rfl, by decide +kernel, by decide +kernel⟩
abbrev s_law_open : Stmt := topS 14
abbrev N_law_open : List Str := ["_law_script", "_law_cells"]
theorem sc_law_open : FnScope N_law_open ["_law_script"] (defScope s_law_open) := ⟨rfl, rfl, rfl, by decide +kernel, rfl, by decide +kernel, by decide +kernel⟩
abbrev s_law_pick : Stmt := topS 15
abbrev N_law_pick : List Str := ["_law_box", "_law_many", "_law_cells", "_law_k", "_law_at", "_law_cell", "_law_number_here"]
theorem sc_law_pick : FnScope N_law_pick ["_law_box", "_law_many"] (defScope s_law_pick) := ⟨rfl, rfl, rfl, by decide +kernel, rfl, by decide +kernel, by decide +kernel⟩
abbrev s_law_number : Stmt := topS 16
abbrev N_law_number : List Str := ["_law_box", "_law_kind"]
theorem sc_law_number : FnScope N_law_number ["_law_box"] (defScope s_law_number) := ⟨rfl, rfl, rfl, by decide +kernel, rfl, by decide +kernel, by decide +kernel⟩
abbrev s_law_is_integer : Stmt := topS 17
abbrev N_law_is_integer : List Str := ["_law_thing"]
theorem sc_law_is_integer : FnScope N_law_is_integer ["_law_thing"] (defScope s_law_is_integer) := ⟨rfl, rfl, rfl, by decide +kernel, rfl, by decide +kernel, by decide +kernel⟩
abbrev s_law_answer : Stmt := topS 18
abbrev N_law_answer : List Str := ["_law_thing", "_law_due"]
theorem sc_law_answer : FnScope N_law_answer ["_law_thing", "_law_due"] (defScope s_law_answer) := ⟨rfl, rfl, rfl, by decide +kernel, rfl, by decide +kernel, by decide +kernel⟩
abbrev s_law_facts : Stmt := topS 19
abbrev N_law_facts : List Str := ["_law_box", "_law_count", "_law_most", "_law_facts_here", "_law_k", "_law_a", "_law_b"]
theorem sc_law_facts : FnScope N_law_facts ["_law_box", "_law_count", "_law_most"] (defScope s_law_facts) := ⟨rfl, rfl, rfl, by decide +kernel, rfl, by decide +kernel, by decide +kernel⟩
abbrev s_law_move : Stmt := topS 20
abbrev N_law_move : List Str := ["_law_facts_here", "_law_amounts", "_law_fact"]
theorem sc_law_move : FnScope N_law_move ["_law_facts_here", "_law_amounts"] (defScope s_law_move) := ⟨rfl, rfl, rfl, by decide +kernel, rfl, by decide +kernel, by decide +kernel⟩
abbrev s_law_numbering : Stmt := topS 21
abbrev N_law_numbering : List Str := ["_law_box", "_law_count", "_law_rest", "_law_order", "_law_k"]
theorem sc_law_numbering : FnScope N_law_numbering ["_law_box", "_law_count"] (defScope s_law_numbering) := ⟨rfl, rfl, rfl, by decide +kernel, rfl, by decide +kernel, by decide +kernel⟩
abbrev s_law_moved_by : Stmt := topS 22
abbrev N_law_moved_by : List Str := ["_law_number_here", "_law_amount"]
theorem sc_law_moved_by : FnScope N_law_moved_by ["_law_number_here", "_law_amount"] (defScope s_law_moved_by) := ⟨rfl, rfl, rfl, by decide +kernel, rfl, by decide +kernel, by decide +kernel⟩
abbrev s_law : Stmt := topS 23
abbrev N_law : List Str := ["_law_script", "_law_box", "_law_count", "_law_facts_here", "_law_amounts", "_law_order", "_law_a", "_law_b", "_law_c", "_law_extra", "_law_found", "_law_shifted_facts", "_law_ab", "_law_named", "_law_bc", "_law_ac", "_law_closer", "_law_k", "_law_fact"]
theorem sc_law : FnScope N_law ["_law_script"] (defScope s_law) := ⟨rfl, rfl, rfl, by decide +kernel, rfl, by decide +kernel, by decide +kernel⟩
structure Df (K : PySem.W.Frag) (mg : Str → Option Value) (x : Str) (st : Stmt) (ps : List Str) where
  f : Addr
  fd : FuncData
  F : Fun K x x st f fd
  b : Binds K fd ps []
  g : mg x = some (.ref f)
structure Txt (K : PySem.W.Frag) (mg : Str → Option Value) where
  is_integer : Df K mg "is_integer" s_is_integer ["value"]
  is_fact : Df K mg "is_fact" s_is_fact ["count", "entry"]
  check_facts : Df K mg "check_facts" s_check_facts ["count", "facts"]
  relaxed : Df K mg "relaxed" s_relaxed ["facts", "values", "origins"]
  ring_behind : Df K mg "ring_behind" s_ring_behind ["count", "facts", "origins", "lowered"]
  ring : Df K mg "ring" s_ring ["count", "facts"]
  is_ring : Df K mg "is_ring" s_is_ring ["facts", "thing"]
  bound : Df K mg "bound" s_bound ["count", "facts", "a", "b"]
  law_open : Df K mg "_law_open" s_law_open ["_law_script"]
  law_pick : Df K mg "_law_pick" s_law_pick ["_law_box", "_law_many"]
  law_number : Df K mg "_law_number" s_law_number ["_law_box"]
  law_is_integer : Df K mg "_law_is_integer" s_law_is_integer ["_law_thing"]
  law_answer : Df K mg "_law_answer" s_law_answer ["_law_thing", "_law_due"]
  law_facts : Df K mg "_law_facts" s_law_facts ["_law_box", "_law_count", "_law_most"]
  law_move : Df K mg "_law_move" s_law_move ["_law_facts_here", "_law_amounts"]
  law_numbering : Df K mg "_law_numbering" s_law_numbering ["_law_box", "_law_count"]
  law_moved_by : Df K mg "_law_moved_by" s_law_moved_by ["_law_number_here", "_law_amount"]
  law : Df K mg "law" s_law ["_law_script"]
  n_isinstance : mg "isinstance" = none
  n_bool : mg "bool" = none
  n_int : mg "int" = none
  n_all : mg "all" = none
  n_len : mg "len" = none
  n_tuple : mg "tuple" = none
  n_enumerate : mg "enumerate" = none
  n_range : mg "range" = none
  n_list : mg "list" = none
theorem all_mk {l : PySem.W.OpenLaw} {w : World} {K : PySem.W.Frag} {h : Heap} {mg : Str → Option Value} {fa : Addr} (X : K.In h) (G : h.Ns mainGlobals mg) (hfa : mg "law" = some (.ref fa))
    {f0 : Addr} {od0 an0 : Option Addr} {sl0 : Array (Option Value)} {oc0 kV0 dc0 pm0 cd0 ct0 : Value}
    {f1 : Addr} {od1 an1 : Option Addr} {sl1 : Array (Option Value)} {oc1 kV1 dc1 pm1 cd1 ct1 : Value}
    {f2 : Addr} {od2 an2 : Option Addr} {sl2 : Array (Option Value)} {oc2 kV2 dc2 pm2 cd2 ct2 : Value}
    {f3 : Addr} {od3 an3 : Option Addr} {sl3 : Array (Option Value)} {oc3 kV3 dc3 pm3 cd3 ct3 : Value}
    {f4 : Addr} {od4 an4 : Option Addr} {sl4 : Array (Option Value)} {oc4 kV4 dc4 pm4 cd4 ct4 : Value}
    {f5 : Addr} {od5 an5 : Option Addr} {sl5 : Array (Option Value)} {oc5 kV5 dc5 pm5 cd5 ct5 : Value}
    {f6 : Addr} {od6 an6 : Option Addr} {sl6 : Array (Option Value)} {oc6 kV6 dc6 pm6 cd6 ct6 : Value}
    {f7 : Addr} {od7 an7 : Option Addr} {sl7 : Array (Option Value)} {oc7 kV7 dc7 pm7 cd7 ct7 : Value}
    {f8 : Addr} {od8 an8 : Option Addr} {sl8 : Array (Option Value)} {oc8 kV8 dc8 pm8 cd8 ct8 : Value}
    {f9 : Addr} {od9 an9 : Option Addr} {sl9 : Array (Option Value)} {oc9 kV9 dc9 pm9 cd9 ct9 : Value}
    {f10 : Addr} {od10 an10 : Option Addr} {sl10 : Array (Option Value)} {oc10 kV10 dc10 pm10 cd10 ct10 : Value}
    {f11 : Addr} {od11 an11 : Option Addr} {sl11 : Array (Option Value)} {oc11 kV11 dc11 pm11 cd11 ct11 : Value}
    {f12 : Addr} {od12 an12 : Option Addr} {sl12 : Array (Option Value)} {oc12 kV12 dc12 pm12 cd12 ct12 : Value}
    {f13 : Addr} {od13 an13 : Option Addr} {sl13 : Array (Option Value)} {oc13 kV13 dc13 pm13 cd13 ct13 : Value}
    {f14 : Addr} {od14 an14 : Option Addr} {sl14 : Array (Option Value)} {oc14 kV14 dc14 pm14 cd14 ct14 : Value}
    {f15 : Addr} {od15 an15 : Option Addr} {sl15 : Array (Option Value)} {oc15 kV15 dc15 pm15 cd15 ct15 : Value}
    {f16 : Addr} {od16 an16 : Option Addr} {sl16 : Array (Option Value)} {oc16 kV16 dc16 pm16 cd16 ct16 : Value}
    {f17 : Addr} {od17 an17 : Option Addr} {sl17 : Array (Option Value)} {oc17 kV17 dc17 pm17 cd17 ct17 : Value}
    (a0 : PySem.W.nsIn K mainGlobals "is_integer" = some (some (.ref f0))) (l0 : K.lookup f0 = some ⟨oc0, od0, .func (PySem.W.fnOf "is_integer" "is_integer" (defArgs s_is_integer) (defBody s_is_integer) (defScope s_is_integer) .none kV0 dc0 pm0 an0 cd0 ct0), sl0⟩) (c0 : PySem.W.codeIn K cd0 "is_integer" = true) (k0 : PySem.W.keepIn K (.ref f0) = true)
    (a1 : PySem.W.nsIn K mainGlobals "is_fact" = some (some (.ref f1))) (l1 : K.lookup f1 = some ⟨oc1, od1, .func (PySem.W.fnOf "is_fact" "is_fact" (defArgs s_is_fact) (defBody s_is_fact) (defScope s_is_fact) .none kV1 dc1 pm1 an1 cd1 ct1), sl1⟩) (c1 : PySem.W.codeIn K cd1 "is_fact" = true) (k1 : PySem.W.keepIn K (.ref f1) = true)
    (a2 : PySem.W.nsIn K mainGlobals "check_facts" = some (some (.ref f2))) (l2 : K.lookup f2 = some ⟨oc2, od2, .func (PySem.W.fnOf "check_facts" "check_facts" (defArgs s_check_facts) (defBody s_check_facts) (defScope s_check_facts) .none kV2 dc2 pm2 an2 cd2 ct2), sl2⟩) (c2 : PySem.W.codeIn K cd2 "check_facts" = true) (k2 : PySem.W.keepIn K (.ref f2) = true)
    (a3 : PySem.W.nsIn K mainGlobals "relaxed" = some (some (.ref f3))) (l3 : K.lookup f3 = some ⟨oc3, od3, .func (PySem.W.fnOf "relaxed" "relaxed" (defArgs s_relaxed) (defBody s_relaxed) (defScope s_relaxed) .none kV3 dc3 pm3 an3 cd3 ct3), sl3⟩) (c3 : PySem.W.codeIn K cd3 "relaxed" = true) (k3 : PySem.W.keepIn K (.ref f3) = true)
    (a4 : PySem.W.nsIn K mainGlobals "ring_behind" = some (some (.ref f4))) (l4 : K.lookup f4 = some ⟨oc4, od4, .func (PySem.W.fnOf "ring_behind" "ring_behind" (defArgs s_ring_behind) (defBody s_ring_behind) (defScope s_ring_behind) .none kV4 dc4 pm4 an4 cd4 ct4), sl4⟩) (c4 : PySem.W.codeIn K cd4 "ring_behind" = true) (k4 : PySem.W.keepIn K (.ref f4) = true)
    (a5 : PySem.W.nsIn K mainGlobals "ring" = some (some (.ref f5))) (l5 : K.lookup f5 = some ⟨oc5, od5, .func (PySem.W.fnOf "ring" "ring" (defArgs s_ring) (defBody s_ring) (defScope s_ring) .none kV5 dc5 pm5 an5 cd5 ct5), sl5⟩) (c5 : PySem.W.codeIn K cd5 "ring" = true) (k5 : PySem.W.keepIn K (.ref f5) = true)
    (a6 : PySem.W.nsIn K mainGlobals "is_ring" = some (some (.ref f6))) (l6 : K.lookup f6 = some ⟨oc6, od6, .func (PySem.W.fnOf "is_ring" "is_ring" (defArgs s_is_ring) (defBody s_is_ring) (defScope s_is_ring) .none kV6 dc6 pm6 an6 cd6 ct6), sl6⟩) (c6 : PySem.W.codeIn K cd6 "is_ring" = true) (k6 : PySem.W.keepIn K (.ref f6) = true)
    (a7 : PySem.W.nsIn K mainGlobals "bound" = some (some (.ref f7))) (l7 : K.lookup f7 = some ⟨oc7, od7, .func (PySem.W.fnOf "bound" "bound" (defArgs s_bound) (defBody s_bound) (defScope s_bound) .none kV7 dc7 pm7 an7 cd7 ct7), sl7⟩) (c7 : PySem.W.codeIn K cd7 "bound" = true) (k7 : PySem.W.keepIn K (.ref f7) = true)
    (a8 : PySem.W.nsIn K mainGlobals "_law_open" = some (some (.ref f8))) (l8 : K.lookup f8 = some ⟨oc8, od8, .func (PySem.W.fnOf "_law_open" "_law_open" (defArgs s_law_open) (defBody s_law_open) (defScope s_law_open) .none kV8 dc8 pm8 an8 cd8 ct8), sl8⟩) (c8 : PySem.W.codeIn K cd8 "_law_open" = true) (k8 : PySem.W.keepIn K (.ref f8) = true)
    (a9 : PySem.W.nsIn K mainGlobals "_law_pick" = some (some (.ref f9))) (l9 : K.lookup f9 = some ⟨oc9, od9, .func (PySem.W.fnOf "_law_pick" "_law_pick" (defArgs s_law_pick) (defBody s_law_pick) (defScope s_law_pick) .none kV9 dc9 pm9 an9 cd9 ct9), sl9⟩) (c9 : PySem.W.codeIn K cd9 "_law_pick" = true) (k9 : PySem.W.keepIn K (.ref f9) = true)
    (a10 : PySem.W.nsIn K mainGlobals "_law_number" = some (some (.ref f10))) (l10 : K.lookup f10 = some ⟨oc10, od10, .func (PySem.W.fnOf "_law_number" "_law_number" (defArgs s_law_number) (defBody s_law_number) (defScope s_law_number) .none kV10 dc10 pm10 an10 cd10 ct10), sl10⟩) (c10 : PySem.W.codeIn K cd10 "_law_number" = true) (k10 : PySem.W.keepIn K (.ref f10) = true)
    (a11 : PySem.W.nsIn K mainGlobals "_law_is_integer" = some (some (.ref f11))) (l11 : K.lookup f11 = some ⟨oc11, od11, .func (PySem.W.fnOf "_law_is_integer" "_law_is_integer" (defArgs s_law_is_integer) (defBody s_law_is_integer) (defScope s_law_is_integer) .none kV11 dc11 pm11 an11 cd11 ct11), sl11⟩) (c11 : PySem.W.codeIn K cd11 "_law_is_integer" = true) (k11 : PySem.W.keepIn K (.ref f11) = true)
    (a12 : PySem.W.nsIn K mainGlobals "_law_answer" = some (some (.ref f12))) (l12 : K.lookup f12 = some ⟨oc12, od12, .func (PySem.W.fnOf "_law_answer" "_law_answer" (defArgs s_law_answer) (defBody s_law_answer) (defScope s_law_answer) .none kV12 dc12 pm12 an12 cd12 ct12), sl12⟩) (c12 : PySem.W.codeIn K cd12 "_law_answer" = true) (k12 : PySem.W.keepIn K (.ref f12) = true)
    (a13 : PySem.W.nsIn K mainGlobals "_law_facts" = some (some (.ref f13))) (l13 : K.lookup f13 = some ⟨oc13, od13, .func (PySem.W.fnOf "_law_facts" "_law_facts" (defArgs s_law_facts) (defBody s_law_facts) (defScope s_law_facts) .none kV13 dc13 pm13 an13 cd13 ct13), sl13⟩) (c13 : PySem.W.codeIn K cd13 "_law_facts" = true) (k13 : PySem.W.keepIn K (.ref f13) = true)
    (a14 : PySem.W.nsIn K mainGlobals "_law_move" = some (some (.ref f14))) (l14 : K.lookup f14 = some ⟨oc14, od14, .func (PySem.W.fnOf "_law_move" "_law_move" (defArgs s_law_move) (defBody s_law_move) (defScope s_law_move) .none kV14 dc14 pm14 an14 cd14 ct14), sl14⟩) (c14 : PySem.W.codeIn K cd14 "_law_move" = true) (k14 : PySem.W.keepIn K (.ref f14) = true)
    (a15 : PySem.W.nsIn K mainGlobals "_law_numbering" = some (some (.ref f15))) (l15 : K.lookup f15 = some ⟨oc15, od15, .func (PySem.W.fnOf "_law_numbering" "_law_numbering" (defArgs s_law_numbering) (defBody s_law_numbering) (defScope s_law_numbering) .none kV15 dc15 pm15 an15 cd15 ct15), sl15⟩) (c15 : PySem.W.codeIn K cd15 "_law_numbering" = true) (k15 : PySem.W.keepIn K (.ref f15) = true)
    (a16 : PySem.W.nsIn K mainGlobals "_law_moved_by" = some (some (.ref f16))) (l16 : K.lookup f16 = some ⟨oc16, od16, .func (PySem.W.fnOf "_law_moved_by" "_law_moved_by" (defArgs s_law_moved_by) (defBody s_law_moved_by) (defScope s_law_moved_by) .none kV16 dc16 pm16 an16 cd16 ct16), sl16⟩) (c16 : PySem.W.codeIn K cd16 "_law_moved_by" = true) (k16 : PySem.W.keepIn K (.ref f16) = true)
    (a17 : PySem.W.nsIn K mainGlobals "law" = some (some (.ref f17))) (l17 : K.lookup f17 = some ⟨oc17, od17, .func (PySem.W.fnOf "law" "law" (defArgs s_law) (defBody s_law) (defScope s_law) .none kV17 dc17 pm17 an17 cd17 ct17), sl17⟩) (c17 : PySem.W.codeIn K cd17 "law" = true) (k17 : PySem.W.keepIn K (.ref f17) = true)
    (z0 : PySem.W.nsIn K mainGlobals "isinstance" = some none)
    (z1 : PySem.W.nsIn K mainGlobals "bool" = some none)
    (z2 : PySem.W.nsIn K mainGlobals "int" = some none)
    (z3 : PySem.W.nsIn K mainGlobals "all" = some none)
    (z4 : PySem.W.nsIn K mainGlobals "len" = some none)
    (z5 : PySem.W.nsIn K mainGlobals "tuple" = some none)
    (z6 : PySem.W.nsIn K mainGlobals "enumerate" = some none)
    (z7 : PySem.W.nsIn K mainGlobals "range" = some none)
    (z8 : PySem.W.nsIn K mainGlobals "list" = some none) :
    ∃ T : Txt K mg, T.law.f = fa ∧ ∀ (s : Shared) (v : Value), BindsTo s T.law.fd ⟨[v], []⟩ [("_law_script", v)] := by
  have e := hfa.symm.trans (PySem.W.mg_of X G a17)
  cases e
  have F0 := fun_mk (st := s_is_integer) l0 c0 k0
  have b0 := F0.binds (ps := ["value"]) fun _ _ _ _ _ _ us hl => match us, hl with | [_], _ => rfl
  have F1 := fun_mk (st := s_is_fact) l1 c1 k1
  have b1 := F1.binds (ps := ["count", "entry"]) fun _ _ _ _ _ _ us hl => match us, hl with | [_, _], _ => rfl
  have F2 := fun_mk (st := s_check_facts) l2 c2 k2
  have b2 := F2.binds (ps := ["count", "facts"]) fun _ _ _ _ _ _ us hl => match us, hl with | [_, _], _ => rfl
  have F3 := fun_mk (st := s_relaxed) l3 c3 k3
  have b3 := F3.binds (ps := ["facts", "values", "origins"]) fun _ _ _ _ _ _ us hl => match us, hl with | [_, _, _], _ => rfl
  have F4 := fun_mk (st := s_ring_behind) l4 c4 k4
  have b4 := F4.binds (ps := ["count", "facts", "origins", "lowered"]) fun _ _ _ _ _ _ us hl => match us, hl with | [_, _, _, _], _ => rfl
  have F5 := fun_mk (st := s_ring) l5 c5 k5
  have b5 := F5.binds (ps := ["count", "facts"]) fun _ _ _ _ _ _ us hl => match us, hl with | [_, _], _ => rfl
  have F6 := fun_mk (st := s_is_ring) l6 c6 k6
  have b6 := F6.binds (ps := ["facts", "thing"]) fun _ _ _ _ _ _ us hl => match us, hl with | [_, _], _ => rfl
  have F7 := fun_mk (st := s_bound) l7 c7 k7
  have b7 := F7.binds (ps := ["count", "facts", "a", "b"]) fun _ _ _ _ _ _ us hl => match us, hl with | [_, _, _, _], _ => rfl
  have F8 := fun_mk (st := s_law_open) l8 c8 k8
  have b8 := F8.binds (ps := ["_law_script"]) fun _ _ _ _ _ _ us hl => match us, hl with | [_], _ => rfl
  have F9 := fun_mk (st := s_law_pick) l9 c9 k9
  have b9 := F9.binds (ps := ["_law_box", "_law_many"]) fun _ _ _ _ _ _ us hl => match us, hl with | [_, _], _ => rfl
  have F10 := fun_mk (st := s_law_number) l10 c10 k10
  have b10 := F10.binds (ps := ["_law_box"]) fun _ _ _ _ _ _ us hl => match us, hl with | [_], _ => rfl
  have F11 := fun_mk (st := s_law_is_integer) l11 c11 k11
  have b11 := F11.binds (ps := ["_law_thing"]) fun _ _ _ _ _ _ us hl => match us, hl with | [_], _ => rfl
  have F12 := fun_mk (st := s_law_answer) l12 c12 k12
  have b12 := F12.binds (ps := ["_law_thing", "_law_due"]) fun _ _ _ _ _ _ us hl => match us, hl with | [_, _], _ => rfl
  have F13 := fun_mk (st := s_law_facts) l13 c13 k13
  have b13 := F13.binds (ps := ["_law_box", "_law_count", "_law_most"]) fun _ _ _ _ _ _ us hl => match us, hl with | [_, _, _], _ => rfl
  have F14 := fun_mk (st := s_law_move) l14 c14 k14
  have b14 := F14.binds (ps := ["_law_facts_here", "_law_amounts"]) fun _ _ _ _ _ _ us hl => match us, hl with | [_, _], _ => rfl
  have F15 := fun_mk (st := s_law_numbering) l15 c15 k15
  have b15 := F15.binds (ps := ["_law_box", "_law_count"]) fun _ _ _ _ _ _ us hl => match us, hl with | [_, _], _ => rfl
  have F16 := fun_mk (st := s_law_moved_by) l16 c16 k16
  have b16 := F16.binds (ps := ["_law_number_here", "_law_amount"]) fun _ _ _ _ _ _ us hl => match us, hl with | [_, _], _ => rfl
  have F17 := fun_mk (st := s_law) l17 c17 k17
  have b17 := F17.binds (ps := ["_law_script"]) fun _ _ _ _ _ _ us hl => match us, hl with | [_], _ => rfl
  exact ⟨⟨⟨_, _, F0, b0, PySem.W.mg_of X G a0⟩, ⟨_, _, F1, b1, PySem.W.mg_of X G a1⟩, ⟨_, _, F2, b2, PySem.W.mg_of X G a2⟩, ⟨_, _, F3, b3, PySem.W.mg_of X G a3⟩, ⟨_, _, F4, b4, PySem.W.mg_of X G a4⟩, ⟨_, _, F5, b5, PySem.W.mg_of X G a5⟩, ⟨_, _, F6, b6, PySem.W.mg_of X G a6⟩, ⟨_, _, F7, b7, PySem.W.mg_of X G a7⟩, ⟨_, _, F8, b8, PySem.W.mg_of X G a8⟩, ⟨_, _, F9, b9, PySem.W.mg_of X G a9⟩, ⟨_, _, F10, b10, PySem.W.mg_of X G a10⟩, ⟨_, _, F11, b11, PySem.W.mg_of X G a11⟩, ⟨_, _, F12, b12, PySem.W.mg_of X G a12⟩, ⟨_, _, F13, b13, PySem.W.mg_of X G a13⟩, ⟨_, _, F14, b14, PySem.W.mg_of X G a14⟩, ⟨_, _, F15, b15, PySem.W.mg_of X G a15⟩, ⟨_, _, F16, b16, PySem.W.mg_of X G a16⟩, ⟨_, _, F17, b17, PySem.W.mg_of X G a17⟩, PySem.W.mg_none_of X G z0, PySem.W.mg_none_of X G z1, PySem.W.mg_none_of X G z2, PySem.W.mg_none_of X G z3, PySem.W.mg_none_of X G z4, PySem.W.mg_none_of X G z5, PySem.W.mg_none_of X G z6, PySem.W.mg_none_of X G z7, PySem.W.mg_none_of X G z8⟩, rfl, fun s v => .of_eq rfl⟩
end Pl

set_option linter.all false
namespace BF
abbrev Fact := Nat × Nat × Int
def fupd {α : Type} (f : Nat → α) (a : Nat) (x : α) : Nat → α := fun i => if i = a then x else f i
theorem fupd_same {α : Type} {f : Nat → α} {a : Nat} {x : α} : fupd f a x a = x := by unfold fupd; rw [if_pos rfl]
theorem fupd_ne {α : Type} {f : Nat → α} {a i : Nat} {x : α} (h : i ≠ a) : fupd f a x i = f i := by unfold fupd; rw [if_neg h]
structure St where
  V : Nat → Option Int
  O : Nat → Option Nat
  L : Option Nat
def need (V : Nat → Option Int) (f : Fact) : Bool :=
  match V f.2.1 with
  | none => false
  | some y => match V f.1 with
    | none => true
    | some x => decide (y + f.2.2 < x)
def newv (V : Nat → Option Int) (f : Fact) : Int :=
  match V f.2.1 with
  | none => 0
  | some y => y + f.2.2
def stp (s : St) (p : Nat) (f : Fact) : St :=
  if need s.V f then ⟨fupd s.V f.1 (some (newv s.V f)), fupd s.O f.1 (some p), some f.1⟩ else s
def runFrom : Nat → List Fact → St → St
  | _, [], s => s
  | i, f :: r, s => runFrom (i + 1) r (stp s i f)
def round (fs : List Fact) (s : St) : St := runFrom 0 fs { s with L := none }
theorem runFrom_snoc : ∀ (fs : List Fact) (i : Nat) (s : St) (f : Fact), runFrom i (fs ++ [f]) s = stp (runFrom i fs s) (i + fs.length) f
  | [], i, s, f => rfl
  | g :: r, i, s, f => by
    show runFrom (i + 1) (r ++ [f]) (stp s i g) = stp (runFrom (i + 1) r (stp s i g)) (i + (r.length + 1)) f
    rw [runFrom_snoc r (i + 1) (stp s i g) f]
    congr 1
    omega
theorem runFrom_take {fs : List Fact} {i : Nat} {f : Fact} (h : fs[i]? = some f) (s : St) : runFrom 0 (fs.take (i + 1)) s = stp (runFrom 0 (fs.take i) s) i f := by
  have hl : i < fs.length := (List.getElem?_eq_some_iff.mp h).1
  have e : fs.take (i + 1) = fs.take i ++ [f] := by
    rw [List.take_add_one, h]
    rfl
  rw [e, runFrom_snoc]
  congr 1
  rw [List.length_take]
  omega
/-! ### walks along the origins -/
inductive Wk (fs : List Fact) (O : Nat → Option Nat) : Nat → Nat → Nat → Int → Prop
  | nil (v : Nat) : Wk fs O v 0 v 0
  | cons {v p w u n : Nat} {c s : Int} : O v = some p → fs[p]? = some (v, w, c) → Wk fs O w n u s → Wk fs O v (n + 1) u (c + s)
structure Inv (fs : List Fact) (k i : Nat) (V : Nat → Option Int) (O : Nat → Option Nat) (R : Nat → Nat) : Prop where
  o : ∀ v p, O v = some p → ∃ u c x y, fs[p]? = some (v, u, c) ∧ V v = some x ∧ V u = some y ∧ y + c ≤ x
  neg : ∀ v n s, 0 < n → Wk fs O v n v s → s < 0
  j : ∀ v, 0 < R v → ∃ p u c, O v = some p ∧ fs[p]? = some (v, u, c) ∧ R v ≤ R u + 1
  s : ∀ j v u c, fs[j]? = some (v, u, c) → need V (v, u, c) = true → k ≤ R u + (if j < i then 0 else 1)
  m : ∀ v, R v ≤ k
theorem need_iff {V : Nat → Option Int} {a b : Nat} {c : Int} : need V (a, b, c) = true ↔ ∃ y, V b = some y ∧ ∀ x, V a = some x → y + c < x := by
  unfold need
  show (match V b with | none => false | some y => match V a with | none => true | some x => decide (y + c < x)) = true ↔ _
  cases hb : V b with
  | none => simp
  | some y =>
    cases ha : V a with
    | none => simp
    | some x => simp
theorem newv_of {V : Nat → Option Int} {a b : Nat} {c y : Int} (h : V b = some y) : newv V (a, b, c) = y + c := by
  unfold newv
  show (match V b with | none => 0 | some y => y + c) = y + c
  rw [h]
theorem stp_inv {fs : List Fact} {k i : Nat} {s : St} {R : Nat → Nat} {f : Fact} (I : Inv fs k i s.V s.O R) (hk : 1 ≤ k) (hf : fs[i]? = some f) (hL : ∀ x, s.L = some x → R x = k) :
    ∃ R', Inv fs k (i + 1) (stp s i f).V (stp s i f).O R' ∧ ∀ x, (stp s i f).L = some x → R' x = k := by
  obtain ⟨a, b, c⟩ := f
  by_cases hn : need s.V (a, b, c) = true
  · obtain ⟨y, hy, hx⟩ := need_iff.mp hn
    have ev := newv_of (a := a) (c := c) hy
    have es : stp s i (a, b, c) = ⟨fupd s.V a (some (y + c)), fupd s.O a (some i), some a⟩ := by
      unfold stp
      rw [if_pos hn, ev]
    rw [es]
    show ∃ R', Inv fs k (i + 1) (fupd s.V a (some (y + c))) (fupd s.O a (some i)) R' ∧ ∀ x, some a = some x → R' x = k
    have hVa : fupd s.V a (some (y + c)) a = some (y + c) := fupd_same
    have hVn : ∀ v, v ≠ a → fupd s.V a (some (y + c)) v = s.V v := fun v h => fupd_ne h
    have hOn : ∀ v, v ≠ a → fupd s.O a (some i) v = s.O v := fun v h => fupd_ne h
    have hself : b = a → c < 0 := fun e => by
      subst e
      have := hx y hy
      omega
    -- o
    have ho : ∀ v p, fupd s.O a (some i) v = some p → ∃ u c' x' y', fs[p]? = some (v, u, c') ∧ fupd s.V a (some (y + c)) v = some x' ∧ fupd s.V a (some (y + c)) u = some y' ∧ y' + c' ≤ x' := by
      intro v p hp
      by_cases hv : v = a
      · subst hv
        rw [fupd_same] at hp
        cases hp
        by_cases hb : b = v
        · have := hself hb
          subst hb
          exact ⟨b, c, _, _, hf, fupd_same, fupd_same, by omega⟩
        · exact ⟨b, c, _, _, hf, fupd_same, (fupd_ne hb).trans hy, by omega⟩
      · rw [fupd_ne hv] at hp
        obtain ⟨u, c', x', y', h1, h2, h3, h4⟩ := I.o v p hp
        by_cases hu : u = a
        · subst hu
          exact ⟨u, c', x', _, h1, (fupd_ne hv).trans h2, fupd_same, by have := hx _ h3; omega⟩
        · exact ⟨u, c', x', y', h1, (fupd_ne hv).trans h2, (fupd_ne hu).trans h3, h4⟩
    have wle : ∀ v n u s', Wk fs (fupd s.O a (some i)) v n u s' → ∀ x, fupd s.V a (some (y + c)) v = some x → ∃ z, fupd s.V a (some (y + c)) u = some z ∧ z + s' ≤ x := by
      intro v n u s' hw
      induction hw with
      | nil v => intro x h; exact ⟨x, h, by omega⟩
      | cons h1 h2 h3 ih =>
        intro x h
        obtain ⟨u', c', x', y', g1, g2, g3, g4⟩ := ho _ _ h1
        rw [h2] at g1
        injection g1 with g1
        injection g1 with _ g1
        injection g1 with g1 g1'
        subst g1 g1'
        rw [h] at g2
        cases g2
        obtain ⟨z, z1, z2⟩ := ih _ g3
        exact ⟨z, z1, by omega⟩
    have spl : ∀ v n u s', Wk fs (fupd s.O a (some i)) v n u s' → v ≠ a → ∀ x, fupd s.V a (some (y + c)) v = some x → (Wk fs s.O v n u s' ∧ u ≠ a) ∨ ∃ z, fupd s.V a (some (y + c)) u = some z ∧ z + s' < x := by
      intro v n u s' hw
      induction hw with
      | nil v => intro h x _; exact .inl ⟨.nil v, h⟩
      | @cons v p w u n c' s' h1 h2 h3 ih =>
        intro hv x h
        have h1' := h1
        rw [fupd_ne hv] at h1'
        obtain ⟨u', c'', x', y', g1, g2, g3, g4⟩ := I.o _ _ h1'
        rw [h2] at g1
        injection g1 with g1
        injection g1 with _ g1
        injection g1 with g1 g1'
        subst g1 g1'
        rw [fupd_ne hv, g2] at h
        cases h
        by_cases hw : w = a
        · subst hw
          obtain ⟨z, z1, z2⟩ := wle _ _ _ _ h3 _ fupd_same
          refine .inr ⟨z, z1, ?_⟩
          have := hx _ g3
          omega
        · have g3' := (fupd_ne (f := s.V) (x := some (y + c)) hw).trans g3
          rcases ih hw _ g3' with ⟨q1, q2⟩ | ⟨z, z1, z2⟩
          · exact .inl ⟨.cons h1' h2 q1, q2⟩
          · exact .inr ⟨z, z1, by omega⟩
    refine ⟨fupd R a k, ⟨ho, ?_, ?_, ?_, ?_⟩, ?_⟩
    · intro v n s' hn0 hw
      by_cases hv : v = a
      · subst hv
        cases hw with
        | nil => exact absurd hn0 (Nat.lt_irrefl 0)
        | @cons _ p w _ n c' s1 h1 h2 h3 =>
          rw [fupd_same] at h1
          cases h1
          rw [hf] at h2
          injection h2 with h2
          injection h2 with _ h2
          injection h2 with h2 h2'
          subst h2 h2'
          by_cases hb : b = v
          · have hc := hself hb
            subst hb
            obtain ⟨z, z1, z2⟩ := wle _ _ _ _ h3 _ fupd_same
            rw [fupd_same] at z1
            cases z1
            omega
          · rcases spl _ _ _ _ h3 hb _ ((fupd_ne hb).trans hy) with ⟨_, q⟩ | ⟨z, z1, z2⟩
            · exact absurd rfl q
            · rw [fupd_same] at z1
              cases z1
              omega
      · have hvo : ∃ x, fupd s.V a (some (y + c)) v = some x := by
          cases hw with
          | nil => exact absurd hn0 (Nat.lt_irrefl 0)
          | cons h1 h2 h3 =>
            obtain ⟨_, _, x', _, _, g2, _⟩ := ho _ _ h1
            exact ⟨x', g2⟩
        obtain ⟨x, hx'⟩ := hvo
        rcases spl _ _ _ _ hw hv _ hx' with ⟨q, _⟩ | ⟨z, z1, z2⟩
        · exact I.neg v n s' hn0 q
        · rw [hx'] at z1
          cases z1
          omega
    · intro v hv
      by_cases e : v = a
      · subst e
        refine ⟨i, b, c, fupd_same, hf, ?_⟩
        have h1 := I.s i v b c hf hn
        rw [if_neg (Nat.lt_irrefl i)] at h1
        rw [fupd_same]
        by_cases hb : b = v
        · subst hb; rw [fupd_same]; omega
        · rw [fupd_ne hb]; omega
      · rw [fupd_ne e] at hv
        obtain ⟨p, u, c', h1, h2, h3⟩ := I.j v hv
        refine ⟨p, u, c', (fupd_ne e).trans h1, h2, ?_⟩
        rw [fupd_ne e]
        by_cases hu : u = a
        · subst hu; rw [fupd_same]; have := I.m u; have := I.m v; omega
        · rw [fupd_ne hu]; exact h3
    · intro j v u c' hj hnd
      by_cases hu : u = a
      · subst hu; rw [fupd_same]; omega
      · rw [fupd_ne hu]
        obtain ⟨yu, h1, h2⟩ := need_iff.mp hnd
        rw [fupd_ne hu] at h1
        have hold : need s.V (v, u, c') = true := need_iff.mpr ⟨yu, h1, fun x hxv => by
          by_cases hv : v = a
          · subst hv
            have := h2 _ fupd_same
            have := hx _ hxv
            omega
          · exact h2 x ((fupd_ne hv).trans hxv)⟩
        have h3 := I.s j v u c' hj hold
        by_cases hlt : j < i
        · rw [if_pos hlt] at h3
          rw [if_pos (by omega)]
          exact h3
        · by_cases hji : j = i
          · subst hji
            rw [hf] at hj
            injection hj with hj
            injection hj with e1 hj
            injection hj with e2 e3
            subst e1 e2 e3
            have := h2 _ fupd_same
            rw [hy] at h1
            cases h1
            omega
          · rw [if_neg hlt] at h3
            rw [if_neg (by omega)]
            exact h3
    · intro v
      by_cases e : v = a
      · subst e; rw [fupd_same]; exact Nat.le_refl _
      · rw [fupd_ne e]; exact I.m v
    · intro x e
      cases e
      exact fupd_same
  · have es : stp s i (a, b, c) = s := by
      unfold stp
      rw [if_neg hn]
    rw [es]
    refine ⟨R, ⟨I.o, I.neg, I.j, ?_, I.m⟩, hL⟩
    intro j v u c' hj hnd
    have h3 := I.s j v u c' hj hnd
    by_cases hlt : j < i
    · rw [if_pos hlt] at h3
      rw [if_pos (by omega)]
      exact h3
    · by_cases hji : j = i
      · subst hji
        rw [hf] at hj
        cases hj
        exact absurd hnd hn
      · rw [if_neg hlt] at h3
        rw [if_neg (by omega)]
        exact h3
theorem run_inv {fs : List Fact} {k : Nat} (hk : 1 ≤ k) : ∀ (r : List Fact) (i : Nat) (s : St) (R : Nat → Nat), fs.drop i = r → Inv fs k i s.V s.O R → (∀ x, s.L = some x → R x = k) →
    ∃ R', Inv fs k fs.length (runFrom i r s).V (runFrom i r s).O R' ∧ ∀ x, (runFrom i r s).L = some x → R' x = k
  | [], i, s, R, h, I, hL => by
    refine ⟨R, ⟨I.o, I.neg, I.j, ?_, I.m⟩, hL⟩
    intro j v u c hj hnd
    have hl : fs.length ≤ i := by
      have := congrArg List.length h
      rw [List.length_drop] at this
      have e : ([] : List Fact).length = 0 := rfl
      omega
    have hj2 : j < fs.length := (List.getElem?_eq_some_iff.mp hj).1
    have h3 := I.s j v u c hj hnd
    rw [if_pos (by omega)] at h3
    rw [if_pos hj2]
    exact h3
  | f :: r, i, s, R, h, I, hL => by
    have hf : fs[i]? = some f := by
      have : (fs.drop i)[0]? = some f := by rw [h]; rfl
      rw [List.getElem?_drop] at this
      exact this
    have hr : fs.drop (i + 1) = r := by
      rw [← List.drop_drop, h]
      rfl
    obtain ⟨R', I', hL'⟩ := stp_inv I hk hf hL
    exact run_inv hk r (i + 1) (stp s i f) R' hr I' hL'
theorem round_inv {fs : List Fact} {k : Nat} {s : St} {R : Nat → Nat} (hk : 1 ≤ k) (I : Inv fs k 0 s.V s.O R) :
    ∃ R', Inv fs (k + 1) 0 (round fs s).V (round fs s).O R' ∧ ∀ x, (round fs s).L = some x → R' x = k := by
  obtain ⟨R', I', hL⟩ := run_inv hk fs 0 { s with L := none } R rfl I (fun x e => nomatch e)
  refine ⟨R', ⟨I'.o, I'.neg, I'.j, ?_, fun v => Nat.le_succ_of_le (I'.m v)⟩, hL⟩
  intro j v u c hj hnd
  have h3 := I'.s j v u c hj hnd
  rw [if_pos (List.getElem?_eq_some_iff.mp hj).1] at h3
  rw [if_neg (Nat.not_lt_zero j)]
  omega
theorem inv0 {fs : List Fact} {V : Nat → Option Int} : Inv fs 1 0 V (fun _ => none) (fun _ => 0) where
  o := fun _ _ h => nomatch h
  neg := fun _ _ _ h w => by
    cases w with
    | nil => exact absurd h (Nat.lt_irrefl 0)
    | cons h1 _ _ => exact nomatch h1
  j := fun _ h => absurd h (Nat.lt_irrefl 0)
  s := fun _ _ _ _ _ _ => by rw [if_neg (Nat.not_lt_zero _)]; exact Nat.le_refl _
  m := fun _ => Nat.zero_le _
/-! ### a round that lowers nothing -/
theorem stp_L_some {s : St} {p : Nat} {f : Fact} (h : (stp s p f).L = none) : need s.V f = false ∧ stp s p f = s := by
  unfold stp at *
  by_cases hn : need s.V f = true
  · rw [if_pos hn] at h
    cases h
  · rw [if_neg hn]
    exact ⟨Bool.eq_false_iff.mpr hn, rfl⟩
theorem run_none : ∀ (r : List Fact) (i : Nat) (s : St), (runFrom i r s).L = none → runFrom i r s = s ∧ ∀ f ∈ r, need s.V f = false
  | [], _, _, _ => ⟨rfl, fun _ h => nomatch h⟩
  | f :: r, i, s, h => by
    obtain ⟨e1, h1⟩ := run_none r (i + 1) (stp s i f) h
    have h2 : (stp s i f).L = none := by rw [← e1]; exact h
    obtain ⟨q1, q2⟩ := stp_L_some h2
    refine ⟨?_, ?_⟩
    · show runFrom (i + 1) r (stp s i f) = s
      rw [e1, q2]
    · intro g hg
      cases hg with
      | head => exact q1
      | tail _ hg => have := h1 g hg; rw [q2] at this; exact this
theorem round_none {fs : List Fact} {s : St} (h : (round fs s).L = none) : round fs s = { s with L := none } ∧ ∀ f ∈ fs, need s.V f = false := by
  obtain ⟨a, b⟩ := run_none fs 0 { s with L := none } h
  exact ⟨a, b⟩
/-! ### values that are there stay there -/
theorem stp_some {s : St} {p : Nat} {f : Fact} {v : Nat} {x : Int} (h : s.V v = some x) : ∃ x', (stp s p f).V v = some x' ∧ x' ≤ x := by
  obtain ⟨a, b, c⟩ := f
  unfold stp
  by_cases hn : need s.V (a, b, c) = true
  · rw [if_pos hn]
    obtain ⟨y, hy, hx⟩ := need_iff.mp hn
    rw [newv_of hy]
    by_cases hv : v = a
    · subst hv
      exact ⟨_, fupd_same, by have := hx _ h; omega⟩
    · exact ⟨x, (fupd_ne hv).trans h, Int.le_refl _⟩
  · rw [if_neg hn]
    exact ⟨x, h, Int.le_refl _⟩
theorem run_some : ∀ (r : List Fact) (i : Nat) (s : St) (v : Nat) (x : Int), s.V v = some x → ∃ x', (runFrom i r s).V v = some x' ∧ x' ≤ x
  | [], _, _, _, x, h => ⟨x, h, Int.le_refl _⟩
  | f :: r, i, s, v, x, h => by
    obtain ⟨x1, h1, l1⟩ := stp_some (p := i) (f := f) h
    obtain ⟨x2, h2, l2⟩ := run_some r (i + 1) _ v x1 h1
    exact ⟨x2, h2, by omega⟩
theorem round_some {fs : List Fact} {s : St} {v : Nat} {x : Int} (h : s.V v = some x) : ∃ x', (round fs s).V v = some x' ∧ x' ≤ x := run_some fs 0 _ v x h
/-! ### pigeons -/
theorem pigeon : ∀ (n : Nat) (f : Nat → Nat), (∀ t, t ≤ n → f t < n) → ∃ i j, i < j ∧ j ≤ n ∧ f i = f j
  | 0, f, h => absurd (h 0 (Nat.le_refl _)) (Nat.not_lt_zero _)
  | n + 1, f, h => by
    by_cases hx : ∃ i, i < n + 1 ∧ f i = f (n + 1)
    · obtain ⟨i, h1, h2⟩ := hx
      exact ⟨i, n + 1, h1, Nat.le_refl _, h2⟩
    · have hne : ∀ i, i < n + 1 → f i ≠ f (n + 1) := fun i h1 h2 => hx ⟨i, h1, h2⟩
      obtain ⟨i, j, h1, h2, h3⟩ := pigeon n (fun t => if f (n + 1) < f t then f t - 1 else f t) (fun t ht => by
        have a := h t (by omega)
        have b := h (n + 1) (Nat.le_refl _)
        have c := hne t (by omega)
        show (if f (n + 1) < f t then f t - 1 else f t) < n
        split <;> omega)
      refine ⟨i, j, h1, by omega, ?_⟩
      have c1 := hne i (by omega)
      have c2 := hne j (by omega)
      have h3 : (if f (n + 1) < f i then f i - 1 else f i) = (if f (n + 1) < f j then f j - 1 else f j) := h3
      split at h3 <;> split at h3 <;> omega
/-! ### the ring behind -/
def pd (fs : List Fact) (O : Nat → Option Nat) (v : Nat) : Nat :=
  match O v with
  | none => v
  | some p => match fs[p]? with
    | none => v
    | some f => f.2.1
def itr (fs : List Fact) (O : Nat → Option Nat) (v : Nat) : Nat → Nat
  | 0 => v
  | t + 1 => pd fs O (itr fs O v t)
theorem itr_add (fs : List Fact) (O : Nat → Option Nat) (v a : Nat) : ∀ b, itr fs O v (a + b) = itr fs O (itr fs O v a) b
  | 0 => rfl
  | b + 1 => by
    show pd fs O (itr fs O v (a + b)) = pd fs O (itr fs O (itr fs O v a) b)
    rw [itr_add fs O v a b]
def Def (fs : List Fact) (O : Nat → Option Nat) (v : Nat) : Prop := ∃ p u c, O v = some p ∧ fs[p]? = some (v, u, c)
theorem Def.pd {fs : List Fact} {O : Nat → Option Nat} {v p u : Nat} {c : Int} (h1 : O v = some p) (h2 : fs[p]? = some (v, u, c)) : BF.pd fs O v = u := by
  unfold BF.pd
  rw [h1]
  show (match fs[p]? with | none => v | some f => f.2.1) = u
  rw [h2]
theorem wk_of {fs : List Fact} {O : Nat → Option Nat} : ∀ (n v : Nat), (∀ t, t < n → Def fs O (itr fs O v t)) → ∃ s, Wk fs O v n (itr fs O v n) s
  | 0, v, _ => ⟨0, .nil v⟩
  | n + 1, v, h => by
    obtain ⟨p, u, c, h1, h2⟩ := h 0 (Nat.succ_pos _)
    have e : pd fs O v = u := Def.pd h1 h2
    have ei : ∀ t, itr fs O u t = itr fs O v (t + 1) := fun t => by
      rw [Nat.add_comm t 1, itr_add fs O v 1 t]
      show itr fs O u t = itr fs O (pd fs O v) t
      rw [e]
    obtain ⟨s, hs⟩ := wk_of n u (fun t ht => by rw [ei]; exact h (t + 1) (by omega))
    rw [ei] at hs
    exact ⟨c + s, .cons h1 h2 hs⟩
theorem can {fs : List Fact} {k : Nat} {V : Nat → Option Int} {O : Nat → Option Nat} {R : Nat → Nat} (I : Inv fs k 0 V O R) : ∀ (m v : Nat), m ≤ R v → ∀ t, t < m → Def fs O (itr fs O v t)
  | 0, _, _, t, ht => absurd ht (Nat.not_lt_zero _)
  | m + 1, v, h, t, ht => by
    obtain ⟨p, u, c, h1, h2, h3⟩ := I.j v (by omega)
    cases t with
    | zero => exact ⟨p, u, c, h1, h2⟩
    | succ t =>
      have e : pd fs O v = u := Def.pd h1 h2
      rw [Nat.add_comm t 1, itr_add fs O v 1 t]
      show Def fs O (itr fs O (pd fs O v) t)
      rw [e]
      exact can I m u (by omega) t (by omega)
/-- the facts speak of the variables below n -/
def Below (n : Nat) (fs : List Fact) : Prop := ∀ f ∈ fs, f.1 < n ∧ f.2.1 < n
theorem itr_lt {fs : List Fact} {O : Nat → Option Nat} {n v : Nat} (hb : Below n fs) (hv : v < n) : ∀ t, itr fs O v t < n
  | 0 => hv
  | t + 1 => by
    have ih := itr_lt (O := O) hb hv t
    show pd fs O (itr fs O v t) < n
    unfold pd
    cases O (itr fs O v t) with
    | none => exact ih
    | some p =>
      show (match fs[p]? with | none => itr fs O v t | some f => f.2.1) < n
      cases h : fs[p]? with
      | none => exact ih
      | some f => exact (hb f (List.mem_of_getElem? h)).2
theorem cycle {fs : List Fact} {n k : Nat} {V : Nat → Option Int} {O : Nat → Option Nat} {R : Nat → Nat} (I : Inv fs k 0 V O R) (hb : Below n fs) {v : Nat} (hv : v < n) (hR : n ≤ R v) :
    (∀ t, Def fs O (itr fs O v t)) ∧ ∃ m, 0 < m ∧ m ≤ n ∧ itr fs O v (n + m) = itr fs O v n := by
  have h0 := can I n v hR
  obtain ⟨i, j, h1, h2, h3⟩ := pigeon n (itr fs O v) (fun t _ => itr_lt hb hv t)
  have per : ∀ t, i ≤ t → itr fs O v (t + (j - i)) = itr fs O v t := fun t ht => by
    have e1 : t + (j - i) = j + (t - i) := by omega
    have e2 : t = i + (t - i) := by omega
    rw [e1, itr_add, ← h3, ← itr_add, ← e2]
  have all : ∀ m t, t ≤ m → Def fs O (itr fs O v t) := by
    intro m
    induction m with
    | zero => intro t ht; exact h0 t (by omega)
    | succ m ih =>
      intro t ht
      by_cases hlt : t < n
      · exact h0 t hlt
      · have := per (t - (j - i)) (by omega)
        have e : t - (j - i) + (j - i) = t := by omega
        rw [e] at this
        rw [this]
        exact ih _ (by omega)
  exact ⟨fun t => all t t (Nat.le_refl _), j - i, by omega, by omega, per n (by omega)⟩
/-! ### values that keep facts -/
def Keeps (π : Nat → Int) (fs : List Fact) : Prop := ∀ a b c, (a, b, c) ∈ fs → π a ≤ π b + c
theorem wk_keeps {fs : List Fact} {O : Nat → Option Nat} {π : Nat → Int} (hk : Keeps π fs) {v n u : Nat} {s : Int} (w : Wk fs O v n u s) : π v ≤ π u + s := by
  induction w with
  | nil => omega
  | cons h1 h2 h3 ih =>
    have := hk _ _ _ (List.mem_of_getElem? h2)
    omega
theorem no_cycle {fs : List Fact} {n k : Nat} {V : Nat → Option Int} {O : Nat → Option Nat} {R : Nat → Nat} (I : Inv fs k 0 V O R) (hb : Below n fs) {v : Nat} (hv : v < n) (hR : n ≤ R v) (π : Nat → Int) : ¬ Keeps π fs := fun hk => by
  obtain ⟨hd, m, h1, h2, h3⟩ := cycle I hb hv hR
  obtain ⟨s, hs⟩ := wk_of m (itr fs O v n) (fun t _ => by rw [← itr_add]; exact hd _)
  rw [← itr_add, h3] at hs
  have a := I.neg _ _ _ h1 hs
  have b := wk_keeps hk hs
  omega
end BF
namespace BF
def itS (fs : List Fact) (s : St) : Nat → St
  | 0 => s
  | t + 1 => round fs (itS fs s t)
def s0 : St := ⟨fun _ => some 0, fun _ => none, none⟩
def sB (b : Nat) : St := ⟨fun v => if v = b then some 0 else none, fun _ => none, none⟩
def fin (fs : List Fact) (n : Nat) : St := itS fs s0 n
theorem itS_inv {fs : List Fact} {s : St} (hO : s.O = fun _ => none) : ∀ t, ∃ R, Inv fs (t + 1) 0 (itS fs s t).V (itS fs s t).O R ∧ (1 ≤ t → ∀ x, (itS fs s t).L = some x → R x = t)
  | 0 => ⟨fun _ => 0, by show Inv fs 1 0 s.V s.O _; rw [hO]; exact inv0, fun h => absurd h (by omega)⟩
  | t + 1 => by
    obtain ⟨R, I, _⟩ := itS_inv hO t
    obtain ⟨R', I', h'⟩ := round_inv (Nat.succ_le_succ (Nat.zero_le t)) I
    exact ⟨R', I', fun _ => h'⟩
theorem round_V {fs : List Fact} {s s' : St} (hV : s.V = s'.V) (h : (round fs s).L = none) : (round fs s').L = none ∧ (round fs s').V = s'.V := by
  obtain ⟨_, h2⟩ := round_none h
  have key : ∀ (r : List Fact) (i : Nat) (z : St), z.L = none → (∀ f ∈ r, need z.V f = false) → runFrom i r z = z := by
    intro r
    induction r with
    | nil => intro i z _ _; rfl
    | cons f r ih =>
      intro i z hz hn
      have e : stp z i f = z := by
        unfold stp
        rw [if_neg]
        rw [hn f (List.mem_cons_self ..)]
        exact Bool.false_ne_true
      show runFrom (i + 1) r (stp z i f) = z
      rw [e]
      exact ih (i + 1) z hz fun g hg => hn g (List.mem_cons_of_mem _ hg)
  have e := key fs 0 { s' with L := none } rfl (fun f hf => by show need s'.V f = false; rw [← hV]; exact h2 f hf)
  have e : round fs s' = { s' with L := none } := e
  rw [e]
  exact ⟨rfl, rfl⟩
theorem itS_stable {fs : List Fact} {s : St} {t : Nat} (h : (itS fs s (t + 1)).L = none) : ∀ d, (itS fs s (t + 1 + d)).L = none ∧ (itS fs s (t + 1 + d)).V = (itS fs s t).V
  | 0 => by
    refine ⟨h, ?_⟩
    exact (round_V rfl h).2
  | d + 1 => by
    obtain ⟨h1, h2⟩ := itS_stable h d
    obtain ⟨q1, q2⟩ := round_V (s := itS fs s t) (s' := itS fs s (t + 1 + d)) h2.symm h
    exact ⟨q1, q2.trans h2⟩
theorem itS_L {fs : List Fact} {s : St} {t n : Nat} (h : (itS fs s (t + 1)).L = none) (hn : t + 1 ≤ n) : (itS fs s n).L = none ∧ (itS fs s n).V = (itS fs s t).V := by
  have e : t + 1 + (n - (t + 1)) = n := by omega
  have := itS_stable h (n - (t + 1))
  rw [e] at this
  exact this
theorem itS_need {fs : List Fact} {s : St} {n : Nat} (hn : 1 ≤ n) (h : (itS fs s n).L = none) : ∀ f ∈ fs, need (itS fs s n).V f = false := by
  obtain ⟨t, rfl⟩ : ∃ t, n = t + 1 := ⟨n - 1, by omega⟩
  obtain ⟨h1, h2⟩ := round_none (s := itS fs s t) h
  rw [(itS_stable h 0).2]
  exact h2
theorem itS_some {fs : List Fact} {s : St} {v : Nat} {x : Int} (h : s.V v = some x) : ∀ t, ∃ x', (itS fs s t).V v = some x' ∧ x' ≤ x
  | 0 => ⟨x, h, Int.le_refl _⟩
  | t + 1 => by
    obtain ⟨x1, h1, l1⟩ := itS_some h t
    obtain ⟨x2, h2, l2⟩ := round_some (fs := fs) h1
    exact ⟨x2, h2, by omega⟩
theorem run_lt : ∀ (r : List Fact) (n i : Nat) (s : St), Below n r → (∀ x, s.L = some x → x < n) → ∀ x, (runFrom i r s).L = some x → x < n
  | [], _, _, _, _, h => h
  | f :: r, n, i, s, hb, h => by
    refine run_lt r n (i + 1) (stp s i f) (fun g hg => hb g (List.mem_cons_of_mem _ hg)) ?_
    intro x hx
    unfold stp at hx
    by_cases hn : need s.V f = true
    · rw [if_pos hn] at hx
      cases hx
      exact (hb f (List.mem_cons_self ..)).1
    · rw [if_neg hn] at hx
      exact h x hx
theorem round_lt {fs : List Fact} {n : Nat} {s : St} (hb : Below n fs) {x : Nat} (h : (round fs s).L = some x) : x < n := run_lt fs n 0 { s with L := none } hb (fun _ e => by cases e) x h
/-- all rounds lowered something: there is a cycle -/
theorem fin_cycle {fs : List Fact} {s : St} {n x : Nat} (hO : s.O = fun _ => none) (hn : 1 ≤ n) (hb : Below n fs) (h : (itS fs s n).L = some x) :
    x < n ∧ (∀ t, Def fs (itS fs s n).O (itr fs (itS fs s n).O x t)) ∧ (∃ m, 0 < m ∧ m ≤ n ∧ itr fs (itS fs s n).O x (n + m) = itr fs (itS fs s n).O x n) ∧ (∀ v m s', 0 < m → Wk fs (itS fs s n).O v m v s' → s' < 0) ∧ ∀ π, ¬ Keeps π fs := by
  obtain ⟨R, I, hR⟩ := itS_inv hO n
  have hx : x < n := by
    obtain ⟨t, rfl⟩ : ∃ t, n = t + 1 := ⟨n - 1, by omega⟩
    exact round_lt hb h
  have e := hR hn x h
  obtain ⟨c1, c2⟩ := cycle I hb hx (by omega)
  exact ⟨hx, c1, c2, I.neg, no_cycle I hb hx (by omega)⟩
theorem keeps_of {fs : List Fact} {V : Nat → Option Int} (h : ∀ f ∈ fs, need V f = false) (hs : ∀ v, ∃ x, V v = some x) : Keeps (fun v => (V v).getD 0) fs := by
  intro a b c hm
  have h1 := h _ hm
  obtain ⟨x, hx⟩ := hs a
  obtain ⟨y, hy⟩ := hs b
  show (V a).getD 0 ≤ (V b).getD 0 + c
  rw [hx, hy]
  show x ≤ y + c
  by_cases hl : y + c < x
  · have : need V (a, b, c) = true := need_iff.mpr ⟨y, hy, fun x' e => by rw [hx] at e; cases e; exact hl⟩
    rw [this] at h1
    cases h1
  · omega
theorem fin_keeps {fs : List Fact} {n : Nat} (hn : 1 ≤ n) (h : (fin fs n).L = none) : Keeps (fun v => ((fin fs n).V v).getD 0) fs :=
  keeps_of (itS_need hn h) fun v => by
    obtain ⟨x, hx, _⟩ := itS_some (fs := fs) (s := s0) (v := v) (x := 0) rfl n
    exact ⟨x, hx⟩
theorem fin_iff {fs : List Fact} {n : Nat} (hn : 1 ≤ n) (hb : Below n fs) : (fin fs n).L = none ↔ ∃ π, Keeps π fs := by
  constructor
  · exact fun h => ⟨_, fin_keeps hn h⟩
  · rintro ⟨π, hk⟩
    cases h : (fin fs n).L with
    | none => rfl
    | some x => exact absurd hk ((fin_cycle rfl hn hb h).2.2.2.2 π)
/-! ### the bound -/
theorem sB_L {fs : List Fact} {n b : Nat} (hn : 1 ≤ n) (hb : Below n fs) {π : Nat → Int} (hk : Keeps π fs) : (itS fs (sB b) n).L = none := by
  cases h : (itS fs (sB b) n).L with
  | none => rfl
  | some x => exact absurd hk ((fin_cycle rfl hn hb h).2.2.2.2 π)
def Up (π : Nat → Int) (b : Nat) (V : Nat → Option Int) : Prop := ∀ v x, V v = some x → π v ≤ π b + x
theorem stp_up {fs : List Fact} {π : Nat → Int} (hk : Keeps π fs) {b : Nat} {s : St} {p : Nat} {f : Fact} (hf : f ∈ fs) (h : Up π b s.V) : Up π b (stp s p f).V := by
  obtain ⟨a, u, c⟩ := f
  unfold stp
  by_cases hn : need s.V (a, u, c) = true
  · rw [if_pos hn]
    obtain ⟨y, hy, hx⟩ := need_iff.mp hn
    rw [newv_of hy]
    intro v x hv
    have hv : fupd s.V a (some (y + c)) v = some x := hv
    by_cases e : v = a
    · subst e
      rw [fupd_same] at hv
      cases hv
      have h1 := h u y hy
      have h2 := hk v u c hf
      omega
    · rw [fupd_ne e] at hv
      exact h v x hv
  · rw [if_neg hn]
    exact h
theorem run_up {fs : List Fact} {π : Nat → Int} (hk : Keeps π fs) {b : Nat} : ∀ (r : List Fact) (i : Nat) (s : St), (∀ f ∈ r, f ∈ fs) → Up π b s.V → Up π b (runFrom i r s).V
  | [], _, _, _, h => h
  | f :: r, i, s, hm, h => run_up hk r (i + 1) (stp s i f) (fun g hg => hm g (List.mem_cons_of_mem _ hg)) (stp_up hk (hm f (List.mem_cons_self ..)) h)
theorem sB_up {fs : List Fact} {π : Nat → Int} (hk : Keeps π fs) (b : Nat) : ∀ t, Up π b (itS fs (sB b) t).V
  | 0 => by
    intro v x h
    have h : (if v = b then some (0 : Int) else none) = some x := h
    by_cases e : v = b
    · rw [if_pos e] at h
      cases h
      rw [e]
      omega
    · rw [if_neg e] at h
      cases h
  | t + 1 => run_up hk fs 0 _ (fun _ h => h) (sB_up hk b t)
def bnd (fs : List Fact) (n a b : Nat) : Option Int := (itS fs (sB b) n).V a
theorem bnd_self {fs : List Fact} {n b : Nat} {π : Nat → Int} (hk : Keeps π fs) : bnd fs n b b = some 0 := by
  obtain ⟨x, hx, hl⟩ := itS_some (fs := fs) (s := sB b) (v := b) (x := 0) (by show (if b = b then some (0 : Int) else none) = some 0; rw [if_pos rfl]) n
  have := sB_up hk b n b x hx
  show (itS fs (sB b) n).V b = some 0
  rw [hx]
  congr 1
  omega
theorem bnd_up {fs : List Fact} {n a b : Nat} {c : Int} (h : bnd fs n a b = some c) {π : Nat → Int} (hk : Keeps π fs) : π a ≤ π b + c := sB_up hk b n a c h
/-- a bound of all the numbers in sight -/
theorem big (fs : List Fact) (f : Fact → Int) : ∃ M : Int, 0 ≤ M ∧ ∀ g ∈ fs, f g ≤ M := by
  induction fs with
  | nil => exact ⟨0, Int.le_refl _, fun _ h => nomatch h⟩
  | cons g r ih =>
    obtain ⟨M, h0, h1⟩ := ih
    refine ⟨if f g ≤ M then M else f g, by split <;> omega, ?_⟩
    intro g' hg
    cases hg with
    | head => split <;> omega
    | tail _ hg => have := h1 g' hg; split <;> omega
/-- the values reached, and the others far above -/
theorem bnd_sol {fs : List Fact} {n b : Nat} (hn : 1 ≤ n) (hb : Below n fs) {π : Nat → Int} (hk : Keeps π fs) (N : Int) :
    ∃ M, N ≤ M ∧ Keeps (fun v => match (itS fs (sB b) n).V v with | some x => x | none => π v + M) fs := by
  have hL := sB_L (b := b) hn hb hk
  have hnd := itS_need hn hL
  generalize (itS fs (sB b) n).V = V at hnd ⊢
  obtain ⟨M, h0, h1⟩ := big fs (fun g => (match V g.1 with | some x => x | none => 0) - π g.2.1 - g.2.2)
  refine ⟨if N ≤ M then M else N, by split <;> omega, ?_⟩
  intro a u c hm
  show (match V a with | some x => x | none => π a + _) ≤ (match V u with | some x => x | none => π u + _) + c
  have k1 := hk a u c hm
  have k2 := h1 _ hm
  have k3 := hnd _ hm
  have k2 : (match V a with | some x => x | none => 0) - π u - c ≤ M := k2
  cases ha : V a with
  | none =>
    cases hu : V u with
    | none => show π a + _ ≤ π u + _ + c; omega
    | some y =>
      have : need V (a, u, c) = true := need_iff.mpr ⟨y, hu, fun x e => by rw [ha] at e; cases e⟩
      rw [this] at k3
      cases k3
  | some x =>
    rw [ha] at k2
    have k2 : x - π u - c ≤ M := k2
    cases hu : V u with
    | none =>
      show x ≤ π u + (if N ≤ M then M else N) + c
      split <;> omega
    | some y =>
      show x ≤ y + c
      by_cases hl : y + c < x
      · have : need V (a, u, c) = true := need_iff.mpr ⟨y, hu, fun x' e => by rw [ha] at e; cases e; exact hl⟩
        rw [this] at k3
        cases k3
      · omega
theorem bnd_some {fs : List Fact} {n a b : Nat} (hn : 1 ≤ n) (hb : Below n fs) {π : Nat → Int} (hk : Keeps π fs) {c : Int} (h : bnd fs n a b = some c) : ∃ ρ, Keeps ρ fs ∧ ρ a = ρ b + c := by
  obtain ⟨M, _, hM⟩ := bnd_sol (b := b) hn hb hk 0
  refine ⟨_, hM, ?_⟩
  have e1 : (itS fs (sB b) n).V a = some c := h
  have e2 : (itS fs (sB b) n).V b = some 0 := bnd_self hk
  show (match (itS fs (sB b) n).V a with | some x => x | none => π a + M) = (match (itS fs (sB b) n).V b with | some x => x | none => π b + M) + c
  rw [e1, e2]
  show c = 0 + c
  omega
theorem bnd_none {fs : List Fact} {n a b : Nat} (hn : 1 ≤ n) (hb : Below n fs) {π : Nat → Int} (hk : Keeps π fs) (h : bnd fs n a b = none) (N : Int) : ∃ ρ, Keeps ρ fs ∧ ρ b + N ≤ ρ a := by
  obtain ⟨M, h1, hM⟩ := bnd_sol (b := b) hn hb hk (N - π a)
  refine ⟨_, hM, ?_⟩
  have e1 : (itS fs (sB b) n).V a = none := h
  have e2 : (itS fs (sB b) n).V b = some 0 := bnd_self hk
  show (match (itS fs (sB b) n).V b with | some x => x | none => π b + M) + N ≤ (match (itS fs (sB b) n).V a with | some x => x | none => π a + M)
  rw [e1, e2]
  show 0 + N ≤ π a + M
  omega
theorem keeps_snoc {π : Nat → Int} {fs : List Fact} {a b : Nat} {c : Int} : Keeps π (fs ++ [(a, b, c)]) ↔ Keeps π fs ∧ π a ≤ π b + c := by
  constructor
  · intro h
    exact ⟨fun x y z m => h x y z (List.mem_append.mpr (.inl m)), h a b c (List.mem_append.mpr (.inr (List.mem_singleton.mpr rfl)))⟩
  · rintro ⟨h1, h2⟩ x y z m
    rcases List.mem_append.mp m with m | m
    · exact h1 x y z m
    · cases List.mem_singleton.mp m
      exact h2
theorem below_snoc {n : Nat} {fs : List Fact} {a b : Nat} {c : Int} (h : Below n fs) (ha : a < n) (hb : b < n) : Below n (fs ++ [(a, b, c)]) := fun f hf => by
  rcases List.mem_append.mp hf with m | m
  · exact h f m
  · cases List.mem_singleton.mp m
    exact ⟨ha, hb⟩
/-! ### the law of k38, in plain words -/
theorem k38_none {fs : List Fact} {n a b : Nat} (hn : 1 ≤ n) (hb : Below n fs) (ha : a < n) (hb' : b < n) (hs : (fin fs n).L = none) (h : bnd fs n a b = none) (N : Int) : a ≠ b ∧ (fin (fs ++ [(b, a, -N)]) n).L = none := by
  have hk := fin_keeps hn hs
  refine ⟨fun e => ?_, ?_⟩
  · subst e
    rw [bnd_self hk] at h
    cases h
  · obtain ⟨ρ, r1, r2⟩ := bnd_none hn hb hk h N
    exact (fin_iff hn (below_snoc hb hb' ha)).mpr ⟨ρ, keeps_snoc.mpr ⟨r1, by omega⟩⟩
theorem k38_some {fs : List Fact} {n a b : Nat} {c : Int} (hn : 1 ≤ n) (hb : Below n fs) (ha : a < n) (hb' : b < n) (hs : (fin fs n).L = none) (h : bnd fs n a b = some c) :
    (a = b → c = 0) ∧ (fin (fs ++ [(b, a, -c)]) n).L = none ∧ (fin (fs ++ [(b, a, -c - 1)]) n).L ≠ none := by
  have hk := fin_keeps hn hs
  refine ⟨fun e => ?_, ?_, fun e => ?_⟩
  · subst e
    rw [bnd_self hk] at h
    exact (Option.some.inj h).symm
  · obtain ⟨ρ, r1, r2⟩ := bnd_some hn hb hk h
    exact (fin_iff hn (below_snoc hb hb' ha)).mpr ⟨ρ, keeps_snoc.mpr ⟨r1, by omega⟩⟩
  · obtain ⟨ρ, r⟩ := (fin_iff hn (below_snoc hb hb' ha)).mp e
    obtain ⟨r1, r2⟩ := keeps_snoc.mp r
    have := bnd_up h r1
    omega
end BF

namespace Pl
open PySem L2
/-! ### tests whose answer is known -/
theorem iT {c : Bool} {A B : Prop} (h : c = true) (x : A) : if c = true then A else B := by rw [if_pos h]; exact x
theorem iF {c : Bool} {A B : Prop} (h : c = false) (x : B) : if c = true then A else B := by rw [if_neg (by rw [h]; exact Bool.false_ne_true)]; exact x
theorem yes_if {σ : St} {H : Hp} {A B : Hp → Prop} (h : A H) : tYes σ H (fun b H3 => if b = true then A H3 else B H3) := by
  show if true = true then A H else B H
  rw [if_pos rfl]
  exact h
/-! ### for i, x in enumerate(xs) -/
theorem for_enum {K : PySem.W.Frag} {a : Addr} {xs : List V} {g : TG} {tb : TS} {D : Ends} {σ : St} {H : Hp} (Pv : Nat → St → Hp → Prop) (h0 : Pv 0 σ H) (hl : ∀ i σ H, i ≤ xs.length → Pv i σ H → SqL K H a xs)
    (hs : ∀ i x σ H T, xs[i]? = some x → Pv i σ H → H T = none → g (.ref T) σ (upd H T (.tup [.int (i : Nat), x])) fun σ2 H2 => tb { D with nx := Pv (i + 1), ct := Pv (i + 1), bk := D.nx } σ2 H2) (hd : ∀ σ H, Pv xs.length σ H → D.nx σ H) :
    ∃ W : Nat → Nat → St → Hp → Prop, (∃ m, W 0 m σ H) ∧ ∀ i m σ H, W i m σ H →
      ((Ite K a).stop i H ∧ D.nx σ H) ∨ ((Ite K a).go i H ∧ ∃ N : St → Hp → Prop, (∀ σ' H', N σ' H' → ∃ m', m' < m ∧ W (i + 1) m' σ' H') ∧ ∀ x H', (Ite K a).yld i H x H' → g x σ H' fun σ2 H2 => tb { D with nx := N, ct := N, bk := D.nx } σ2 H2) := by
  refine ⟨fun i m σ H => m = xs.length - i ∧ i ≤ xs.length ∧ Pv i σ H, ⟨xs.length, by simp, Nat.zero_le _, h0⟩, ?_⟩
  rintro i m σ H ⟨rfl, hi, p⟩
  have q := hl i σ H hi p
  by_cases hlt : i < xs.length
  · refine .inr ⟨⟨xs, xs[i], q, by simp [hlt]⟩, Pv (i + 1), fun σ' H' p' => ⟨xs.length - (i + 1), by omega, rfl, hlt, p'⟩, fun x H' y => ?_⟩
    obtain ⟨T, x1, rfl, nT, rfl, f⟩ := y
    exact hs i x1 σ _ T (f xs q) p nT
  · have e : i = xs.length := by omega
    subst e
    exact .inl ⟨⟨xs, q, Nat.le_refl _⟩, hd σ H p⟩
/-! ### facts in the heap -/
open BF in
def tup3 (f : Fact) : HO := .tup [.int (f.1 : Nat), .int (f.2.1 : Nat), .int f.2.2]
open BF in
def FactsAt (G : Hp) (a : Addr) (fs : List Fact) : Prop := ∃ vs : List V, G a = some (.lst vs) ∧ vs.length = fs.length ∧ ∀ (i : Nat) (f : Fact), fs[i]? = some f → ∃ t, vs[i]? = some (.ref t) ∧ G t = some (tup3 f)
theorem FactsAt.same {G G' : Hp} {a : Addr} {fs : List BF.Fact} (h : FactsAt G a fs) (s : Same G G') : FactsAt G' a fs := by
  obtain ⟨vs, h1, h2, h3⟩ := h
  refine ⟨vs, s _ _ h1, h2, fun i f e => ?_⟩
  obtain ⟨t, t1, t2⟩ := h3 i f e
  exact ⟨t, t1, s _ _ t2⟩
theorem FactsAt.ix {G : Hp} {a : Addr} {fs : List BF.Fact} {vs : List V} (h1 : G a = some (.lst vs)) (h : FactsAt G a fs) : vs.length = fs.length ∧ ∀ (i : Nat) (f : BF.Fact), fs[i]? = some f → ∃ t, vs[i]? = some (.ref t) ∧ G t = some (tup3 f) := by
  obtain ⟨vs', e1, e2, e3⟩ := h
  rw [h1] at e1
  cases e1
  exact ⟨e2, e3⟩
def oV : Option Int → V
  | none => .non
  | some x => .int x
def oN : Option Nat → V
  | none => .non
  | some x => .int (x : Nat)
def vl (n : Nat) (V : Nat → Option Int) : List L2.V := (List.range n).map fun i => oV (V i)
def ol (n : Nat) (O : Nat → Option Nat) : List L2.V := (List.range n).map fun i => oN (O i)
theorem vl_len (n : Nat) (V : Nat → Option Int) : (vl n V).length = n := by unfold vl; rw [List.length_map, List.length_range]
theorem ol_len (n : Nat) (O : Nat → Option Nat) : (ol n O).length = n := by unfold ol; rw [List.length_map, List.length_range]
theorem vl_at {n v : Nat} {V : Nat → Option Int} (h : v < n) : atI (vl n V) (v : Int) = some (oV (V v)) := atI_nat (by unfold vl; rw [List.getElem?_map, List.getElem?_range h]; rfl)
theorem ol_at {n v : Nat} {O : Nat → Option Nat} (h : v < n) : atI (ol n O) (v : Int) = some (oN (O v)) := atI_nat (by unfold ol; rw [List.getElem?_map, List.getElem?_range h]; rfl)
theorem vl_set {n a : Nat} {V : Nat → Option Int} {x : Option Int} : (vl n V).set a (oV x) = vl n (BF.fupd V a x) := by
  refine List.ext_getElem? fun i => ?_
  unfold vl
  rw [List.getElem?_set]
  by_cases hi : i < n
  · rw [List.getElem?_map, List.getElem?_map, List.getElem?_range hi, List.length_map, List.length_range]
    by_cases e : a = i
    · subst e
      rw [if_pos rfl, if_pos hi]
      show some (oV x) = some (oV (BF.fupd V a x a))
      rw [BF.fupd_same]
    · rw [if_neg e]
      show some (oV (V i)) = some (oV (BF.fupd V a x i))
      rw [BF.fupd_ne (Ne.symm e)]
  · have h1 : ((List.range n).map fun i => oV (V i))[i]? = none := List.getElem?_eq_none (by rw [List.length_map, List.length_range]; omega)
    have h2 : ((List.range n).map fun i => oV (BF.fupd V a x i))[i]? = none := List.getElem?_eq_none (by rw [List.length_map, List.length_range]; omega)
    rw [h1, h2, List.length_map, List.length_range]
    split
    · rw [if_neg (by omega)]
    · rfl
theorem ol_set {n a : Nat} {O : Nat → Option Nat} {x : Option Nat} : (ol n O).set a (oN x) = ol n (BF.fupd O a x) := by
  refine List.ext_getElem? fun i => ?_
  unfold ol
  rw [List.getElem?_set]
  by_cases hi : i < n
  · rw [List.getElem?_map, List.getElem?_map, List.getElem?_range hi, List.length_map, List.length_range]
    by_cases e : a = i
    · subst e
      rw [if_pos rfl, if_pos hi]
      show some (oN x) = some (oN (BF.fupd O a x a))
      rw [BF.fupd_same]
    · rw [if_neg e]
      show some (oN (O i)) = some (oN (BF.fupd O a x i))
      rw [BF.fupd_ne (Ne.symm e)]
  · have h1 : ((List.range n).map fun i => oN (O i))[i]? = none := List.getElem?_eq_none (by rw [List.length_map, List.length_range]; omega)
    have h2 : ((List.range n).map fun i => oN (BF.fupd O a x i))[i]? = none := List.getElem?_eq_none (by rw [List.length_map, List.length_range]; omega)
    rw [h1, h2, List.length_map, List.length_range]
    split
    · rw [if_neg (by omega)]
    · rfl
/-- all but va and oa stays -/
def Fr (va oa : Addr) (H H' : Hp) : Prop := ∀ b o, b ≠ va → b ≠ oa → H b = some o → H' b = some o
theorem Fr.same {va oa : Addr} {G H H' : Hp} (f : Fr va oa H H') (s : Same G H) (h1 : G va = none) (h2 : G oa = none) : Same G H' := fun b o e =>
  f b o (ne_of_none e h1) (ne_of_none e h2) (s b o e)
section
variable {P : Program} {w : World} {K : PySem.W.Frag} {mg : Str → Option Value} {base : Heap}
def spIsInteger : Sp := fun vs H Q _ => ∃ (v : V) (t : String), vs = [v] ∧ Ty H v t ∧ Q (.bl (isInt v)) H
theorem ok_is_integer (T : Txt K mg) {k : Nat} : FnOk P w K mg base CX0 (k + 1) T.is_integer.f T.is_integer.fd ["value"] spIsInteger := by
  refine T.is_integer.F.ok sc_is_integer (fun vs H Q E h => ?_) (fun cdv A outer s H vs Q E hr h => ?_)
  · obtain ⟨v, t, rfl, _⟩ := h
    rfl
  · obtain ⟨v, t, rfl, ty, q⟩ := h
    refine ⟨_, (pss_one (ps_ret (pe_and (pe_callB call_isi (by rfl) T.n_isinstance (by decide +kernel) (pa_cons (pv 0) (pa_cons (pe_bltn (v := .ty "int") (by rfl) T.n_int (by decide +kernel) rfl) pa_nil))) (pe_one (pe_not (pe_callB call_isi (by rfl) T.n_isinstance (by decide +kernel) (pa_cons (pv 0) (pa_cons (pe_bltn (v := .ty "bool") (by rfl) T.n_bool (by decide +kernel) rfl) pa_nil)))))))), ?_⟩
    refine ⟨v, rfl, _, _, _, _, _, rfl, .ty "int", ty.x, isI_int ty, _, rfl, ?_⟩
    rw [← isInt_of ty] at q
    cases h1 : tyB t "int" with
    | false =>
      rw [h1] at q
      exact iF rfl q
    | true =>
      rw [h1] at q
      refine iT rfl ⟨v, rfl, _, _, _, _, _, rfl, .ty "bool", ty.x, isI_bool ty, _, rfl, ?_⟩
      rw [Bool.true_and] at q
      exact q
def isFact (n : Int) : List V → Bool
  | [.int a, .int b, .int _] => decide (0 ≤ a) && decide (a < n) && (decide (0 ≤ b) && decide (b < n))
  | _ => false
def spIsFact : Sp := fun vs H Q _ => ∃ (n : Int) (v : V), vs = [.int n, v] ∧
  ((∃ t, Ty H v t ∧ t ≠ "tuple" ∧ ∀ H', Same H H' → Q (.bl false) H') ∨
   (∃ a xs, v = .ref a ∧ H a = some (.tup xs) ∧ xs.length ≤ 1000 ∧ (∀ x ∈ xs, ∃ t, Ty H x t) ∧ ∀ H', Same H H' → Q (.bl (isFact n xs)) H'))
theorem tyB_tuple {H : Hp} {v : V} {t : String} (h : Ty H v t) : tyB t "tuple" = decide (t = "tuple") := by
  unfold tyB
  cases h
  · rw [kb_none_tuple]; rfl
  · rw [kb_bool_tuple]; rfl
  · rw [kb_int_tuple]; rfl
  · rw [kb_str_tuple]; rfl
  · rw [kb_list_tuple]; rfl
  · rw [kb_tuple_tuple]; rfl
theorem ok_is_fact (T : Txt K mg) {k : Nat} : FnOk P w K mg base CX0 (k + 2) T.is_fact.f T.is_fact.fd ["count", "entry"] spIsFact := by
  have G_is_integer : FnOk P w K mg base CX0 (k + 1) T.is_integer.f T.is_integer.fd ["value"] spIsInteger := ok_is_integer T
  refine T.is_fact.F.ok sc_is_fact (fun vs H Q E h => ?_) (fun cdv A outer s H vs Q E hr h => ?_)
  · obtain ⟨n, v, rfl, _⟩ := h
    rfl
  · obtain ⟨n, v, rfl, h⟩ := h
    refine ⟨_, (pss_cons (ps_if (PW.pt (pw_or (pt_not (pt_val (pe_callB call_isi (by rfl) T.n_isinstance (by decide +kernel) (pa_cons (pv 1) (pa_cons (pe_bltn (v := .ty "tuple") (by rfl) T.n_tuple (by decide +kernel) rfl) pa_nil))))) (pw_or1 (pt_cmpR op_ne (pe_callB call_len_seq (by rfl) T.n_len PySem.boot_len (pa_cons (pv 1) pa_nil)) pe_int (nomark _))))) (pss_one (ps_ret pe_bl)) pss_nil)
  (pss_cons (ps_if (pt_not (pt_val (pe_callB (cr_all rfl) (by rfl) T.n_all (by decide +kernel) (pa_cons (pe_lc (own := [("number", 2)]) (g := gName 2) (tt := tYes) (te := (tCall _ _ _ (tCons (tVar 2) tNil))) rfl sc_is_fact.nd (pi_tup (pv 1)) (blkOk_by (own := [("number", 2)]) (N := N_is_fact) (sc := defScope s_is_fact) (by decide +kernel)) (fun _ _ _ _ _ => (pg_name (i := 2) sc_is_fact.nd rfl (.inl rfl))) (fun _ _ _ _ _ => pts_nil) (fun _ _ _ _ _ => (pe_call G_is_integer (hr.mono (by omega)) (by rfl) T.is_integer.g T.is_integer.F.kp T.is_integer.b .nil pass0 (pa_cons (pv 2) pa_nil)))) pa_nil)))) (pss_one (ps_ret pe_bl)) pss_nil)
  (pss_one (ps_ret (pe_and (pe_chain op_le op_lt pe_int (pe_ix ix_tup (pv 1) pe_int (fun _ _ => rfl)) (pv 0)) (pe_one (pe_chain op_le op_lt pe_int (pe_ix ix_tup (pv 1) pe_int (fun _ _ => rfl)) (pv 0)))))))), ?_⟩
    rcases h with ⟨t, ty, nt, q⟩ | ⟨a, xs, rfl, ha, hl, hx, q⟩
    · refine ⟨v, rfl, _, _, _, _, _, rfl, .ty "tuple", ty.x, isI_tuple ty, _, rfl, ?_⟩
      rw [tyB_tuple ty, decide_eq_false nt]
      exact iT rfl (iT rfl (q _ (Same.refl _)))
    · have ty : Ty H (.ref a) "tuple" := .tup ha
      refine ⟨.ref a, rfl, _, _, _, _, _, rfl, .ty "tuple", ty.x, isI_tuple ty, _, rfl, ?_⟩
      rw [tyB_tuple ty]
      refine iF rfl ⟨.ref a, rfl, a, xs, rfl, .inr (SqT.of ha), rfl, _, rfl, ?_⟩
      by_cases h3 : xs.length = 3
      · refine iF (by rw [h3]; rfl) ?_
        refine ⟨.ref a, rfl, a, rfl, ⟨xs, SqT.of ha⟩, fun D hD => ?_⟩
        refine lc_tup (K := K) (a := a) (xs := xs) (fun i H' => Same H H' ∧ H' D = some (.lst ((xs.take i).map fun x => V.bl (isInt x))))
          ⟨same_upd hD, upd_same⟩ (fun i H' _ p => SqT.of (p.1 _ _ ha)) (fun i x H' hi p => ?_) (fun H' p => ?_)
        · obtain ⟨t, tx⟩ := hx x (List.mem_of_getElem? hi)
          refine ⟨rfl, yes_if ⟨x, rfl, x, t, rfl, tx.same p.1, _, p.2, ?_, ?_, ?_⟩⟩
          · rw [List.length_map, List.length_take]
            exact szl (by omega)
          · exact same_mut p.1 hD
          · rw [upd_same, List.take_add_one, hi, List.map_append]
            rfl
        · rw [List.take_of_length_le (Nat.le_refl _)] at p
          refine ⟨D, xs.map isInt, rfl, SqL.of (by rw [List.map_map]; exact p.2), _, rfl, ?_⟩
          obtain ⟨x, y, z, rfl⟩ : ∃ x y z, xs = [x, y, z] := by
            match xs, h3 with
            | [x, y, z], _ => exact ⟨x, y, z, rfl⟩
          have haH : H' a = some (.tup [x, y, z]) := p.1 _ _ ha
          by_cases hall : (([x, y, z].map isInt).all id) = true
          · refine iF (by rw [hall]; rfl) ?_
            obtain ⟨i, rfl⟩ : ∃ i, x = .int i := by
              cases x <;> first | exact ⟨_, rfl⟩ | (simp [isInt] at hall)
            obtain ⟨j, rfl⟩ : ∃ i, y = .int i := by
              cases y <;> first | exact ⟨_, rfl⟩ | (simp [isInt] at hall)
            obtain ⟨l, rfl⟩ : ∃ i, z = .int i := by
              cases z <;> first | exact ⟨_, rfl⟩ | (simp [isInt] at hall)
            have q' := q H' p.1
            have ef : isFact n [.int i, .int j, .int l] = (decide (0 ≤ i) && decide (i < n) && (decide (0 ≤ j) && decide (j < n))) := rfl
            rw [ef] at q'
            refine ⟨.ref a, rfl, a, _, 0, .int i, rfl, rfl, SqT.of haH, rfl, 0, i, rfl, rfl, _, rfl, ?_⟩
            have second : (decide (0 ≤ j) && decide (j < n)) = (decide (0 ≤ i) && decide (i < n) && (decide (0 ≤ j) && decide (j < n))) → tChain (rI0 fun i j => .bl (decide (i ≤ j))) (rI0 fun i j => .bl (decide (i < j))) (tC (.int 0)) (tOp (rIxT K) (tVar 1) (tC (.int 1))) (tVar 0) (start N_is_fact [V.int n, V.ref a]) H' Q := fun eq => by
              rw [← eq] at q'
              refine ⟨.ref a, rfl, a, _, 1, .int j, rfl, rfl, SqT.of haH, rfl, 0, j, rfl, rfl, _, rfl, ?_⟩
              by_cases hj : 0 ≤ j
              · refine iT (decide_eq_true hj) ⟨.int n, rfl, j, n, rfl, rfl, ?_⟩
                rw [decide_eq_true hj, Bool.true_and] at q'
                exact q'
              · refine iF (decide_eq_false hj) ?_
                rw [decide_eq_false hj, Bool.false_and] at q'
                exact q'
            by_cases hi : 0 ≤ i
            · refine iT (decide_eq_true hi) ⟨.int n, rfl, i, n, rfl, rfl, _, rfl, ?_⟩
              by_cases hin : i < n
              · refine iT (decide_eq_true hin) (second ?_)
                rw [decide_eq_true hi, decide_eq_true hin]
                rfl
              · refine iF (decide_eq_false hin) ?_
                rw [decide_eq_false hin, Bool.and_false, Bool.false_and] at q'
                exact q'
            · refine iF (decide_eq_false hi) ⟨_, rfl, iF rfl ?_⟩
              rw [decide_eq_false hi] at q'
              exact q'
          · refine iT (by rw [Bool.eq_false_iff.mpr hall]; rfl) ?_
            have ef : isFact n [x, y, z] = false := by
              cases x <;> cases y <;> cases z <;> first | rfl | exact absurd rfl hall
            have q' := q H' p.1
            rw [ef] at q'
            exact q'
      · refine iT ?_ ?_
        · show (!decide (V.int (xs.length : Int) = V.int 3)) = true
          rw [decide_eq_false (fun e => h3 (by have := V.int.inj e; omega))]
          rfl
        · have ef : isFact n xs = false := by
            unfold isFact
            split
            · exact absurd rfl h3
            · rfl
          rw [ef] at q
          exact q _ (Same.refl _)
end
end Pl

namespace Pl
open PySem L2
section
variable {P : Program} {w : World} {K : PySem.W.Frag} {mg : Str → Option Value} {base : Heap}
open BF in
theorem isFact_ok {n : Nat} {f : Fact} (h : f.1 < n ∧ f.2.1 < n) : isFact (n : Int) [.int (f.1 : Nat), .int (f.2.1 : Nat), .int f.2.2] = true := by
  show (decide ((0 : Int) ≤ (f.1 : Nat)) && decide (((f.1 : Nat) : Int) < n) && (decide ((0 : Int) ≤ (f.2.1 : Nat)) && decide (((f.2.1 : Nat) : Int) < n))) = true
  rw [decide_eq_true (by omega), decide_eq_true (by omega), decide_eq_true (by omega), decide_eq_true (by omega)]
  rfl
def spCheckFacts : Sp := fun vs H Q _ => ∃ (n : Nat) (a : Addr) (fs : List BF.Fact), vs = [.int (n : Nat), .ref a] ∧ FactsAt H a fs ∧ BF.Below n fs ∧ ∀ H', Same H H' → Q .non H'
theorem ok_check_facts (T : Txt K mg) {k : Nat} : FnOk P w K mg base CX0 (k + 3) T.check_facts.f T.check_facts.fd ["count", "facts"] spCheckFacts := by
  have G_is_fact : FnOk P w K mg base CX0 (k + 2) T.is_fact.f T.is_fact.fd ["count", "entry"] spIsFact := ok_is_fact T
  refine T.check_facts.F.ok sc_check_facts (fun vs H Q E h => ?_) (fun cdv A outer s H vs Q E hr h => ?_)
  · obtain ⟨n, a, fs, rfl, _⟩ := h
    rfl
  · obtain ⟨n, a, fs, rfl, ⟨ts, ha, hl, hx⟩, hb, q⟩ := h
    refine ⟨_, (pss_one (ps_for PassesOwn.never rfl (pi_enum (by rfl) T.n_enumerate (pa_cons (pv 1) pa_nil)) (pg_tup rfl (pgs_cons (pg_name (i := 2) sc_check_facts.nd rfl (.inl rfl)) (pgs_cons (pg_name (i := 3) sc_check_facts.nd rfl (.inl rfl)) pgs_nil)))
   (pss_one (ps_if (pt_not (pt_val (pe_call G_is_fact (hr.mono (by omega)) (by rfl) T.is_fact.g T.is_fact.F.kp T.is_fact.b .nil pass0 (pa_cons (pv 0) (pa_cons (pv 3) pa_nil))))) (pss_one ps_never) pss_nil)))), ?_⟩
    refine ⟨.ref a, rfl, a, ts, rfl, SqL.of ha, ?_⟩
    refine for_enum (K := K) (a := a) (xs := ts) (fun i σ H' => Same H H' ∧ ∃ y2 y3, σ = [some (.int (n : Nat)), some (.ref a), y2, y3]) ⟨Same.refl _, none, none, rfl⟩ (fun i σ H' _ p => SqL.of (p.1 _ _ ha)) (fun i x σ H' t hi p nt => ?_) (fun σ H' p => q H' p.1)
    obtain ⟨sm, y2, y3, rfl⟩ := p
    obtain ⟨f, hf⟩ : ∃ f, fs[i]? = some f := by
      have hlt : i < fs.length := by rw [← hl]; exact (List.getElem?_eq_some_iff.mp hi).1
      exact ⟨_, List.getElem?_eq_getElem hlt⟩
    obtain ⟨t', h1, h2⟩ := hx i f hf
    rw [hi] at h1
    cases h1
    have hbf := hb f (List.mem_of_getElem? hf)
    have s2 : Same H (upd H' t (.tup [.int (i : Nat), .ref t'])) := sm.trans (same_upd nt)
    refine ⟨t, _, rfl, SqT.of upd_same, rfl, _, _, rfl, _, _, rfl, rfl, ?_⟩
    refine ⟨_, rfl, _, rfl, n, _, rfl, .inr ⟨t', _, rfl, s2 _ _ h2, by show 3 ≤ 1000; decide, ?_, fun H2 s3 => ?_⟩⟩
    · intro x hx
      rcases List.mem_cons.mp hx with rfl | hx
      · exact ⟨_, .int _⟩
      rcases List.mem_cons.mp hx with rfl | hx
      · exact ⟨_, .int _⟩
      rcases List.mem_cons.mp hx with rfl | hx
      · exact ⟨_, .int _⟩
      · exact nomatch hx
    · rw [isFact_ok hbf]
      exact ⟨_, rfl, iF rfl ⟨s2.trans s3, _, _, rfl⟩⟩
open BF in
theorem stp_no {s : BF.St} {p : Nat} {f : Fact} (h : need s.V f = false) : stp s p f = s := by
  unfold stp
  rw [if_neg (by rw [h]; exact Bool.false_ne_true)]
open BF in
theorem stp_yes {s : BF.St} {p a b : Nat} {c y : Int} (h : need s.V (a, b, c) = true) (hb : s.V b = some y) : stp s p (a, b, c) = ⟨fupd s.V a (some (y + c)), fupd s.O a (some p), some a⟩ := by
  unfold stp
  rw [if_pos h, newv_of hb]
def lowV : Option Nat → V
  | none => .non
  | some x => .int (x : Nat)
open BF in
def spRelaxed : Sp := fun vs H Q _ => ∃ (n : Nat) (fa va oa : Addr) (fs : List Fact) (s : BF.St), vs = [.ref fa, .ref va, .ref oa] ∧ FactsAt H fa fs ∧ Below n fs ∧ fa ≠ va ∧ fa ≠ oa ∧ va ≠ oa ∧
  H va = some (.lst (vl n s.V)) ∧ H oa = some (.lst (ol n s.O)) ∧
  ∀ H', Fr va oa H H' → H' va = some (.lst (vl n (round fs s).V)) → H' oa = some (.lst (ol n (round fs s).O)) → Q (lowV (round fs s).L) H'
open BF in
theorem ok_relaxed (T : Txt K mg) {k : Nat} : FnOk P w K mg base CX0 (k + 1) T.relaxed.f T.relaxed.fd ["facts", "values", "origins"] spRelaxed := by
  refine T.relaxed.F.ok sc_relaxed (fun vs H Q E h => ?_) (fun cdv A outer s H vs Q E hr h => ?_)
  · obtain ⟨n, fa, va, oa, fs, z, rfl, _⟩ := h
    rfl
  · obtain ⟨n, fa, va, oa, fs, z, rfl, ⟨ts, ha, hl, hx⟩, hb, n1, n2, n3, hv, ho, q⟩ := h
    refine ⟨_, (pss_cons (ps_set (i := 3) sc_relaxed.nd rfl (.inl rfl) pe_non)
  (pss_cons (ps_for PassesOwn.never rfl (pi_enum (by rfl) T.n_enumerate (pa_cons (pv 0) pa_nil)) (pg_tup rfl (pgs_cons (pg_name (i := 4) sc_relaxed.nd rfl (.inl rfl)) (pgs_cons (pg_tup rfl (pgs_cons (pg_name (i := 5) sc_relaxed.nd rfl (.inl rfl)) (pgs_cons (pg_name (i := 6) sc_relaxed.nd rfl (.inl rfl)) (pgs_cons (pg_name (i := 7) sc_relaxed.nd rfl (.inl rfl)) pgs_nil)))) pgs_nil)))
   (pss_one (ps_if (PW.pt (pw_and (pt_cmpR op_notN (pe_ix ix_list (pv 1) (pv 6) (fun _ _ => rfl)) pe_non (nomark _)) (pw_and1 (PW.pt (pw_or (pt_cmpR op_isN (pe_ix ix_list (pv 1) (pv 5) (fun _ _ => rfl)) pe_non (nomark _)) (pw_or1 (pt_cmpR op_lt (pe_op op_add (pe_ix ix_list (pv 1) (pv 6) (fun _ _ => rfl)) (pv 7)) (pe_ix ix_list (pv 1) (pv 5) (fun _ _ => rfl)) (nomark _)))))))) (pss_cons (ps_asg (pe_op op_add (pe_ix ix_list (pv 1) (pv 6) (fun _ _ => rfl)) (pv 7)) (pg_sub (pv 1) (pv 5) set_list))
  (pss_cons (ps_asg (pv 4) (pg_sub (pv 2) (pv 5) set_list))
  (pss_one (ps_set (i := 3) sc_relaxed.nd rfl (.inl rfl) (pv 5))))) pss_nil)))
  (pss_one (ps_ret (pv 3))))), ?_⟩
    refine ⟨.ref fa, rfl, fa, ts, rfl, SqL.of ha, ?_⟩
    refine for_enum (K := K) (a := fa) (xs := ts) (fun i σ H' => Fr va oa H H' ∧ H' va = some (.lst (vl n (runFrom 0 (fs.take i) { z with L := none }).V)) ∧ H' oa = some (.lst (ol n (runFrom 0 (fs.take i) { z with L := none }).O)) ∧
        ∃ y4 y5 y6 y7, σ = [some (.ref fa), some (.ref va), some (.ref oa), some (lowV (runFrom 0 (fs.take i) { z with L := none }).L), y4, y5, y6, y7])
      ⟨fun _ _ _ _ h => h, hv, ho, none, none, none, none, rfl⟩ (fun i σ H' _ p => SqL.of (p.1 _ _ n1 n2 ha)) (fun i x σ H' t hi p nt => ?_) (fun σ H' p => ?_)
    · obtain ⟨fr, hv', ho', y4, y5, y6, y7, rfl⟩ := p
      obtain ⟨f, hf⟩ : ∃ f, fs[i]? = some f := by
        have hlt : i < fs.length := by rw [← hl]; exact (List.getElem?_eq_some_iff.mp hi).1
        exact ⟨_, List.getElem?_eq_getElem hlt⟩
      obtain ⟨t', h1, h2⟩ := hx i f hf
      rw [hi] at h1
      cases h1
      obtain ⟨f1, f2⟩ := hb f (List.mem_of_getElem? hf)
      rw [runFrom_take hf]
      generalize runFrom 0 (fs.take i) { z with L := none } = u at hv' ho'
      obtain ⟨a, b, c⟩ := f
      have ft : t' ≠ va := ne_of h2 hv (by intro e; cases e)
      have fo : t' ≠ oa := ne_of h2 ho (by intro e; cases e)
      have ht' : H' t' = some (tup3 (a, b, c)) := fr _ _ ft fo h2
      have ntv : va ≠ t := ne_of_none hv' nt
      have nto : oa ≠ t := ne_of_none ho' nt
      have fr2 : Fr va oa H (upd H' t (.tup [.int (i : Nat), .ref t'])) := fun b o b1 b2 e => by
        have := fr b o b1 b2 e
        rw [upd_ne (ne_of_none this nt)]
        exact this
      have hv2 : upd H' t (.tup [.int (i : Nat), .ref t']) va = some (.lst (vl n u.V)) := by rw [upd_ne ntv]; exact hv'
      have ho2 : upd H' t (.tup [.int (i : Nat), .ref t']) oa = some (.lst (ol n u.O)) := by rw [upd_ne nto]; exact ho'
      have ht2 : upd H' t (.tup [.int (i : Nat), .ref t']) t' = some (tup3 (a, b, c)) := same_upd nt _ _ ht'
      have hT2 : upd H' t (.tup [.int (i : Nat), .ref t']) t = some (.tup [.int (i : Nat), .ref t']) := upd_same
      generalize upd H' t (.tup [.int (i : Nat), .ref t']) = H2 at fr2 hv2 ho2 ht2 hT2
      refine ⟨t, _, rfl, SqT.of hT2, rfl, _, _, rfl, _, _, rfl, t', _, rfl, SqT.of ht2, rfl, _, _, rfl, _, _, rfl, _, _, rfl, rfl, rfl, ?_⟩
      refine ⟨.ref va, rfl, .int (b : Nat), rfl, va, _, _, _, rfl, rfl, SqL.of hv2, vl_at f2, rfl, _, rfl, ?_⟩
      cases hb' : u.V b with
      | none =>
        have e : stp u i (a, b, c) = u := stp_no (by
          cases hn : need u.V (a, b, c) with
          | false => rfl
          | true =>
            obtain ⟨y, hy, _⟩ := need_iff.mp hn
            rw [hb'] at hy
            cases hy)
        refine iF rfl (iF rfl ?_)
        rw [e]
        exact ⟨fr2, hv2, ho2, _, _, _, _, rfl⟩
      | some y =>
        refine iT rfl ?_
        refine ⟨.ref va, rfl, .int (a : Nat), rfl, va, _, _, _, rfl, rfl, SqL.of hv2, vl_at f1, rfl, _, rfl, ?_⟩
        have wr : ∀ o1 o2, Fr va oa H (upd (upd H2 va o1) oa o2) := fun o1 o2 b o b1 b2 e => by
          rw [upd_ne b2, upd_ne b1]
          exact fr2 b o b1 b2 e
        have body : need u.V (a, b, c) = true → Fr va oa H (upd (upd H2 va (.lst ((vl n u.V).set a (.int (y + c))))) oa (.lst ((ol n u.O).set a (.int (i : Nat))))) ∧
            (upd (upd H2 va (.lst ((vl n u.V).set a (.int (y + c))))) oa (.lst ((ol n u.O).set a (.int (i : Nat))))) va = some (.lst (vl n (stp u i (a, b, c)).V)) ∧
            (upd (upd H2 va (.lst ((vl n u.V).set a (.int (y + c))))) oa (.lst ((ol n u.O).set a (.int (i : Nat))))) oa = some (.lst (ol n (stp u i (a, b, c)).O)) ∧ (stp u i (a, b, c)).L = some a := fun hn => by
          rw [stp_yes hn hb']
          refine ⟨wr _ _, ?_, ?_, rfl⟩
          · rw [upd_ne n3, upd_same]
            exact congrArg (fun z => some (HO.lst z)) (vl_set (x := some (y + c)))
          · rw [upd_same]
            exact congrArg (fun z => some (HO.lst z)) (ol_set (x := some i))
        have hov : (upd H2 va (.lst ((vl n u.V).set a (.int (y + c))))) oa = some (.lst (ol n u.O)) := by rw [upd_ne (Ne.symm n3)]; exact ho2
        have iv : ixN (vl n u.V).length (a : Int) = some a := ix_in (by omega) (by rw [vl_len]; omega)
        have io : ixN (ol n u.O).length (a : Int) = some a := ix_in (by omega) (by rw [ol_len]; omega)
        cases ha' : u.V a with
        | none =>
          have hn : need u.V (a, b, c) = true := need_iff.mpr ⟨y, hb', fun x e => by rw [ha'] at e; cases e⟩
          obtain ⟨w1, w2, w3, w4⟩ := body hn
          refine iT rfl (iT rfl ?_)
          refine ⟨.ref va, rfl, .int (b : Nat), rfl, va, _, _, _, rfl, rfl, SqL.of hv2, vl_at f2, .int c, rfl, y, c, by rw [hb']; rfl, rfl, .ref va, rfl, .int (a : Nat), rfl, va, _, _, a, rfl, rfl, hv2, iv, ?_⟩
          refine ⟨.int (i : Nat), rfl, .ref oa, rfl, .int (a : Nat), rfl, oa, _, _, a, rfl, rfl, hov, io, ?_⟩
          exact ⟨.int (a : Nat), rfl, w1, w2, w3, _, _, _, _, by rw [w4]; rfl⟩
        | some x =>
          refine iF rfl ?_
          refine ⟨.ref va, rfl, .int (b : Nat), rfl, va, _, _, _, rfl, rfl, SqL.of hv2, vl_at f2, .int c, rfl, y, c, by rw [hb']; rfl, rfl, .ref va, rfl, .int (a : Nat), rfl, va, _, _, _, rfl, rfl, SqL.of hv2, vl_at f1, _, x, rfl, by rw [ha']; rfl, _, rfl, ?_⟩
          by_cases hlt : y + c < x
          · have hn : need u.V (a, b, c) = true := need_iff.mpr ⟨y, hb', fun x' e => by rw [ha'] at e; cases e; exact hlt⟩
            obtain ⟨w1, w2, w3, w4⟩ := body hn
            refine iT (decide_eq_true hlt) ?_
            refine ⟨.ref va, rfl, .int (b : Nat), rfl, va, _, _, _, rfl, rfl, SqL.of hv2, vl_at f2, .int c, rfl, y, c, by rw [hb']; rfl, rfl, .ref va, rfl, .int (a : Nat), rfl, va, _, _, a, rfl, rfl, hv2, iv, ?_⟩
            refine ⟨.int (i : Nat), rfl, .ref oa, rfl, .int (a : Nat), rfl, oa, _, _, a, rfl, rfl, hov, io, ?_⟩
            exact ⟨.int (a : Nat), rfl, w1, w2, w3, _, _, _, _, by rw [w4]; rfl⟩
          · have e : stp u i (a, b, c) = u := stp_no (by
              cases hn : need u.V (a, b, c) with
              | false => rfl
              | true =>
                obtain ⟨y', hy, hz⟩ := need_iff.mp hn
                rw [hb'] at hy
                cases hy
                exact absurd (hz x ha') hlt)
            refine iF (decide_eq_false hlt) ?_
            rw [e]
            exact ⟨fr2, hv2, ho2, _, _, _, _, rfl⟩
    · have e : fs.take ts.length = fs := List.take_of_length_le (by omega)
      rw [e] at p
      obtain ⟨fr, hv', ho', y4, y5, y6, y7, rfl⟩ := p
      exact ⟨_, rfl, q H' fr hv' ho'⟩
end
end Pl

namespace Pl
open PySem L2
section
variable {P : Program} {w : World} {K : PySem.W.Frag} {mg : Str → Option Value} {base : Heap}
def spOpen (K : PySem.W.Frag) : Sp := fun vs H Q _ => ∃ (a : Addr) (ns : List Int), vs = [.ref a] ∧ SqL K H a (ns.map V.int) ∧ ns.length ≤ 63 ∧
  ∀ (b c : Addr) (H' : Hp), H b = none → H c = none → Same H H' → BoxAt b c H' → Q (.ref b) H'
theorem cut63 (ns : List Int) (h : ns.length ≤ 63) : cutV (ns.map V.int) none (some 63) = ns.map V.int := by
  unfold cutV
  rw [HT.sIx_none, show HT.sIx (ns.map V.int).length (ns.map V.int).length (some 63) = min 63 (ns.map V.int).length from HT.sIx_nat _ _ 63]
  rw [List.drop_zero, List.length_map, Nat.sub_zero]
  exact List.take_of_length_le (by rw [List.length_map]; omega)
theorem ok_law_open (T : Txt K mg) {k : Nat} : FnOk P w K mg base CX0 (k + 1) T.law_open.f T.law_open.fd ["_law_script"] (spOpen K) := by
  refine T.law_open.F.ok sc_law_open (fun vs H Q E h => ?_) (fun cdv A outer s H vs Q E hr h => ?_)
  · obtain ⟨a, ns, rfl, _⟩ := h
    rfl
  · obtain ⟨a, ns, rfl, hS, hl, q⟩ := h
    refine ⟨_, (pss_cons (ps_set (i := 1) sc_law_open.nd rfl (.inl rfl) (pe_callTy call_list_of (by rfl) T.n_list (by decide +kernel) (pa_cons (pe_slice sl_list (pv 0) po_none (po_some pe_int)) pa_nil)))
  (pss_cons (ps_if (pt_cmpR op_eq (pe_callB call_len_seq (by rfl) T.n_len PySem.boot_len (pa_cons (pv 1) pa_nil)) pe_int (nomark _)) (pss_one (ps_expr (pe_bm PySem.F.plainAttrs_list PySem.F.slot_list_append PySem.F.type_list_append mt_append (pv 1) (pa_cons pe_int pa_nil)))) pss_nil)
  (pss_one (ps_ret (pe_lst (pa_cons (pv 1) (pa_cons pe_int pa_nil))))))), ?_⟩
    refine ⟨.ref a, rfl, 63, rfl, a, _, rfl, hS, fun p hp => ?_⟩
    rw [cut63 ns hl]
    refine ⟨p, _, rfl, .inl (SqL.of upd_same), fun c hc => ?_⟩
    have ncp : c ≠ p := fun e => by
      rw [e, upd_same] at hc
      cases hc
    have hc0 : H c = none := by rw [upd_ne ncp] at hc; exact hc
    have s1 : Same H (upd (upd H p (.lst (ns.map V.int))) c (.lst (ns.map V.int))) := (same_upd hp).trans (same_upd hc)
    refine ⟨.ref c, rfl, c, _, rfl, .inl (SqL.of upd_same), rfl, _, rfl, ite2 (fun e => ?_) (fun e => ?_)⟩
    · have e0 : ((ns.map V.int).length : Int) = 0 := V.int.inj (of_decide_eq_true e)
      have e1 : ns = [] := by
        cases ns with
        | nil => rfl
        | cons x r =>
          rw [List.length_map, List.length_cons] at e0
          omega
      subst e1
      refine ⟨.ref c, rfl, .inl ⟨rfl, _, SqL.of upd_same⟩, c, _, _, rfl, rfl, upd_same, szl (by show 0 < 100000; decide), ?_⟩
      rw [upd_upd]
      have s2 : Same H (upd (upd H p (.lst [])) c (.lst [.int 0])) := (same_upd hp).trans (same_upd hc)
      refine ⟨.ref c, rfl, sz (by show 2 ≤ 100000; decide), fun b hb => ?_⟩
      have nbc : b ≠ c := fun e => by
        rw [e, upd_same] at hb
        cases hb
      exact q b c _ (s2.free hb) hc0 (s2.trans (same_upd hb)) ⟨nbc, [0], 0, upd_same, by rw [upd_ne (Ne.symm nbc), upd_same]; rfl, by decide, by decide⟩
    · have h0 : 0 < ns.length := by
        cases ns with
        | nil => exact absurd (decide_eq_true rfl) e
        | cons x r => exact Nat.succ_pos _
      refine ⟨.ref c, rfl, sz (by show 2 ≤ 100000; decide), fun b hb => ?_⟩
      have nbc : b ≠ c := fun e => by
        rw [e, upd_same] at hb
        cases hb
      exact q b c _ (s1.free hb) hc0 (s1.trans (same_upd hb)) ⟨nbc, ns, 0, upd_same, by rw [upd_ne (Ne.symm nbc), upd_same], h0, by omega⟩
theorem nzA : (2147483647 : Int) ≠ 0 := by decide
theorem nzB : (2147483399 : Int) ≠ 0 := by decide
def spPick : Sp := fun vs H Q _ => ∃ (b c : Addr) (G : Hp) (m : Int), vs = [.ref b, .int m] ∧ Wd b c G H ∧ 0 < m ∧ m < 1073741824 ∧
  ∀ (i : Int) (H' : Hp), Wd b c G H' → 0 ≤ i → i < m → Q (.int i) H'
theorem box_cells {b c : Addr} {G H : Hp} {cs cs' : List Int} {k : Int} (nbc : b ≠ c) (x : Wd b c G H) (h : 0 < cs.length) (h' : cs.length ≤ 64) : Wd b c G (upd (upd H b (.lst [.ref c, .int k])) c (.lst (cs.map V.int))) :=
  ⟨⟨nbc, cs, k, by rw [upd_ne nbc, upd_same], upd_same, h, h'⟩, same_mut (same_mut x.gh x.gb) x.gc, x.gb, x.gc⟩
theorem ok_law_pick (T : Txt K mg) {k : Nat} : FnOk P w K mg base CX0 (k + 1) T.law_pick.f T.law_pick.fd ["_law_box", "_law_many"] spPick := by
  refine T.law_pick.F.ok sc_law_pick (fun vs H Q E h => ?_) (fun cdv A outer s H vs Q E hr h => ?_)
  · obtain ⟨b, c, G, m, rfl, _⟩ := h
    rfl
  · obtain ⟨b, c, G, m, rfl, W, m0, m1, q⟩ := h
    obtain ⟨nbc, cs, k, hb, hc, l0, l1⟩ := W.box
    refine ⟨_, (pss_cons (ps_set (i := 2) sc_law_pick.nd rfl (.inl rfl) (pe_ix ix_list (pv 0) pe_int (fun _ _ => rfl)))
  (pss_cons (ps_set (i := 3) sc_law_pick.nd rfl (.inl rfl) (pe_ix ix_list (pv 0) pe_int (fun _ _ => rfl)))
  (pss_cons (ps_asg (pe_op op_add (pv 3) pe_int) (pg_sub (pv 0) pe_int set_list))
  (pss_cons (ps_set (i := 4) sc_law_pick.nd rfl (.inl rfl) (pe_op op_modN (pv 3) (pe_callB call_len_seq (by rfl) T.n_len PySem.boot_len (pa_cons (pv 2) pa_nil))))
  (pss_cons (ps_set (i := 5) sc_law_pick.nd rfl (.inl rfl) (pe_ix ix_list (pv 2) (pv 4) (fun _ _ => rfl)))
  (pss_cons (ps_if (pt_cmpR op_ge (pv 5) (pe_op op_pow pe_int pe_int) (nomark _)) (pss_cons (ps_asg (pe_op op_fdivN (pv 5) (pv 1)) (pg_sub (pv 2) (pv 4) set_list))
  (pss_one (ps_ret (pe_op op_modN (pe_callTy call_int1 (by rfl) T.n_int (by decide +kernel) (pa_cons (pv 5) pa_nil)) (pv 1))))) pss_nil)
  (pss_cons (ps_set (i := 6) sc_law_pick.nd rfl (.inl rfl) (pe_op op_modN (pe_callTy call_int1 (by rfl) T.n_int (by decide +kernel) (pa_cons (pe_op op_mul (pe_op op_add (pe_op op_add (pe_op op_modN (pe_callTy call_int1 (by rfl) T.n_int (by decide +kernel) (pa_cons (pv 5) pa_nil)) pe_int) (pe_op op_mul pe_int (pv 3))) pe_int) pe_int) pa_nil)) pe_int))
  (pss_cons (ps_set (i := 6) sc_law_pick.nd rfl (.inl rfl) (pe_op op_modN (pe_callTy call_int1 (by rfl) T.n_int (by decide +kernel) (pa_cons (pe_op op_mul (pv 6) (pe_op op_add (pe_op op_fdivN (pv 6) pe_int) pe_int)) pa_nil)) pe_int))
  (pss_cons (ps_set (i := 6) sc_law_pick.nd rfl (.inl rfl) (pe_op op_modN (pe_callTy call_int1 (by rfl) T.n_int (by decide +kernel) (pa_cons (pe_op op_mul (pv 6) (pe_op op_add (pe_op op_fdivN (pv 6) pe_int) pe_int)) pa_nil)) pe_int))
  (pss_one (ps_ret (pe_op op_modN (pe_callTy call_int1 (by rfl) T.n_int (by decide +kernel) (pa_cons (pe_op op_fdivN (pv 6) pe_int) pa_nil)) (pv 1))))))))))))), ?_⟩
    refine ⟨.ref b, rfl, b, _, 0, _, rfl, rfl, SqL.of hb, rfl, ?_⟩
    refine ⟨.ref b, rfl, b, _, 1, _, rfl, rfl, SqL.of hb, rfl, ?_⟩
    refine ⟨.int k, rfl, k, 1, rfl, rfl, .ref b, rfl, b, _, 1, 1, rfl, rfl, hb, rfl, ?_⟩
    show tSeq _ _ _ _ (upd H b (.lst [.ref c, .int (k + 1)]))
    have hc1 : upd H b (.lst [.ref c, .int (k + 1)]) c = some (.lst (cs.map V.int)) := by rw [upd_ne (Ne.symm nbc)]; exact hc
    have W1 : Wd b c G (upd H b (.lst [.ref c, .int (k + 1)])) := ⟨⟨nbc, cs, k + 1, upd_same, hc1, l0, l1⟩, same_mut W.gh W.gb, W.gb, W.gc⟩
    have ln : (0 : Int) < ((cs.map V.int).length : Int) := by rw [List.length_map]; omega
    refine ⟨.int k, rfl, .ref c, rfl, c, _, rfl, .inl (SqL.of hc1), k, _, rfl, rfl, by omega, ?_⟩
    have j0 := fm0 (a := k) ln
    have j1 := fm1 (a := k) ln
    dsimp only
    generalize ej : k.fmod ((cs.map V.int).length : Int) = j at j0 j1 ⊢
    have j2 : j < (cs.length : Int) := by rw [List.length_map] at j1; exact j1
    obtain ⟨x, hx⟩ := at_ints j0 j2
    refine ⟨.ref c, rfl, .int j, rfl, c, _, j, .int x, rfl, rfl, SqL.of hc1, hx, ?_⟩
    refine ⟨.int x, rfl, 10, 18, rfl, rfl, ⟨by decide, by decide, by decide⟩, x, _, rfl, rfl, _, rfl, ite2 (fun _ => ?_) (fun _ => ?_)⟩
    · refine ⟨.int x, rfl, .int m, rfl, x, m, rfl, rfl, ⟨by omega, by omega⟩, .ref c, rfl, .int j, rfl, c, _, j, j.toNat, rfl, rfl, hc1, ix_in j0 j1, ?_⟩
      refine ⟨.int x, rfl, .inl ⟨x, rfl, .int m, rfl, x, m, rfl, rfl, by omega, ?_⟩⟩
      refine q _ _ ?_ (fm0 m0) (fm1 m0)
      rw [← List.map_set]
      exact ⟨⟨nbc, cs.set j.toNat (x.fdiv m), k + 1, by rw [upd_ne nbc, upd_same], upd_same, by rw [List.length_set]; exact l0, by rw [List.length_set]; exact l1⟩, same_mut W1.gh W1.gc, W1.gb, W1.gc⟩
    · -- the number is mixed
      refine ⟨.int x, rfl, .inl ⟨x, rfl, x, 2147483647, rfl, rfl, nzA, .int k, rfl, 7919, k, rfl, rfl, .inl ⟨by decide, by decide⟩, _, _, rfl, rfl, _, 1, rfl, rfl, _, 48271, rfl, rfl, .inr ⟨by decide, by decide⟩, .inl ⟨_, rfl, _, 2147483647, rfl, rfl, nzA, ?_⟩⟩⟩
      have a0 := fm0 (a := (x.fmod 2147483647 + 7919 * k + 1) * 48271) (b := 2147483647) (by decide)
      have a1 := fm1 (a := (x.fmod 2147483647 + 7919 * k + 1) * 48271) (b := 2147483647) (by decide)
      dsimp only
      generalize ((x.fmod 2147483647 + 7919 * k + 1) * 48271).fmod 2147483647 = y at a0 a1 ⊢
      refine ⟨.int y, rfl, .int y, rfl, y, 1009, rfl, rfl, ⟨by decide, by decide⟩, _, 69621, rfl, rfl, y, _, rfl, rfl, .inl ⟨by omega, by omega⟩, .inl ⟨_, rfl, _, 2147483647, rfl, rfl, nzA, ?_⟩⟩
      have b0 := fm0 (a := y * (y.fdiv 1009 + 69621)) (b := 2147483647) (by decide)
      have b1 := fm1 (a := y * (y.fdiv 1009 + 69621)) (b := 2147483647) (by decide)
      dsimp only
      generalize (y * (y.fdiv 1009 + 69621)).fmod 2147483647 = z at b0 b1 ⊢
      refine ⟨.int z, rfl, .int z, rfl, z, 2003, rfl, rfl, ⟨by decide, by decide⟩, _, 40692, rfl, rfl, z, _, rfl, rfl, .inl ⟨by omega, by omega⟩, .inl ⟨_, rfl, _, 2147483399, rfl, rfl, nzB, ?_⟩⟩
      dsimp only
      generalize (z * (z.fdiv 2003 + 40692)).fmod 2147483399 = u
      refine ⟨.int u, rfl, u, 7, rfl, rfl, ⟨by decide, by decide⟩, .inl ⟨_, rfl, .int m, rfl, _, m, rfl, rfl, by omega, ?_⟩⟩
      exact q _ _ W1 (fm0 m0) (fm1 m0)
def spNumber : Sp := fun vs H Q _ => ∃ (b c : Addr) (G : Hp), vs = [.ref b] ∧ Wd b c G H ∧ ∀ (i : Int) (H' : Hp), Wd b c G H' → -100000000 * 10 ^ 32 ≤ i → i ≤ 100000001 * 10 ^ 32 → Q (.int i) H'
theorem ok_law_number (T : Txt K mg) {k : Nat} : FnOk P w K mg base CX0 (k + 2) T.law_number.f T.law_number.fd ["_law_box"] spNumber := by
  have G_law_pick : FnOk P w K mg base CX0 (k + 1) T.law_pick.f T.law_pick.fd ["_law_box", "_law_many"] spPick := ok_law_pick T
  refine T.law_number.F.ok sc_law_number (fun vs H Q E h => ?_) (fun cdv A outer s H vs Q E hr h => ?_)
  · obtain ⟨b, c, G, rfl, _⟩ := h
    rfl
  · obtain ⟨b, c, G, rfl, W, q⟩ := h
    refine ⟨_, (pss_cons (ps_set (i := 1) sc_law_number.nd rfl (.inl rfl) (pe_call G_law_pick (hr.mono (by omega)) (by rfl) T.law_pick.g T.law_pick.F.kp T.law_pick.b .nil pass0 (pa_cons (pv 0) (pa_cons pe_int pa_nil))))
  (pss_cons (ps_if (pt_cmpR op_lt (pv 1) pe_int (nomark _)) (pss_one (ps_ret (pe_op op_sub (pe_call G_law_pick (hr.mono (by omega)) (by rfl) T.law_pick.g T.law_pick.F.kp T.law_pick.b .nil pass0 (pa_cons (pv 0) (pa_cons pe_int pa_nil))) pe_int))) pss_nil)
  (pss_cons (ps_if (pt_cmpR op_eq (pv 1) pe_int (nomark _)) (pss_one (ps_ret (pe_op op_sub (pe_call G_law_pick (hr.mono (by omega)) (by rfl) T.law_pick.g T.law_pick.F.kp T.law_pick.b .nil pass0 (pa_cons (pv 0) (pa_cons pe_int pa_nil))) pe_int))) pss_nil)
  (pss_cons (ps_if (pt_cmpR op_eq (pv 1) pe_int (nomark _)) (pss_one (ps_ret (pe_op op_sub (pe_call G_law_pick (hr.mono (by omega)) (by rfl) T.law_pick.g T.law_pick.F.kp T.law_pick.b .nil pass0 (pa_cons (pv 0) (pa_cons pe_int pa_nil))) pe_int))) pss_nil)
  (pss_one (ps_ret (pe_op op_add (pe_op op_mul (pe_op op_sub (pe_call G_law_pick (hr.mono (by omega)) (by rfl) T.law_pick.g T.law_pick.F.kp T.law_pick.b .nil pass0 (pa_cons (pv 0) (pa_cons pe_int pa_nil))) pe_int) (pe_op op_pow pe_int pe_int)) (pe_call G_law_pick (hr.mono (by omega)) (by rfl) T.law_pick.g T.law_pick.F.kp T.law_pick.b .nil pass0 (pa_cons (pv 0) (pa_cons pe_int pa_nil)))))))))), ?_⟩
    refine ⟨.ref b, rfl, b, c, G, 8, rfl, W, by decide, by decide, fun i H1 W1 i0 i1 => ?_⟩
    refine ⟨.int i, rfl, i, 5, rfl, rfl, _, rfl, ite2 (fun _ => ?_) (fun _ => ?_)⟩
    · refine ⟨.ref b, rfl, b, c, G, 9, rfl, W1, by decide, by decide, fun j H2 W2 j0 j1 => ?_⟩
      exact ⟨j, 4, rfl, rfl, q _ _ W2 (by omega) (by omega)⟩
    · refine ⟨.int i, rfl, rfl, _, rfl, ite2 (fun _ => ?_) (fun _ => ?_)⟩
      · refine ⟨.ref b, rfl, b, c, G, 41, rfl, W1, by decide, by decide, fun j H2 W2 j0 j1 => ?_⟩
        exact ⟨j, 20, rfl, rfl, q _ _ W2 (by omega) (by omega)⟩
      · refine ⟨.int i, rfl, rfl, _, rfl, ite2 (fun _ => ?_) (fun _ => ?_)⟩
        · refine ⟨.ref b, rfl, b, c, G, 2000001, rfl, W1, by decide, by decide, fun j H2 W2 j0 j1 => ?_⟩
          exact ⟨j, 1000000, rfl, rfl, q _ _ W2 (by omega) (by omega)⟩
        · refine ⟨.ref b, rfl, b, c, G, 200000001, rfl, W1, by decide, by decide, fun j H2 W2 j0 j1 => ?_⟩
          refine ⟨j, 100000000, rfl, rfl, 10, 32, rfl, rfl, ⟨by decide, by decide, by decide⟩, _, _, rfl, rfl, .inl ⟨by omega, by omega⟩, ?_⟩
          refine ⟨.ref b, rfl, b, c, G, 100000000, rfl, W2, by decide, by decide, fun l H3 W3 l0 l1 => ?_⟩
          refine ⟨_, l, rfl, rfl, q _ _ W3 ?_ ?_⟩
          · show -100000000 * 10 ^ 32 ≤ (j - 100000000) * (10 ^ 32 : Int) + l
            omega
          · show (j - 100000000) * (10 ^ 32 : Int) + l ≤ 100000001 * 10 ^ 32
            omega
end
end Pl

namespace Pl
open PySem L2
theorem Wd.weak {b c : Addr} {G G' H : Hp} (x : Wd b c G' H) (s : Same G G') : Wd b c G H := ⟨x.box, s.trans x.gh, s.free x.gb, s.free x.gc⟩
/-- what stands at p is taken among what stays -/
theorem Wd.keep {b c p : Addr} {G H : Hp} {o : HO} (x : Wd b c G H) (h : H p = some o) (hb : p ≠ b) (hc : p ≠ c) : Wd b c (upd G p o) H :=
  ⟨x.box, fun a u e => by
    by_cases q : a = p
    · subst q; rw [upd_same] at e; cases e; exact h
    · rw [upd_ne q] at e; exact x.gh a u e, by rw [upd_ne (Ne.symm hb)]; exact x.gb, by rw [upd_ne (Ne.symm hc)]; exact x.gc⟩
theorem Wd.nb {b c p : Addr} {G H : Hp} (x : Wd b c G H) (h : H p = none) : p ≠ b ∧ p ≠ c := by
  obtain ⟨_, h1⟩ := x.box.b
  obtain ⟨_, h2⟩ := x.box.c
  exact ⟨fun e => (by rw [e, h1] at h; cases h), fun e => (by rw [e, h2] at h; cases h)⟩
section
variable {P : Program} {w : World} {K : PySem.W.Frag} {mg : Str → Option Value} {base : Heap}
theorem ok_law_is_integer (T : Txt K mg) {k : Nat} : FnOk P w K mg base CX0 (k + 1) T.law_is_integer.f T.law_is_integer.fd ["_law_thing"] spIsInteger := by
  refine T.law_is_integer.F.ok sc_law_is_integer (fun vs H Q E h => ?_) (fun cdv A outer s H vs Q E hr h => ?_)
  · obtain ⟨v, t, rfl, _⟩ := h
    rfl
  · obtain ⟨v, t, rfl, ty, q⟩ := h
    refine ⟨_, (pss_one (ps_ret (pe_and (pe_callB call_isi (by rfl) T.n_isinstance (by decide +kernel) (pa_cons (pv 0) (pa_cons (pe_bltn (v := .ty "int") (by rfl) T.n_int (by decide +kernel) rfl) pa_nil))) (pe_one (pe_not (pe_callB call_isi (by rfl) T.n_isinstance (by decide +kernel) (pa_cons (pv 0) (pa_cons (pe_bltn (v := .ty "bool") (by rfl) T.n_bool (by decide +kernel) rfl) pa_nil)))))))), ?_⟩
    refine ⟨v, rfl, _, _, _, _, _, rfl, .ty "int", ty.x, isI_int ty, _, rfl, ?_⟩
    rw [← isInt_of ty] at q
    cases h1 : tyB t "int" with
    | false =>
      rw [h1] at q
      exact iF rfl q
    | true =>
      rw [h1] at q
      refine iT rfl ⟨v, rfl, _, _, _, _, _, rfl, .ty "bool", ty.x, isI_bool ty, _, rfl, ?_⟩
      rw [Bool.true_and] at q
      exact q
open BF in
def Rows (G : Hp) (vs : List V) (fs : List Fact) : Prop := vs.length = fs.length ∧ ∀ (i : Nat) (f : Fact), fs[i]? = some f → ∃ t, vs[i]? = some (.ref t) ∧ G t = some (tup3 f)
open BF in
def spLawFacts : Sp := fun vs H Q _ => ∃ (b c : Addr) (G : Hp) (n m : Nat), vs = [.ref b, .int (n : Nat), .int (m : Nat)] ∧ Wd b c G H ∧ 1 ≤ n ∧ n ≤ 1000 ∧ m ≤ 1000 ∧
  ∀ (G' H' : Hp) (p : Addr) (vs : List V) (fs : List Fact), Same G G' → Wd b c G' H' → G' p = none → p ≠ b → p ≠ c → H' p = some (.lst vs) → Rows G' vs fs → Below n fs → fs.length ≤ m → Q (.ref p) H'
open BF in
theorem ok_law_facts (T : Txt K mg) {k : Nat} : FnOk P w K mg base CX0 (k + 3) T.law_facts.f T.law_facts.fd ["_law_box", "_law_count", "_law_most"] spLawFacts := by
  have G_law_pick : FnOk P w K mg base CX0 (k + 2) T.law_pick.f T.law_pick.fd ["_law_box", "_law_many"] spPick := ok_law_pick T
  have G_law_number : FnOk P w K mg base CX0 (k + 2) T.law_number.f T.law_number.fd ["_law_box"] spNumber := ok_law_number T
  refine T.law_facts.F.ok sc_law_facts (fun vs H Q E h => ?_) (fun cdv A outer s H vs Q E hr h => ?_)
  · obtain ⟨b, c, G, n, m, rfl, _⟩ := h
    rfl
  · obtain ⟨b, c, G, n, m, rfl, W, n1, n2, m2, q⟩ := h
    refine ⟨_, (pss_cons (ps_set (i := 3) sc_law_facts.nd rfl (.inl rfl) (pe_lst pa_nil))
  (pss_cons (ps_for PassesOwn.never rfl (pi_range1 (by rfl) T.n_range (pa_cons (pe_call G_law_pick (hr.mono (by omega)) (by rfl) T.law_pick.g T.law_pick.F.kp T.law_pick.b .nil pass0 (pa_cons (pv 0) (pa_cons (pe_op op_add (pv 2) pe_int) pa_nil))) pa_nil)) (pg_name (i := 4) sc_law_facts.nd rfl (.inl rfl))
   (pss_cons (ps_set (i := 5) sc_law_facts.nd rfl (.inl rfl) (pe_call G_law_pick (hr.mono (by omega)) (by rfl) T.law_pick.g T.law_pick.F.kp T.law_pick.b .nil pass0 (pa_cons (pv 0) (pa_cons (pv 1) pa_nil))))
  (pss_cons (ps_set (i := 6) sc_law_facts.nd rfl (.inl rfl) (pe_call G_law_pick (hr.mono (by omega)) (by rfl) T.law_pick.g T.law_pick.F.kp T.law_pick.b .nil pass0 (pa_cons (pv 0) (pa_cons (pv 1) pa_nil))))
  (pss_one (ps_expr (pe_bm PySem.F.plainAttrs_list PySem.F.slot_list_append PySem.F.type_list_append mt_append (pv 3) (pa_cons (pe_tup (pa_cons (pv 5) (pa_cons (pv 6) (pa_cons (pe_call G_law_number (hr.mono (by omega)) (by rfl) T.law_number.g T.law_number.F.kp T.law_number.b .nil pass0 (pa_cons (pv 0) pa_nil)) pa_nil)))) pa_nil)))))))
  (pss_one (ps_ret (pv 3))))), ?_⟩
    refine ⟨Nat.zero_le _, fun p hp => ?_⟩
    obtain ⟨pb, pc⟩ := W.nb hp
    have gp : G p = none := W.gh.free hp
    have W1 : Wd b c G (upd H p (.lst [])) := W.mut gp pb pc
    have W2 : Wd b c (upd G p (.lst [])) (upd H p (.lst [])) := W1.keep upd_same pb pc
    refine ⟨_, rfl, _, rfl, _, _, rfl, rfl, b, c, _, (m : Int) + 1, rfl, W2, by omega, by omega, fun r H1 W3 r0 r1 => ?_⟩
    refine ⟨r, rfl, by omega, by omega, ?_⟩
    refine for_range (lo := 0) (n := r.toNat) (fun t σ H' => ∃ (G' : Hp) (vs : List V) (fs : List Fact) (y4 y5 y6 : Option V), σ = [some (.ref b), some (.int (n : Nat)), some (.int (m : Nat)), some (.ref p), y4, y5, y6] ∧ Same G G' ∧ Wd b c G' H' ∧ G' p = none ∧ H' p = some (.lst vs) ∧ Rows G' vs fs ∧ Below n fs ∧ fs.length = t)
      ⟨G, [], [], none, none, none, rfl, Same.refl _, W3.weak (same_upd gp), gp, W3.gh _ _ upd_same, ⟨rfl, fun _ _ h => by simp at h⟩, (fun _ h => nomatch h), rfl⟩ (fun t σ H' ht p2 => ?_) (fun σ H' p2 => ?_)
    · obtain ⟨G', vs, fs, y4, y5, y6, rfl, sg, W4, gp', hv, hR, hB, hlen⟩ := p2
      have W5 : Wd b c (upd G' p (.lst vs)) H' := W4.keep hv pb pc
      refine ⟨_, rfl, _, rfl, b, c, _, (n : Int), rfl, W5, by omega, by omega, fun i H2 W6 i0 i1 => ?_⟩
      refine ⟨_, rfl, _, rfl, b, c, _, (n : Int), rfl, W6, by omega, by omega, fun j H3 W7 j0 j1 => ?_⟩
      have hv3 : H3 p = some (.lst vs) := W7.gh _ _ upd_same
      refine ⟨_, rfl, .inl ⟨rfl, _, SqL.of hv3⟩, _, rfl, _, rfl, _, rfl, b, c, _, rfl, W7, fun x H4 W8 _ _ => ?_⟩
      refine ⟨sz (by show 3 ≤ 100000; decide), fun a ha => ?_⟩
      have hv4 : H4 p = some (.lst vs) := W8.gh _ _ upd_same
      have nap : a ≠ p := Ne.symm (ne_of_none hv4 ha)
      have W9 : Wd b c G' H4 := W8.weak (same_upd gp')
      have g1 := Gr.new (o := .tup [.int i, .int j, .int x]) W9.gh ha
      have W10 := W9.gr g1
      refine ⟨p, vs, .ref a, rfl, rfl, by rw [upd_ne (Ne.symm nap)]; exact hv4, szl (by rw [hR.1, hlen]; have : t < r.toNat := ht; omega), ?_⟩
      have gpa : upd G' a (.tup [.int i, .int j, .int x]) p = none := by rw [upd_ne (Ne.symm nap)]; exact gp'
      refine ⟨upd G' a (.tup [.int i, .int j, .int x]), vs ++ [.ref a], fs ++ [(i.toNat, j.toNat, x)], _, _, _, rfl, sg.trans g1.gg, W10.mut gpa pb pc, gpa, upd_same, ?_, below_snoc hB (by omega) (by omega), by rw [List.length_append, hlen]; rfl⟩
      refine ⟨by rw [List.length_append, List.length_append, hR.1]; rfl, fun l f hf => ?_⟩
      rw [List.getElem?_append] at hf ⊢
      by_cases hl : l < fs.length
      · rw [if_pos hl] at hf
        rw [if_pos (by rw [hR.1]; exact hl)]
        obtain ⟨t1, t2, t3⟩ := hR.2 l f hf
        exact ⟨t1, t2, g1.gg _ _ t3⟩
      · rw [if_neg hl] at hf
        rw [if_neg (by rw [hR.1]; exact hl), hR.1]
        cases e : l - fs.length with
        | zero =>
          rw [e] at hf
          have ef : (i.toNat, j.toNat, x) = f := Option.some.inj hf
          subst ef
          refine ⟨a, rfl, ?_⟩
          rw [upd_same]
          show some (HO.tup [.int i, .int j, .int x]) = some (HO.tup [.int ((i.toNat : Nat) : Int), .int ((j.toNat : Nat) : Int), .int x])
          rw [Int.toNat_of_nonneg i0, Int.toNat_of_nonneg j0]
        | succ z =>
          rw [e] at hf
          simp at hf
    · obtain ⟨G', vs, fs, y4, y5, y6, rfl, sg, W4, gp', hv, hR, hB, hlen⟩ := p2
      exact ⟨_, rfl, q G' H' p vs fs sg W4 gp' pb pc hv hR hB (by omega)⟩
end
end Pl

namespace Pl
open PySem L2
/-- nothing is known -/
def H0 : Hp := fun _ => none
theorem same0 (H : Hp) : Same H0 H := fun _ _ h => nomatch h
theorem Wd.begin {b c : Addr} {H : Hp} (x : BoxAt b c H) : Wd b c H0 H := ⟨x, same0 H, rfl, rfl⟩
theorem Rows.at {G : Hp} {p : Addr} {vs : List V} {fs : List BF.Fact} (h : G p = some (.lst vs)) (r : Rows G vs fs) : FactsAt G p fs := ⟨vs, h, r.1, r.2⟩
theorem Rows.same {G G' : Hp} {vs : List V} {fs : List BF.Fact} (r : Rows G vs fs) (s : Same G G') : Rows G' vs fs := ⟨r.1, fun i f e => by
  obtain ⟨t, t1, t2⟩ := r.2 i f e
  exact ⟨t, t1, s _ _ t2⟩⟩
theorem Rows.snoc {G : Hp} {vs : List V} {fs : List BF.Fact} {f : BF.Fact} {a : Addr} (r : Rows G vs fs) (h : G a = some (tup3 f)) : Rows G (vs ++ [.ref a]) (fs ++ [f]) := by
  refine ⟨by rw [List.length_append, List.length_append, r.1]; rfl, fun l g hf => ?_⟩
  rw [List.getElem?_append] at hf ⊢
  by_cases hl : l < fs.length
  · rw [if_pos hl] at hf
    rw [if_pos (by rw [r.1]; exact hl)]
    exact r.2 l g hf
  · rw [if_neg hl] at hf
    rw [if_neg (by rw [r.1]; exact hl), r.1]
    cases e : l - fs.length with
    | zero =>
      rw [e] at hf
      have ef : f = g := Option.some.inj hf
      subst ef
      exact ⟨a, rfl, h⟩
    | succ z =>
      rw [e] at hf
      simp at hf
def spLaw (K : PySem.W.Frag) : Sp := fun vs H Q _ => ∃ (a : Addr) (ns : List Int), vs = [.ref a] ∧ SqL K H a (ns.map V.int) ∧ ns.length ≤ 63 ∧ ∀ H', Q (.bl true) H'
end Pl

namespace Pl
open PySem L2
namespace BFx
open BF
def collect (fs : List Fact) (O : Nat → Option Nat) (start : Nat) : Nat → Nat → List Nat
  | 0, _ => []
  | fuel + 1, v => if v = start then [] else (O v).getD 0 :: collect fs O start fuel (pd fs O v)
def ringL (fs : List Fact) (n : Nat) (O : Nat → Option Nat) (x : Nat) : List Nat :=
  (O (itr fs O x n)).getD 0 :: collect fs O (itr fs O x n) n (pd fs O (itr fs O x n))
theorem collect_self {fs : List Fact} {O : Nat → Option Nat} {start : Nat} : ∀ m, collect fs O start m start = []
  | 0 => rfl
  | m + 1 => by unfold collect; rw [if_pos rfl]
theorem collect_step {fs : List Fact} {O : Nat → Option Nat} {start m v : Nat} (h : v ≠ start) : collect fs O start (m + 1) v = (O v).getD 0 :: collect fs O start m (pd fs O v) := by
  show (if v = start then [] else (O v).getD 0 :: collect fs O start m (pd fs O v)) = _
  rw [if_neg h]
end BFx
open BFx
theorem flat_rep {α : Type} (x : α) : ∀ n, (List.replicate n [x]).flatten = List.replicate n x
  | 0 => rfl
  | n + 1 => by
    rw [List.replicate_succ, List.flatten_cons, flat_rep x n]
    rfl
theorem rep_map {α : Type} (x : α) (n : Nat) : List.replicate n x = (List.range n).map fun _ => x := by
  refine List.ext_getElem? fun i => ?_
  rw [List.getElem?_map, List.getElem?_replicate]
  by_cases h : i < n
  · rw [if_pos h, List.getElem?_range h]
    rfl
  · rw [if_neg h, List.getElem?_eq_none (by rw [List.length_range]; omega)]
    rfl
theorem rep_vl0 (n : Nat) : (List.replicate ((n : Int).toNat) [V.int 0]).flatten = vl n (fun _ => some 0) := by
  rw [Int.toNat_natCast, flat_rep, rep_map]
  rfl
theorem rep_vlN (n : Nat) : (List.replicate ((n : Int).toNat) [V.non]).flatten = vl n (fun _ => none) := by
  rw [Int.toNat_natCast, flat_rep, rep_map]
  rfl
theorem rep_olN (n : Nat) : (List.replicate ((n : Int).toNat) [V.non]).flatten = ol n (fun _ => none) := by
  rw [Int.toNat_natCast, flat_rep, rep_map]
  rfl
def nV (i : Nat) : V := .int (i : Nat)
open BF in
/-- reading the fact behind a variable's origin -/
theorem def_read {H : Hp} {fa : Addr} {fs : List Fact} {ts : List V} {O : Nat → Option Nat} {v : Nat} (ha : H fa = some (.lst ts)) (hx : ∀ (i : Nat) (f : Fact), fs[i]? = some f → ∃ t, ts[i]? = some (.ref t) ∧ H t = some (tup3 f)) (hd : Def fs O v) :
    ∃ (p : Nat) (c : Int) (t : Addr), O v = some p ∧ atI ts (p : Int) = some (.ref t) ∧ H t = some (tup3 (v, pd fs O v, c)) := by
  obtain ⟨p, u, c, h1, h2⟩ := hd
  obtain ⟨t, t1, t2⟩ := hx p _ h2
  rw [Def.pd h1 h2]
  exact ⟨p, c, t, h1, atI_nat t1, t2⟩
section
variable {P : Program} {w : World} {K : PySem.W.Frag} {mg : Str → Option Value} {base : Heap}
open BF in
def spRingBehind : Sp := fun vs H Q _ => ∃ (n x : Nat) (fa oa : Addr) (fs : List Fact) (O : Nat → Option Nat), vs = [.int (n : Nat), .ref fa, .ref oa, .int (x : Nat)] ∧ FactsAt H fa fs ∧ H oa = some (.lst (ol n O)) ∧ Below n fs ∧ x < n ∧ n ≤ 1000 ∧
  (∀ t, Def fs O (itr fs O x t)) ∧ (∃ m, 0 < m ∧ m ≤ n ∧ itr fs O x (n + m) = itr fs O x n) ∧ ∀ H' p, Same H H' → H p = none → H' p = some (.tup ((ringL fs n O x).map nV)) → Q (.ref p) H'
open BF in
theorem ok_ring_behind (T : Txt K mg) {k : Nat} : FnOk P w K mg base CX0 (k + 1) T.ring_behind.f T.ring_behind.fd ["count", "facts", "origins", "lowered"] spRingBehind := by
  refine T.ring_behind.F.ok sc_ring_behind (fun vs H Q E h => ?_) (fun cdv A outer s H vs Q E hr h => ?_)
  · obtain ⟨n, x, fa, oa, fs, O, rfl, _⟩ := h
    rfl
  · obtain ⟨n, x, fa, oa, fs, O, rfl, ⟨ts, ha, hl, hx⟩, ho, hb, xn, nn, hd, ⟨m0, m1, m2, m3⟩, q⟩ := h
    have rd : ∀ t, ∃ (p : Nat) (c : Int) (a : Addr), O (itr fs O x t) = some p ∧ atI ts (p : Int) = some (.ref a) ∧ H a = some (tup3 (itr fs O x t, pd fs O (itr fs O x t), c)) := fun t => def_read ha hx (hd t)
    have lt : ∀ t, itr fs O x t < n := itr_lt hb xn
    refine ⟨_, (pss_cons (ps_set (i := 4) sc_ring_behind.nd rfl (.inl rfl) (pv 3))
  (pss_cons (ps_for PassesOwn.never rfl (pi_range1 (by rfl) T.n_range (pa_cons (pv 0) pa_nil)) (pg_name (i := 5) sc_ring_behind.nd rfl (.inl rfl))
   (pss_one (ps_set (i := 4) sc_ring_behind.nd rfl (.inl rfl) (pe_ix ix_tup (pe_ix ix_list (pv 1) (pe_ix ix_list (pv 2) (pv 4) (fun _ _ => rfl)) (fun _ _ => rfl)) pe_int (fun _ _ => rfl)))))
  (pss_cons (ps_set (i := 6) sc_ring_behind.nd rfl (.inl rfl) (pe_lst (pa_cons (pe_ix ix_list (pv 2) (pv 4) (fun _ _ => rfl)) pa_nil)))
  (pss_cons (ps_set (i := 7) sc_ring_behind.nd rfl (.inl rfl) (pe_ix ix_tup (pe_ix ix_list (pv 1) (pe_ix ix_list (pv 2) (pv 4) (fun _ _ => rfl)) (fun _ _ => rfl)) pe_int (fun _ _ => rfl)))
  (pss_cons (ps_while PassesOwn.never (pt_cmpR op_ne (pv 7) (pv 4) (nomark _)) (pss_cons (ps_expr (pe_bm PySem.F.plainAttrs_list PySem.F.slot_list_append PySem.F.type_list_append mt_append (pv 6) (pa_cons (pe_ix ix_list (pv 2) (pv 7) (fun _ _ => rfl)) pa_nil)))
  (pss_one (ps_set (i := 7) sc_ring_behind.nd rfl (.inl rfl) (pe_ix ix_tup (pe_ix ix_list (pv 1) (pe_ix ix_list (pv 2) (pv 7) (fun _ _ => rfl)) (fun _ _ => rfl)) pe_int (fun _ _ => rfl))))))
  (pss_one (ps_ret (pe_callTy call_tuple_of (by rfl) T.n_tuple (by decide +kernel) (pa_cons (pv 6) pa_nil))))))))), ?_⟩
    refine ⟨.int (x : Nat), rfl, .int (n : Nat), rfl, (n : Int), rfl, by omega, by omega, ?_⟩
    refine for_range (lo := 0) (n := ((n : Int)).toNat) (fun t σ H' => H' = H ∧ ∃ y5 y6 y7, σ = [some (.int (n : Nat)), some (.ref fa), some (.ref oa), some (.int (x : Nat)), some (.int (itr fs O x t : Nat)), y5, y6, y7]) ⟨rfl, none, none, none, rfl⟩ (fun t σ H' _ p => ?_) (fun σ H' p => ?_)
    · obtain ⟨rfl, y5, y6, y7, rfl⟩ := p
      obtain ⟨p, c, a, h1, h2, h3⟩ := rd t
      refine ⟨.ref fa, rfl, .ref oa, rfl, .int (itr fs O x t : Nat), rfl, oa, _, _, _, rfl, rfl, SqL.of ho, ol_at (lt t), fa, _, (p : Int), .ref a, rfl, by rw [h1]; rfl, SqL.of ha, h2, a, _, 1, .int (pd fs O (itr fs O x t) : Nat), rfl, rfl, SqT.of h3, rfl, ?_⟩
      exact ⟨rfl, _, y6, y7, rfl⟩
    · obtain ⟨rfl, y5, y6, y7, rfl⟩ := p
      have en : ((n : Int)).toNat = n := rfl
      rw [en]
      obtain ⟨p, c, a, h1, h2, h3⟩ := rd n
      -- found = [origins[start]]
      refine ⟨.ref oa, rfl, .int (itr fs O x n : Nat), rfl, oa, _, _, _, rfl, rfl, SqL.of ho, ol_at (lt n), sz (by show 1 ≤ 100000; decide), fun fo hfo => ?_⟩
      have s1 : ∀ xs, Same H' (upd H' fo (.lst xs)) := fun xs => same_upd hfo
      have e1 : ([oN (O (itr fs O x n))] : List V) = [(O (itr fs O x n)).getD 0].map nV := by rw [h1]; rfl
      rw [e1]
      -- place = facts[origins[start]][1]
      refine ⟨.ref fa, rfl, .ref oa, rfl, .int (itr fs O x n : Nat), rfl, oa, _, _, _, rfl, rfl, SqL.of (s1 _ _ _ ho), ol_at (lt n), fa, _, (p : Int), .ref a, rfl, by rw [h1]; rfl, SqL.of (s1 _ _ _ ha), h2, a, _, 1, .int (pd fs O (itr fs O x n) : Nat), rfl, rfl, SqT.of (s1 _ _ _ h3), rfl, ?_⟩
      -- the loop
      refine ⟨fun m σ H2 => ∃ (j : Nat) (ns : List Nat), σ = [some (.int (n : Nat)), some (.ref fa), some (.ref oa), some (.int (x : Nat)), some (.int (itr fs O x n : Nat)), y5, some (.ref fo), some (.int (itr fs O x j : Nat))] ∧ Same H' H2 ∧ H2 fo = some (.lst (ns.map nV)) ∧
        ringL fs n O x = ns ++ collect fs O (itr fs O x n) m (itr fs O x j) ∧ (∃ d, d ≤ m ∧ itr fs O (itr fs O x j) d = itr fs O x n) ∧ ns.length + m ≤ n + 1, ⟨n, n + 1, [(O (itr fs O x n)).getD 0], rfl, s1 _, upd_same, rfl, ⟨m0 - 1, by omega, ?_⟩, by show 1 + n ≤ n + 1; omega⟩, fun m σ H2 hW => ?_⟩
      · rw [← itr_add, show n + 1 + (m0 - 1) = n + m0 by omega]
        exact m3
      · obtain ⟨j, ns, rfl, sm, hf, er, ⟨d, d1, d2⟩, hn⟩ := hW
        refine ⟨.int (itr fs O x j : Nat), rfl, .int (itr fs O x n : Nat), rfl, rfl, _, rfl, ?_⟩
        by_cases he : itr fs O x j = itr fs O x n
        · refine iF (by rw [he]; simp) ?_
          rw [he, collect_self, List.append_nil] at er
          refine ⟨.ref fo, rfl, fo, _, rfl, .inl ⟨SqL.of hf, fun l hl2 => ?_⟩⟩
          exact q _ l (sm.trans (same_upd hl2)) (sm.free hl2) (by rw [upd_same, er])
        · refine iT (by
            rw [decide_eq_false (fun e => he (by have := V.int.inj e; omega))]
            rfl) ?_
          have dp : 0 < d := by
            cases d with
            | zero => exact absurd d2 he
            | succ d => exact Nat.succ_pos _
          obtain ⟨m', rfl⟩ : ∃ m', m = m' + 1 := ⟨m - 1, by omega⟩
          obtain ⟨pj, cj, aj, g1, g2, g3⟩ := rd j
          refine ⟨_, fun σ' H3 hN => ⟨m', by omega, hN⟩, ?_⟩
          refine ⟨.ref fo, rfl, .inl ⟨rfl, _, SqL.of hf⟩, .ref oa, rfl, .int (itr fs O x j : Nat), rfl, oa, _, _, _, rfl, rfl, SqL.of (sm _ _ ho), ol_at (lt j), fo, _, _, rfl, rfl, hf, szl (by rw [List.length_map]; omega), ?_⟩
          have s2 : Same H' (upd H2 fo (.lst (ns.map nV ++ [oN (O (itr fs O x j))]))) := same_mut sm hfo
          refine ⟨.ref fa, rfl, .ref oa, rfl, .int (itr fs O x j : Nat), rfl, oa, _, _, _, rfl, rfl, SqL.of (s2 _ _ ho), ol_at (lt j), fa, _, (pj : Int), .ref aj, rfl, by rw [g1]; rfl, SqL.of (s2 _ _ ha), g2, aj, _, 1, .int (pd fs O (itr fs O x j) : Nat), rfl, rfl, SqT.of (s2 _ _ g3), rfl, ?_⟩
          refine ⟨j + 1, ns ++ [pj], rfl, s2, ?_, ?_, ⟨d - 1, by omega, ?_⟩, ?_⟩
          · rw [upd_same, g1, List.map_append]
            rfl
          · rw [er, collect_step he, g1, List.append_assoc]
            rfl
          · rw [← itr_add] at d2 ⊢
            rw [show j + 1 + (d - 1) = j + d by omega]
            exact d2
          · rw [List.length_append]
            show ns.length + 1 + m' ≤ n + 1
            omega
open BF in
def RingRes (fs : List Fact) (n : Nat) (H H' : Hp) (v : V) : Prop := ((fin fs n).L = none ∧ v = .non) ∨ ∃ x p, (fin fs n).L = some x ∧ v = .ref p ∧ H p = none ∧ H' p = some (.tup ((ringL fs n (fin fs n).O x).map nV))
open BF in
def spRing : Sp := fun vs H Q _ => ∃ (n : Nat) (a : Addr) (fs : List Fact), vs = [.int (n : Nat), .ref a] ∧ FactsAt H a fs ∧ Below n fs ∧ 1 ≤ n ∧ n ≤ 1000 ∧ ∀ H' v, Same H H' → RingRes fs n H H' v → Q v H'
open BF in
theorem ok_ring (T : Txt K mg) {k : Nat} : FnOk P w K mg base CX0 (k + 4) T.ring.f T.ring.fd ["count", "facts"] spRing := by
  have G_check_facts : FnOk P w K mg base CX0 (k + 3) T.check_facts.f T.check_facts.fd ["count", "facts"] spCheckFacts := ok_check_facts T
  have G_relaxed : FnOk P w K mg base CX0 (k + 3) T.relaxed.f T.relaxed.fd ["facts", "values", "origins"] spRelaxed := ok_relaxed T
  have G_ring_behind : FnOk P w K mg base CX0 (k + 3) T.ring_behind.f T.ring_behind.fd ["count", "facts", "origins", "lowered"] spRingBehind := ok_ring_behind T
  refine T.ring.F.ok sc_ring (fun vs H Q E h => ?_) (fun cdv A outer s H vs Q E hr h => ?_)
  · obtain ⟨n, a, fs, rfl, _⟩ := h
    rfl
  · obtain ⟨n, a, fs, rfl, hF, hb, n1, n2, q⟩ := h
    refine ⟨_, (pss_cons (ps_expr (pe_call G_check_facts (hr.mono (by omega)) (by rfl) T.check_facts.g T.check_facts.F.kp T.check_facts.b .nil pass0 (pa_cons (pv 0) (pa_cons (pv 1) pa_nil))))
  (pss_cons (ps_set (i := 2) sc_ring.nd rfl (.inl rfl) (pe_op op_rep (pe_lst (pa_cons pe_int pa_nil)) (pv 0)))
  (pss_cons (ps_set (i := 3) sc_ring.nd rfl (.inl rfl) (pe_op op_rep (pe_lst (pa_cons pe_non pa_nil)) (pv 0)))
  (pss_cons (ps_for PassesOwn.never rfl (pi_range1 (by rfl) T.n_range (pa_cons (pv 0) pa_nil)) (pg_name (i := 4) sc_ring.nd rfl (.inl rfl))
   (pss_cons (ps_set (i := 5) sc_ring.nd rfl (.inl rfl) (pe_call G_relaxed (hr.mono (by omega)) (by rfl) T.relaxed.g T.relaxed.F.kp T.relaxed.b .nil pass0 (pa_cons (pv 1) (pa_cons (pv 2) (pa_cons (pv 3) pa_nil)))))
  (pss_one (ps_if (pt_cmpR op_isN (pv 5) pe_non (nomark _)) (pss_one (ps_ret pe_non)) pss_nil))))
  (pss_one (ps_ret (pe_call G_ring_behind (hr.mono (by omega)) (by rfl) T.ring_behind.g T.ring_behind.F.kp T.ring_behind.b .nil pass0 (pa_cons (pv 0) (pa_cons (pv 1) (pa_cons (pv 3) (pa_cons (pv 5) pa_nil))))))))))), ?_⟩
    refine ⟨_, rfl, _, rfl, n, a, fs, rfl, hF, hb, fun H1 s1 => ?_⟩
    refine ⟨sz (by show 1 ≤ 100000; decide), fun p1 hp1 => ?_⟩
    have s2 : Same H (upd H1 p1 (.lst [.int 0])) := s1.trans (same_upd hp1)
    refine ⟨_, rfl, p1, (n : Int), _, rfl, rfl, upd_same, by omega, by omega, sz (by show 1 * n ≤ 100000; omega), fun va hva => ?_⟩
    rw [rep_vl0]
    have s3 := s2.trans (same_upd (o := .lst (vl n fun _ => some 0)) hva)
    have va0 : H va = none := s2.free hva
    have hv0 : upd (upd H1 p1 (.lst [.int 0])) va (.lst (vl n fun _ => some 0)) va = some (.lst (vl n fun _ => some 0)) := upd_same
    generalize upd (upd H1 p1 (.lst [.int 0])) va (.lst (vl n fun _ => some 0)) = H2 at s3 hv0 ⊢
    refine ⟨sz (by show 1 ≤ 100000; decide), fun p2 hp2 => ?_⟩
    have s4 : Same H (upd H2 p2 (.lst [.non])) := s3.trans (same_upd hp2)
    have hv1 := same_upd (o := .lst [.non]) hp2 _ _ hv0
    refine ⟨_, rfl, p2, (n : Int), _, rfl, rfl, upd_same, by omega, by omega, sz (by show 1 * n ≤ 100000; omega), fun oa hoa => ?_⟩
    rw [rep_olN]
    have s5 := s4.trans (same_upd (o := .lst (ol n fun _ => none)) hoa)
    have oa0 : H oa = none := s4.free hoa
    have hv2 := same_upd (o := .lst (ol n fun _ => none)) hoa _ _ hv1
    have ho2 : upd (upd H2 p2 (.lst [.non])) oa (.lst (ol n fun _ => none)) oa = some (.lst (ol n fun _ => none)) := upd_same
    have nvo : va ≠ oa := ne_of_none hv1 hoa
    generalize upd (upd H2 p2 (.lst [.non])) oa (.lst (ol n fun _ => none)) = H3 at s5 hv2 ho2 ⊢
    have nfa : ∀ {z : Addr}, H z = none → a ≠ z := fun hz => by
      obtain ⟨ts, ha, _⟩ := hF
      exact ne_of_none ha hz
    -- the rounds
    refine ⟨_, rfl, (n : Int), rfl, by omega, by omega, ?_⟩
    refine for_range (lo := 0) (n := ((n : Int)).toNat) (fun t σ H' => Same H H' ∧ H' va = some (.lst (vl n (itS fs s0 t).V)) ∧ H' oa = some (.lst (ol n (itS fs s0 t).O)) ∧
      ∃ y4 y5, σ = [some (.int (n : Nat)), some (.ref a), some (.ref va), some (.ref oa), y4, y5] ∧ (1 ≤ t → y5 = some (lowV (itS fs s0 t).L) ∧ (itS fs s0 t).L ≠ none)) ⟨s5, hv2, ho2, none, none, rfl, fun h => absurd h (by omega)⟩ (fun t σ H' ht p => ?_) (fun σ H' p => ?_)
    · obtain ⟨sm, hv, ho, y4, y5, rfl, _⟩ := p
      refine ⟨_, rfl, _, rfl, _, rfl, n, a, va, oa, fs, itS fs s0 t, rfl, hF.same sm, hb, nfa va0, nfa oa0, nvo, hv, ho, fun H4 fr hv4 ho4 => ?_⟩
      have s6 : Same H H4 := fr.same sm va0 oa0
      have hv4 : H4 va = some (.lst (vl n (itS fs s0 (t + 1)).V)) := hv4
      have ho4 : H4 oa = some (.lst (ol n (itS fs s0 (t + 1)).O)) := ho4
      refine ⟨_, rfl, rfl, _, rfl, ?_⟩
      show if (decide (lowV (itS fs s0 (t + 1)).L = V.non)) = true then _ else _
      cases hL : (itS fs s0 (t + 1)).L with
      | none =>
        refine iT rfl ?_
        exact q H4 .non s6 (.inl ⟨(itS_L hL (by have : t < n := ht; omega)).1, rfl⟩)
      | some x =>
        refine iF rfl ?_
        refine ⟨s6, hv4, ho4, _, _, rfl, fun _ => ⟨?_, ?_⟩⟩
        · show some (lowV (round fs (itS fs s0 t)).L) = some (lowV (some x))
          rw [show (round fs (itS fs s0 t)).L = some x from hL]
        · exact fun z => nomatch z
    · have en : ((n : Int)).toNat = n := rfl
      rw [en] at p
      obtain ⟨sm, hv, ho, y4, y5, rfl, hy⟩ := p
      obtain ⟨ey, hne⟩ := hy n1
      cases hL : (itS fs s0 n).L with
      | none => exact absurd hL hne
      | some x =>
        rw [hL] at ey
        subst ey
        obtain ⟨xn, hd, hm, _⟩ := fin_cycle (s := s0) rfl n1 hb hL
        refine ⟨_, rfl, _, rfl, _, rfl, _, rfl, n, x, a, oa, fs, (itS fs s0 n).O, rfl, hF.same sm, ho, hb, xn, n2, hd, hm, fun H4 p s6 hp hp2 => ?_⟩
        exact q H4 (.ref p) (sm.trans s6) (.inr ⟨x, p, hL, rfl, sm.free hp, hp2⟩)
end
end Pl

namespace Pl
open PySem L2
namespace BFx
open BF
def gAt (fs : List Fact) (ps : List Nat) (i : Nat) : Fact := fs.getD (ps.getD i 0) (0, 0, 0)
def sumC (fs : List Fact) (ps : List Nat) : Nat → Int
  | 0 => 0
  | i + 1 => sumC fs ps i + (gAt fs ps i).2.2
def Chain (fs : List Fact) (ps : List Nat) : Prop := ∀ i, i < ps.length → (gAt fs ps i).2.1 = (gAt fs ps ((i + 1) % ps.length)).1
instance (fs : List Fact) (ps : List Nat) : Decidable (Chain fs ps) := by unfold Chain; exact inferInstance
def ringB (fs : List Fact) (ps : List Nat) : Bool := !ps.isEmpty && (decide (Chain fs ps) && decide (sumC fs ps ps.length < 0))
def prv (m i : Nat) : Nat := if i = 0 then m - 1 else i - 1
theorem chain_iff {fs : List Fact} {ps : List Nat} : Chain fs ps ↔ ∀ i, i < ps.length → (gAt fs ps i).1 = (gAt fs ps (prv ps.length i)).2.1 := by
  constructor
  · intro h i hi
    unfold prv
    by_cases e : i = 0
    · rw [if_pos e]
      have := h (ps.length - 1) (by omega)
      rw [this, show ps.length - 1 + 1 = ps.length by omega, Nat.mod_self, e]
    · rw [if_neg e]
      have := h (i - 1) (by omega)
      rw [this, show i - 1 + 1 = i by omega, Nat.mod_eq_of_lt hi]
  · intro h i hi
    by_cases e : i + 1 = ps.length
    · rw [e, Nat.mod_self]
      have := h 0 (by omega)
      rw [this]
      unfold prv
      rw [if_pos rfl, show ps.length - 1 = i by omega]
    · rw [Nat.mod_eq_of_lt (by omega)]
      have := h (i + 1) (by omega)
      rw [this]
      unfold prv
      rw [if_neg (by omega), Nat.add_sub_cancel]
theorem collect_map {fs : List Fact} {O : Nat → Option Nat} {st : Nat} : ∀ (fuel v : Nat), (∃ d, d ≤ fuel ∧ itr fs O v d = st) → ∃ m, itr fs O v m = st ∧ collect fs O st fuel v = (List.range m).map fun t => (O (itr fs O v t)).getD 0
  | 0, v, ⟨d, h1, h2⟩ => by
    have e : d = 0 := by omega
    subst e
    exact ⟨0, h2, rfl⟩
  | fuel + 1, v, ⟨d, h1, h2⟩ => by
    by_cases hv : v = st
    · exact ⟨0, hv, by rw [hv, collect_self]; rfl⟩
    · have hd : 0 < d := by
        cases d with
        | zero => exact absurd h2 hv
        | succ d => exact Nat.succ_pos _
      have ei : ∀ t, itr fs O (pd fs O v) t = itr fs O v (t + 1) := fun t => by
        rw [Nat.add_comm t 1, itr_add fs O v 1 t]
        rfl
      obtain ⟨m, m1, m2⟩ := collect_map (st := st) fuel (pd fs O v) ⟨d - 1, by omega, by rw [ei, show d - 1 + 1 = d by omega]; exact h2⟩
      refine ⟨m + 1, by rw [← ei]; exact m1, ?_⟩
      rw [collect_step hv, m2, List.range_succ_eq_map, List.map_cons, List.map_map]
      congr 1
      refine List.map_congr_left fun t _ => ?_
      show (O (itr fs O (pd fs O v) t)).getD 0 = (O (itr fs O v (t + 1))).getD 0
      rw [ei]
theorem ringL_map {fs : List Fact} {O : Nat → Option Nat} {n x : Nat} (h : ∃ m, 0 < m ∧ m ≤ n ∧ itr fs O x (n + m) = itr fs O x n) :
    ∃ m, itr fs O (itr fs O x n) (m + 1) = itr fs O x n ∧ ringL fs n O x = (List.range (m + 1)).map fun t => (O (itr fs O (itr fs O x n) t)).getD 0 := by
  obtain ⟨m, m0, m1, m2⟩ := h
  have ei : ∀ t, itr fs O (pd fs O (itr fs O x n)) t = itr fs O (itr fs O x n) (t + 1) := fun t => by
    rw [Nat.add_comm t 1, itr_add fs O (itr fs O x n) 1 t]
    rfl
  obtain ⟨k, k1, k2⟩ := collect_map (fs := fs) (O := O) (st := itr fs O x n) n (pd fs O (itr fs O x n)) ⟨m - 1, by omega, by rw [ei, show m - 1 + 1 = m by omega, ← itr_add]; exact m2⟩
  refine ⟨k, by rw [← ei]; exact k1, ?_⟩
  unfold ringL
  rw [k2, List.range_succ_eq_map, List.map_cons, List.map_map]
  congr 1
  refine List.map_congr_left fun t _ => ?_
  show (O (itr fs O (pd fs O (itr fs O x n)) t)).getD 0 = (O (itr fs O (itr fs O x n) (t + 1))).getD 0
  rw [ei]
theorem wk_snoc {fs : List Fact} {O : Nat → Option Nat} {v n u p z : Nat} {s c : Int} (w : Wk fs O v n u s) (h1 : O u = some p) (h2 : fs[p]? = some (u, z, c)) : Wk fs O v (n + 1) z (s + c) := by
  induction w with
  | nil v =>
    have := Wk.cons h1 h2 (Wk.nil z)
    rw [show (0 : Int) + c = c + 0 by omega]
    exact this
  | cons g1 g2 g3 ih =>
    have := Wk.cons g1 g2 (ih h1 h2)
    rw [Int.add_assoc]
    exact this
theorem getD_map {α β : Type} (f : α → β) (l : List α) (i : Nat) (d : β) (h : i < l.length) : (l.map f).getD i d = f l[i] := by
  rw [List.getD_eq_getElem?_getD, List.getElem?_map, List.getElem?_eq_getElem h]
  rfl
/-- the ring that is handed back is one -/
theorem ringL_ok {fs : List Fact} {O : Nat → Option Nat} {n x : Nat} (hd : ∀ t, Def fs O (itr fs O x t)) (h : ∃ m, 0 < m ∧ m ≤ n ∧ itr fs O x (n + m) = itr fs O x n) (hn : ∀ v m s', 0 < m → Wk fs O v m v s' → s' < 0) :
    (∀ p ∈ ringL fs n O x, p < fs.length) ∧ ringB fs (ringL fs n O x) = true ∧ (ringL fs n O x).length ≤ n + 1 := by
  have hlen : ∀ (fuel v : Nat), (collect fs O (itr fs O x n) fuel v).length ≤ fuel := by
    intro fuel
    induction fuel with
    | zero => intro v; exact Nat.le_refl _
    | succ f ih =>
      intro v
      unfold collect
      split
      · exact Nat.zero_le _
      · exact Nat.succ_le_succ (ih _)
  obtain ⟨m, m1, m2⟩ := ringL_map h
  have hd' : ∀ t, Def fs O (itr fs O (itr fs O x n) t) := fun t => by rw [← itr_add]; exact hd _
  have hl0 : (ringL fs n O x).length ≤ n + 1 := Nat.succ_le_succ (hlen _ _)
  generalize itr fs O x n = st at m1 m2 hd'
  have L : (ringL fs n O x).length = m + 1 := by rw [m2, List.length_map, List.length_range]
  have ga : ∀ i, i < m + 1 → ∃ p c, O (itr fs O st i) = some p ∧ fs[p]? = some (itr fs O st i, itr fs O st (i + 1), c) ∧ gAt fs (ringL fs n O x) i = (itr fs O st i, itr fs O st (i + 1), c) := by
    intro i hi
    obtain ⟨p, u, c, h1, h2⟩ := hd' i
    have eu : itr fs O st (i + 1) = u := Def.pd h1 h2
    refine ⟨p, c, h1, by rw [eu]; exact h2, ?_⟩
    unfold gAt
    rw [m2, getD_map _ _ _ _ (by rw [List.length_range]; exact hi), List.getElem_range, h1, List.getD_eq_getElem?_getD]
    show (fs[p]?).getD (0, 0, 0) = _
    rw [h2, eu]
    rfl
  refine ⟨?_, ?_, hl0⟩
  · intro p hp
    rw [m2] at hp
    obtain ⟨t, _, e⟩ := List.mem_map.mp hp
    obtain ⟨p', u, c, h1, h2⟩ := hd' t
    rw [h1] at e
    have e : p' = p := e
    rw [← e]
    exact (List.getElem?_eq_some_iff.mp h2).1
  · have hw : ∀ i, i ≤ m + 1 → Wk fs O st i (itr fs O st i) (sumC fs (ringL fs n O x) i) := by
      intro i
      induction i with
      | zero => intro _; exact Wk.nil _
      | succ i ih =>
        intro hi
        obtain ⟨p, c, h1, h2, h3⟩ := ga i (by omega)
        have := wk_snoc (ih (by omega)) h1 h2
        unfold sumC
        rw [h3]
        exact this
    have hneg : sumC fs (ringL fs n O x) (m + 1) < 0 := hn st (m + 1) _ (Nat.succ_pos _) (by
      have := hw (m + 1) (Nat.le_refl _)
      rw [m1] at this
      exact this)
    have hch : Chain fs (ringL fs n O x) := by
      intro i hi
      rw [L] at hi ⊢
      obtain ⟨p, c, h1, h2, h3⟩ := ga i hi
      rw [h3]
      by_cases e : i = m
      · subst e
        rw [Nat.mod_self]
        obtain ⟨p', c', g1, g2, g3⟩ := ga 0 (Nat.succ_pos _)
        rw [g3]
        exact m1
      · rw [Nat.mod_eq_of_lt (by omega)]
        obtain ⟨p', c', g1, g2, g3⟩ := ga (i + 1) (by omega)
        rw [g3]
    unfold ringB
    rw [L, decide_eq_true hch, decide_eq_true hneg]
    have : (ringL fs n O x).isEmpty = false := by
      cases e : ringL fs n O x with
      | nil => rw [e] at L; cases L
      | cons a r => rfl
    rw [this]
    rfl
end BFx
def vN : V → Nat
  | .int i => i.toNat
  | _ => 0
def okP (n : Nat) : V → Bool
  | .int i => decide (0 ≤ i) && decide (i < (n : Int))
  | _ => false
open BFx in
def isRingV (fs : List BF.Fact) (xs : List V) : Bool := xs.all (okP fs.length) && ringB fs (xs.map vN)
theorem okP_map {n : Nat} : ∀ {xs : List V}, xs.all (okP n) = true → ∃ ps : List Nat, xs = ps.map nV ∧ xs.map vN = ps ∧ ∀ p ∈ ps, p < n
  | [], _ => ⟨[], rfl, rfl, fun _ h => nomatch h⟩
  | x :: r, h => by
    rw [List.all_cons, Bool.and_eq_true] at h
    obtain ⟨ps, e1, e2, e3⟩ := okP_map h.2
    have hx := h.1
    cases x with
    | int i =>
      have hx : (decide (0 ≤ i) && decide (i < (n : Int))) = true := hx
      rw [Bool.and_eq_true, decide_eq_true_eq, decide_eq_true_eq] at hx
      refine ⟨i.toNat :: ps, ?_, ?_, ?_⟩
      · rw [List.map_cons, ← e1]
        show V.int i :: r = V.int ((i.toNat : Nat) : Int) :: r
        rw [Int.toNat_of_nonneg hx.1]
      · rw [List.map_cons, e2]
        rfl
      · intro p hp
        rcases List.mem_cons.mp hp with rfl | hp
        · omega
        · exact e3 p hp
    | _ => exact nomatch hx
theorem all_take_add {α : Type} {xs : List α} {f : α → Bool} {i : Nat} {x : α} (h : xs[i]? = some x) (h1 : (xs.take i).all f = true) (h2 : f x = true) : (xs.take (i + 1)).all f = true := by
  rw [List.take_add_one, h, List.all_append, h1]
  show (true && ([x].all f)) = true
  rw [List.all_cons, h2]
  rfl
theorem all_false {α : Type} {xs : List α} {f : α → Bool} {i : Nat} {x : α} (h : xs[i]? = some x) (h2 : f x = false) : xs.all f = false := by
  cases e : xs.all f with
  | false => rfl
  | true =>
    have := List.all_eq_true.mp e x (List.mem_of_getElem? h)
    rw [h2] at this
    cases this
open BFx in
theorem fact_read {H : Hp} {fs : List BF.Fact} {ts ps : List _} (hx : ∀ (i : Nat) (f : BF.Fact), fs[i]? = some f → ∃ t, (ts : List V)[i]? = some (.ref t) ∧ H t = some (tup3 f)) (hp : ∀ p ∈ ps, p < fs.length) {i : Nat} (hi : i < ps.length) :
    ∃ t, atI (ps.map nV) (i : Int) = some (.int (ps[i] : Nat)) ∧ atI ts ((ps[i] : Nat) : Int) = some (.ref t) ∧ H t = some (tup3 (gAt fs ps i)) := by
  have h1 := hp _ (List.getElem_mem hi)
  obtain ⟨t, t1, t2⟩ := hx ps[i] _ (List.getElem?_eq_getElem h1)
  have e : gAt fs ps i = fs[ps[i]] := by
    unfold gAt
    rw [List.getD_eq_getElem?_getD, List.getD_eq_getElem?_getD, List.getElem?_eq_getElem hi]
    show (fs[ps[i]]?).getD _ = _
    rw [List.getElem?_eq_getElem h1]
    rfl
  refine ⟨t, atI_nat (by rw [List.getElem?_map, List.getElem?_eq_getElem hi]; rfl), atI_nat t1, ?_⟩
  rw [e]
  exact t2
section
variable {P : Program} {w : World} {K : PySem.W.Frag} {mg : Str → Option Value} {base : Heap}
def spIsRing : Sp := fun vs H Q _ => ∃ (fa : Addr) (v : V) (fs : List BF.Fact), vs = [.ref fa, v] ∧ FactsAt H fa fs ∧ fs.length ≤ 1000 ∧
  ((∃ t, Ty H v t ∧ t ≠ "tuple" ∧ Q (.bl false) H) ∨ (∃ a xs, v = .ref a ∧ H a = some (.tup xs) ∧ xs.length ≤ 1000 ∧ (∀ x ∈ xs, ∃ t, Ty H x t) ∧ Q (.bl (isRingV fs xs)) H))
open BFx in
theorem ok_is_ring (T : Txt K mg) {k : Nat} : FnOk P w K mg base CX0 (k + 2) T.is_ring.f T.is_ring.fd ["facts", "thing"] spIsRing := by
  have G_is_integer : FnOk P w K mg base CX0 (k + 1) T.is_integer.f T.is_integer.fd ["value"] spIsInteger := ok_is_integer T
  refine T.is_ring.F.ok sc_is_ring (fun vs H Q E h => ?_) (fun cdv A outer s H vs Q E hr h => ?_)
  · obtain ⟨fa, v, fs, rfl, _⟩ := h
    rfl
  · obtain ⟨fa, v, fs, rfl, ⟨ts, ha, hl, hx⟩, hfl, h⟩ := h
    refine ⟨_, (pss_cons (ps_if (PW.pt (pw_or (pt_not (pt_val (pe_callB call_isi (by rfl) T.n_isinstance (by decide +kernel) (pa_cons (pv 1) (pa_cons (pe_bltn (v := .ty "tuple") (by rfl) T.n_tuple (by decide +kernel) rfl) pa_nil))))) (pw_or1 (pt_cmpR op_eq (pe_callB call_len_seq (by rfl) T.n_len PySem.boot_len (pa_cons (pv 1) pa_nil)) pe_int (nomark _))))) (pss_one (ps_ret pe_bl)) pss_nil)
  (pss_cons (ps_for PassesOwn.never rfl (pi_tup (pv 1)) (pg_name (i := 2) sc_is_ring.nd rfl (.inl rfl))
   (pss_one (ps_if (PW.pt (pw_or (pt_not (pt_val (pe_call G_is_integer (hr.mono (by omega)) (by rfl) T.is_integer.g T.is_integer.F.kp T.is_integer.b .nil pass0 (pa_cons (pv 2) pa_nil)))) (pw_or1 (pt_not (pt_chain op_le op_lt pe_int (pv 2) (pe_callB call_len_seq (by rfl) T.n_len PySem.boot_len (pa_cons (pv 0) pa_nil))))))) (pss_one (ps_ret pe_bl)) pss_nil)))
  (pss_cons (ps_set (i := 3) sc_is_ring.nd rfl (.inl rfl) pe_int)
  (pss_cons (ps_set (i := 4) sc_is_ring.nd rfl (.inl rfl) (pe_ix ix_list (pv 0) (pe_ix ix_tup (pv 1) (pe_un un_neg pe_int) (fun _ _ => rfl)) (fun _ _ => rfl)))
  (pss_cons (ps_for PassesOwn.never rfl (pi_tup (pv 1)) (pg_name (i := 2) sc_is_ring.nd rfl (.inl rfl))
   (pss_cons (ps_if (pt_cmpR op_ne (pe_ix ix_tup (pe_ix ix_list (pv 0) (pv 2) (fun _ _ => rfl)) pe_int (fun _ _ => rfl)) (pe_ix ix_tup (pv 4) pe_int (fun _ _ => rfl)) (nomark _)) (pss_one (ps_ret pe_bl)) pss_nil)
  (pss_cons (ps_set (i := 4) sc_is_ring.nd rfl (.inl rfl) (pe_ix ix_list (pv 0) (pv 2) (fun _ _ => rfl)))
  (pss_one (ps_aug (i := 3) sc_is_ring.nd rfl (.inl rfl) (pe_ix ix_tup (pv 4) pe_int (fun _ _ => rfl)) ip_add)))))
  (pss_one (ps_ret (pe_cmpR op_lt (pv 3) pe_int (nomark _))))))))), ?_⟩
    rcases h with ⟨t, ty, nt, q⟩ | ⟨a, xs, rfl, hA, hxl, hty, q⟩
    · refine ⟨v, rfl, _, _, _, _, _, rfl, .ty "tuple", ty.x, isI_tuple ty, _, rfl, ?_⟩
      rw [tyB_tuple ty, decide_eq_false nt]
      exact iT rfl (iT rfl q)
    · have ty : Ty H (.ref a) "tuple" := .tup hA
      refine ⟨.ref a, rfl, _, _, _, _, _, rfl, .ty "tuple", ty.x, isI_tuple ty, _, rfl, ?_⟩
      rw [tyB_tuple ty]
      refine iF rfl ⟨.ref a, rfl, a, xs, rfl, .inr (SqT.of hA), rfl, _, rfl, ?_⟩
      by_cases h0 : xs = []
      · subst h0
        refine iT rfl ?_
        exact q
      · have h1 : 0 < xs.length := by
          cases xs with
          | nil => exact absurd rfl h0
          | cons x r => exact Nat.succ_pos _
        refine iF (decide_eq_false (fun e => by have := V.int.inj e; omega)) ?_
        -- the places
        refine ⟨_, rfl, a, rfl, ⟨xs, SqT.of hA⟩, ?_⟩
        refine for_tup (K := K) (a := a) (xs := xs) (fun i σ H' => H' = H ∧ (xs.take i).all (okP fs.length) = true ∧ ∃ y2 y3 y4, σ = [some (.ref fa), some (.ref a), y2, y3, y4]) ⟨rfl, rfl, none, none, none, rfl⟩ (fun i σ H' _ p => by rw [p.1]; exact SqT.of hA) (fun i x σ H' hi p => ?_) (fun σ H' p => ?_)
        · obtain ⟨rfl, hall, y2, y3, y4, rfl⟩ := p
          obtain ⟨t, tx⟩ := hty x (List.mem_of_getElem? hi)
          refine ⟨x, rfl, x, t, rfl, tx, _, rfl, ?_⟩
          have no : okP fs.length x = false → Q (.bl false) H' := fun e => by
            have : isRingV fs xs = false := by unfold isRingV; rw [all_false hi e]; rfl
            rw [this] at q
            exact q
          cases x with
          | int j =>
            refine iF rfl ?_
            refine ⟨_, rfl, 0, j, rfl, rfl, _, rfl, ?_⟩
            by_cases j0 : 0 ≤ j
            · refine iT (decide_eq_true j0) ⟨_, rfl, fa, _, rfl, .inl (SqL.of ha), j, _, rfl, rfl, _, rfl, ?_⟩
              by_cases j1 : j < (ts.length : Int)
              · refine iF (by rw [decide_eq_true j1]; rfl) ⟨rfl, all_take_add hi hall ?_, _, _, _, rfl⟩
                show (decide (0 ≤ j) && decide (j < (fs.length : Int))) = true
                rw [decide_eq_true j0, decide_eq_true (by rw [← hl]; exact j1)]
                rfl
              · refine iT (by rw [decide_eq_false j1]; rfl) (no ?_)
                show (decide (0 ≤ j) && decide (j < (fs.length : Int))) = false
                rw [decide_eq_false (show ¬ j < (fs.length : Int) by rw [← hl]; exact j1), Bool.and_false]
            · refine iF (decide_eq_false j0) ⟨_, rfl, iT rfl (no ?_)⟩
              show (decide (0 ≤ j) && decide (j < (fs.length : Int))) = false
              rw [decide_eq_false j0]
              rfl
          | _ => exact iT rfl (iT rfl (no rfl))
        · obtain ⟨rfl, hall, y2, y3, y4, rfl⟩ := p
          rw [List.take_length] at hall
          have eR : isRingV fs xs = ringB fs (xs.map vN) := by unfold isRingV; rw [hall]; rfl
          rw [eR] at q
          obtain ⟨ps, rfl, e2, hp⟩ := okP_map hall
          rw [e2] at q
          have hpl : 0 < ps.length := by rw [List.length_map] at h1; exact h1
          have rd : ∀ i, (hi : i < ps.length) → ∃ t, atI (ps.map nV) (i : Int) = some (.int (ps[i] : Nat)) ∧ atI ts ((ps[i] : Nat) : Int) = some (.ref t) ∧ H' t = some (tup3 (gAt fs ps i)) := fun i hi => fact_read hx hp hi
          obtain ⟨tl, tl1, tl2, tl3⟩ := rd (ps.length - 1) (by omega)
          have em : atI (ps.map nV) (-1) = some (.int ((ps[ps.length - 1]'(by omega) : Nat) : Int)) := by
            unfold atI ixN
            rw [if_neg (by decide), if_pos (by rw [List.length_map]; omega)]
            show (ps.map nV)[(-1 + ((ps.map nV).length : Int)).toNat]? = _
            rw [List.length_map, show (-1 + (ps.length : Int)).toNat = ps.length - 1 by omega, List.getElem?_map, List.getElem?_eq_getElem (by omega)]
            rfl
          refine ⟨_, rfl, _, rfl, 1, rfl, a, _, -1, _, rfl, rfl, SqT.of hA, em, fa, _, _, _, rfl, rfl, SqL.of ha, tl2, ?_⟩
          refine ⟨_, rfl, a, rfl, ⟨_, SqT.of hA⟩, ?_⟩
          refine for_tup (K := K) (a := a) (xs := ps.map nV) (fun i σ H2 => H2 = H' ∧ (∀ j, j < i → (gAt fs ps j).1 = (gAt fs ps (prv ps.length j)).2.1) ∧ ∃ y2 t, σ = [some (.ref fa), some (.ref a), y2, some (.int (sumC fs ps i)), some (.ref t)] ∧ H' t = some (tup3 (gAt fs ps (prv ps.length i))))
            ⟨rfl, fun j hj => absurd hj (Nat.not_lt_zero _), y2, tl, rfl, tl3⟩ (fun i σ H2 _ p => by rw [p.1]; exact SqT.of hA) (fun i x σ H2 hi p => ?_) (fun σ H2 p => ?_)
          · obtain ⟨rfl, hc, y2, t, rfl, ht⟩ := p
            have hi' : i < ps.length := by have := (List.getElem?_eq_some_iff.mp hi).1; rw [List.length_map] at this; exact this
            obtain ⟨ti, i1, i2, i3⟩ := rd i hi'
            have ex : x = .int (ps[i] : Nat) := by
              rw [List.getElem?_map, List.getElem?_eq_getElem hi'] at hi
              exact (Option.some.inj hi).symm
            subst ex
            refine ⟨_, rfl, _, rfl, fa, _, _, _, rfl, rfl, SqL.of ha, i2, ti, _, 0, _, rfl, rfl, SqT.of i3, rfl, _, rfl, t, _, 1, _, rfl, rfl, SqT.of ht, rfl, rfl, _, rfl, ?_⟩
            by_cases he : (gAt fs ps i).1 = (gAt fs ps (prv ps.length i)).2.1
            · refine iF (by rw [he, decide_eq_true rfl]; rfl) ?_
              refine ⟨_, rfl, _, rfl, fa, _, _, _, rfl, rfl, SqL.of ha, i2, ?_⟩
              refine ⟨_, rfl, _, rfl, ti, _, 2, _, rfl, rfl, SqT.of i3, rfl, _, _, rfl, rfl, ?_⟩
              refine ⟨rfl, fun j hj => ?_, _, ti, rfl, ?_⟩
              · by_cases e : j = i
                · rw [e]; exact he
                · exact hc j (by omega)
              · rw [show prv ps.length (i + 1) = i by unfold prv; rw [if_neg (by omega), Nat.add_sub_cancel]]
                exact i3
            · refine iT (by rw [decide_eq_false (fun e => he (by have := V.int.inj e; omega))]; rfl) ?_
              have : ringB fs ps = false := by
                unfold ringB
                rw [decide_eq_false (fun hc => he (chain_iff.mp hc i hi')), Bool.false_and, Bool.and_false]
              rw [this] at q
              exact q
          · obtain ⟨rfl, hc, y2, t, rfl, ht⟩ := p
            rw [List.length_map] at hc
            refine ⟨_, rfl, _, _, rfl, rfl, ?_⟩
            have : ringB fs ps = decide (sumC fs ps ps.length < 0) := by
              unfold ringB
              rw [decide_eq_true (chain_iff.mpr hc)]
              cases ps with
              | nil => exact absurd hpl (Nat.lt_irrefl 0)
              | cons x r => rfl
            rw [this] at q
            rw [List.length_map]
            exact q
end
end Pl

namespace Pl
open PySem L2
section
variable {P : Program} {w : World} {K : PySem.W.Frag} {mg : Str → Option Value} {base : Heap}
open BF in
/-- what bound hands back -/
def bndR (fs : List Fact) (n a b : Nat) : Option Int := match (fin fs n).L with
  | some _ => none
  | none => bnd fs n a b
open BF in
def spBound : Sp := fun vs H Q _ => ∃ (n a b : Nat) (p : Addr) (fs : List Fact), vs = [.int (n : Nat), .ref p, .int (a : Nat), .int (b : Nat)] ∧ FactsAt H p fs ∧ Below n fs ∧ 1 ≤ n ∧ n ≤ 1000 ∧ a < n ∧ b < n ∧ ∀ H', Same H H' → Q (oV (bndR fs n a b)) H'
open BF in
theorem vl_sB (n b : Nat) : (vl n fun _ => none).set b (.int 0) = vl n (sB b).V := by
  rw [show V.int 0 = oV (some 0) from rfl, vl_set]
  rfl
open BF in
theorem ok_bound (T : Txt K mg) {k : Nat} : FnOk P w K mg base CX0 (k + 5) T.bound.f T.bound.fd ["count", "facts", "a", "b"] spBound := by
  have G_ring : FnOk P w K mg base CX0 (k + 4) T.ring.f T.ring.fd ["count", "facts"] spRing := ok_ring T
  have G_relaxed : FnOk P w K mg base CX0 (k + 4) T.relaxed.f T.relaxed.fd ["facts", "values", "origins"] spRelaxed := ok_relaxed T
  refine T.bound.F.ok sc_bound (fun vs H Q E h => ?_) (fun cdv A outer s H vs Q E hr h => ?_)
  · obtain ⟨n, a, b, p, fs, rfl, _⟩ := h
    rfl
  · obtain ⟨n, a, b, p, fs, rfl, hF, hb, n1, n2, an, bn, q⟩ := h
    refine ⟨_, (pss_cons (ps_if (pt_cmpR op_notN (pe_call G_ring (hr.mono (by omega)) (by rfl) T.ring.g T.ring.F.kp T.ring.b .nil pass0 (pa_cons (pv 0) (pa_cons (pv 1) pa_nil))) pe_non (nomark _)) (pss_one (ps_ret pe_non)) pss_nil)
  (pss_cons (ps_set (i := 4) sc_bound.nd rfl (.inl rfl) (pe_op op_rep (pe_lst (pa_cons pe_non pa_nil)) (pv 0)))
  (pss_cons (ps_asg pe_int (pg_sub (pv 4) (pv 3) set_list))
  (pss_cons (ps_set (i := 5) sc_bound.nd rfl (.inl rfl) (pe_op op_rep (pe_lst (pa_cons pe_non pa_nil)) (pv 0)))
  (pss_cons (ps_while PassesOwn.never (pt_cmpR op_notN (pe_call G_relaxed (hr.mono (by omega)) (by rfl) T.relaxed.g T.relaxed.F.kp T.relaxed.b .nil pass0 (pa_cons (pv 1) (pa_cons (pv 4) (pa_cons (pv 5) pa_nil)))) pe_non (nomark _)) (pss_one ps_pass))
  (pss_one (ps_ret (pe_ix ix_list (pv 4) (pv 2) (fun _ _ => rfl))))))))), ?_⟩
    refine ⟨_, rfl, _, rfl, n, p, fs, rfl, hF, hb, n1, n2, fun H1 v s1 hv => ⟨rfl, _, rfl, ?_⟩⟩
    rcases hv with ⟨hL, rfl⟩ | ⟨x, r, hL, rfl, _, _⟩
    · refine iF rfl ?_
      have hk := fin_keeps n1 hL
      refine ⟨sz (by show 1 ≤ 100000; decide), fun p1 hp1 => ?_⟩
      have s2 : Same H (upd H1 p1 (.lst [.non])) := s1.trans (same_upd hp1)
      refine ⟨_, rfl, p1, (n : Int), _, rfl, rfl, upd_same, by omega, by omega, sz (by show 1 * n ≤ 100000; omega), fun va hva => ?_⟩
      rw [rep_vlN]
      have va0 : H va = none := s2.free hva
      have iv : ixN (vl n fun _ => none).length (b : Int) = some b := ix_in (by omega) (by rw [vl_len]; omega)
      refine ⟨_, rfl, _, rfl, va, _, _, b, rfl, rfl, upd_same, iv, ?_⟩
      rw [vl_sB, upd_upd]
      have s3 : Same H (upd (upd H1 p1 (.lst [.non])) va (.lst (vl n (sB b).V))) := same_mut s2 va0
      have hv0 : upd (upd H1 p1 (.lst [.non])) va (.lst (vl n (sB b).V)) va = some (.lst (vl n (sB b).V)) := upd_same
      generalize upd (upd H1 p1 (.lst [.non])) va (.lst (vl n (sB b).V)) = H2 at s3 hv0 ⊢
      refine ⟨sz (by show 1 ≤ 100000; decide), fun p2 hp2 => ?_⟩
      have s4 : Same H (upd H2 p2 (.lst [.non])) := s3.trans (same_upd hp2)
      have hv1 := same_upd (o := .lst [.non]) hp2 _ _ hv0
      refine ⟨_, rfl, p2, (n : Int), _, rfl, rfl, upd_same, by omega, by omega, sz (by show 1 * n ≤ 100000; omega), fun oa hoa => ?_⟩
      rw [rep_olN]
      have s5 := s4.trans (same_upd (o := .lst (ol n fun _ => none)) hoa)
      have oa0 : H oa = none := s4.free hoa
      have hv2 := same_upd (o := .lst (ol n fun _ => none)) hoa _ _ hv1
      have ho2 : upd (upd H2 p2 (.lst [.non])) oa (.lst (ol n fun _ => none)) oa = some (.lst (ol n fun _ => none)) := upd_same
      have nvo : va ≠ oa := ne_of_none hv1 hoa
      generalize upd (upd H2 p2 (.lst [.non])) oa (.lst (ol n fun _ => none)) = H3 at s5 hv2 ho2 ⊢
      have nfa : ∀ {z : Addr}, H z = none → p ≠ z := fun hz => by
        obtain ⟨ts, ha, _⟩ := hF
        exact ne_of_none ha hz
      refine ⟨fun m σ H' => ∃ t, t < n ∧ m = n - t ∧ σ = [some (.int (n : Nat)), some (.ref p), some (.int (a : Nat)), some (.int (b : Nat)), some (.ref va), some (.ref oa)] ∧ Same H H' ∧ H' va = some (.lst (vl n (itS fs (sB b) t).V)) ∧ H' oa = some (.lst (ol n (itS fs (sB b) t).O)),
        ⟨n, 0, n1, rfl, rfl, s5, hv2, ho2⟩, fun m σ H' hW => ?_⟩
      obtain ⟨t, tn, rfl, rfl, sm, hv, ho⟩ := hW
      refine ⟨_, rfl, _, rfl, _, rfl, n, p, va, oa, fs, itS fs (sB b) t, rfl, hF.same sm, hb, nfa va0, nfa oa0, nvo, hv, ho, fun H4 fr hv4 ho4 => ⟨rfl, _, rfl, ?_⟩⟩
      have s6 : Same H H4 := fr.same sm va0 oa0
      have hv4 : H4 va = some (.lst (vl n (itS fs (sB b) (t + 1)).V)) := hv4
      have ho4 : H4 oa = some (.lst (ol n (itS fs (sB b) (t + 1)).O)) := ho4
      cases hZ : (itS fs (sB b) (t + 1)).L with
      | none =>
        refine iF (by show (!decide (lowV (itS fs (sB b) (t + 1)).L = V.non)) = false; rw [hZ]; rfl) ?_
        have eV : (itS fs (sB b) (t + 1)).V = (itS fs (sB b) n).V := (itS_stable hZ 0).2.trans (itS_L hZ (by omega)).2.symm
        rw [eV] at hv4
        refine ⟨_, rfl, _, rfl, va, _, _, _, rfl, rfl, SqL.of hv4, vl_at an, ?_⟩
        have q' := q H4 s6
        unfold bndR at q'
        rw [hL] at q'
        exact q'
      | some x =>
        refine iT (by show (!decide (lowV (itS fs (sB b) (t + 1)).L = V.non)) = true; rw [hZ]; rfl) ?_
        refine ⟨_, fun σ' H5 hN => ⟨n - (t + 1), by omega, hN⟩, ?_⟩
        refine ⟨t + 1, ?_, rfl, rfl, s6, hv4, ho4⟩
        by_cases e : t + 1 = n
        · rw [e] at hZ
          rw [sB_L n1 hb hk] at hZ
          cases hZ
        · omega
    · refine iT rfl ?_
      have q' := q H1 s1
      unfold bndR at q'
      rw [hL] at q'
      exact q'
end
end Pl

namespace Pl
open PySem L2
namespace BFx
open BF
/-- what bound hands back -/
def bndQ (fs : List Fact) (n a b : Nat) : Option Int := match (fin fs n).L with
  | some _ => none
  | none => bnd fs n a b
theorem bndQ_iff {fs : List Fact} {n a b : Nat} (hn : 1 ≤ n) (hb : Below n fs) {c : Int} : bndQ fs n a b = some c ↔ (∃ π, Keeps π fs ∧ π a = π b + c) ∧ ∀ π, Keeps π fs → π a ≤ π b + c := by
  constructor
  · intro h
    unfold bndQ at h
    cases hL : (fin fs n).L with
    | some x => rw [hL] at h; cases h
    | none =>
      rw [hL] at h
      have h : bnd fs n a b = some c := h
      exact ⟨bnd_some hn hb (fin_keeps hn hL) h, fun π hk => bnd_up h hk⟩
  · rintro ⟨⟨π, hk, he⟩, hu⟩
    have hL : (fin fs n).L = none := (fin_iff hn hb).mpr ⟨π, hk⟩
    unfold bndQ
    rw [hL]
    show bnd fs n a b = some c
    cases hbd : bnd fs n a b with
    | none =>
      obtain ⟨ρ, r1, r2⟩ := bnd_none hn hb hk hbd (c + 1)
      have := hu ρ r1
      omega
    | some c' =>
      obtain ⟨ρ, r1, r2⟩ := bnd_some hn hb hk hbd
      have h1 := hu ρ r1
      have h2 := bnd_up hbd hk
      congr 1
      omega
theorem bndQ_move {fs fs' : List Fact} {n a b a' b' : Nat} {d : Int} (hn : 1 ≤ n) (hb : Below n fs) (hb' : Below n fs') (h1 : ∀ π, Keeps π fs → ∃ ρ, Keeps ρ fs' ∧ ρ a' - ρ b' = π a - π b + d) (h2 : ∀ ρ, Keeps ρ fs' → ∃ π, Keeps π fs ∧ π a - π b = ρ a' - ρ b' - d) :
    bndQ fs' n a' b' = (bndQ fs n a b).map (· + d) := by
  have key : ∀ c, bndQ fs n a b = some c ↔ bndQ fs' n a' b' = some (c + d) := by
    intro c
    rw [bndQ_iff hn hb, bndQ_iff hn hb']
    constructor
    · rintro ⟨⟨π, k1, k2⟩, k3⟩
      obtain ⟨ρ, r1, r2⟩ := h1 π k1
      refine ⟨⟨ρ, r1, by omega⟩, fun ρ' hr => ?_⟩
      obtain ⟨π', p1, p2⟩ := h2 ρ' hr
      have := k3 π' p1
      omega
    · rintro ⟨⟨ρ, k1, k2⟩, k3⟩
      obtain ⟨π, p1, p2⟩ := h2 ρ k1
      refine ⟨⟨π, p1, by omega⟩, fun π' hp => ?_⟩
      obtain ⟨ρ', r1, r2⟩ := h1 π' hp
      have := k3 ρ' r1
      omega
  cases h : bndQ fs n a b with
  | some c => exact (key c).mp h
  | none =>
    cases h' : bndQ fs' n a' b' with
    | none => rfl
    | some c' =>
      have := (key (c' - d)).mpr (by rw [h']; congr 1; omega)
      rw [h] at this
      cases this
def shiftF (am : Nat → Int) (f : Fact) : Fact := (f.1, f.2.1, f.2.2 + am f.1 - am f.2.1)
theorem keeps_shift {fs : List Fact} {am π : Nat → Int} (h : Keeps π fs) : Keeps (fun v => π v + am v) (fs.map (shiftF am)) := by
  intro a b c hm
  obtain ⟨f, hf, e⟩ := List.mem_map.mp hm
  obtain ⟨x, y, z⟩ := f
  have e : (x, y, z + am x - am y) = (a, b, c) := e
  injection e with e1 e
  injection e with e2 e3
  subst e1 e2 e3
  have := h x y z hf
  show π x + am x ≤ π y + am y + (z + am x - am y)
  omega
theorem keeps_unshift {fs : List Fact} {am ρ : Nat → Int} (h : Keeps ρ (fs.map (shiftF am))) : Keeps (fun v => ρ v - am v) fs := by
  intro a b c hm
  have := h a b (c + am a - am b) (List.mem_map.mpr ⟨_, hm, rfl⟩)
  show ρ a - am a ≤ ρ b - am b + c
  omega
theorem below_shift {fs : List Fact} {am : Nat → Int} {n : Nat} (h : Below n fs) : Below n (fs.map (shiftF am)) := fun f hf => by
  obtain ⟨g, hg, e⟩ := List.mem_map.mp hf
  rw [← e]
  exact h g hg
theorem fin_shift {fs : List Fact} {am : Nat → Int} {n : Nat} (hn : 1 ≤ n) (hb : Below n fs) : (fin (fs.map (shiftF am)) n).L = none ↔ (fin fs n).L = none := by
  rw [fin_iff hn hb, fin_iff hn (below_shift hb)]
  exact ⟨fun ⟨ρ, h⟩ => ⟨_, keeps_unshift h⟩, fun ⟨π, h⟩ => ⟨_, keeps_shift h⟩⟩
theorem bndQ_shift {fs : List Fact} {am : Nat → Int} {n a b : Nat} (hn : 1 ≤ n) (hb : Below n fs) : bndQ (fs.map (shiftF am)) n a b = (bndQ fs n a b).map (· + (am a - am b)) :=
  bndQ_move hn hb (below_shift hb) (fun π h => ⟨_, keeps_shift (am := am) h, by show π a + am a - (π b + am b) = _; omega⟩) (fun ρ h => ⟨_, keeps_unshift h, by show ρ a - am a - (ρ b - am b) = _; omega⟩)
def renF (o : Nat → Nat) (f : Fact) : Fact := (o f.1, o f.2.1, f.2.2)
theorem bndQ_ren {fs : List Fact} {o : Nat → Nat} {n a b : Nat} (hn : 1 ≤ n) (hb : Below n fs) (ha : a < n) (hb1 : b < n) (ho : ∀ v, v < n → o v < n) (hi : ∀ u v, u < n → v < n → o u = o v → u = v) :
    bndQ (fs.map (renF o)).reverse n (o a) (o b) = bndQ fs n a b := by
  have hbr : Below n (fs.map (renF o)).reverse := fun f hf => by
    obtain ⟨g, hg, e⟩ := List.mem_map.mp (List.mem_reverse.mp hf)
    rw [← e]
    exact ⟨ho _ (hb g hg).1, ho _ (hb g hg).2⟩
  have hinv : ∃ inv : Nat → Nat, ∀ v, v < n → inv (o v) = v := by
    refine ⟨fun w => if h : ∃ v, v < n ∧ o v = w then Classical.choose h else 0, fun v hv => ?_⟩
    have hex : ∃ u, u < n ∧ o u = o v := ⟨v, hv, rfl⟩
    show (if h : ∃ u, u < n ∧ o u = o v then Classical.choose h else 0) = v
    rw [dif_pos hex]
    exact hi _ _ (Classical.choose_spec hex).1 hv (Classical.choose_spec hex).2
  obtain ⟨inv, hinv⟩ := hinv
  have := bndQ_move (d := 0) (a := a) (b := b) (a' := o a) (b' := o b) hn hb hbr (fun π h => ⟨fun w => π (inv w), fun x y z hm => ?_, ?_⟩) (fun ρ h => ⟨fun v => ρ (o v), fun x y z hm => ?_, ?_⟩)
  · rw [this]
    cases bndQ fs n a b with
    | none => rfl
    | some c => show some (c + 0) = some c; congr 1; omega
  · obtain ⟨g, hg, e⟩ := List.mem_map.mp (List.mem_reverse.mp hm)
    obtain ⟨g1, g2, g3⟩ := g
    have e : (o g1, o g2, g3) = (x, y, z) := e
    injection e with e1 e
    injection e with e2 e3
    subst e1 e2 e3
    have hbg := hb _ hg
    show π (inv (o g1)) ≤ π (inv (o g2)) + g3
    rw [hinv _ hbg.1, hinv _ hbg.2]
    exact h _ _ _ hg
  · show π (inv (o a)) - π (inv (o b)) = π a - π b + 0
    rw [hinv a ha, hinv b hb1]
    omega
  · have := h (o x) (o y) z (List.mem_reverse.mpr (List.mem_map.mpr ⟨_, hm, rfl⟩))
    exact this
  · show ρ (o a) - ρ (o b) = ρ (o a) - ρ (o b) - 0
    omega
theorem bndQ_tri {fs : List Fact} {n a b c : Nat} {x y : Int} (hn : 1 ≤ n) (hb : Below n fs) (h1 : bndQ fs n a b = some x) (h2 : bndQ fs n b c = some y) : ∃ z, bndQ fs n a c = some z ∧ z ≤ x + y := by
  obtain ⟨⟨π, hk, _⟩, u1⟩ := (bndQ_iff hn hb).mp h1
  obtain ⟨_, u2⟩ := (bndQ_iff hn hb).mp h2
  have hL : (fin fs n).L = none := (fin_iff hn hb).mpr ⟨π, hk⟩
  have e : bndQ fs n a c = bnd fs n a c := by unfold bndQ; rw [hL]
  rw [e]
  cases hbd : bnd fs n a c with
  | none =>
    obtain ⟨ρ, r1, r2⟩ := bnd_none hn hb hk hbd (x + y + 1)
    have := u1 ρ r1
    have := u2 ρ r1
    omega
  | some z =>
    obtain ⟨ρ, r1, r2⟩ := bnd_some hn hb hk hbd
    have := u1 ρ r1
    have := u2 ρ r1
    exact ⟨z, rfl, by omega⟩
theorem keeps_app {fs gs : List Fact} {π : Nat → Int} (h : Keeps π (fs ++ gs)) : Keeps π fs := fun a b c hm => h a b c (List.mem_append.mpr (.inl hm))
theorem bndQ_more {fs gs : List Fact} {n a b : Nat} {x : Int} (hn : 1 ≤ n) (hb : Below n fs) (hg : Below n (fs ++ gs)) (hL : (fin (fs ++ gs) n).L = none) (h1 : bndQ fs n a b = some x) : ∃ z, bndQ (fs ++ gs) n a b = some z ∧ z ≤ x := by
  obtain ⟨_, u1⟩ := (bndQ_iff hn hb).mp h1
  have hk := fin_keeps hn hL
  have e : bndQ (fs ++ gs) n a b = bnd (fs ++ gs) n a b := by unfold bndQ; rw [hL]
  rw [e]
  cases hbd : bnd (fs ++ gs) n a b with
  | none =>
    obtain ⟨ρ, r1, r2⟩ := bnd_none hn hg hk hbd (x + 1)
    have := u1 ρ (keeps_app r1)
    omega
  | some z =>
    obtain ⟨ρ, r1, r2⟩ := bnd_some hn hg hk hbd
    have := u1 ρ (keeps_app r1)
    exact ⟨z, rfl, by omega⟩
theorem gAt_map {fs : List Fact} {am : Nat → Int} {ps : List Nat} {i : Nat} (h : ∀ p ∈ ps, p < fs.length) (hi : i < ps.length) : gAt (fs.map (shiftF am)) ps i = shiftF am (gAt fs ps i) := by
  unfold gAt
  have h1 := h _ (List.getElem_mem hi)
  rw [List.getD_eq_getElem?_getD, List.getD_eq_getElem?_getD, List.getD_eq_getElem?_getD, List.getElem?_eq_getElem hi, Option.getD_some, List.getElem?_map, List.getElem?_eq_getElem h1]
  rfl
theorem ringB_shift {fs : List Fact} {am : Nat → Int} {ps : List Nat} (h : ∀ p ∈ ps, p < fs.length) (hr : ringB fs ps = true) : ringB (fs.map (shiftF am)) ps = true := by
  unfold ringB at hr ⊢
  rw [Bool.and_eq_true, Bool.and_eq_true, decide_eq_true_eq, decide_eq_true_eq] at hr
  obtain ⟨h0, hc, hs⟩ := hr
  have hpl : 0 < ps.length := by
    cases ps with
    | nil => cases h0
    | cons x r => exact Nat.succ_pos _
  have hc' : Chain (fs.map (shiftF am)) ps := fun i hi => by
    rw [gAt_map h hi, gAt_map h (Nat.mod_lt _ hpl)]
    exact hc i hi
  have hsum : ∀ i, i < ps.length → sumC (fs.map (shiftF am)) ps i = sumC fs ps i + am (gAt fs ps 0).1 - am (gAt fs ps i).1 := by
    intro i
    induction i with
    | zero => intro _; show (0 : Int) = 0 + _ - _; omega
    | succ i ih =>
      intro hi
      have hci := hc i (by omega)
      rw [Nat.mod_eq_of_lt hi] at hci
      show sumC (fs.map (shiftF am)) ps i + (gAt (fs.map (shiftF am)) ps i).2.2 = sumC fs ps i + (gAt fs ps i).2.2 + _ - _
      rw [ih (by omega), gAt_map h (by omega), ← hci]
      show sumC fs ps i + am (gAt fs ps 0).1 - am (gAt fs ps i).1 + ((gAt fs ps i).2.2 + am (gAt fs ps i).1 - am (gAt fs ps i).2.1) = _
      omega
  have hs' : sumC (fs.map (shiftF am)) ps ps.length = sumC fs ps ps.length := by
    obtain ⟨m, hm⟩ : ∃ m, ps.length = m + 1 := ⟨ps.length - 1, by omega⟩
    have hcm := hc m (by omega)
    rw [hm, Nat.mod_self] at hcm
    rw [hm]
    show sumC (fs.map (shiftF am)) ps m + (gAt (fs.map (shiftF am)) ps m).2.2 = sumC fs ps m + (gAt fs ps m).2.2
    rw [hsum m (by omega), gAt_map h (by omega)]
    show sumC fs ps m + am (gAt fs ps 0).1 - am (gAt fs ps m).1 + ((gAt fs ps m).2.2 + am (gAt fs ps m).1 - am (gAt fs ps m).2.1) = _
    rw [hcm]
    omega
  rw [h0, decide_eq_true hc', hs', decide_eq_true hs]
  rfl
end BFx
open BFx
theorem Rows.mut {H : Hp} {vs : List V} {fs : List BF.Fact} {D : Addr} {xs : List V} {o : HO} (r : Rows H vs fs) (h : H D = some (.lst xs)) : Rows (upd H D o) vs fs := ⟨r.1, fun i f e => by
  obtain ⟨t, t1, t2⟩ := r.2 i f e
  exact ⟨t, t1, by rw [upd_ne (ne_of t2 h (by intro z; cases z))]; exact t2⟩⟩
theorem ints_at {as : List Int} {v : Nat} (h : v < as.length) : atI (as.map V.int) (v : Int) = some (.int (as.getD v 0)) := atI_nat (by
  rw [List.getElem?_map, List.getElem?_eq_getElem h, List.getD_eq_getElem?_getD, List.getElem?_eq_getElem h]
  rfl)
theorem nats_at {os : List Nat} {v : Nat} (h : v < os.length) : atI (os.map nV) (v : Int) = some (.int ((os.getD v 0 : Nat) : Int)) := atI_nat (by
  rw [List.getElem?_map, List.getElem?_eq_getElem h, List.getD_eq_getElem?_getD, List.getElem?_eq_getElem h]
  rfl)
theorem nd_inj {os : List Nat} (h : os.Nodup) {u v : Nat} (hu : u < os.length) (hv : v < os.length) (e : os.getD u 0 = os.getD v 0) : u = v := by
  rw [List.getD_eq_getElem?_getD, List.getD_eq_getElem?_getD, List.getElem?_eq_getElem hu, List.getElem?_eq_getElem hv] at e
  have e : os[u] = os[v] := e
  exact (List.getElem_inj h).mp e
section
variable {P : Program} {w : World} {K : PySem.W.Frag} {mg : Str → Option Value} {base : Heap}
open BF in
theorem ok_law_is_integer' : True := trivial
def spAnswer : Sp := fun vs H Q _ => ∃ x : Option Int, vs = [oV x, oV x] ∧ Q (.bl true) H
theorem ok_law_answer (T : Txt K mg) {k : Nat} : FnOk P w K mg base CX0 (k + 2) T.law_answer.f T.law_answer.fd ["_law_thing", "_law_due"] spAnswer := by
  have G_law_is_integer : FnOk P w K mg base CX0 (k + 1) T.law_is_integer.f T.law_is_integer.fd ["_law_thing"] spIsInteger := ok_law_is_integer T
  refine T.law_answer.F.ok sc_law_answer (fun vs H Q E h => ?_) (fun cdv A outer s H vs Q E hr h => ?_)
  · obtain ⟨x, rfl, _⟩ := h
    rfl
  · obtain ⟨x, rfl, q⟩ := h
    refine ⟨_, (pss_cons (ps_if (pt_cmpR op_isN (pv 1) pe_non (nomark _)) (pss_one (ps_ret (pe_cmpR op_isN (pv 0) pe_non (nomark _)))) pss_nil)
  (pss_one (ps_ret (pe_and (pe_call G_law_is_integer (hr.mono (by omega)) (by rfl) T.law_is_integer.g T.law_is_integer.F.kp T.law_is_integer.b .nil pass0 (pa_cons (pv 0) pa_nil)) (pe_one (pe_cmpR op_eq (pv 0) (pv 1) (nomark _))))))), ?_⟩
    refine ⟨_, rfl, rfl, _, rfl, ?_⟩
    cases x with
    | none => exact iT rfl ⟨_, rfl, rfl, q⟩
    | some i =>
      refine iF rfl ⟨_, rfl, _, _, rfl, .int i, _, rfl, iT rfl ⟨_, rfl, _, rfl, rfl, ?_⟩⟩
      rw [decide_eq_true rfl]
      exact q
def spMovedBy : Sp := fun vs H Q _ => ∃ (x : Option Int) (d : Int), vs = [oV x, .int d] ∧ Q (oV (x.map (· + d))) H
theorem ok_law_moved_by (T : Txt K mg) {k : Nat} : FnOk P w K mg base CX0 (k + 1) T.law_moved_by.f T.law_moved_by.fd ["_law_number_here", "_law_amount"] spMovedBy := by
  refine T.law_moved_by.F.ok sc_law_moved_by (fun vs H Q E h => ?_) (fun cdv A outer s H vs Q E hr h => ?_)
  · obtain ⟨x, d, rfl, _⟩ := h
    rfl
  · obtain ⟨x, d, rfl, q⟩ := h
    refine ⟨_, (pss_cons (ps_if (pt_cmpR op_isN (pv 0) pe_non (nomark _)) (pss_one (ps_ret pe_non)) pss_nil)
  (pss_one (ps_ret (pe_op op_add (pv 0) (pv 1))))), ?_⟩
    refine ⟨_, rfl, rfl, _, rfl, ?_⟩
    cases x with
    | none => exact iT rfl q
    | some i => exact iF rfl ⟨_, rfl, _, rfl, i, d, rfl, rfl, q⟩
open BF in
def spMove : Sp := fun vs H Q _ => ∃ (p m : Addr) (fs : List Fact) (as : List Int), vs = [.ref p, .ref m] ∧ FactsAt H p fs ∧ fs.length ≤ 1000 ∧ H m = some (.lst (as.map V.int)) ∧ Below as.length fs ∧
  ∀ (H' : Hp) (l : Addr) (vs' : List V), Same H H' → H' l = some (.lst vs') → Rows H' vs' (fs.map (shiftF fun v => as.getD v 0)) → Q (.ref l) H'
open BF in
theorem ok_law_move (T : Txt K mg) {k : Nat} : FnOk P w K mg base CX0 (k + 1) T.law_move.f T.law_move.fd ["_law_facts_here", "_law_amounts"] spMove := by
  refine T.law_move.F.ok sc_law_move (fun vs H Q E h => ?_) (fun cdv A outer s H vs Q E hr h => ?_)
  · obtain ⟨p, m, fs, as, rfl, _⟩ := h
    rfl
  · obtain ⟨p, m, fs, as, rfl, ⟨ts, hp, hl, hx⟩, hfl, hm, hB, q⟩ := h
    refine ⟨_, (pss_one (ps_ret (pe_lc (own := [("_law_fact", 2)]) (g := gName 2) (tt := tYes) (te := (tTup (tCons (tOp (rIxT K) (tVar 2) (tC _)) (tCons (tOp (rIxT K) (tVar 2) (tC _)) (tCons (tOp _ (tOp _ (tOp (rIxT K) (tVar 2) (tC _)) (tOp (rIxL K) (tVar 1) (tOp (rIxT K) (tVar 2) (tC _)))) (tOp (rIxL K) (tVar 1) (tOp (rIxT K) (tVar 2) (tC _)))) tNil))))) rfl sc_law_move.nd (pi_list (pv 0)) (blkOk_by (own := [("_law_fact", 2)]) (N := N_law_move) (sc := defScope s_law_move) (by decide +kernel)) (fun _ _ _ _ _ => (pg_name (i := 2) sc_law_move.nd rfl (.inl rfl))) (fun _ _ _ _ _ => pts_nil) (fun _ _ _ _ _ => (pe_tup (pa_cons (pe_ix ix_tup (pv 2) pe_int (fun _ _ => rfl)) (pa_cons (pe_ix ix_tup (pv 2) pe_int (fun _ _ => rfl)) (pa_cons (pe_op op_sub (pe_op op_add (pe_ix ix_tup (pv 2) pe_int (fun _ _ => rfl)) (pe_ix ix_list (pv 1) (pe_ix ix_tup (pv 2) pe_int (fun _ _ => rfl)) (fun _ _ => rfl))) (pe_ix ix_list (pv 1) (pe_ix ix_tup (pv 2) pe_int (fun _ _ => rfl)) (fun _ _ => rfl))) pa_nil)))))))), ?_⟩
    refine ⟨_, rfl, p, rfl, ⟨_, SqL.of hp⟩, fun D hD => ?_⟩
    refine lc_list (K := K) (a := p) (xs := ts) (fun i H' => Same H H' ∧ ∃ vs', H' D = some (.lst vs') ∧ Rows H' vs' ((fs.take i).map (shiftF fun v => as.getD v 0))) ⟨same_upd hD, [], upd_same, rfl, fun i f h => by simp at h⟩ (fun i H' _ pp => SqL.of (pp.1 _ _ hp)) (fun i x H' hi pp => ?_) (fun H' pp => ?_)
    · obtain ⟨sm, vs', hv', hR'⟩ := pp
      have hlt : i < fs.length := by rw [← hl]; exact (List.getElem?_eq_some_iff.mp hi).1
      obtain ⟨t, t1, t2⟩ := hx i _ (List.getElem?_eq_getElem hlt)
      rw [hi] at t1
      cases t1
      have hbf := hB _ (List.getElem_mem hlt)
      have hF : fs[i]? = some fs[i] := List.getElem?_eq_getElem hlt
      generalize fs[i] = f at t2 hbf hF
      obtain ⟨a, b, c⟩ := f
      have t2 := sm _ _ t2
      have hm' := sm _ _ hm
      refine ⟨rfl, yes_if ?_⟩
      refine ⟨_, rfl, t, _, 0, _, rfl, rfl, SqT.of t2, rfl, _, rfl, t, _, 1, _, rfl, rfl, SqT.of t2, rfl, _, rfl, t, _, 2, _, rfl, rfl, SqT.of t2, rfl, _, rfl, _, rfl, t, _, 0, _, rfl, rfl, SqT.of t2, rfl, m, _, _, _, rfl, rfl, SqL.of hm', ints_at hbf.1, _, _, rfl, rfl, _, rfl, _, rfl, t, _, 1, _, rfl, rfl, SqT.of t2, rfl, m, _, _, _, rfl, rfl, SqL.of hm', ints_at hbf.2, _, _, rfl, rfl, sz (by show 3 ≤ 100000; decide), fun z hz => ?_⟩
      have hvz := same_upd (o := tup3 (shiftF (fun v => as.getD v 0) (a, b, c))) hz _ _ hv'
      refine ⟨vs', hvz, szl (by rw [hR'.1, List.length_map, List.length_take]; omega), same_mut (sm.trans (same_upd hz)) hD, _, upd_same, ?_⟩
      rw [List.take_add_one, hF, List.map_append]
      exact ((hR'.same (same_upd hz)).snoc upd_same).mut hvz
    · obtain ⟨sm, vs', hv', hR'⟩ := pp
      rw [List.take_of_length_le (by omega)] at hR'
      exact q H' D vs' sm hv' hR'
def spNumbering : Sp := fun vs H Q _ => ∃ (b c : Addr) (G : Hp) (n : Nat), vs = [.ref b, .int (n : Nat)] ∧ Wd b c G H ∧ n ≤ 1000 ∧
  ∀ (G' H' : Hp) (p : Addr) (os : List Nat), Same G G' → Wd b c G' H' → G' p = some (.lst (os.map nV)) → os.length = n → os.Nodup → (∀ x ∈ os, x < n) → Q (.ref p) H'
theorem erase_perm : ∀ {l : List Nat} {k : Nat} (h : k < l.length), (l[k] :: l.eraseIdx k).Perm l
  | [], k, h => absurd h (Nat.not_lt_zero _)
  | a :: r, 0, _ => List.Perm.refl _
  | a :: r, k + 1, h => by
    have ih := erase_perm (l := r) (k := k) (Nat.lt_of_succ_lt_succ h)
    show (r[k]'(Nat.lt_of_succ_lt_succ h) :: a :: r.eraseIdx k).Perm (a :: r)
    exact (List.Perm.swap a _ _).trans (List.Perm.cons a ih)
theorem erase_map (f : Nat → V) : ∀ (l : List Nat) (k : Nat), (l.map f).eraseIdx k = (l.eraseIdx k).map f
  | [], _ => rfl
  | a :: r, 0 => rfl
  | a :: r, k + 1 => by
    show f a :: (r.map f).eraseIdx k = f a :: (r.eraseIdx k).map f
    rw [erase_map f r k]
theorem ok_law_numbering (T : Txt K mg) {k : Nat} : FnOk P w K mg base CX0 (k + 2) T.law_numbering.f T.law_numbering.fd ["_law_box", "_law_count"] spNumbering := by
  have G_law_pick : FnOk P w K mg base CX0 (k + 1) T.law_pick.f T.law_pick.fd ["_law_box", "_law_many"] spPick := ok_law_pick T
  refine T.law_numbering.F.ok sc_law_numbering (fun vs H Q E h => ?_) (fun cdv A outer s H vs Q E hr h => ?_)
  · obtain ⟨b, c, G, n, rfl, _⟩ := h
    rfl
  · obtain ⟨b, c, G, n, rfl, W, n2, q⟩ := h
    refine ⟨_, (pss_cons (ps_set (i := 2) sc_law_numbering.nd rfl (.inl rfl) (pe_listRg rfl (by rfl) T.n_list (prg_1 (by rfl) T.n_range (pv 1))))
  (pss_cons (ps_set (i := 3) sc_law_numbering.nd rfl (.inl rfl) (pe_lst pa_nil))
  (pss_cons (ps_for PassesOwn.never rfl (pi_range1 (by rfl) T.n_range (pa_cons (pv 1) pa_nil)) (pg_name (i := 4) sc_law_numbering.nd rfl (.inl rfl))
   (pss_one (ps_expr (pe_bm PySem.F.plainAttrs_list PySem.F.slot_list_append PySem.F.type_list_append mt_append (pv 3) (pa_cons (pe_bm PySem.F.plainAttrs_list PySem.F.slot_list_pop PySem.F.type_list_pop mt_popAt (pv 2) (pa_cons (pe_call G_law_pick (hr.mono (by omega)) (by rfl) T.law_pick.g T.law_pick.F.kp T.law_pick.b .nil pass0 (pa_cons (pv 0) (pa_cons (pe_callB call_len_seq (by rfl) T.n_len PySem.boot_len (pa_cons (pv 2) pa_nil)) pa_nil))) pa_nil)) pa_nil)))))
  (pss_one (ps_ret (pv 3)))))), ?_⟩
    refine ⟨_, rfl, (n : Int), rfl, RgOk.of_le (by omega) (by omega) (by omega) (by omega), fun r hr' => ?_⟩
    have erg : rgV 0 (n : Int) = (List.range n).map nV := by
      unfold rgV
      rw [show ((n : Int) - 0).toNat = n by omega]
      refine List.map_congr_left fun i _ => ?_
      show V.int (0 + (i : Nat)) = V.int (i : Nat)
      rw [Int.zero_add]
    rw [erg]
    obtain ⟨rb, rc⟩ := W.nb hr'
    have gr : G r = none := W.gh.free hr'
    have W1 : Wd b c G (upd H r (.lst ((List.range n).map nV))) := W.mut gr rb rc
    refine ⟨Nat.zero_le _, fun o ho => ?_⟩
    obtain ⟨ob, oc⟩ := W1.nb ho
    have go : G o = none := W1.gh.free ho
    have nro : r ≠ o := fun e => by rw [← e, upd_same] at ho; cases ho
    have W2 : Wd b c G (upd (upd H r (.lst ((List.range n).map nV))) o (.lst [])) := W1.mut go ob oc
    refine ⟨_, rfl, (n : Int), rfl, by omega, by omega, ?_⟩
    refine for_range (lo := 0) (n := ((n : Int)).toNat) (fun t σ H' => ∃ (os rest : List Nat) (y4 : Option V), σ = [some (.ref b), some (.int (n : Nat)), some (.ref r), some (.ref o), y4] ∧ Wd b c G H' ∧ H' r = some (.lst (rest.map nV)) ∧ H' o = some (.lst (os.map nV)) ∧ (os ++ rest).Nodup ∧ (∀ x ∈ os ++ rest, x < n) ∧ os.length = t ∧ os.length + rest.length = n)
      ⟨[], List.range n, none, rfl, W2, by rw [upd_ne nro, upd_same], upd_same, List.nodup_range, fun x hx => List.mem_range.mp hx, rfl, by rw [List.length_range]; show 0 + n = n; omega⟩ (fun t σ H' ht pp => ?_) (fun σ H' pp => ?_)
    · obtain ⟨os, rest, y4, rfl, W3, hR, hO, hnd, hlt, hos, hln⟩ := pp
      have ht : t < n := ht
      have W4 := (W3.keep hR rb rc).keep hO ob oc
      have lr : (rest.map nV).length = rest.length := List.length_map ..
      refine ⟨_, rfl, .inl ⟨rfl, _, SqL.of hO⟩, _, rfl, .inl ⟨rfl, _, SqL.of hR⟩, _, rfl, _, rfl, r, _, rfl, .inl (SqL.of hR), b, c, _, ((rest.map nV).length : Int), rfl, W4, by omega, by omega, fun i H4 W5 i0 i1 => ?_⟩
      have hO4 : H4 o = some (.lst (os.map nV)) := W5.gh _ _ upd_same
      have hR4 : H4 r = some (.lst (rest.map nV)) := W5.gh _ _ (by rw [upd_ne nro, upd_same])
      obtain ⟨j, rfl⟩ : ∃ j : Nat, i = (j : Int) := ⟨i.toNat, by omega⟩
      have hj : j < rest.length := by omega
      refine ⟨r, _, _, j, nV rest[j], rfl, rfl, hR4, by omega, by omega, seqIndex_of (by omega) (by omega), by rw [List.getElem?_map, List.getElem?_eq_getElem hj]; rfl, ?_⟩
      refine ⟨o, _, _, rfl, rfl, by rw [upd_ne (Ne.symm nro)]; exact hO4, szl (by rw [List.length_map]; omega), ?_⟩
      have W6 : Wd b c G H4 := W5.weak (fun a u e => by rw [upd_ne (ne_of_none e go), upd_ne (ne_of_none e gr)]; exact e)
      have pm : (os ++ [rest[j]] ++ rest.eraseIdx j).Perm (os ++ rest) := by
        rw [List.append_assoc]
        exact List.Perm.append_left os (erase_perm hj)
      refine ⟨os ++ [rest[j]], rest.eraseIdx j, _, rfl, (W6.mut gr rb rc).mut go ob oc, ?_, ?_, pm.nodup_iff.mpr hnd, fun x hx => hlt x (pm.mem_iff.mp hx), by rw [List.length_append, hos]; rfl, ?_⟩
      · rw [upd_ne nro, upd_same, erase_map]
      · rw [upd_same, List.map_append]
        rfl
      · rw [List.length_append, List.length_eraseIdx_of_lt hj]
        show os.length + 1 + (rest.length - 1) = n
        omega
    · obtain ⟨os, rest, y4, rfl, W3, hR, hO, hnd, hlt, hos, hln⟩ := pp
      have en : ((n : Int)).toNat = n := rfl
      rw [en] at hos
      have hr0 : rest = [] := List.eq_nil_of_length_eq_zero (by omega)
      subst hr0
      rw [List.append_nil] at hnd hlt
      exact ⟨_, rfl, q (upd G o (.lst (os.map nV))) H' o os (same_upd go) (W3.keep hO ob oc) upd_same hos hnd hlt⟩
end
end Pl

namespace Pl
open PySem L2
theorem Rows.eq {H : Hp} {vs : List V} {fs : List BF.Fact} : vs.length = fs.length → (∀ (i : Nat) (f : BF.Fact), fs[i]? = some f → ∃ t, vs[i]? = some (.ref t) ∧ H t = some (tup3 f)) → Rows H vs fs := fun a b => ⟨a, b⟩
theorem Rows.rev {H : Hp} {vs : List V} {fs : List BF.Fact} (r : Rows H vs fs) : Rows H vs.reverse fs.reverse := by
  refine ⟨by rw [List.length_reverse, List.length_reverse, r.1], fun i f e => ?_⟩
  have hi : i < fs.length := by have := (List.getElem?_eq_some_iff.mp e).1; rw [List.length_reverse] at this; exact this
  rw [List.getElem?_reverse hi] at e
  rw [List.getElem?_reverse (by rw [r.1]; exact hi), r.1]
  exact r.2 _ f e
theorem Rows.app {H : Hp} {vs us : List V} {fs gs : List BF.Fact} (r : Rows H vs fs) (q : Rows H us gs) : Rows H (vs ++ us) (fs ++ gs) := by
  refine ⟨by rw [List.length_append, List.length_append, r.1, q.1], fun i f e => ?_⟩
  rw [List.getElem?_append] at e ⊢
  rw [r.1]
  split at e
  · rename_i h
    rw [if_pos h]
    exact r.2 i f e
  · rename_i h
    rw [if_neg h]
    exact q.2 _ f e
theorem below_app {n : Nat} {fs gs : List BF.Fact} (h : BF.Below n fs) (g : BF.Below n gs) : BF.Below n (fs ++ gs) := fun f hf => by
  rcases List.mem_append.mp hf with m | m
  · exact h f m
  · exact g f m
theorem below_rev {n : Nat} {fs : List BF.Fact} (h : BF.Below n fs) : BF.Below n fs.reverse := fun f hf => h f (List.mem_reverse.mp hf)
section
variable {P : Program} {w : World} {K : PySem.W.Frag} {mg : Str → Option Value} {base : Heap}
open BF BFx in
theorem ok_law (T : Txt K mg) : FnOk P w K mg base CX0 6 T.law.f T.law.fd ["_law_script"] (spLaw K) := by
  have G_law_open : FnOk P w K mg base CX0 1 T.law_open.f T.law_open.fd ["_law_script"] (spOpen K) := ok_law_open T
  have G_law_pick : FnOk P w K mg base CX0 1 T.law_pick.f T.law_pick.fd ["_law_box", "_law_many"] spPick := ok_law_pick T
  have G_law_number : FnOk P w K mg base CX0 2 T.law_number.f T.law_number.fd ["_law_box"] spNumber := ok_law_number T
  have G_law_facts : FnOk P w K mg base CX0 3 T.law_facts.f T.law_facts.fd ["_law_box", "_law_count", "_law_most"] spLawFacts := ok_law_facts T
  have G_law_numbering : FnOk P w K mg base CX0 2 T.law_numbering.f T.law_numbering.fd ["_law_box", "_law_count"] spNumbering := ok_law_numbering T
  have G_law_move : FnOk P w K mg base CX0 1 T.law_move.f T.law_move.fd ["_law_facts_here", "_law_amounts"] spMove := ok_law_move T
  have G_law_moved_by : FnOk P w K mg base CX0 1 T.law_moved_by.f T.law_moved_by.fd ["_law_number_here", "_law_amount"] spMovedBy := ok_law_moved_by T
  have G_law_answer : FnOk P w K mg base CX0 2 T.law_answer.f T.law_answer.fd ["_law_thing", "_law_due"] spAnswer := ok_law_answer T
  have G_is_ring : FnOk P w K mg base CX0 2 T.is_ring.f T.is_ring.fd ["facts", "thing"] spIsRing := ok_is_ring T
  have G_ring : FnOk P w K mg base CX0 4 T.ring.f T.ring.fd ["count", "facts"] spRing := ok_ring T
  have G_bound : FnOk P w K mg base CX0 5 T.bound.f T.bound.fd ["count", "facts", "a", "b"] spBound := ok_bound T
  refine T.law.F.ok sc_law (fun vs H Q E h => ?_) (fun cdv A outer s H vs Q E hr h => ?_)
  · obtain ⟨a, ns, rfl, _⟩ := h
    rfl
  · obtain ⟨sa, ns, rfl, hS, hl, q⟩ := h
    refine ⟨_, (pss_cons (ps_set (i := 1) sc_law.nd rfl (.inr rfl) (pe_call G_law_open (hr.mono (by omega)) (by rfl) T.law_open.g T.law_open.F.kp T.law_open.b .nil pass0 (pa_cons (pv 0) pa_nil)))
  (pss_cons (ps_set (i := 2) sc_law.nd rfl (.inl rfl) (pe_op op_add pe_int (pe_call G_law_pick (hr.mono (by omega)) (by rfl) T.law_pick.g T.law_pick.F.kp T.law_pick.b .nil pass0 (pa_cons (pv 1) (pa_cons pe_int pa_nil)))))
  (pss_cons (ps_set (i := 3) sc_law.nd rfl (.inl rfl) (pe_call G_law_facts (hr.mono (by omega)) (by rfl) T.law_facts.g T.law_facts.F.kp T.law_facts.b .nil pass0 (pa_cons (pv 1) (pa_cons (pv 2) (pa_cons pe_int pa_nil)))))
  (pss_cons (ps_setLc (i := 4) (own := [("_law_k", 17)]) (g := gName 17) (tt := tYes) (te := (tCall _ _ _ (tCons (tVar 1) tNil))) rfl sc_law.nd rfl rfl (sw_true rfl rfl rfl (by decide +kernel)) (pi_range1 (by rfl) T.n_range (pa_cons (pv 2) pa_nil)) (blkOk_by (own := [("_law_k", 17)]) (N := N_law) (sc := defScope s_law) (by decide +kernel)) (fun _ _ _ _ _ => (pg_name (i := 17) sc_law.nd rfl (.inl rfl))) (fun _ _ _ _ _ => pts_nil) (fun _ _ _ _ _ => (pe_call G_law_number (hr.mono (by omega)) (by rfl) T.law_number.g T.law_number.F.kp T.law_number.b .nil pass0 (pa_cons (pv 1) pa_nil))))
  (pss_cons (ps_set (i := 5) sc_law.nd rfl (.inr rfl) (pe_call G_law_numbering (hr.mono (by omega)) (by rfl) T.law_numbering.g T.law_numbering.F.kp T.law_numbering.b .nil pass0 (pa_cons (pv 1) (pa_cons (pv 2) pa_nil))))
  (pss_cons (ps_set (i := 6) sc_law.nd rfl (.inl rfl) (pe_call G_law_pick (hr.mono (by omega)) (by rfl) T.law_pick.g T.law_pick.F.kp T.law_pick.b .nil pass0 (pa_cons (pv 1) (pa_cons (pv 2) pa_nil))))
  (pss_cons (ps_set (i := 7) sc_law.nd rfl (.inl rfl) (pe_call G_law_pick (hr.mono (by omega)) (by rfl) T.law_pick.g T.law_pick.F.kp T.law_pick.b .nil pass0 (pa_cons (pv 1) (pa_cons (pv 2) pa_nil))))
  (pss_cons (ps_set (i := 8) sc_law.nd rfl (.inl rfl) (pe_call G_law_pick (hr.mono (by omega)) (by rfl) T.law_pick.g T.law_pick.F.kp T.law_pick.b .nil pass0 (pa_cons (pv 1) (pa_cons (pv 2) pa_nil))))
  (pss_cons (ps_set (i := 9) sc_law.nd rfl (.inl rfl) (pe_call G_law_facts (hr.mono (by omega)) (by rfl) T.law_facts.g T.law_facts.F.kp T.law_facts.b .nil pass0 (pa_cons (pv 1) (pa_cons (pv 2) (pa_cons pe_int pa_nil)))))
  (pss_cons (ps_set (i := 10) sc_law.nd rfl (.inl rfl) (pe_call G_ring (hr.mono (by omega)) (by rfl) T.ring.g T.ring.F.kp T.ring.b .nil pass0 (pa_cons (pv 2) (pa_cons (pv 3) pa_nil))))
  (pss_cons (ps_set (i := 11) sc_law.nd rfl (.inl rfl) (pe_call G_law_move (hr.mono (by omega)) (by rfl) T.law_move.g T.law_move.F.kp T.law_move.b .nil pass0 (pa_cons (pv 3) (pa_cons (pv 4) pa_nil))))
  (Evl.pss_cut (ps_if (PW.pt (pw_and (pt_cmpR op_notN (pv 10) pe_non (nomark _)) (pw_and1 (pt_cmpR op_notBl (pe_call G_is_ring (hr.mono (by omega)) (by rfl) T.is_ring.g T.is_ring.F.kp T.is_ring.b .nil pass0 (pa_cons (pv 11) (pa_cons (pv 10) pa_nil))) pe_bl (nomark _))))) (pss_one (ps_ret pe_bl)) pss_nil)
  (pss_cons (ps_if (pt_cmpR op_ne (pe_cmpR op_isN (pe_call G_ring (hr.mono (by omega)) (by rfl) T.ring.g T.ring.F.kp T.ring.b .nil pass0 (pa_cons (pv 2) (pa_cons (pv 11) pa_nil))) pe_non (nomark _)) (pe_cmpR op_isN (pv 10) pe_non (nomark _)) (nomark _)) (pss_one (ps_ret pe_bl)) pss_nil)
  (pss_cons (ps_set (i := 12) sc_law.nd rfl (.inl rfl) (pe_call G_bound (hr.mono (by omega)) (by rfl) T.bound.g T.bound.F.kp T.bound.b .nil pass0 (pa_cons (pv 2) (pa_cons (pv 3) (pa_cons (pv 6) (pa_cons (pv 7) pa_nil))))))
  (pss_cons (ps_if (pt_not (pt_val (pe_call G_law_answer (hr.mono (by omega)) (by rfl) T.law_answer.g T.law_answer.F.kp T.law_answer.b .nil pass0 (pa_cons (pe_call G_bound (hr.mono (by omega)) (by rfl) T.bound.g T.bound.F.kp T.bound.b .nil pass0 (pa_cons (pv 2) (pa_cons (pv 11) (pa_cons (pv 6) (pa_cons (pv 7) pa_nil))))) (pa_cons (pe_call G_law_moved_by (hr.mono (by omega)) (by rfl) T.law_moved_by.g T.law_moved_by.F.kp T.law_moved_by.b .nil pass0 (pa_cons (pv 12) (pa_cons (pe_op op_sub (pe_ix ix_list (pv 4) (pv 6) (fun _ _ => rfl)) (pe_ix ix_list (pv 4) (pv 7) (fun _ _ => rfl))) pa_nil))) pa_nil))))) (pss_one (ps_ret pe_bl)) pss_nil)
  (pss_cons (ps_setLc (i := 13) (own := [("_law_fact", 18)]) (g := gName 18) (tt := tYes) (te := (tTup (tCons (tOp (rIxL K) (tVar 5) (tOp (rIxT K) (tVar 18) (tC _))) (tCons (tOp (rIxL K) (tVar 5) (tOp (rIxT K) (tVar 18) (tC _))) (tCons (tOp (rIxT K) (tVar 18) (tC _)) tNil))))) rfl sc_law.nd rfl rfl (sw_true rfl rfl rfl (by decide +kernel)) (pi_list (pv 3)) (blkOk_by (own := [("_law_fact", 18)]) (N := N_law) (sc := defScope s_law) (by decide +kernel)) (fun _ _ _ _ _ => (pg_name (i := 18) sc_law.nd rfl (.inl rfl))) (fun _ _ _ _ _ => pts_nil) (fun _ _ _ _ _ => (pe_tup (pa_cons (pe_ix ix_list (pv 5) (pe_ix ix_tup (pv 18) pe_int (fun _ _ => rfl)) (fun _ _ => rfl)) (pa_cons (pe_ix ix_list (pv 5) (pe_ix ix_tup (pv 18) pe_int (fun _ _ => rfl)) (fun _ _ => rfl)) (pa_cons (pe_ix ix_tup (pv 18) pe_int (fun _ _ => rfl)) pa_nil))))))
  (pss_cons (ps_if (pt_not (pt_val (pe_call G_law_answer (hr.mono (by omega)) (by rfl) T.law_answer.g T.law_answer.F.kp T.law_answer.b .nil pass0 (pa_cons (pe_call G_bound (hr.mono (by omega)) (by rfl) T.bound.g T.bound.F.kp T.bound.b .nil pass0 (pa_cons (pv 2) (pa_cons (pe_revL (pv 13)) (pa_cons (pe_ix ix_list (pv 5) (pv 6) (fun _ _ => rfl)) (pa_cons (pe_ix ix_list (pv 5) (pv 7) (fun _ _ => rfl)) pa_nil))))) (pa_cons (pv 12) pa_nil))))) (pss_one (ps_ret pe_bl)) pss_nil)
  (pss_cons (ps_set (i := 14) sc_law.nd rfl (.inl rfl) (pe_call G_bound (hr.mono (by omega)) (by rfl) T.bound.g T.bound.F.kp T.bound.b .nil pass0 (pa_cons (pv 2) (pa_cons (pv 3) (pa_cons (pv 7) (pa_cons (pv 8) pa_nil))))))
  (pss_cons (ps_set (i := 15) sc_law.nd rfl (.inl rfl) (pe_call G_bound (hr.mono (by omega)) (by rfl) T.bound.g T.bound.F.kp T.bound.b .nil pass0 (pa_cons (pv 2) (pa_cons (pv 3) (pa_cons (pv 6) (pa_cons (pv 8) pa_nil))))))
  (Evl.pss_cut (ps_if (PW.pt (pw_and (pt_cmpR op_notN (pv 12) pe_non (nomark _)) (pw_and (pt_cmpR op_notN (pv 14) pe_non (nomark _)) (pw_and1 (PW.pt (pw_or (pt_cmpR op_isN (pv 15) pe_non (nomark _)) (pw_or1 (pt_cmpR op_gt (pv 15) (pe_op op_add (pv 12) (pv 14)) (nomark _))))))))) (pss_one (ps_ret pe_bl)) pss_nil)
  (pss_cons (ps_if (PW.pt (pw_or (pt_cmpR op_notN (pv 10) pe_non (nomark _)) (pw_or1 (pt_cmpR op_notN (pe_call G_ring (hr.mono (by omega)) (by rfl) T.ring.g T.ring.F.kp T.ring.b .nil pass0 (pa_cons (pv 2) (pa_cons (pe_op op_cat (pv 3) (pv 9)) pa_nil))) pe_non (nomark _))))) (pss_one (ps_ret pe_bl)) pss_nil)
  (pss_cons (ps_set (i := 16) sc_law.nd rfl (.inl rfl) (pe_call G_bound (hr.mono (by omega)) (by rfl) T.bound.g T.bound.F.kp T.bound.b .nil pass0 (pa_cons (pv 2) (pa_cons (pe_op op_cat (pv 3) (pv 9)) (pa_cons (pv 6) (pa_cons (pv 7) pa_nil))))))
  (pss_one (ps_ret (pe_or (pe_cmpR op_isN (pv 12) pe_non (nomark _)) (pe_one (pe_and (pe_cmpR op_notN (pv 16) pe_non (nomark _)) (pe_one (pe_cmpR op_le (pv 16) (pv 12) (nomark _)))))))))))))))))))))))))))))), ?_⟩
    refine ⟨_, rfl, sa, ns, rfl, hS, hl, fun b c H1 hb hc s1 bx => ?_⟩
    have W0 := Wd.begin bx
    refine ⟨_, rfl, b, c, H0, 6, rfl, W0, by decide, by decide, fun i H2 W1 i0 i1 => ⟨1, i, rfl, rfl, ?_⟩⟩
    obtain ⟨n, rfl⟩ : ∃ n : Nat, i = (n : Int) - 1 := ⟨(i + 1).toNat, by omega⟩
    have n1 : 1 ≤ n := by omega
    have n2 : n ≤ 6 := by omega
    dsimp only
    rw [show (1 : Int) + ((n : Int) - 1) = (n : Int) by omega]
    refine ⟨_, rfl, _, rfl, b, c, H0, n, 12, rfl, W1, n1, by omega, by decide, fun G1 H3 p vs fs sg1 W2 gp pb pc hp hR hB hlen => ?_⟩
    have W3 := W2.keep hp pb pc
    have sgp : Same G1 (upd G1 p (.lst vs)) := same_upd gp
    have hR3 := hR.same sgp
    have hF : upd G1 p (.lst vs) p = some (.lst vs) := upd_same
    generalize upd G1 p (.lst vs) = G2 at W3 sgp hR3 hF
    -- amounts
    refine ⟨_, rfl, (n : Int), rfl, by omega, by omega, fun D hD => ?_⟩
    have gD : G2 D = none := W3.gh.free hD
    obtain ⟨Db, Dc⟩ := W3.nb hD
    refine lc_range (lo := 0) (n := ((n : Int)).toNat) (fun i H5 => ∃ as : List Int, Wd b c G2 H5 ∧ H5 D = some (.lst (as.map V.int)) ∧ as.length = i) ⟨[], W3.mut gD Db Dc, upd_same, rfl⟩ (fun i H5 hi pp => ?_) (fun H5 pp => ?_)
    · obtain ⟨as, W5, hD5, hal⟩ := pp
      refine ⟨rfl, yes_if ?_⟩
      refine ⟨_, rfl, b, c, _, rfl, W5.keep hD5 Db Dc, fun x H6 W7 _ _ => ?_⟩
      have hD6 : H6 D = some (.lst (as.map V.int)) := W7.gh _ _ upd_same
      have hi : i < n := hi
      refine ⟨as.map V.int, hD6, szl (by rw [List.length_map]; omega), as ++ [x], (W7.weak (same_upd gD)).mut gD Db Dc, ?_, by rw [List.length_append, hal]; rfl⟩
      rw [upd_same, List.map_append]
      rfl
    obtain ⟨as, W5, hD5, hal⟩ := pp
    have hal : as.length = n := hal
    have W6 := W5.keep hD5 Db Dc
    have sg6 : Same G2 (upd G2 D (.lst (as.map V.int))) := same_upd gD
    have hA : upd G2 D (.lst (as.map V.int)) D = some (.lst (as.map V.int)) := upd_same
    have hF6 := sg6 _ _ hF
    have hR6 := hR3.same sg6
    generalize upd G2 D (.lst (as.map V.int)) = G3 at W6 sg6 hA hF6 hR6
    -- another numbering
    refine ⟨_, rfl, _, rfl, b, c, G3, n, rfl, W6, by omega, fun G4 H7 od os sg7 W7 hod hol hnd hos => ?_⟩
    have hA7 := sg7 _ _ hA
    have hF7 := sg7 _ _ hF6
    have hR7 := hR6.same sg7
    refine ⟨_, rfl, _, rfl, b, c, G4, (n : Int), rfl, W7, by omega, by omega, fun x H8 W8 x0 x1 => ?_⟩
    obtain ⟨xa, rfl⟩ : ∃ xa : Nat, x = (xa : Int) := ⟨x.toNat, by omega⟩
    refine ⟨_, rfl, _, rfl, b, c, G4, (n : Int), rfl, W8, by omega, by omega, fun y H9 W9 y0 y1 => ?_⟩
    obtain ⟨xb, rfl⟩ : ∃ xb : Nat, y = (xb : Int) := ⟨y.toNat, by omega⟩
    refine ⟨_, rfl, _, rfl, b, c, G4, (n : Int), rfl, W9, by omega, by omega, fun z H10 W10 z0 z1 => ?_⟩
    obtain ⟨xc, rfl⟩ : ∃ xc : Nat, z = (xc : Int) := ⟨z.toNat, by omega⟩
    have an : xa < n := by omega
    have bn : xb < n := by omega
    have cn : xc < n := by omega
    refine ⟨_, rfl, _, rfl, b, c, G4, n, 1, rfl, W10, n1, by omega, by decide, fun G5 H11 pe us gs sg11 W11 gpe peb pec hpe hRe hBe hlene => ?_⟩
    have hp11 := W11.gh _ _ (sg11 _ _ hF7)
    have hR11 := hR7.same (sg11.trans W11.gh)
    have hA11 := W11.gh _ _ (sg11 _ _ hA7)
    have hod11 := W11.gh _ _ (sg11 _ _ hod)
    have hRe11 := hRe.same W11.gh
    have hfl : fs.length ≤ 1000 := by omega
    have nn : n ≤ 1000 := by omega
    -- found = ring(count, facts)
    refine ⟨_, rfl, _, rfl, n, p, fs, rfl, hR11.at hp11, hB, n1, nn, fun H12 v s12 rv => ?_⟩
    -- shifted
    refine ⟨_, rfl, _, rfl, p, D, fs, as, rfl, (hR11.same s12).at (s12 _ _ hp11), hfl, s12 _ _ hA11, by rw [hal]; exact hB, fun H13 ps vsS s13 hps hRs => ?_⟩
    have s1113 := s12.trans s13
    generalize ham : (fun v => as.getD v 0) = am at hRs
    have hBs : Below n (fs.map (shiftF am)) := below_shift hB
    have hsl : (fs.map (shiftF am)).length ≤ 1000 := by rw [List.length_map]; exact hfl
    -- the ring of the facts is one of the shifted facts
    have found_none : (decide (v = .non)) = decide ((fin fs n).L = none) := by
      rcases rv with ⟨hL, rfl⟩ | ⟨x, p1, hL, rfl, _, _⟩
      · rw [decide_eq_true hL]; rfl
      · rw [hL]; rfl
    refine ⟨fun σ H' => σ = [some (.ref sa), some (.ref b), some (.int (n : Nat)), some (.ref p), some (.ref D), some (.ref od), some (.int (xa : Nat)), some (.int (xb : Nat)), some (.int (xc : Nat)), some (.ref pe), some v, some (.ref ps), none, none, none, none, none, none, none] ∧ H' = H13, ?_, ?_⟩
    · rcases rv with ⟨hL, rfl⟩ | ⟨x, p1, hL, rfl, _, hp1⟩
      · exact ⟨_, rfl, rfl, _, rfl, iF rfl (iF rfl ⟨rfl, rfl⟩)⟩
      · refine ⟨_, rfl, rfl, _, rfl, iT rfl ?_⟩
        obtain ⟨xn, hd, hm', hneg, _⟩ := fin_cycle (s := s0) rfl n1 hB hL
        obtain ⟨r1, r2, r3⟩ := ringL_ok hd hm' hneg
        have hp13 := s13 _ _ hp1
        have eR : isRingV (fs.map (shiftF am)) ((ringL fs n (fin fs n).O x).map nV) = true := by
          unfold isRingV
          have e1 : ((ringL fs n (fin fs n).O x).map nV).all (okP (fs.map (shiftF am)).length) = true := by
            rw [List.all_eq_true, List.length_map]
            intro z hz
            obtain ⟨i, hi, rfl⟩ := List.mem_map.mp hz
            have := r1 i hi
            show (decide ((0 : Int) ≤ (i : Nat)) && decide (((i : Nat) : Int) < (fs.length : Int))) = true
            rw [decide_eq_true (by omega), decide_eq_true (by omega)]
            rfl
          have e2 : ((ringL fs n (fin fs n).O x).map nV).map vN = ringL fs n (fin fs n).O x := by
            rw [List.map_map]
            have : (vN ∘ nV) = id := by funext i; rfl
            rw [this, List.map_id]
          rw [e1, e2]
          exact ringB_shift r1 r2
        refine ⟨_, rfl, _, rfl, ps, _, _, rfl, hRs.at hps, hsl, .inr ⟨p1, _, rfl, hp13, by rw [List.length_map]; exact Nat.le_trans r3 (by omega), fun z hz => ?_, ?_⟩⟩
        · obtain ⟨i, _, rfl⟩ := List.mem_map.mp hz
          exact ⟨_, .int _⟩
        · rw [eR]
          exact ⟨true, true, rfl, rfl, _, rfl, iF rfl ⟨rfl, rfl⟩⟩
    rintro σ _ ⟨rfl, rfl⟩
    have hp13 := s1113 _ _ hp11
    have hR13 := hR11.same s1113
    have hA13 := s1113 _ _ hA11
    have hod13 := s1113 _ _ hod11
    have hRe13 := hRe11.same s1113
    have hpe13 := s1113 _ _ hpe
    -- (ring(count, shifted) is None) != (found is None)
    refine ⟨_, rfl, _, rfl, n, ps, _, rfl, hRs.at hps, hBs, n1, nn, fun H14 v' s14 rv' => ⟨rfl, _, rfl, rfl, rfl, _, rfl, ?_⟩⟩
    have found_none' : (decide (v' = .non)) = decide ((fin fs n).L = none) := by
      have hsh := fin_shift (am := am) n1 hB
      rcases rv' with ⟨hL, rfl⟩ | ⟨x, p1, hL, rfl, _, _⟩
      · rw [decide_eq_true (hsh.mp hL)]; rfl
      · rw [decide_eq_false (show ¬ (fin fs n).L = none from fun e => by rw [hsh.mpr e] at hL; cases hL)]; rfl
    refine iF (by rw [found_none, found_none', decide_eq_true rfl]; rfl) ?_
    have hp14 := s14 _ _ hp13
    have hR14 := hR13.same s14
    have hps14 := s14 _ _ hps
    have hRs14 := hRs.same s14
    have hA14 := s14 _ _ hA13
    have hod14 := s14 _ _ hod13
    have hRe14 := hRe13.same s14
    have hpe14 := s14 _ _ hpe13
    -- ab
    refine ⟨_, rfl, _, rfl, _, rfl, _, rfl, n, xa, xb, p, fs, rfl, hR14.at hp14, hB, n1, nn, an, bn, fun H15 s15 => ?_⟩
    have hp15 := s15 _ _ hp14
    have hR15 := hR14.same s15
    have hps15 := s15 _ _ hps14
    have hRs15 := hRs14.same s15
    have hA15 := s15 _ _ hA14
    refine ⟨_, rfl, _, rfl, _, rfl, _, rfl, n, xa, xb, ps, _, rfl, hRs15.at hps15, hBs, n1, nn, an, bn, fun H16 s16 => ?_⟩
    have hA16 := s16 _ _ hA15
    refine ⟨_, rfl, _, rfl, _, rfl, D, _, _, _, rfl, rfl, SqL.of hA16, ints_at (by omega), _, rfl, _, rfl, D, _, _, _, rfl, rfl, SqL.of hA16, ints_at (by omega), _, _, rfl, rfl, bndR fs n xa xb, _, rfl, ?_⟩
    have esh : bndR (fs.map (shiftF am)) n xa xb = (bndR fs n xa xb).map (· + (as.getD xa 0 - as.getD xb 0)) := by
      rw [show as.getD xa 0 = am xa by rw [← ham], show as.getD xb 0 = am xb by rw [← ham]]
      exact bndQ_shift n1 hB
    refine ⟨(bndR fs n xa xb).map (· + (as.getD xa 0 - as.getD xb 0)), by rw [esh]; rfl, ⟨_, rfl, iF rfl ?_⟩⟩
    have hp16 := s16 _ _ hp15
    have hR16 := hR15.same s16
    have s1416 := s15.trans s16
    have hod16 := s1416 _ _ hod14
    -- named
    refine ⟨_, rfl, p, rfl, ⟨_, SqL.of hp16⟩, fun D2 hD2 => ?_⟩
    refine lc_list (K := K) (a := p) (xs := vs) (fun i H' => Same H16 H' ∧ ∃ vs', H' D2 = some (.lst vs') ∧ Rows H' vs' ((fs.take i).map (renF fun v => os.getD v 0))) ⟨same_upd hD2, [], upd_same, rfl, fun i f h => by simp at h⟩ (fun i H' _ pp => SqL.of (pp.1 _ _ hp16)) (fun i x H' hi pp => ?_) (fun H' pp => ?_)
    · obtain ⟨sm, vs', hv', hR'⟩ := pp
      have hlt : i < fs.length := by rw [← hR16.1]; exact (List.getElem?_eq_some_iff.mp hi).1
      obtain ⟨t, t1, t2⟩ := hR16.2 i _ (List.getElem?_eq_getElem hlt)
      rw [hi] at t1
      cases t1
      have hbf := hB _ (List.getElem_mem hlt)
      have hFi : fs[i]? = some fs[i] := List.getElem?_eq_getElem hlt
      generalize fs[i] = f at t2 hbf hFi
      obtain ⟨a, b', c'⟩ := f
      have t2 := sm _ _ t2
      have ho' := sm _ _ hod16
      refine ⟨rfl, yes_if ?_⟩
      refine ⟨_, rfl, _, rfl, t, _, 0, _, rfl, rfl, SqT.of t2, rfl, od, _, _, _, rfl, rfl, SqL.of ho', nats_at (by rw [hol]; exact hbf.1), _, rfl, _, rfl, t, _, 1, _, rfl, rfl, SqT.of t2, rfl, od, _, _, _, rfl, rfl, SqL.of ho', nats_at (by rw [hol]; exact hbf.2), _, rfl, t, _, 2, _, rfl, rfl, SqT.of t2, rfl, sz (by show 3 ≤ 100000; decide), fun z hz => ?_⟩
      have hvz := same_upd (o := tup3 (renF (fun v => os.getD v 0) (a, b', c'))) hz _ _ hv'
      refine ⟨vs', hvz, szl (by rw [hR'.1, List.length_map, List.length_take]; omega), same_mut (sm.trans (same_upd hz)) hD2, _, upd_same, ?_⟩
      rw [List.take_add_one, hFi, List.map_append]
      exact ((hR'.same (same_upd hz)).snoc upd_same).mut hvz
    obtain ⟨s17, vs', hv', hR'⟩ := pp
    rw [List.take_of_length_le (by rw [hR16.1]; exact Nat.le_refl _)] at hR'
    have hod17 := s17 _ _ hod16
    have ho : ∀ v, v < n → os.getD v 0 < n := fun v hv => by
      rw [List.getD_eq_getElem?_getD, List.getElem?_eq_getElem (by rw [hol]; exact hv)]
      exact hos _ (List.getElem_mem _)
    have hBn : Below n (fs.map (renF fun v => os.getD v 0)) := fun f hf => by
      obtain ⟨g, hg, e⟩ := List.mem_map.mp hf
      rw [← e]
      exact ⟨ho _ (hB g hg).1, ho _ (hB g hg).2⟩
    refine ⟨_, rfl, _, rfl, D2, vs', rfl, SqL.of hv', fun rv2 hrv => ?_⟩
    have s18 : Same H' (upd H' rv2 (.lst vs'.reverse)) := same_upd hrv
    have hr18 : upd H' rv2 (.lst vs'.reverse) rv2 = some (.lst vs'.reverse) := upd_same
    generalize upd H' rv2 (.lst vs'.reverse) = H18 at s18 hr18
    have hod18 := s18 _ _ hod17
    refine ⟨_, rfl, _, rfl, od, _, _, _, rfl, rfl, SqL.of hod18, nats_at (by omega), _, rfl, _, rfl, od, _, _, _, rfl, rfl, SqL.of hod18, nats_at (by omega), n, _, _, rv2, _, rfl, (hR'.same s18).rev.at hr18, below_rev hBn, n1, nn, ho _ an, ho _ bn, fun H19 s19 => ?_⟩
    have ern : bndR (fs.map (renF fun v => os.getD v 0)).reverse n (os.getD xa 0) (os.getD xb 0) = bndR fs n xa xb := bndQ_ren (o := fun v => os.getD v 0) n1 hB an bn ho (fun u v hu hv e => nd_inj hnd (by omega) (by omega) e)
    rw [ern]
    refine ⟨_, rfl, _, rfl, ⟨_, rfl, iF rfl ?_⟩⟩
    have s1619 := s17.trans (s18.trans s19)
    have hp19 := s1619 _ _ hp16
    have hR19 := hR16.same s1619
    -- bc, ac
    refine ⟨_, rfl, _, rfl, _, rfl, _, rfl, n, xb, xc, p, fs, rfl, hR19.at hp19, hB, n1, nn, bn, cn, fun H20 s20 => ?_⟩
    have hp20 := s20 _ _ hp19
    have hR20 := hR19.same s20
    refine ⟨_, rfl, _, rfl, _, rfl, _, rfl, n, xa, xc, p, fs, rfl, hR20.at hp20, hB, n1, nn, an, cn, fun H21 s21 => ?_⟩
    have hp21 := s21 _ _ hp20
    have hR21 := hR20.same s21
    have s1421 := s1416.trans (s1619.trans (s20.trans s21))
    have hpe21 := s1421 _ _ hpe14
    have hRe21 := hRe14.same s1421
    -- the triangle
    refine ⟨fun σ H' => σ = [some (.ref sa), some (.ref b), some (.int (n : Nat)), some (.ref p), some (.ref D), some (.ref od), some (.int (xa : Nat)), some (.int (xb : Nat)), some (.int (xc : Nat)), some (.ref pe), some v, some (.ref ps), some (oV (bndR fs n xa xb)), some (.ref D2), some (oV (bndR fs n xb xc)), some (oV (bndR fs n xa xc)), none, none, none] ∧ H' = H21, ?_, ?_⟩
    · refine ⟨_, rfl, rfl, _, rfl, ?_⟩
      cases e1 : bndR fs n xa xb with
      | none => exact iF rfl (iF rfl ⟨rfl, rfl⟩)
      | some x =>
        refine iT rfl ⟨_, rfl, rfl, _, rfl, ?_⟩
        cases e2 : bndR fs n xb xc with
        | none => exact iF rfl (iF rfl ⟨rfl, rfl⟩)
        | some y =>
          obtain ⟨z, hz1, hz2⟩ := bndQ_tri (a := xa) (b := xb) (c := xc) n1 hB e1 e2
          have hz1 : bndR fs n xa xc = some z := hz1
          refine iT rfl ⟨_, rfl, rfl, _, rfl, ?_⟩
          rw [hz1]
          refine iF rfl ⟨_, rfl, _, rfl, _, rfl, _, _, rfl, rfl, _, _, rfl, rfl, _, rfl, iF (decide_eq_false (by omega)) ⟨rfl, rfl⟩⟩
    rintro σ H' ⟨rfl, hH⟩
    rw [hH]
    -- one more fact
    refine ⟨_, rfl, rfl, _, rfl, ?_⟩
    by_cases hv : v = .non
    · have hL0 : (fin fs n).L = none := by
        rw [decide_eq_true hv] at found_none
        exact of_decide_eq_true found_none.symm
      refine iF (by rw [decide_eq_true hv]; rfl) ?_
      refine ⟨_, rfl, _, rfl, _, rfl, p, pe, _, _, rfl, rfl, hp21, hpe21, sz (by rw [hR21.1, hRe21.1]; omega), fun l hl' => ?_⟩
      have s22 : Same H21 (upd H21 l (.lst (vs ++ us))) := same_upd hl'
      have hl22 : upd H21 l (.lst (vs ++ us)) l = some (.lst (vs ++ us)) := upd_same
      generalize upd H21 l (.lst (vs ++ us)) = H22 at s22 hl22
      have hBa := below_app hB hBe
      refine ⟨n, l, _, rfl, ((hR21.app hRe21).same s22).at hl22, hBa, n1, nn, fun H23 v3 s23 rv3 => ⟨rfl, _, rfl, ?_⟩⟩
      rcases rv3 with ⟨hL3, rfl⟩ | ⟨x3, p3, hL3, rfl, _, _⟩
      · refine iF rfl ?_
        have s2123 := s22.trans s23
        refine ⟨_, rfl, _, rfl, _, rfl, p, pe, _, _, rfl, rfl, s2123 _ _ hp21, s2123 _ _ hpe21, sz (by rw [hR21.1, hRe21.1]; omega), fun l hl' => ?_⟩
        have s24 : Same H23 (upd H23 l (.lst (vs ++ us))) := same_upd hl'
        have hl24 : upd H23 l (.lst (vs ++ us)) l = some (.lst (vs ++ us)) := upd_same
        generalize upd H23 l (.lst (vs ++ us)) = H24 at s24 hl24
        refine ⟨_, rfl, _, rfl, n, xa, xb, l, _, rfl, ((hR21.app hRe21).same (s2123.trans s24)).at hl24, hBa, n1, nn, an, bn, fun H25 s25 => ?_⟩
        refine ⟨_, rfl, rfl, _, rfl, ?_⟩
        cases e1 : bndR fs n xa xb with
        | none => exact iT rfl (q _)
        | some x =>
          obtain ⟨z, hz1, hz2⟩ := bndQ_more (a := xa) (b := xb) n1 hB hBa hL3 e1
          have hz1 : bndR (fs ++ gs) n xa xb = some z := hz1
          refine iF rfl ⟨_, rfl, rfl, _, rfl, ?_⟩
          rw [hz1]
          refine iT rfl ⟨_, rfl, _, rfl, _, _, rfl, rfl, ?_⟩
          dsimp only
          rw [decide_eq_true hz2]
          exact q _
      · exact iT rfl (q _)
    · refine iT (by rw [decide_eq_false hv]; rfl) (iT rfl (q _))
end
end Pl
namespace Pl
open PySem L2
theorem fin_mk {l : PySem.W.OpenLaw} {w : World} {K : PySem.W.Frag} {mg : Str → Option Value} {fa : Addr} (x : ∃ T : Txt K mg, T.law.f = fa ∧ ∀ (s : Shared) (v : Value), BindsTo s T.law.fd ⟨[v], []⟩ [("_law_script", v)]) :
    ∃ fd : FuncData, (∀ (s : Shared) (v : Value), BindsTo s fd ⟨[v], []⟩ [("_law_script", v)]) ∧ ∀ base : Heap, K.In base → base.Ns mainGlobals mg → FnOk l.prog w K mg base CX0 6 fa fd ["_law_script"] (spLaw K) := by
  obtain ⟨T, rfl, h⟩ := x
  exact ⟨T.law.fd, h, fun base _ _ => ok_law T⟩
end Pl
open PySem PySem.W PyProof.Rows in
set_option maxRecDepth 100000 in
set_option maxHeartbeats 0 in
theorem PySem.Challenge.cw_pastlooks_k40_whole_facts_moved_holds : PySem.Challenge.rw_pastlooks_k40_whole_facts_moved.Holds := by
  w_on; o_law; k_head; (case hw => w_witness2)
  k_fill
  refine L2.walk_of (l := PySem.Challenge.rw_pastlooks_k40_whole_facts_moved) (n := 63) (k := 6) (x := "_law_script") (CX := fun _ => L2.CX0) (sp := fun w => Pl.spLaw _) rfl (by decide) rfl ⟨rfl, by decide, by decide⟩ (fun w h Y => PySem.W.kIn_of Y) ?F (fun _ _ a ns hl _ hS => ⟨a, ns, rfl, hS, hl, fun _ => rfl⟩) (fun _ _ _ _ _ h => h)
  case F =>
    intro w mg fa h KX G hmg
    refine' Pl.fin_mk (Pl.all_mk (l := PySem.Challenge.rw_pastlooks_k40_whole_facts_moved) (w := w) KX G hmg ?a0 ?l0 ?c0 ?k0 ?a1 ?l1 ?c1 ?k1 ?a2 ?l2 ?c2 ?k2 ?a3 ?l3 ?c3 ?k3 ?a4 ?l4 ?c4 ?k4 ?a5 ?l5 ?c5 ?k5 ?a6 ?l6 ?c6 ?k6 ?a7 ?l7 ?c7 ?k7 ?a8 ?l8 ?c8 ?k8 ?a9 ?l9 ?c9 ?k9 ?a10 ?l10 ?c10 ?k10 ?a11 ?l11 ?c11 ?k11 ?a12 ?l12 ?c12 ?k12 ?a13 ?l13 ?c13 ?k13 ?a14 ?l14 ?c14 ?k14 ?a15 ?l15 ?c15 ?k15 ?a16 ?l16 ?c16 ?k16 ?a17 ?l17 ?c17 ?k17 ?z0 ?z1 ?z2 ?z3 ?z4 ?z5 ?z6 ?z7 ?z8)
    (case a0 => k_is); (case l0 => k_is); (case c0 => k_is); (case k0 => k_is); (case a1 => k_is); (case l1 => k_is); (case c1 => k_is); (case k1 => k_is); (case a2 => k_is); (case l2 => k_is); (case c2 => k_is); (case k2 => k_is); (case a3 => k_is); (case l3 => k_is); (case c3 => k_is); (case k3 => k_is); (case a4 => k_is); (case l4 => k_is); (case c4 => k_is); (case k4 => k_is); (case a5 => k_is); (case l5 => k_is); (case c5 => k_is); (case k5 => k_is); (case a6 => k_is); (case l6 => k_is); (case c6 => k_is); (case k6 => k_is); (case a7 => k_is); (case l7 => k_is); (case c7 => k_is); (case k7 => k_is); (case a8 => k_is); (case l8 => k_is); (case c8 => k_is); (case k8 => k_is); (case a9 => k_is); (case l9 => k_is); (case c9 => k_is); (case k9 => k_is); (case a10 => k_is); (case l10 => k_is); (case c10 => k_is); (case k10 => k_is); (case a11 => k_is); (case l11 => k_is); (case c11 => k_is); (case k11 => k_is); (case a12 => k_is); (case l12 => k_is); (case c12 => k_is); (case k12 => k_is); (case a13 => k_is); (case l13 => k_is); (case c13 => k_is); (case k13 => k_is); (case a14 => k_is); (case l14 => k_is); (case c14 => k_is); (case k14 => k_is); (case a15 => k_is); (case l15 => k_is); (case c15 => k_is); (case k15 => k_is); (case a16 => k_is); (case l16 => k_is); (case c16 => k_is); (case k16 => k_is); (case a17 => k_is); (case l17 => k_is); (case c17 => k_is); (case k17 => k_is); (case z0 => k_is); (case z1 => k_is); (case z2 => k_is); (case z3 => k_is); (case z4 => k_is); (case z5 => k_is); (case z6 => k_is); (case z7 => k_is); (case z8 => k_is)
