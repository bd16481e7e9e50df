import PyProof.Rows.All
import Wide.All
import OpenK.AllK
import Wide.FinOn
import KE.OsRunLaw
import KE.RegKSuper
import KE.RegKIsAll
import HandS.ForMost
import HandS.IsInst
import HandS.Nested
import HandS.ClsMeth
import HandS.Star
import KE.KSuper
import HandS.SlotsOwn
import KE.KOpsOwn
import HandS.MakeKwOnly
import KE.KStateDown
import HandS.Head0
import HandS.Head1
import HandS.Head2
import HandS.HeadEnd
import HandS.HeadHook1
import HandS.HeadHook2
import HandS.Defaults
import HandS.SortKw
import KE.SortData
import KE.DataMinMax
import HandS.Evl
import HandS.Zip
import HandS.Walk
import HandS.Style
import HandS.Small
import HandS.Text
import HandS.Deep
import HandS.Comp
import HandS.Dict
import HandS.Iter
import HandS.TupAny
import HandS.WordsDict
import HandS.SortInts
import HandS.Conv
import HandS.DeepEq
import HandS.Wide
import HandS.More
import PyProof.Rows.SortStr
import HandS.Set
import HandS.Strs
import HandS.TupSets
import HandS.SetBool
import PyProof.InstEq
import PySem.Challenge.RW_pastlooks_k13_rows_of_a_world
set_option Elab.async false
set_option linter.all false
set_option maxRecDepth 100000
set_option maxHeartbeats 4000000
set_option Elab.async false
set_option linter.all false
set_option maxRecDepth 100000
set_option maxHeartbeats 4000000
namespace Pl
open PySem L2
/-! ### heaps -/
theorem same_upd {H : Hp} {p : Addr} {o : HO} (h : H p = none) : Same H (upd H p o) := fun b x e => by
  rw [upd_ne (ne_of_none e h)]
  exact e
theorem same_mut {G H : Hp} {p : Addr} {o : HO} (s : Same G H) (h : G p = none) : Same G (upd H p o) := fun b x e => by
  rw [upd_ne (ne_of_none e h)]
  exact s b x e
theorem same_both {G H : Hp} {p : Addr} {o : HO} (s : Same G H) : Same (upd G p o) (upd H p o) := fun b x e => by
  unfold upd at *
  split
  · rename_i h
    rw [if_pos h] at e
    exact e
  · rename_i h
    rw [if_neg h] at e
    exact s b x e
theorem Same.rd {H H' : Hp} {a : Addr} {u : HO} (s : Same H H') (h : Rd H a u) : Rd H' a u := by
  rcases h with h | ⟨o, h⟩
  · exact .inl (s _ _ h)
  · exact .inr ⟨o, s _ _ h⟩
theorem Same.tup {K : PySem.W.Frag} {H H' : Hp} {a : Addr} {xs : List V} (s : Same H H') (h : SqT K H a xs) : SqT K H' a xs := by
  rcases h with (h | ⟨o, h⟩) | h
  · exact .inl (.inl (s _ _ h))
  · exact .inl (.inr ⟨o, s _ _ h⟩)
  · exact .inr h
theorem at_ix {xs : List V} {j : Int} {v : V} (h0 : 0 ≤ j) (h : xs[j.toNat]? = some v) : atI xs j = some v := by
  have e : j = ((j.toNat : Nat) : Int) := by omega
  rw [e]
  exact atI_nat h
theorem at_ix2 {α : Type} {xs : List α} {j : Int} {v : α} (h0 : 0 ≤ j) (h : xs[j.toNat]? = some v) : atI xs j = some v := by
  have e : j = ((j.toNat : Nat) : Int) := by omega
  rw [e]
  exact atI_nat h
theorem ix_in {n : Nat} {j : Int} (h0 : 0 ≤ j) (h1 : j < n) : ixN n j = some j.toNat := by
  unfold ixN
  rw [if_pos h0, if_pos h1]
theorem at_ints {cs : List Int} {j : Int} (h0 : 0 ≤ j) (h1 : j < cs.length) : ∃ x, atI (cs.map V.int) j = some (.int x) := by
  have h : j.toNat < cs.length := by omega
  exact ⟨cs[j.toNat], at_ix h0 (by rw [List.getElem?_map, List.getElem?_eq_getElem h]; rfl)⟩
theorem fm0 {a b : Int} (h : 0 < b) : 0 ≤ a.fmod b := by
  rw [Int.fmod_eq_emod_of_nonneg _ (Int.le_of_lt h)]
  exact Int.emod_nonneg _ (by omega)
theorem fm1 {a b : Int} (h : 0 < b) : a.fmod b < b := by
  rw [Int.fmod_eq_emod_of_nonneg _ (Int.le_of_lt h)]
  exact Int.emod_lt_of_pos _ h
theorem sz {n : Nat} (h : n ≤ 100000) : n ≤ sizeLine := Nat.le_trans h (by decide)
theorem szl {n : Nat} (h : n < 100000) : n < sizeLine := Nat.lt_of_lt_of_le h (by decide)
/-! ### the box from which a law draws -/
def BoxAt (b c : Addr) (H : Hp) : Prop := b ≠ c ∧ ∃ (cs : List Int) (k : Int), H b = some (.lst [.ref c, .int k]) ∧ H c = some (.lst (cs.map V.int)) ∧ 0 < cs.length ∧ cs.length ≤ 64
/-- G: what stays -/
structure Wd (b c : Addr) (G H : Hp) : Prop where
  box : BoxAt b c H
  gh : Same G H
  gb : G b = none
  gc : G c = none
/-- nothing that stood is changed; G is what is known and stays -/
structure Gr (G H G' H' : Hp) : Prop where
  gg : Same G G'
  gh : Same G' H'
  hh : Same H H'
  nw : ∀ a o, G' a = some o → G a = some o ∨ H a = none
theorem Gr.refl {G H : Hp} (s : Same G H) : Gr G H G H := ⟨Same.refl _, s, Same.refl _, fun _ _ h => .inl h⟩
theorem Gr.trans {G H G1 H1 G2 H2 : Hp} (a : Gr G H G1 H1) (b : Gr G1 H1 G2 H2) : Gr G H G2 H2 :=
  ⟨a.gg.trans b.gg, b.gh, a.hh.trans b.hh, fun x o h => by
    rcases b.nw x o h with h | h
    · exact a.nw x o h
    · exact .inr (a.hh.free h)⟩
theorem Gr.new {G H : Hp} {p : Addr} {o : HO} (s : Same G H) (h : H p = none) : Gr G H (upd G p o) (upd H p o) :=
  ⟨same_upd (s.free h), same_both s, same_upd h, fun a x e => by
    by_cases q : a = p
    · rw [q]; exact .inr h
    · rw [upd_ne q] at e; exact .inl e⟩
/-- a new thing that is not to be known -/
theorem Gr.drop {G H : Hp} {p : Addr} {o : HO} (s : Same G H) (h : H p = none) : Gr G H G (upd H p o) :=
  ⟨Same.refl _, same_mut s (s.free h), same_upd h, fun _ _ e => .inl e⟩
theorem Gr.none {G H G' H' : Hp} (g : Gr G H G' H') {a : Addr} {o : HO} (h : G a = none) (ha : H a = some o) : G' a = none := by
  cases e : G' a with
  | none => rfl
  | some u =>
    rcases g.nw a u e with q | q
    · rw [h] at q; cases q
    · rw [ha] at q; cases q
theorem BoxAt.same {b c : Addr} {H H' : Hp} (x : BoxAt b c H) (s : Same H H') : BoxAt b c H' := by
  obtain ⟨n, cs, k, h1, h2, h3⟩ := x
  exact ⟨n, cs, k, s _ _ h1, s _ _ h2, h3⟩
theorem BoxAt.b {b c : Addr} {H : Hp} (x : BoxAt b c H) : ∃ o, H b = some o := by
  obtain ⟨n, cs, k, h1, h2, h3⟩ := x
  exact ⟨_, h1⟩
theorem BoxAt.c {b c : Addr} {H : Hp} (x : BoxAt b c H) : ∃ o, H c = some o := by
  obtain ⟨n, cs, k, h1, h2, h3⟩ := x
  exact ⟨_, h2⟩
theorem Wd.gr {b c : Addr} {G H G' H' : Hp} (x : Wd b c G H) (g : Gr G H G' H') : Wd b c G' H' := by
  obtain ⟨_, h1⟩ := x.box.b
  obtain ⟨_, h2⟩ := x.box.c
  exact ⟨x.box.same g.hh, g.gh, g.none x.gb h1, g.none x.gc h2⟩
theorem Wd.gr0 {b c : Addr} {G H : Hp} (x : Wd b c G H) : Gr G H G H := Gr.refl x.gh
/-- a list that is not frozen may be written -/
theorem Wd.mut {b c p : Addr} {G H : Hp} {o : HO} (x : Wd b c G H) (h : G p = none) (hb : p ≠ b) (hc : p ≠ c) : Wd b c G (upd H p o) := by
  obtain ⟨n, cs, k, h1, h2, h3⟩ := x.box
  exact ⟨⟨n, cs, k, by rw [upd_ne (Ne.symm hb)]; exact h1, by rw [upd_ne (Ne.symm hc)]; exact h2, h3⟩, same_mut x.gh h, x.gb, x.gc⟩
/-! ### isinstance of built-in classes -/
theorem kb_int_int : kitB "int" "int" = some true := by decide +kernel
theorem kb_int_bool : kitB "int" "bool" = some false := by decide +kernel
theorem kb_int_tuple : kitB "int" "tuple" = some false := by decide +kernel
theorem kb_int_list : kitB "int" "list" = some false := by decide +kernel
theorem kb_int_str : kitB "int" "str" = some false := by decide +kernel
theorem kb_bool_int : kitB "bool" "int" = some true := by decide +kernel
theorem kb_bool_bool : kitB "bool" "bool" = some true := by decide +kernel
theorem kb_bool_tuple : kitB "bool" "tuple" = some false := by decide +kernel
theorem kb_bool_list : kitB "bool" "list" = some false := by decide +kernel
theorem kb_bool_str : kitB "bool" "str" = some false := by decide +kernel
theorem kb_tuple_int : kitB "tuple" "int" = some false := by decide +kernel
theorem kb_tuple_bool : kitB "tuple" "bool" = some false := by decide +kernel
theorem kb_tuple_tuple : kitB "tuple" "tuple" = some true := by decide +kernel
theorem kb_tuple_list : kitB "tuple" "list" = some false := by decide +kernel
theorem kb_tuple_str : kitB "tuple" "str" = some false := by decide +kernel
theorem kb_list_int : kitB "list" "int" = some false := by decide +kernel
theorem kb_list_bool : kitB "list" "bool" = some false := by decide +kernel
theorem kb_list_tuple : kitB "list" "tuple" = some false := by decide +kernel
theorem kb_list_list : kitB "list" "list" = some true := by decide +kernel
theorem kb_list_str : kitB "list" "str" = some false := by decide +kernel
theorem kb_str_int : kitB "str" "int" = some false := by decide +kernel
theorem kb_str_bool : kitB "str" "bool" = some false := by decide +kernel
theorem kb_str_tuple : kitB "str" "tuple" = some false := by decide +kernel
theorem kb_str_list : kitB "str" "list" = some false := by decide +kernel
theorem kb_str_str : kitB "str" "str" = some true := by decide +kernel
theorem kb_none_int : kitB "NoneType" "int" = some false := by decide +kernel
theorem kb_none_bool : kitB "NoneType" "bool" = some false := by decide +kernel
theorem kb_none_tuple : kitB "NoneType" "tuple" = some false := by decide +kernel
theorem kb_none_list : kitB "NoneType" "list" = some false := by decide +kernel
theorem kb_none_str : kitB "NoneType" "str" = some false := by decide +kernel
/-- the kinds of values that a law handles, by a built-in type's name -/
inductive Ty (H : Hp) : V → String → Prop
  | non : Ty H .non "NoneType"
  | bl (b : Bool) : Ty H (.bl b) "bool"
  | int (i : Int) : Ty H (.int i) "int"
  | str (x : Str) : Ty H (.str x) "str"
  | lst {a : Addr} {xs : List V} (h : H a = some (.lst xs)) : Ty H (.ref a) "list"
  | tup {a : Addr} {xs : List V} (h : H a = some (.tup xs)) : Ty H (.ref a) "tuple"
theorem Ty.x {K : PySem.W.Frag} {H : Hp} {v : V} {n : String} (t : Ty H v n) : TyX K H v (.type n) := by
  cases t with
  | non => exact .base .non
  | bl b => exact .base (.bl b)
  | int i => exact .base (.int i)
  | str x => exact .base (.str x)
  | lst h => exact .base (.lst h)
  | tup h => exact .base (.tup h)
theorem Ty.same {H H' : Hp} {v : V} {n : String} (s : Same H H') (t : Ty H v n) : Ty H' v n := by
  cases t with
  | non => exact .non
  | bl b => exact .bl b
  | int i => exact .int i
  | str x => exact .str x
  | lst h => exact .lst (s _ _ h)
  | tup h => exact .tup (s _ _ h)
/-- isinstance(x, n) of such a value -/
def tyB (t n : String) : Bool := (kitB t n).getD false
theorem Ty.kit {H : Hp} {v : V} {t : String} (h : Ty H v t) {n : String} (hn : n = "int" ∨ n = "bool" ∨ n = "tuple" ∨ n = "list" ∨ n = "str") : kitB t n = some (tyB t n) := by
  unfold tyB
  rcases hn with rfl | rfl | rfl | rfl | rfl <;> cases h <;> first
    | (rw [kb_int_int]; rfl) | (rw [kb_int_bool]; rfl) | (rw [kb_int_tuple]; rfl) | (rw [kb_int_list]; rfl) | (rw [kb_int_str]; rfl)
    | (rw [kb_bool_int]; rfl) | (rw [kb_bool_bool]; rfl) | (rw [kb_bool_tuple]; rfl) | (rw [kb_bool_list]; rfl) | (rw [kb_bool_str]; rfl)
    | (rw [kb_tuple_int]; rfl) | (rw [kb_tuple_bool]; rfl) | (rw [kb_tuple_tuple]; rfl) | (rw [kb_tuple_list]; rfl) | (rw [kb_tuple_str]; rfl)
    | (rw [kb_list_int]; rfl) | (rw [kb_list_bool]; rfl) | (rw [kb_list_tuple]; rfl) | (rw [kb_list_list]; rfl) | (rw [kb_list_str]; rfl)
    | (rw [kb_str_int]; rfl) | (rw [kb_str_bool]; rfl) | (rw [kb_str_tuple]; rfl) | (rw [kb_str_list]; rfl) | (rw [kb_str_str]; rfl)
    | (rw [kb_none_int]; rfl) | (rw [kb_none_bool]; rfl) | (rw [kb_none_tuple]; rfl) | (rw [kb_none_list]; rfl) | (rw [kb_none_str]; rfl)
theorem isI_int {K : PySem.W.Frag} {H : Hp} {v : V} {t : String} (h : Ty H v t) : PySem.W.kitOne K (.type t) (.type "int") = some (tyB t "int") := kit_ty (h.kit (.inl rfl))
theorem isI_bool {K : PySem.W.Frag} {H : Hp} {v : V} {t : String} (h : Ty H v t) : PySem.W.kitOne K (.type t) (.type "bool") = some (tyB t "bool") := kit_ty (h.kit (.inr (.inl rfl)))
theorem isI_tuple {K : PySem.W.Frag} {H : Hp} {v : V} {t : String} (h : Ty H v t) : PySem.W.kitOne K (.type t) (.type "tuple") = some (tyB t "tuple") := kit_ty (h.kit (.inr (.inr (.inl rfl))))
theorem isI_list {K : PySem.W.Frag} {H : Hp} {v : V} {t : String} (h : Ty H v t) : PySem.W.kitOne K (.type t) (.type "list") = some (tyB t "list") := kit_ty (h.kit (.inr (.inr (.inr (.inl rfl)))))
theorem isI_str {K : PySem.W.Frag} {H : Hp} {v : V} {t : String} (h : Ty H v t) : PySem.W.kitOne K (.type t) (.type "str") = some (tyB t "str") := kit_ty (h.kit (.inr (.inr (.inr (.inr rfl)))))
def isInt : V → Bool
  | .int _ => true
  | _ => false
theorem isInt_of {H : Hp} {v : V} {t : String} (h : Ty H v t) : (tyB t "int" && !tyB t "bool") = isInt v := by
  unfold tyB
  cases h
  · rw [kb_none_int]; rfl
  · rw [kb_bool_int, kb_bool_bool]; rfl
  · rw [kb_int_int, kb_int_bool]; rfl
  · rw [kb_str_int]; rfl
  · rw [kb_list_int]; rfl
  · rw [kb_tuple_int]; rfl
end Pl

set_option Elab.async false
set_option linter.all false
set_option maxRecDepth 100000
set_option maxHeartbeats 4000000
/-! Methods of own classes whose last statement is super().__init__(..). -/
namespace Pl
open PySem PySem.Spec PyProof.Rows L2 NdefX ClX
/-- what the written part has of a def that closes over its class D, and of the def g of the class behind D -/
structure SupK (P : Program) (K : PySem.W.Frag) (F : NF) (cc D g : Addr) (name : Str) : Prop where
  cl : F.cl = ([("__class__", cc)] : List (Str × Addr))
  cell : ∃ ccl ccd ccs, K.lookup cc = some ⟨ccl, ccd, .cell (some (.ref D)), ccs⟩
  cls : ∃ cd, PySem.W.clsIn K D = some cd
  code : ∃ ccl cdd vs ccs file tf, K.lookup F.c = some ⟨ccl, cdd, .fields vs, ccs⟩ ∧ vs[2]? = some (.str file tf) ∧ ((P.main.file : Str) == file) = true
  nsup : PySem.W.nsIn K mainGlobals "super" = some none
  any : PySem.W.nsIn K cStatics "thirdparty.any" = some none
  ty : PySem.W.typeIn K (.ref g) = some (.type "function")
  fi : PySem.W.fnIn K g = true
  top : (P.main.scope.names.lookup ("super" : Str)).isSome = false
  ks : F.scope.names.lookup ("super" : Str) = some .globalImplicit
  kc : F.scope.names.lookup ("__class__" : Str) = some .free
  at_ : (name == ("__class__" : Str)) = false
/-- .. and of the class C of the object -/
structure SupC (K : PySem.W.Frag) (C D g : Addr) (name : Str) : Prop where
  mro : PySem.W.mroIn K C (.ref D) = some true
  sup : PySem.W.ks_superIn K C D name = some (some (.ref g))
abbrev superE (name : Str) (es : List Expr) (p0 p1 apos pos : Pos) : Expr := .Call (.Attribute (.Call (.Name "super" p0) [] [] p1) name apos) es [] pos
theorem load_of {X : Cx} {i : Nat} {x : Str} {pins : List (Addr × Obj)} {σ : L2.St} {H : Hp} {s : Shared} {v : V} {E : Value → Shared → Prop} {Q : Value → Shared → Prop} (I : Inv X pins σ H s) (hN : X.N[i]? = some x) (hv : Vis X.env.scope x) (e : σ[i]? = some (some v)) (hcd : (x == ("__classdict__" : Str)) = false) (h : ∀ u, RelV v u → Q u s) :
    wpAny (model X.prog X.w) X.A (loadName X.env x) Q E s := by
  obtain ⟨m, hn, hl⟩ := I.loc
  obtain ⟨u, r, l⟩ := hl i x v hN e hv
  rcases l with ⟨k, hm⟩ | ⟨k, c, hc, hu⟩
  · exact wpAny_loadName_local I.ok.kind k hn hm (h u r)
  · rcases k with k | k
    · exact wpAny_loadName_cell I.ok.kind k hc hu (h u r)
    · exact wpAny_loadName_free I.ok.kind k hc hu (h u r) hcd
section
variable {X : Cx} {F : NF} {f cc D g x C dx L : Addr} {name : Str} {fd : FuncData} {ar : Arg} {oc : Value} {od : Option Addr} {osl : Array (Option Value)} {pins : List (Addr × Obj)} {σ : L2.St} {H : Hp} {s : Shared} {fs : List (Str × V)} {j : Nat} {body : List Stmt} {p0 p1 apos pos : Pos} {whole : Sem Value}
/-- super(): the record so -/
theorem super_base {Q : Value → Shared → Prop} {E : Value → Shared → Prop} (S : SupK X.prog X.K F cc D g name) (hE : X.env = PySem.W.envX F.qual F.scope L f (.ref F.c) F.cl) (hf : X.K.lookup f = some ⟨oc, od, .func fd, osl⟩) (hp : (fd.params.posonlyargs ++ fd.params.args).head? = some ar)
    (hms : X.mg "super" = none) (I : Inv X pins σ H s) (i0 : X.N[0]? = some ar.arg) (hv0 : F.scope.names.lookup ar.arg = some .local) (h0c : (ar.arg == ("__classdict__" : Str)) = false) (ic : X.N[j]? = some "__class__") (hj : σ[j]? = some (some (.ref D))) (hx : σ[0]? = some (some (.ref x))) (ho : H x = some (.ins C dx fs)) (sc : SupC X.K C D g name)
    (h : ∀ h', h'.get? s.heap.objs.size = some (PySem.W.ks_superObj D x C) → (∀ y o, s.heap.get? y = some o → h'.get? y = some o) → Q (.ref s.heap.objs.size) { s with heap := h' }) :
    _root_.PySem.wpAt (model X.prog X.w) X.A (.func body X.env) (attributeBase (.Call (.Name "super" p0) [] [] p1) name X.env whole) Q E s := by
  obtain ⟨ccl, cdd, vs, ccs, file, tf, hc1, hc2, hc3⟩ := S.code
  obtain ⟨cdD, hD⟩ := S.cls
  have KI := I.kIn
  have ksx : X.env.scope = F.scope := by rw [hE]
  have k1 : X.env.kindOf "super" = some .globalImplicit := by rw [hE]; exact S.ks
  have k2 : X.env.kindOf "__class__" = some .free := by rw [hE]; exact S.kc
  have k3 : X.env.func = some f := by rw [hE]
  have k4 : X.env.code = .ref F.c := by rw [hE]
  obtain ⟨oD, hD1, hD2⟩ : ∃ oD, s.heap.get? D = some oD ∧ oD.data = .cls cdD := by
    unfold PySem.W.clsIn at hD
    split at hD
    · rename_i c d cd' sl ho
      cases hD
      exact ⟨_, KI _ _ ho, rfl⟩
    · cases hD
  obtain ⟨mA, O, _⟩ := ins_get I.hok ho
  obtain ⟨odx, J, _⟩ := O.look
  refine ks_wpAt_super_base (env := X.env) k1 k2 S.at_ k3 (KI _ _ hf) rfl hp k4 (KI _ _ hc1) rfl hc2 hc3 S.top ?_
  obtain ⟨mb, h1, h2⟩ := I.mod.blt
  refine PySem.W.ks_loadName_global I.ok.kind k1 (Calls.loadGlobal_builtin (by rw [I.ok.glob]; exact I.mod.glob.keeps I.bk) hms (by rw [I.ok.blt]; exact h1.keeps I.bk) ((h2 "super" (by decide)).trans (by decide +kernel)) ⟨rfl, ?_⟩)
  refine load_of I ic (by rw [ksx]; exact .inr (.inr S.kc)) hj (by decide) fun u r => ?_
  obtain rfl : u = Value.ref D := r
  refine load_of I i0 (by rw [ksx]; exact .inl hv0) hx h0c fun u r => ?_
  obtain rfl : u = Value.ref x := r
  obtain ⟨hh, gg, dd, t, os⟩ := s
  refine ks_wpAny_isType_cls hD1 hD2 ⟨rfl, ?_⟩
  refine ks_wpAny_call_super hD1 hD2 J.at_ J.cls (fun c e => ?_) (PySem.W.looks_mroIn KI sc.mro) (fun h' e k => h h' e k)
  have := J.no
  unfold PySem.W.notCls at this
  rw [e] at this
  exact Bool.noConfusion this
/-- super().name(e, ..) -/
theorem super_run {CX : CXT} {k : Nat} {sp : Sp} {E : XK} {Q : VK} {e : Expr} {es : List Expr} {t : TA} {pl : Sem Bool} (S : SupK X.prog X.K F cc D g name) (hE : X.env = PySem.W.envX F.qual F.scope L f (.ref F.c) F.cl) (hf : X.K.lookup f = some ⟨oc, od, .func fd, osl⟩) (hp : (fd.params.posonlyargs ++ fd.params.args).head? = some ar)
    (hms : X.mg "super" = none) (I : Inv X pins σ H s) (i0 : X.N[0]? = some ar.arg) (hv0 : F.scope.names.lookup ar.arg = some .local) (h0c : (ar.arg == ("__classdict__" : Str)) = false) (ic : X.N[j]? = some ("__class__" : Str)) (hj : σ[j]? = some (some (.ref D))) (hx : σ[0]? = some (some (.ref x))) (ho : H x = some (.ins C dx fs)) (sc : SupC X.K C D g name)
    (G : FnR X.prog X.w X.K X.mg X.base CX k g sp) (hr : Room k X.A) (hxp : Passes CX X E) (ha : PA X (e :: es) t) (h : t σ H fun vs H1 => sp (.ref x :: vs) H1 Q E)
    (hst : starEach (e :: es) X.env = (false, eval e X.env) :: starEach es X.env) (hpl : (backTo pos (starEach es X.env)).any (·.1) = false)
    (ht : eval (superE name (e :: es) p0 p1 apos pos) X.env = (do
      let ov ← attributeBase (.Call (.Name "super" p0) [] [] p1) name X.env (eval (.Call (.Name "super" p0) [] [] p1) X.env)
      standAt apos.atName
      let (f, first) ← holding [ov] (getMethod ov name pl)
      callWith pos f first (backTo pos (starEach (e :: es) X.env)) [])) :
    _root_.PySem.wpAt (model X.prog X.w) X.A (.func body X.env) (eval (superE name (e :: es) p0 p1 apos pos) X.env) (EP X pins σ Q) X.xe s := by
  obtain ⟨hh, gg, dd, tt, os⟩ := s
  refine ks_wpAt_MethodCall (super_base S hE hf hp hms I i0 hv0 h0c ic hj hx ho sc fun h' e1 k1 => ?_) ht
  have I1 : Inv X pins σ H ⟨h', gg, dd, tt, os⟩ := I.kept (t' := tt) k1
  obtain ⟨mA, O, _⟩ := ins_get I1.hok ho
  obtain ⟨odx, J, _⟩ := O.look
  have hm := sc.sup
  have hm' := hm
  unfold PySem.W.ks_superIn at hm'
  obtain ⟨cd, hc⟩ : ∃ cd, PySem.W.clsIn X.K C = some cd := by
    cases hc : PySem.W.clsIn X.K C with
    | none => rw [hc] at hm'; cases hm'
    | some cd => exact ⟨cd, rfl⟩
  rw [hc] at hm'
  obtain ⟨of, hof, hofc⟩ : ∃ of, h'.get? g = some of ∧ of.cls = .type "function" := by
    have ht' : (X.K.lookup g).map (·.cls) = some (.type "function") := S.ty
    cases z : X.K.lookup g with
    | none => rw [z] at ht'; cases ht'
    | some of => rw [z] at ht'; exact ⟨of, I1.kIn _ _ z, Option.some.inj ht'⟩
  refine ks_wpAny_getMethod_super e1 (PySem.W.looks_opaque I1.kIn S.any) (l₀ := cd.mro) (fun A Q E s k q => wpAny_bind ((PySem.W.looks_clsIn I1.kIn hc) A _ E s k (wpAny_pure q))) rfl I1.kIn hm' hof hofc (PySem.W.ks_ne I1.kIn J hc) S.at_ ?_
  have I2 := met_new (g := g) (C := x) I1
  refine callwith_cm I2 (base_none I1 (Nat.le_refl _)) S.fi (thn (ha.run pos _ _ σ H _ I2 h) fun us s3 ⟨vs, H2, I3, rv, q2⟩ => ⟨⟨pin_at I3, I3.kIn⟩, run_cm G hr hxp I3 rv q2⟩) hst hpl
/-- super().name() -/
theorem super_run0 {CX : CXT} {k : Nat} {sp : Sp} {E : XK} {Q : VK} {pl : Sem Bool} (S : SupK X.prog X.K F cc D g name) (hE : X.env = PySem.W.envX F.qual F.scope L f (.ref F.c) F.cl) (hf : X.K.lookup f = some ⟨oc, od, .func fd, osl⟩) (hp : (fd.params.posonlyargs ++ fd.params.args).head? = some ar)
    (hms : X.mg "super" = none) (I : Inv X pins σ H s) (i0 : X.N[0]? = some ar.arg) (hv0 : F.scope.names.lookup ar.arg = some .local) (h0c : (ar.arg == ("__classdict__" : Str)) = false) (ic : X.N[j]? = some ("__class__" : Str)) (hj : σ[j]? = some (some (.ref D))) (hx : σ[0]? = some (some (.ref x))) (ho : H x = some (.ins C dx fs)) (sc : SupC X.K C D g name)
    (G : FnR X.prog X.w X.K X.mg X.base CX k g sp) (hr : Room k X.A) (hxp : Passes CX X E) (h : sp [.ref x] H Q E)
    (ht : eval (superE name [] p0 p1 apos pos) X.env = (do
      let ov ← attributeBase (.Call (.Name "super" p0) [] [] p1) name X.env (eval (.Call (.Name "super" p0) [] [] p1) X.env)
      standAt apos.atName
      let (f, first) ← holding [ov] (getMethod ov name pl)
      callWith pos f first (backTo pos (starEach [] X.env)) [])) :
    _root_.PySem.wpAt (model X.prog X.w) X.A (.func body X.env) (eval (superE name [] p0 p1 apos pos) X.env) (EP X pins σ Q) X.xe s := by
  obtain ⟨hh, gg, dd, tt, os⟩ := s
  refine ks_wpAt_MethodCall (super_base S hE hf hp hms I i0 hv0 h0c ic hj hx ho sc fun h' e1 k1 => ?_) ht
  have I1 : Inv X pins σ H ⟨h', gg, dd, tt, os⟩ := I.kept (t' := tt) k1
  obtain ⟨mA, O, _⟩ := ins_get I1.hok ho
  obtain ⟨odx, J, _⟩ := O.look
  have hm' := sc.sup
  unfold PySem.W.ks_superIn at hm'
  obtain ⟨cd, hc⟩ : ∃ cd, PySem.W.clsIn X.K C = some cd := by
    cases hc : PySem.W.clsIn X.K C with
    | none => rw [hc] at hm'; cases hm'
    | some cd => exact ⟨cd, rfl⟩
  rw [hc] at hm'
  obtain ⟨of, hof, hofc⟩ : ∃ of, h'.get? g = some of ∧ of.cls = .type "function" := by
    have ht' : (X.K.lookup g).map (·.cls) = some (.type "function") := S.ty
    cases z : X.K.lookup g with
    | none => rw [z] at ht'; cases ht'
    | some of => rw [z] at ht'; exact ⟨of, I1.kIn _ _ z, Option.some.inj ht'⟩
  refine ks_wpAny_getMethod_super e1 (PySem.W.looks_opaque I1.kIn S.any) (l₀ := cd.mro) (fun A Q E s k q => wpAny_bind ((PySem.W.looks_clsIn I1.kIn hc) A _ E s k (wpAny_pure q))) rfl I1.kIn hm' hof hofc (PySem.W.ks_ne I1.kIn J hc) S.at_ ?_
  have I2 := met_new (g := g) (C := x) I1
  exact PySem.W.callWith_M0 (first := []) ⟨pin_at I2, I2.kIn⟩ S.fi (run_cm G hr hxp I2 .nil h)
end
theorem execs_app {M : Model} {env : Env} {post : List Stmt} {Γ} {Q : Flow → Pos → Shared → Prop} {E : Value → Pos → Shared → Prop} : ∀ {pre : List Stmt} {p s}, Sem.wp M Γ (execs pre env) (fun f p s => match f with | .next => Sem.wp M Γ (execs post env) Q E p s | f => Q f p s) E p s → Sem.wp M Γ (execs (pre ++ post) env) Q E p s
  | [], p, s, h => by
    rw [execs_nil, Sem.wp_pure'] at h
    exact h
  | a :: pre, p, s, h => by
    rw [List.cons_append, execs_cons, Sem.wp_bind']
    rw [execs_cons, Sem.wp_bind'] at h
    refine Sem.wp_mono M Γ _ (fun f p' s' h' => ?_) (fun _ _ _ h' => h') _ _ h
    cases f
    case next => exact execs_app h'
    all_goals exact h'
section
variable {CX : CXT} {P : Program} {w : World} {K : PySem.W.Frag} {mg : Str → Option Value} {base : Heap} {k : Nat} {f cc D : Addr} {F : NF} {dV kV doc pm ct oc ccl : Value} {an od ccd : Option Addr} {osl ccs : Array (Option Value)} {N ps : List Str} {sp : Sp}
theorem cells_cc {h : Heap} {H : Hp} (hcc : h.get? cc = some ⟨ccl, ccd, .cell (some (.ref D)), ccs⟩) (hn : H cc = none) : CellsAt [(("__class__" : Str), cc)] [("__class__" : Str)] [some (.ref D)] h H := by
  refine ⟨rfl, fun y c e => ?_, fun x y c e1 e2 => ?_, fun i y e => ?_⟩
  · have : c = cc := by
      simp only [List.lookup] at e
      split at e
      · exact (Option.some.inj e).symm
      · cases e
    subst this
    exact ⟨hn, _, _, hcc, rfl⟩
  · have h1 : x = ("__class__" : Str) := by
      simp only [List.lookup] at e1
      split at e1
      · rename_i z; exact beq_iff_eq.mp z
      · cases e1
    have h2 : y = ("__class__" : Str) := by
      simp only [List.lookup] at e2
      split at e2
      · rename_i z; exact beq_iff_eq.mp z
      · cases e2
    rw [h1, h2]
  · match i with
    | 0 =>
      obtain rfl : ("__class__" : Str) = y := Option.some.inj e
      refine ⟨cc, by simp [List.lookup], fun v ev => ?_⟩
      obtain rfl : V.ref D = v := Option.some.inj (Option.some.inj ev)
      exact ⟨.ref D, rfl, _, hcc, rfl⟩
    | i + 1 => simp at e
/-- a def that closes over its class, its body pre ++ [last] where last is read at its place -/
theorem fnL_of {pre : List Stmt} {last : Stmt} (hcl : F.cl = [(("__class__" : Str), cc)]) (hbd : F.body = pre ++ [last])
    (lk : K.lookup f = some ⟨oc, od, .func (PySem.W.fnX F.name F.qual F.params F.body F.scope F.cl dV kV doc pm an (.ref F.c) ct), osl⟩) (hcd : PySem.W.codeIn K (.ref F.c) F.qual = true) (S : NScope N ps ["__class__"] F.scope) (hcc : K.lookup cc = some ⟨ccl, ccd, .cell (some (.ref D)), ccs⟩)
    (len : ∀ vs H Q E, sp vs H Q E → vs.length = ps.length)
    (hbody : ∀ (A : Around) (outer : List Env) (s : Shared) (H : Hp) (vs : List V) (Q : VK) (E : XK), Room k (A.deeper (envF F f s.heap.objs.size)) → sp vs H Q E →
      ∃ (t : TS) (LQ : L2.St → Hp → Prop), PSs (ncx CX P w K mg base N F f A outer s H E) pre t ∧ t { nx := LQ, rt := Q } (startF N vs [some (.ref D)]) H ∧
        ∀ σ' H' s', Inv (ncx CX P w K mg base N F f A outer s H E) [] σ' H' s' → LQ σ' H' →
          _root_.PySem.wpAt (model P w) (A.deeper (envF F f s.heap.objs.size)) (.func F.body (envF F f s.heap.objs.size)) (exec last (envF F f s.heap.objs.size)) (fun fl s2 => fl = .next ∧ ∃ σ2 H2, Inv (ncx CX P w K mg base N F f A outer s H E) [] σ2 H2 s2 ∧ Q .non H2)
            (ncx CX P w K mg base N F f A outer s H E).xe s') :
    FnOk P w K mg base CX (k + 1) f (PySem.W.fnX F.name F.qual F.params F.body F.scope F.cl dV kV doc pm an (.ref F.c) ct) ps sp := by
  refine ⟨len, fun A outer s H args us vs Q E hr e0 hb r hsp => ?_⟩
  have hl := len _ _ _ _ hsp
  have KX : K.In s.heap := e0.mod.kin.keeps fun b o e => (e0.bs b o e).1
  have lim : s.heap.NoLimit := e0.mod.nolimit.keeps fun b o e => (e0.bs b o e).1
  have hnc : H cc = none := (e0.bs _ _ (e0.mod.kin _ _ hcc)).2
  have C : CellsAt F.cl ["__class__"] [some (.ref D)] s.heap H := by
    rw [hcl]
    exact cells_cc (KX _ _ hcc) hnc
  refine ks_codeAny_call_defAt (body := F.body) (binds := ps.zip us) hr.depth (KX _ _ lk) rfl lim (PySem.W.codeRec_of KX hcd) rfl hb S.nocell (fun ⟨n, _⟩ hy => S.par n (List.of_mem_zip hy).1) (fun h₁ hns kp => ?_) S.co S.gen S.kind
  have I : Inv (ncx CX P w K mg base N F f A outer s H E) [] (startF N vs [some (.ref D)]) H { s with heap := h₁, toks := s.toks + (ps.zip us).length } := inv_startN S hr.hd e0 hl r C hns kp
  obtain ⟨t, LQ, ht, hq, hlast⟩ := hbody A outer s H vs Q E (hr.deeper _) hsp
  have fin : ∀ {σ' : L2.St} {H' : Hp} {v : V} {u : Value} {s' : Shared}, Inv (ncx CX P w K mg base N F f A outer s H E) [] σ' H' s' → L2.RelV v u → Q v H' → CE outer P w H s Q u s' :=
    fun {σ' H' v u s'} J rv q => ⟨v, H', J.os, J.bare, J.base, J.hok, rv, q⟩
  have h1 := ht.run [] _ (startF N vs [some (.ref D)]) H { nx := LQ, rt := Q } I hq
  show _root_.PySem.wpAt _ _ (.func F.body (envF F f s.heap.objs.size)) (execs F.body (envF F f s.heap.objs.size)) _ _ _
  intro Γ p hc hΓ
  have h2 := wpAt_of_wpAny (c := .func F.body (envF F f s.heap.objs.size)) h1 Γ p hc hΓ
  rw [show execs F.body (envF F f s.heap.objs.size) = execs (pre ++ [last]) (envF F f s.heap.objs.size) by rw [hbd]]
  refine execs_app (Sem.wp_mono _ Γ _ (fun fl p' s' hs => ?_) (fun e p' s' hs => ?_) _ _ h2)
  · cases fl with
    | next =>
      obtain ⟨σ', H', J, q⟩ := hs
      rw [execs_cons, Sem.wp_bind']
      refine Sem.wp_mono _ Γ _ (fun fl p' s' hs => ?_) (fun e p' s' hs => ?_) _ _ (hlast σ' H' s' J q Γ p' hc hΓ)
      · obtain ⟨rfl, σ2, H2, J2, q2⟩ := hs
        show Sem.wp _ _ (execs [] _) _ _ _ _
        rw [execs_nil, Sem.wp_pure']
        exact fin (v := V.non) (u := Value.none) J2 rfl q2
      · exact hs
    | ret u =>
      obtain ⟨v, σ', H', J, rv, q⟩ := hs
      exact fin J rv q
    | brk =>
      obtain ⟨_, _, _, q⟩ := hs
      exact False.elim q
    | cont =>
      obtain ⟨_, _, _, q⟩ := hs
      exact False.elim q
  · exact hs
/-- what stands ahead of super().name(..) -/
def SupQ (K : PySem.W.Frag) (D g : Addr) (name : Str) (j : Nat) (ta : TA) (spg : Sp) (Q : VK) (E : XK) : L2.St → Hp → Prop := fun σ H => ∃ x C dx fs, σ[0]? = some (some (.ref x)) ∧ σ[j]? = some (some (.ref D)) ∧ H x = some (.ins C dx fs) ∧ SupC K C D g name ∧ ta σ H fun vs H1 => spg (.ref x :: vs) H1 (fun _ H2 => Q .non H2) E
/-- THE RULE: a def of a class D whose body ends in super().name(e, ..) -/
theorem fnS_of {pre : List Stmt} {g : Addr} {name : Str} {e : Expr} {es : List Expr} {ar : Arg} {p0 p1 apos pos spos : Pos} {pl : Addr → Sem Bool} {spg : Sp} (SK : SupK P K F cc D g name) (hbd : F.body = pre ++ [.Expr (superE name (e :: es) p0 p1 apos pos) spos])
    (lk : K.lookup f = some ⟨oc, od, .func (PySem.W.fnX F.name F.qual F.params F.body F.scope F.cl dV kV doc pm an (.ref F.c) ct), osl⟩) (hcd : PySem.W.codeIn K (.ref F.c) F.qual = true) (S : NScope N ps ["__class__"] F.scope)
    (hp : (F.params.posonlyargs ++ F.params.args).head? = some ar) (i0 : N[0]? = some ar.arg) (hv0 : F.scope.names.lookup ar.arg = some .local) (h0c : (ar.arg == ("__classdict__" : Str)) = false) (ic : N[ps.length]? = some ("__class__" : Str)) (hms : mg "super" = none)
    (G : FnR P w K mg base CX k g spg) (hxp : ∀ A outer s H E, Passes CX (ncx CX P w K mg base N F f A outer s H E) E)
    (len : ∀ vs H Q E, sp vs H Q E → vs.length = ps.length)
    (hbody : ∀ (A : Around) (outer : List Env) (s : Shared) (H : Hp) (vs : List V) (Q : VK) (E : XK), Room k (A.deeper (envF F f s.heap.objs.size)) → sp vs H Q E →
      ∃ (t : TS) (ta : TA), PSs (ncx CX P w K mg base N F f A outer s H E) pre t ∧ PA (ncx CX P w K mg base N F f A outer s H E) (e :: es) ta ∧ t { nx := SupQ K D g name ps.length ta spg Q E, rt := Q } (startF N vs [some (.ref D)]) H)
    (hst : ∀ L, starEach (e :: es) (envF F f L) = (false, eval e (envF F f L)) :: starEach es (envF F f L) := by intro L; rfl) (hpl : ∀ L, (backTo pos (starEach es (envF F f L))).any (·.1) = false := by intro L; rfl)
    (ht : ∀ L, eval (superE name (e :: es) p0 p1 apos pos) (envF F f L) = (do
      let ov ← attributeBase (.Call (.Name "super" p0) [] [] p1) name (envF F f L) (eval (.Call (.Name "super" p0) [] [] p1) (envF F f L))
      standAt apos.atName
      let (fn, first) ← holding [ov] (getMethod ov name (pl L))
      callWith pos fn first (backTo pos (starEach (e :: es) (envF F f L))) []) := by intro L; rfl)
    (hi : ∀ L, interactive (envF F f L) = false := by intro L; rfl) (hs : ∀ L, swapsWith (superE name (e :: es) p0 p1 apos pos) none spos.line (envF F f L) = pure false := by intro L; rfl) :
    FnOk P w K mg base CX (k + 1) f (PySem.W.fnX F.name F.qual F.params F.body F.scope F.cl dV kV doc pm an (.ref F.c) ct) ps sp := by
  obtain ⟨ccl, ccd, ccs, hcc⟩ := SK.cell
  refine fnL_of SK.cl hbd lk hcd S hcc len fun A outer s H vs Q E hr hsp => ?_
  obtain ⟨t, ta, h1, h2, h3⟩ := hbody A outer s H vs Q E hr hsp
  refine ⟨t, SupQ K D g name ps.length ta spg Q E, h1, h3, fun σ' H' s' I q => ?_⟩
  obtain ⟨x, C, dx, fs, e0, ej, hx, sc, hq⟩ := q
  have z := super_run (X := ncx CX P w K mg base N F f A outer s H E) (body := F.body) (Q := fun _ H2 => Q .non H2) SK rfl lk hp hms I i0 hv0 h0c ic ej e0 hx sc G hr (hxp A outer s H E) h2 hq (hst _) (hpl _) (ht _)
  exact ks_wpAt_Expr_any (ks_wpAt_mono z (fun v s2 ⟨y, H2, I2, _, q2⟩ => ⟨rfl, σ', H2, I2, q2⟩) fun _ _ y => y) (hi _) (hs _)
/-- .. in super().name() -/
theorem fnS0_of {pre : List Stmt} {g : Addr} {name : Str} {ar : Arg} {p0 p1 apos pos spos : Pos} {pl : Addr → Sem Bool} {spg : Sp} (SK : SupK P K F cc D g name) (hbd : F.body = pre ++ [.Expr (superE name [] p0 p1 apos pos) spos])
    (lk : K.lookup f = some ⟨oc, od, .func (PySem.W.fnX F.name F.qual F.params F.body F.scope F.cl dV kV doc pm an (.ref F.c) ct), osl⟩) (hcd : PySem.W.codeIn K (.ref F.c) F.qual = true) (S : NScope N ps ["__class__"] F.scope)
    (hp : (F.params.posonlyargs ++ F.params.args).head? = some ar) (i0 : N[0]? = some ar.arg) (hv0 : F.scope.names.lookup ar.arg = some .local) (h0c : (ar.arg == ("__classdict__" : Str)) = false) (ic : N[ps.length]? = some ("__class__" : Str)) (hms : mg "super" = none)
    (G : FnR P w K mg base CX k g spg) (hxp : ∀ A outer s H E, Passes CX (ncx CX P w K mg base N F f A outer s H E) E)
    (len : ∀ vs H Q E, sp vs H Q E → vs.length = ps.length)
    (hbody : ∀ (A : Around) (outer : List Env) (s : Shared) (H : Hp) (vs : List V) (Q : VK) (E : XK), Room k (A.deeper (envF F f s.heap.objs.size)) → sp vs H Q E →
      ∃ (t : TS), PSs (ncx CX P w K mg base N F f A outer s H E) pre t ∧ t { nx := SupQ K D g name ps.length tNil spg Q E, rt := Q } (startF N vs [some (.ref D)]) H)
    (ht : ∀ L, eval (superE name [] p0 p1 apos pos) (envF F f L) = (do
      let ov ← attributeBase (.Call (.Name "super" p0) [] [] p1) name (envF F f L) (eval (.Call (.Name "super" p0) [] [] p1) (envF F f L))
      standAt apos.atName
      let (fn, first) ← holding [ov] (getMethod ov name (pl L))
      callWith pos fn first (backTo pos (starEach [] (envF F f L))) []) := by intro L; rfl)
    (hi : ∀ L, interactive (envF F f L) = false := by intro L; rfl) (hs : ∀ L, swapsWith (superE name [] p0 p1 apos pos) none spos.line (envF F f L) = pure false := by intro L; rfl) :
    FnOk P w K mg base CX (k + 1) f (PySem.W.fnX F.name F.qual F.params F.body F.scope F.cl dV kV doc pm an (.ref F.c) ct) ps sp := by
  obtain ⟨ccl, ccd, ccs, hcc⟩ := SK.cell
  refine fnL_of SK.cl hbd lk hcd S hcc len fun A outer s H vs Q E hr hsp => ?_
  obtain ⟨t, h1, h3⟩ := hbody A outer s H vs Q E hr hsp
  refine ⟨t, SupQ K D g name ps.length tNil spg Q E, h1, h3, fun σ' H' s' I q => ?_⟩
  obtain ⟨x, C, dx, fs, e0, ej, hx, sc, hq⟩ := q
  have z := super_run0 (X := ncx CX P w K mg base N F f A outer s H E) (body := F.body) (Q := fun _ H2 => Q .non H2) SK rfl lk hp hms I i0 hv0 h0c ic ej e0 hx sc G hr (hxp A outer s H E) hq (ht _)
  exact ks_wpAt_Expr_any (ks_wpAt_mono z (fun v s2 ⟨y, H2, I2, _, q2⟩ => ⟨rfl, σ', H2, I2, q2⟩) fun _ _ y => y) (hi _) (hs _)
end
end Pl

set_option Elab.async false
set_option linter.all false
set_option maxRecDepth 100000
set_option maxHeartbeats 4000000
/-! Operators and methods of own classes, the class not fixed. -/
namespace Pl
open PySem PySem.Spec PyProof.Rows L2
/-- o.m(..): o an instance of any class that finds m in one of the defs fl -/
def tMethV {ι : Type} (K : PySem.W.Frag) (fl : ι → Addr) (m : Str) (sp : ι → Sp) (E : XK) (ta : TE) (t : TA) : TE := fun σ H Q => ta σ H fun x H1 => ∃ a C dx fs i, x = .ref a ∧ H1 a = some (.ins C dx fs) ∧ fs.lookup m = none ∧ Cls K C ∧ Meth K C m (fl i) ∧ t σ H1 fun vs H2 => sp i (x :: vs) H2 Q E
section
variable {X : Cx} {CX : CXT} {k : Nat} {fl : List Addr} {sp : Sp} {E : XK} {m : Str} {p pos apos : Pos} {e o : Expr} {es : List Expr} {ta : TE} {t : TA}
theorem pe_methV {ι : Type} {fl : ι → Addr} {sp : ι → Sp} {pl : Sem Bool} (he : PE X o ta) (F : ∀ i, FnR X.prog X.w X.K X.mg X.base CX k (fl i) (sp i)) (hr : Room k X.A) (hx : Passes CX X E) (ha : PA X (e :: es) t)
    (hst : starEach (e :: es) X.env = (false, eval e X.env) :: starEach es X.env := by rfl) (hpl : (backTo pos (starEach es X.env)).any (·.1) = false := by rfl)
    (ht : eval (.Call (.Attribute o m apos) (e :: es) [] pos) X.env = (do
      let ov ← eval o X.env
      standAt apos.atName
      let (f, first) ← holding [ov] (getMethod ov m pl)
      callWith pos f first (backTo pos (starEach (e :: es) X.env)) (backToKw pos (keywordEach [] X.env))) := by rfl) :
    PE X (.Call (.Attribute o m apos) (e :: es) [] pos) (tMethV X.K fl m sp E ta t) := by
  refine ⟨fun pins s σ H Q I h => ?_⟩
  refine PySem.W.methodCall_KW (pl := pl) (thn (he.run pins s σ H _ I h) fun u s1 ⟨x, H1, I1, rx, a, C, dx, fs, i, ex, ea, l, c, hm, q⟩ => ?_) ht
  subst ex
  obtain rfl : u = Value.ref a := rx
  refine getmeth_ok I1 ea c hm l ?_
  refine PySem.W.callWith_K (first := [.ref a]) (h₀ := X.base) I.ok.mod.kin hm.kp (thn (ha.run pos pins s1 σ H1 _ I1 q) fun us s2 ⟨vs, H2, I2, r, q2⟩ => ⟨I2.kIn, ?_⟩) hst hpl
  exact wpAny_call (run_fnR (us := .ref a :: us) (vs := .ref a :: vs) (F i) hr hx I2 (.cons rfl r) q2)
theorem pe_methV0 {ι : Type} {fl : ι → Addr} {sp : ι → Sp} {pl : Sem Bool} (he : PE X o ta) (F : ∀ i, FnR X.prog X.w X.K X.mg X.base CX k (fl i) (sp i)) (hr : Room k X.A) (hx : Passes CX X E)
    (ht : eval (.Call (.Attribute o m apos) [] [] pos) X.env = (do
      let ov ← eval o X.env
      standAt apos.atName
      let (f, first) ← holding [ov] (getMethod ov m pl)
      callWith pos f first (backTo pos (starEach [] X.env)) (backToKw pos (keywordEach [] X.env))) := by rfl) :
    PE X (.Call (.Attribute o m apos) [] [] pos) (tMethV X.K fl m sp E ta tNil) := by
  refine ⟨fun pins s σ H Q I h => ?_⟩
  refine PySem.W.methodCall_KW (pl := pl) (thn (he.run pins s σ H _ I h) fun u s1 ⟨x, H1, I1, rx, a, C, dx, fs, i, ex, ea, l, c, hm, q⟩ => ?_) ht
  subst ex
  obtain rfl : u = Value.ref a := rx
  refine getmeth_ok I1 ea c hm l ?_
  exact PySem.W.callWith_K0 (first := [.ref a]) I1.kIn hm.kp (wpAny_call (run_fnR (us := [.ref a]) (vs := [.ref a]) (F i) hr hx I1 (.cons rfl .nil) q))
/-- what a class must have for an operator with a number to its right -/
structure BinI (K : PySem.W.Frag) (C f : Addr) (op : Operator) : Prop where
  first : PySem.W.selfFirst K C = true
  at_ : PySem.W.findIn K (.ref C) (PySem.dunder op.info.2) = some (some (.ref f))
  fn : PySem.W.isFn K (.ref f) = true
  r : PySem.W.findIn K (.ref C) (dunderR op.info.2) = some none
  i1 : (PySem.W.findIn K (.type "int") (PySem.dunder op.info.2)).isSome = true
  i2 : (PySem.W.findIn K (.type "int") (dunderR op.info.2)).isSome = true
  sub : PySem.W.subIn K (.type "int") (.ref C) = some false
theorem op_binI {op : Operator} {f : Addr} (F : FnR X.prog X.w X.K X.mg X.base CX k f sp) (hr : Room k X.A) (hx : Passes CX X E) :
    OpR X (binaryOp op) (fun x y H Q => ∃ a C dx fs i, x = .ref a ∧ y = .int i ∧ H a = some (.ins C dx fs) ∧ BinI X.K C f op ∧ sp [x, y] H Q E) := by
  intro pins s σ H x y v u Q I rx ry h
  obtain ⟨a, C, dx, fs, i, rfl, rfl, ha, B, q⟩ := h
  cases (show v = Value.ref a from rx)
  obtain ⟨t, eu⟩ := (show ∃ t, u = Value.int i t from ry)
  subst eu
  obtain ⟨mA, O, _⟩ := ins_get I.hok ha
  obtain ⟨odx, J, _⟩ := O.look
  obtain ⟨m, hF⟩ := I.fr
  obtain ⟨fo, h1⟩ := Option.isSome_iff_exists.mp B.i1
  obtain ⟨ro, h2⟩ := Option.isSome_iff_exists.mp B.i2
  refine PySem.W.ksp_binT (T := "int") hF I.ok.mod.kin J rfl B.first B.at_ B.fn B.r (.inl rfl) h1 h2 B.sub ?_
  refine wpAny_mono (wpAny_call (run_fnR (us := [.ref a, .int i t]) (vs := [.ref a, .int i]) F hr hx I (.cons rfl (.cons ⟨t, rfl⟩ .nil)) q)) (fun w s' z => ?_) fun _ _ x => x
  obtain ⟨z', H', I', rz, qz⟩ := z
  exact SlX.cmpback rz ⟨z', H', I', rz, qz⟩
/-- .. with an instance of the same class to its right -/
structure BinS (K : PySem.W.Frag) (C f : Addr) (op : Operator) : Prop where
  first : PySem.W.selfFirst K C = true
  at_ : PySem.W.findIn K (.ref C) (PySem.dunder op.info.2) = some (some (.ref f))
  fn : PySem.W.isFn K (.ref f) = true
theorem op_binS {op : Operator} {f : Addr} (F : FnR X.prog X.w X.K X.mg X.base CX k f sp) (hr : Room k X.A) (hx : Passes CX X E) :
    OpR X (binaryOp op) (fun x y H Q => ∃ a C dx fs b dy gs, x = .ref a ∧ y = .ref b ∧ H a = some (.ins C dx fs) ∧ H b = some (.ins C dy gs) ∧ BinS X.K C f op ∧ sp [x, y] H Q E) := by
  intro pins s σ H x y v u Q I rx ry h
  obtain ⟨a, C, dx, fs, b, dy, gs, rfl, rfl, ha, hb, B, q⟩ := h
  cases (show v = Value.ref a from rx)
  cases (show u = Value.ref b from ry)
  obtain ⟨mA, O, _⟩ := ins_get I.hok ha
  obtain ⟨odx, J, _⟩ := O.look
  obtain ⟨mB, O', _⟩ := ins_get I.hok hb
  obtain ⟨ody, J', _⟩ := O'.look
  obtain ⟨m, hF⟩ := I.fr
  refine PySem.W.binop_K hF I.ok.mod.kin J J'.type B.first B.at_ B.fn ?_
  refine wpAny_mono (wpAny_call (run_fnR (us := [.ref a, .ref b]) (vs := [.ref a, .ref b]) F hr hx I (.cons rfl (.cons rfl .nil)) q)) (fun w s' z => ?_) fun _ _ x => x
  obtain ⟨z', H', I', rz, qz⟩ := z
  exact SlX.cmpback rz ⟨z', H', I', rz, qz⟩
/-- .. of a comparison, an instance to its right -/
structure CmpO (K : PySem.W.Frag) (C f : Addr) (op : CmpOp) : Prop where
  at_ : PySem.W.findIn K (.ref C) (cmpInfo op).2.1 = some (some (.ref f))
  fn : PySem.W.isFn K (.ref f) = true
/-- what a class must have for != that falls back on == -/
structure NeO (K : PySem.W.Frag) (C f : Addr) : Prop where
  at_ : PySem.W.findIn K (.ref C) "__eq__" = some (some (.ref f))
  fn : PySem.W.isFn K (.ref f) = true
  ne : PySem.W.findIn K (.ref C) "__ne__" = some (some (.builtin "object.__ne__"))
  top : PySem.W.mroIn K C (.type "object") = some true
theorem op_cmpO {op : CmpOp} {f : Addr} (hop : ∀ a b, compareOp op a b = richCompare op a b) (F : FnR X.prog X.w X.K X.mg X.base CX k f sp) (hr : Room k X.A) (hx : Passes CX X E) :
    OpR X (compareOp op) (fun x y H Q => ∃ a C dx fs b C' dy gs, x = .ref a ∧ y = .ref b ∧ H a = some (.ins C dx fs) ∧ H b = some (.ins C' dy gs) ∧ CmpO X.K C f op ∧ PySem.W.notFirst X.K C (.ref C') = true ∧ sp [x, y] H Q E) := by
  intro pins s σ H x y v u Q I rx ry h
  obtain ⟨a, C, dx, fs, b, C', dy, gs, rfl, rfl, ha, hb, B, hn, q⟩ := h
  cases (show v = Value.ref a from rx)
  cases (show u = Value.ref b from ry)
  obtain ⟨mA, O, _⟩ := ins_get I.hok ha
  obtain ⟨odx, J, _⟩ := O.look
  obtain ⟨mB, O', _⟩ := ins_get I.hok hb
  obtain ⟨ody, J', _⟩ := O'.look
  obtain ⟨m, hF⟩ := I.fr
  rw [hop]
  refine PySem.W.cmp_K (op := op) (tb := .ref C') hr.units0 hF I.ok.mod.kin J J'.type hn B.at_ B.fn ?_
  refine wpAny_mono (wpAny_call (run_fnR (us := [.ref a, .ref b]) (vs := [.ref a, .ref b]) F hr hx I (.cons rfl (.cons rfl .nil)) q)) (fun w s' z => ?_) fun _ _ x => x
  obtain ⟨z', H', I', rz, qz⟩ := z
  exact SlX.cmpback rz ⟨z', H', I', rz, qz⟩
/-- f(e, ..), f an instance of any class whose __call__ is at g -/
def tCallV (X : Cx) (g : Addr) (sp : Sp) (E : XK) (tf : TE) (t : TA) : TE := fun σ H Q => tf σ H fun y H1 => ∃ a, y = V.ref a ∧ t σ H1 fun vs H2 => ∃ C dx fs, H2 a = some (.ins C dx fs) ∧ StX.CallO X.K C g ∧ sp (V.ref a :: vs) H2 Q E
theorem pe_callV {g : Addr} {fe : Expr} {tf : TE} (hf : PE X fe tf) (F : FnR X.prog X.w X.K X.mg X.base CX k g sp) (hr : Room k X.A) (hx : Passes CX X E) (ha : PA X (e :: es) t)
    (ht : eval (.Call fe (e :: es) [] pos) X.env = (do callWith pos (← eval fe X.env) [] (backTo pos (starEach (e :: es) X.env)) (backToKw pos (keywordEach [] X.env))) := by rfl)
    (he : starEach (e :: es) X.env = (false, eval e X.env) :: starEach es X.env := by rfl) (hpl : (backTo pos (starEach es X.env)).any (·.1) = false := by rfl) : PE X (.Call fe (e :: es) [] pos) (tCallV X g sp E tf t) := by
  refine ⟨fun pins s σ H Q I h => ?_⟩
  refine Call_ (thn (hf.run pins s σ H _ I h) fun u s1 ⟨y, H1, I1, ry, a, ey, q⟩ => ?_) ht
  subst ey
  obtain rfl : u = Value.ref a := ry
  refine StX.callO_with (thn (ha.run pos pins s1 σ H1 _ I1 q) fun us s2 ⟨vs, H2, I2, r, C, dx, fs, hi, c, q2⟩ => ?_) he hpl
  obtain ⟨ox, od, J, hd⟩ := StX.insC_at I2 (.inr ⟨dx, fs, hi⟩)
  exact ⟨⟨C, ox, od, J, hd⟩, StX.run_callO c F hr hx I2 (.inr ⟨dx, fs, hi⟩) r q2⟩
end
end Pl

set_option Elab.async false
set_option linter.all false
set_option maxRecDepth 100000
set_option maxHeartbeats 4000000
/-! What the text has of methods; defs that end in super().__init__(..), in short. -/
namespace Pl
open PySem PySem.Spec PyProof.Rows L2 NdefX ClX
theorem toR {P : Program} {w : World} {K : PySem.W.Frag} {mg : Str → Option Value} {base : Heap} {CX : CXT} {k : Nat} {f : Addr} {fd : FuncData} {ps : List Str} {sp : Sp} (F : FnOk P w K mg base CX k f fd ps sp) (b : Binds K fd ps []) : FnR P w K mg base CX k f sp := by
  intro A outer s H us vs Q E hr e0 r h
  have KX : K.In s.heap := e0.mod.kin.keeps fun b o e => (e0.bs b o e).1
  have hl : (us ++ []).length = ps.length := by rw [List.append_nil, ← r.length]; exact F.len _ _ _ _ h
  have hb := b s us KX hl
  rw [List.append_nil] at hb
  exact F.run A outer s H ⟨us, []⟩ us vs Q E hr e0 hb r h
/-- a method of the text -/
structure Md (K : PySem.W.Frag) (x qual : Str) (st : Stmt) (ps : List Str) where
  f : Addr
  fd : FuncData
  F : Fun K x qual st f fd
  b : Binds K fd ps []
/-- .. with a star parameter -/
structure MdF (K : PySem.W.Frag) (x qual : Str) (st : Stmt) where
  f : Addr
  fd : FuncData
  F : Fun K x qual st f fd
/-- .. with the default None for its last parameter -/
structure MdD (K : PySem.W.Frag) (x qual : Str) (st : Stmt) (ps : List Str) where
  f : Addr
  fd : FuncData
  ex : ∃ (oc : Value) (od : Option Addr) (dV kV doc pm : Value) (an : Option Addr) (cdv ct : Value) (osl : Array (Option Value)),
    fd = PySem.W.fnOf x qual (defArgs st) (defBody st) (defScope st) dV kV doc pm an cdv ct ∧ K.lookup f = some ⟨oc, od, .func fd, osl⟩ ∧ PySem.W.codeIn K cdv qual = true
  b : Binds K fd ps []
theorem MdD.ok {P : Program} {w : World} {K : PySem.W.Frag} {mg : Str → Option Value} {base : Heap} {CX : CXT} {x qual : Str} {st : Stmt} {N ps : List Str} {k : Nat} {sp : Sp} (M : MdD K x qual st ps) (S : FnScope N ps (defScope st)) (len : ∀ vs H Q E, sp vs H Q E → vs.length = ps.length)
    (hbody : ∀ (cdv : Value) (A : Around) (outer : List Env) (s : Shared) (H : Hp) (vs : List V) (Q : VK) (E : XK), Room k (A.deeper (envOfC qual (defScope st) s.heap.objs.size M.f cdv)) → sp vs H Q E →
      ∃ t, PSs (cxOf CX P w K mg base N qual (defScope st) M.f cdv A outer s H E) (defBody st) t ∧ t { nx := fun _ H' => Q .non H', rt := Q } (start N vs) H) : FnOk P w K mg base CX (k + 1) M.f M.fd ps sp := by
  obtain ⟨f, fd, ⟨oc, od, dV, kV, doc, pm, an, cdv, ct, osl, rfl, lk, hcd⟩, b⟩ := M
  exact fn_of lk hcd S len fun A outer s H vs Q E hr hsp => hbody cdv A outer s H vs Q E hr hsp
/-- .. that closes over its class at D and says super().__init__(..), which is found at g -/
structure MdS (P : Program) (K : PySem.W.Frag) (x qual : Str) (st : Stmt) (D g : Addr) where
  f : Addr
  cc : Addr
  c : Addr
  lk : ∃ (oc : Value) (od : Option Addr) (kV doc pm : Value) (an : Option Addr) (ct : Value) (osl : Array (Option Value)),
    K.lookup f = some ⟨oc, od, .func (PySem.W.fnX x qual (defArgs st) (defBody st) (defScope st) [(("__class__" : Str), cc)] .none kV doc pm an (.ref c) ct), osl⟩
  hcd : PySem.W.codeIn K (.ref c) qual = true
  kp : PySem.W.keepIn K (.ref f) = true
  sk : SupK P K ⟨x, qual, defArgs st, defBody st, defScope st, [(("__class__" : Str), cc)], c⟩ cc D g "__init__"
abbrev MdS.nf {P : Program} {K : PySem.W.Frag} {x qual : Str} {st : Stmt} {D g : Addr} (M : MdS P K x qual st D g) : NF := ⟨x, qual, defArgs st, defBody st, defScope st, [(("__class__" : Str), M.cc)], M.c⟩
section
variable {P : Program} {w : World} {K : PySem.W.Frag} {mg : Str → Option Value} {base : Heap} {k : Nat} {x qual : Str} {st : Stmt} {D g : Addr} {N ps : List Str} {sp spg : Sp}
theorem MdS.ok (M : MdS P K x qual st D g) {pre : List Stmt} {e : Expr} {es : List Expr} {ar : Arg} {p0 p1 apos pos spos : Pos} {pl : Addr → Sem Bool} (hbd : defBody st = pre ++ [.Expr (superE "__init__" (e :: es) p0 p1 apos pos) spos])
    (S : NScope N ps ["__class__"] (defScope st)) (hp : ((defArgs st).posonlyargs ++ (defArgs st).args).head? = some ar) (i0 : N[0]? = some ar.arg) (hv0 : (defScope st).names.lookup ar.arg = some .local) (h0c : (ar.arg == ("__classdict__" : Str)) = false) (ic : N[ps.length]? = some ("__class__" : Str)) (hms : mg "super" = none)
    (hb : ∀ (kV doc pm : Value) (an : Option Addr) (ct : Value) (cc c : Addr) (us : List Value), us.length = ps.length → bindArgs (PySem.W.fnX x qual (defArgs st) (defBody st) (defScope st) [(("__class__" : Str), cc)] .none kV doc pm an (.ref c) ct) ⟨us, []⟩ = pure (ps.zip us))
    (G : FnR P w K mg base CX0 k g spg) (len : ∀ vs H Q E, sp vs H Q E → vs.length = ps.length)
    (hbody : ∀ (A : Around) (outer : List Env) (s : Shared) (H : Hp) (vs : List V) (Q : VK) (E : XK), Room k (A.deeper (envF M.nf M.f s.heap.objs.size)) → sp vs H Q E →
      ∃ (t : TS) (ta : TA), PSs (ncx CX0 P w K mg base N M.nf M.f A outer s H E) pre t ∧ PA (ncx CX0 P w K mg base N M.nf M.f A outer s H E) (e :: es) ta ∧ t { nx := SupQ K D g "__init__" ps.length ta spg Q E, rt := Q } (startF N vs [some (.ref D)]) H)
    (hst : ∀ L, starEach (e :: es) (envF M.nf M.f L) = (false, eval e (envF M.nf M.f L)) :: starEach es (envF M.nf M.f L) := by intro L; rfl) (hpl : ∀ L, (backTo pos (starEach es (envF M.nf M.f L))).any (·.1) = false := by intro L; rfl)
    (ht : ∀ L, eval (superE "__init__" (e :: es) p0 p1 apos pos) (envF M.nf M.f L) = (do
      let ov ← attributeBase (.Call (.Name "super" p0) [] [] p1) "__init__" (envF M.nf M.f L) (eval (.Call (.Name "super" p0) [] [] p1) (envF M.nf M.f L))
      standAt apos.atName
      let (fn, first) ← holding [ov] (getMethod ov "__init__" (pl L))
      callWith pos fn first (backTo pos (starEach (e :: es) (envF M.nf M.f L))) []) := by intro L; rfl)
    (hi : ∀ L, interactive (envF M.nf M.f L) = false := by intro L; rfl) (hs : ∀ L, swapsWith (superE "__init__" (e :: es) p0 p1 apos pos) none spos.line (envF M.nf M.f L) = pure false := by intro L; rfl) :
    FnR P w K mg base CX0 (k + 1) M.f sp := by
  obtain ⟨oc, od, kV, doc, pm, an, ct, osl, lk⟩ := M.lk
  refine toR (fnS_of (F := M.nf) M.sk hbd lk M.hcd S hp i0 hv0 h0c ic hms G (fun A outer s H E => fun _ _ _ _ _ _ _ z => z.elim) len hbody hst hpl ht hi hs) (.all fun us hl => hb _ _ _ _ _ _ _ us hl)
theorem MdS.ok0 (M : MdS P K x qual st D g) {pre : List Stmt} {ar : Arg} {p0 p1 apos pos spos : Pos} {pl : Addr → Sem Bool} (hbd : defBody st = pre ++ [.Expr (superE "__init__" [] p0 p1 apos pos) spos])
    (S : NScope N ps ["__class__"] (defScope st)) (hp : ((defArgs st).posonlyargs ++ (defArgs st).args).head? = some ar) (i0 : N[0]? = some ar.arg) (hv0 : (defScope st).names.lookup ar.arg = some .local) (h0c : (ar.arg == ("__classdict__" : Str)) = false) (ic : N[ps.length]? = some ("__class__" : Str)) (hms : mg "super" = none)
    (hb : ∀ (kV doc pm : Value) (an : Option Addr) (ct : Value) (cc c : Addr) (us : List Value), us.length = ps.length → bindArgs (PySem.W.fnX x qual (defArgs st) (defBody st) (defScope st) [(("__class__" : Str), cc)] .none kV doc pm an (.ref c) ct) ⟨us, []⟩ = pure (ps.zip us))
    (G : FnR P w K mg base CX0 k g spg) (len : ∀ vs H Q E, sp vs H Q E → vs.length = ps.length)
    (hbody : ∀ (A : Around) (outer : List Env) (s : Shared) (H : Hp) (vs : List V) (Q : VK) (E : XK), Room k (A.deeper (envF M.nf M.f s.heap.objs.size)) → sp vs H Q E →
      ∃ (t : TS), PSs (ncx CX0 P w K mg base N M.nf M.f A outer s H E) pre t ∧ t { nx := SupQ K D g "__init__" ps.length tNil spg Q E, rt := Q } (startF N vs [some (.ref D)]) H)
    (ht : ∀ L, eval (superE "__init__" [] p0 p1 apos pos) (envF M.nf M.f L) = (do
      let ov ← attributeBase (.Call (.Name "super" p0) [] [] p1) "__init__" (envF M.nf M.f L) (eval (.Call (.Name "super" p0) [] [] p1) (envF M.nf M.f L))
      standAt apos.atName
      let (fn, first) ← holding [ov] (getMethod ov "__init__" (pl L))
      callWith pos fn first (backTo pos (starEach [] (envF M.nf M.f L))) []) := by intro L; rfl)
    (hi : ∀ L, interactive (envF M.nf M.f L) = false := by intro L; rfl) (hs : ∀ L, swapsWith (superE "__init__" [] p0 p1 apos pos) none spos.line (envF M.nf M.f L) = pure false := by intro L; rfl) :
    FnR P w K mg base CX0 (k + 1) M.f sp := by
  obtain ⟨oc, od, kV, doc, pm, an, ct, osl, lk⟩ := M.lk
  exact toR (fnS0_of (F := M.nf) M.sk hbd lk M.hcd S hp i0 hv0 h0c ic hms G (fun A outer s H E => fun _ _ _ _ _ _ _ z => z.elim) len hbody ht hi hs) (.all fun us hl => hb _ _ _ _ _ _ _ us hl)
end
/-- what isinstance wants of a class of instances -/
structure OCls (K : PySem.W.Frag) (C : Addr) : Prop where
  cl : Cls K C
  ca : PySem.W.findIn K (.ref C) "__class__" = some (some (.builtin "object.__class__"))
  cn : PySem.W.specialIn K (.builtin "object.__class__") "__get__" = some (some (.builtin "getset_descriptor.__get__"))
  ct : PySem.W.takesIn K (.builtin "object.__class__") = some true
  cm : PySem.W.mroIn K C (.type "object") = some true
theorem OCls.ty {K : PySem.W.Frag} {C a dx : Addr} {H : Hp} {fs : List (Str × V)} (c : OCls K C) (e : H a = some (.ins C dx fs)) : TyX K H (.ref a) (.ref C) := .base (.ins e c.cl c.ca c.cn c.ct c.cm)
end Pl

set_option Elab.async false
set_option linter.all false
set_option maxRecDepth 100000
set_option maxHeartbeats 4000000
/-! Two own classes around an operator; o[i] of an own class; a def with super().__init__(..) called with keywords. -/
namespace Pl
open PySem PySem.Spec PyProof.Rows L2 NdefX ClX
section
variable {X : Cx} {CX : CXT} {k : Nat} {sp : Sp} {E : XK} {pins : List (Addr × Obj)} {σ : L2.St} {H : Hp} {s : Shared}
theorem run_fnR1 {f : Addr} {Q : VK} {us : List Value} {vs : List V} (F : FnR X.prog X.w X.K X.mg X.base CX k f sp) (hr : Room (k + 1) X.A) (hx : Passes CX X E) (I : Inv X pins σ H s) (r : Vals vs us) (h : sp vs H Q E) :
    codeAny (model X.prog X.w) X.A.in1 (.call (.ref f) ⟨us, []⟩) (fun r s' => match r with | .ok (.ret v) => EP X pins σ Q v s' | .ok _ => False | .error e => X.xe e s') s := by
  refine codeAny_mono (F X.A.in1 X.stack s H us vs Q E hr.in1 I.env0.in1 r h) fun r s' hq => ?_
  cases r with
  | error e => exact hx pins σ H s e s' I hq
  | ok fl =>
    cases fl with
    | ret u => exact I.after hq
    | next => exact False.elim hq
    | brk => exact False.elim hq
    | cont => exact False.elim hq
/-- what a class must have for o[i] -/
structure GetO (K : PySem.W.Frag) (C f : Addr) : Prop where
  at_ : PySem.W.findIn K (.ref C) "__getitem__" = some (some (.ref f))
  fi : PySem.W.fnIn K f = true
  fn : PySem.W.isFn K (.ref f) = true
theorem sub_K2 {prog : Program} {w : World} {A : Around} {E : Value → Shared → Prop} {s : Shared} {K : PySem.W.Frag} {x C L f : Addr} {h₀ : Heap} {m : Str → Option Value} {ox : Obj} {od : Option Obj} {value slice : Expr} {i : Value} {Q : Value → Shared → Prop} (F : PyProof.Rows.Fr h₀ L s.heap m) (X₀ : K.In h₀) (I : PySem.W.InstAt s.heap x ox C od) (hs : PySem.W.findIn K (.ref C) "__getitem__" = some (some (.ref f))) (hf : PySem.W.fnIn K f = true) (hfn : PySem.W.isFn K (.ref f) = true)
    (h : wpAny (model prog w) A.in1 (call (.ref f) [.ref x, i]) Q E s)
    (hsl : subscripted slice true (.ref x) i = runValue (.builtin "lifetime.subscript" ⟨[.ref x, i], []⟩)) :
    wpAny (model prog w) A (subscriptTail value slice (.ref x) i) Q E s := PySem.W.sub_K F X₀ I hs hf hfn h hsl
def tGetO (X : Cx) (f : Addr) (sp : Sp) (E : XK) : R2 := fun x y H Q => ∃ a C dx fs, x = .ref a ∧ H a = some (.ins C dx fs) ∧ GetO X.K C f ∧ sp [x, y] H Q E
theorem pe_getO {f : Addr} {a b : Expr} {ta tb : TE} {pos : Pos} (F : FnR X.prog X.w X.K X.mg X.base CX k f sp) (hr : Room (k + 1) X.A) (hx : Passes CX X E) (ha : PE X a ta) (hb : PE X b tb)
    (hsl : ∀ x i, subscripted b true (.ref x) i = runValue (.builtin "lifetime.subscript" ⟨[.ref x, i], []⟩) := by intro x i; with_unfolding_all rfl) : PE X (.Subscript a b pos) (tOp (tGetO X f sp E) ta tb) := by
  refine ⟨fun pins s σ H Q I h => ?_⟩
  refine Subscript_ (binT ha hb I h fun v u s2 x y H2 I2 rx ry q => ?_)
  obtain ⟨p, C, dx, fs, rfl, hp, B, q⟩ := q
  cases (show v = Value.ref p from rx)
  obtain ⟨mA, O, _⟩ := ins_get I2.hok hp
  obtain ⟨odx, J, _⟩ := O.look
  obtain ⟨m, hF⟩ := I2.fr
  refine sub_K2 hF I2.ok.mod.kin J B.at_ B.fi B.fn ?_ (hsl _ _)
  exact wpAny_call (run_fnR1 (us := [.ref p, u]) (vs := [.ref p, y]) F hr hx I2 (.cons rfl (.cons ry .nil)) q)
/-- what two classes must have for an operator between their instances -/
structure BinC (K : PySem.W.Frag) (C f : Addr) (op : Operator) : Prop where
  first : PySem.W.selfFirst K C = true
  at_ : PySem.W.findIn K (.ref C) (PySem.dunder op.info.2) = some (some (.ref f))
  fn : PySem.W.isFn K (.ref f) = true
  r : PySem.W.findIn K (.ref C) (dunderR op.info.2) = some none
theorem ksp_binO {prog : Program} {w : World} {A : Around} {E : Value → Shared → Prop} {s : Shared} {K : PySem.W.Frag} {x y C C' L f g : Addr} {h₀ : Heap} {m : Str → Option Value} {ox oy : Obj} {od od' : Option Obj} {op : Operator} {Q : Value → Shared → Prop} (F : PyProof.Rows.Fr h₀ L s.heap m) (X₀ : K.In h₀) (I : PySem.W.InstAt s.heap x ox C od) (J : PySem.W.InstAt s.heap y oy C' od')
    (B : BinC K C f op) (B' : BinC K C' g op) (hsub : C = C' ∨ PySem.W.subIn K (.ref C') (.ref C) = some false)
    (h : wpAny (model prog w) A (call (.ref f) [.ref x, .ref y]) (PySem.W.CmpBack Q) E s) : wpAny (model prog w) A (binaryOp op (.ref x) (.ref y)) Q E s := by
  by_cases hCC : C = C'
  · subst hCC
    exact PySem.W.binop_K F X₀ I J.type B.first B.at_ B.fn h
  · have hsub := hsub.resolve_left hCC
    have X := X₀.keeps F.keep
    obtain ⟨cd, rest, hcd, hm⟩ := PySem.W.ksp_first B.first
    obtain ⟨cd', rest', hcd', hm'⟩ := PySem.W.ksp_first B'.first
    have hs := B.at_
    have hr := B.r
    have hs' := B'.at_
    have hr' := B'.r
    rcases hi : op.info with ⟨sym, nm'⟩
    rw [hi] at hs hr hs' hr'
    dsimp only at hs hr hs' hr'
    have one := PySem.W.ksp_try X I hs B.fn h
    obtain ⟨hh, gg, d, tt, os⟩ := s
    have L1 : PySem.W.Looks (model prog w) hh (typeOf (.ref x)) (.ref C) := I.type
    have L2 : PySem.W.Looks (model prog w) hh (typeOf (.ref y)) (.ref C') := J.type
    have L3 : PySem.W.Looks (model prog w) hh (fillsNumberSlot (.ref C) nm') true := PySem.W.fills_K X hcd hm hs
    have L4 : PySem.W.Looks (model prog w) hh (fillsNumberSlot (.ref C') nm') true := PySem.W.fills_K X hcd' hm' hs'
    have L5 : PySem.W.Looks (model prog w) hh (isSubtype (.ref C') (.ref C)) false := PySem.W.looks_subIn X hsub
    have L6 : PySem.W.Looks (model prog w) hh (numberSlotInPython (.ref C) nm') true := PySem.W.ksp_inPy X hs hr (.inl rfl)
    have L7 : PySem.W.Looks (model prog w) hh (numberSlotInPython (.ref C') nm') true := PySem.W.ksp_inPy X hs' hr' (.inl rfl)
    have hne : (Value.ref C == Value.ref C') = false := Bool.eq_false_iff.mpr fun q => by cases beq_iff_eq.mp q; exact hCC rfl
    simp only [binaryOp, hi]
    refine wpAny_holding (wpAny_bind ?_)
    unfold binaryOp1
    refine wpAny_bind (L1.at (wpAny_bind (L2.at (wpAny_bind (L3.at ?_)))))
    simp only [hne, Bool.false_eq_true, if_false]
    ksp_lk
    refine wpAny_mono one (fun r s' hr' => ?_) fun _ _ e => e
    obtain ⟨v, rfl, hq⟩ := hr'
    ksp_lk
    exact hq
theorem op_binO {op : Operator} {f : Addr} (F : FnR X.prog X.w X.K X.mg X.base CX k f sp) (hr : Room k X.A) (hx : Passes CX X E) :
    OpR X (binaryOp op) (fun x y H Q => ∃ a C dx fs b C' dy gs, x = .ref a ∧ y = .ref b ∧ H a = some (.ins C dx fs) ∧ H b = some (.ins C' dy gs) ∧ BinC X.K C f op ∧ BinC X.K C' f op ∧ (C = C' ∨ PySem.W.subIn X.K (.ref C') (.ref C) = some false) ∧ sp [x, y] H Q E) := by
  intro pins s σ H x y v u Q I rx ry h
  obtain ⟨a, C, dx, fs, b, C', dy, gs, rfl, rfl, ha, hb, B, B', hsub, q⟩ := h
  cases (show v = Value.ref a from rx)
  cases (show u = Value.ref b from ry)
  obtain ⟨mA, O, _⟩ := ins_get I.hok ha
  obtain ⟨odx, J, _⟩ := O.look
  obtain ⟨mB, O', _⟩ := ins_get I.hok hb
  obtain ⟨ody, J', _⟩ := O'.look
  obtain ⟨m, hF⟩ := I.fr
  refine ksp_binO hF I.ok.mod.kin J J' B B' hsub ?_
  refine wpAny_mono (wpAny_call (run_fnR (us := [.ref a, .ref b]) (vs := [.ref a, .ref b]) F hr hx I (.cons rfl (.cons rfl .nil)) q)) (fun w s' z => ?_) fun _ _ x => x
  obtain ⟨z', H', I', rz, qz⟩ := z
  exact SlX.cmpback rz ⟨z', H', I', rz, qz⟩
end
section
variable {P : Program} {w : World} {K : PySem.W.Frag} {mg : Str → Option Value} {base : Heap} {k : Nat} {x qual : Str} {st : Stmt} {D g : Addr} {N ps : List Str} {sp spg : Sp}
/-- a def with super().__init__(..) at its end whose last parameters are keywords -/
theorem MdS.okK (M : MdS P K x qual st D g) {pre : List Stmt} {e : Expr} {es : List Expr} {ar : Arg} {p0 p1 apos pos spos : Pos} {pl : Addr → Sem Bool} (n : Nat) (ks : List Str) (hbd : defBody st = pre ++ [.Expr (superE "__init__" (e :: es) p0 p1 apos pos) spos])
    (S : NScope N ps ["__class__"] (defScope st)) (hp : ((defArgs st).posonlyargs ++ (defArgs st).args).head? = some ar) (i0 : N[0]? = some ar.arg) (hv0 : (defScope st).names.lookup ar.arg = some .local) (h0c : (ar.arg == ("__classdict__" : Str)) = false) (ic : N[ps.length]? = some ("__class__" : Str)) (hms : mg "super" = none)
    (hb : ∀ (kV doc pm : Value) (an : Option Addr) (ct : Value) (cc c : Addr) (us ws : List Value), us.length = n → ws.length = ks.length → bindArgs (PySem.W.fnX x qual (defArgs st) (defBody st) (defScope st) [(("__class__" : Str), cc)] .none kV doc pm an (.ref c) ct) ⟨us, ks.zip ws⟩ = pure (ps.zip (us ++ ws)))
    (G : FnR P w K mg base CX0 k g spg) (len : ∀ vs H Q E, sp vs H Q E → vs.length = ps.length)
    (hbody : ∀ (A : Around) (outer : List Env) (s : Shared) (H : Hp) (vs : List V) (Q : VK) (E : XK), Room k (A.deeper (envF M.nf M.f s.heap.objs.size)) → sp vs H Q E →
      ∃ (t : TS) (ta : TA), PSs (ncx CX0 P w K mg base N M.nf M.f A outer s H E) pre t ∧ PA (ncx CX0 P w K mg base N M.nf M.f A outer s H E) (e :: es) ta ∧ t { nx := SupQ K D g "__init__" ps.length ta spg Q E, rt := Q } (startF N vs [some (.ref D)]) H)
    (hst : ∀ L, starEach (e :: es) (envF M.nf M.f L) = (false, eval e (envF M.nf M.f L)) :: starEach es (envF M.nf M.f L) := by intro L; rfl) (hpl : ∀ L, (backTo pos (starEach es (envF M.nf M.f L))).any (·.1) = false := by intro L; rfl)
    (ht : ∀ L, eval (superE "__init__" (e :: es) p0 p1 apos pos) (envF M.nf M.f L) = (do
      let ov ← attributeBase (.Call (.Name "super" p0) [] [] p1) "__init__" (envF M.nf M.f L) (eval (.Call (.Name "super" p0) [] [] p1) (envF M.nf M.f L))
      standAt apos.atName
      let (fn, first) ← holding [ov] (getMethod ov "__init__" (pl L))
      callWith pos fn first (backTo pos (starEach (e :: es) (envF M.nf M.f L))) []) := by intro L; rfl)
    (hi : ∀ L, interactive (envF M.nf M.f L) = false := by intro L; rfl) (hs : ∀ L, swapsWith (superE "__init__" (e :: es) p0 p1 apos pos) none spos.line (envF M.nf M.f L) = pure false := by intro L; rfl) :
    ∃ fd, FnOk P w K mg base CX0 (k + 1) M.f fd ps sp ∧ KBn K fd ps n ks (fun us ws => us ++ ws) (fun vs zs => vs ++ zs) := by
  obtain ⟨oc, od, kV, doc, pm, an, ct, osl, lk⟩ := M.lk
  refine ⟨_, fnS_of (F := M.nf) M.sk hbd lk M.hcd S hp i0 hv0 h0c ic hms G (fun A outer s H E => fun _ _ _ _ _ _ _ z => z.elim) len hbody hst hpl ht hi hs, ?_⟩
  exact ⟨fun s us ws _ l1 l2 => .of_eq (hb _ _ _ _ _ _ _ us ws l1 l2), fun r1 r2 => r1.append r2⟩
end
end Pl

set_option Elab.async false
set_option linter.all false
set_option maxRecDepth 100000
set_option maxHeartbeats 4000000
/-! What the top leaves, seen by a Hook of one's own: checks of the written part, and the defs as they stand. -/
namespace Pl
open PySem PySem.Spec PyProof.Rows L2 NdefX ClX
abbrev FnO : Type := Option (Str × Str × Arguments × FuncBody × Scope × Addr × List Str × Addr)
def fnOb (K : PySem.W.Frag) (p : Str × Option Str) : FnO := match K.lookup (He.fAd K p) with
  | some ⟨_, _, .func fd, _⟩ => some (fd.name, fd.qualname, fd.params, fd.body, fd.scope, fd.globals, fd.closure.map (·.1), fd.builtins)
  | _ => none
/-- one def: where it stands, its name, qualified name, its statement, what it closes over -/
structure ObD where
  at_ : Str × Option Str
  name : Str
  qual : Str
  st : Stmt
  cl : List Str := []
def ObD.val (d : ObD) : FnO := some (d.name, d.qual, defArgs d.st, .stmts (defBody d.st), defScope d.st, mainGlobals, d.cl, builtinsNs)
abbrev AlP : Type := Bool × List FnO
def obsP (cks : List (PySem.W.Frag → Bool)) (fn : List ObD) (K : PySem.W.Frag) : AlP := (cks.all fun f => f K, fn.map fun d => fnOb K d.at_)
def valP (fn : List ObD) : AlP := (true, fn.map ObD.val)
def SaysP (cks : List (PySem.W.Frag → Bool)) (fn : List ObD) (K : PySem.W.Frag) : Prop := obsP cks fn K = valP fn
def asP (g : Addr → Option Obj) : Nat → List Addr
  | 0 => [mainGlobals, cStatics]
  | n + 1 => He.growD g (asP g n)
def obsPG (n : List Addr) (cks : List (PySem.W.Frag → Bool)) (fn : List ObD) (g : Addr → Option Obj) : AlP := obsP cks fn (He.frG g n)
def hookP (n : List Addr) (cks : List (PySem.W.Frag → Bool)) (fn : List ObD) : PySem.W.Hook where
  α := AlP
  obs := fun s => obsPG n cks fn s.heap.get?
  val := fun _ => valP fn
  says := fun _ h => ∃ K : PySem.W.Frag, K.In h ∧ SaysP cks fn K
  of := fun _ _ e => ⟨_, He.frG_in, e⟩
  keeps := fun _ _ _ ⟨K, hK, c⟩ k => ⟨K, PySem.W.Frag.In.keeps hK k, c⟩
theorem obsPG_eq {n : List Addr} {cks : List (PySem.W.Frag → Bool)} {fn : List ObD} {g : Addr → Option Obj} {s : Shared} (h : ∀ a, g a = s.heap.get? a) : obsPG n cks fn g = (hookP n cks fn).obs s := by
  have e : g = s.heap.get? := funext h
  rw [e] <;> rfl
section
variable {cks : List (PySem.W.Frag → Bool)} {fn : List ObD} {K : PySem.W.Frag}
theorem SaysP.ck (c : SaysP cks fn K) (i : Nat) {f : PySem.W.Frag → Bool} (h : cks[i]? = some f) : f K = true := by
  have c1 : (cks.all fun f => f K) = true := congrArg (fun z : AlP => z.1) c
  exact List.all_eq_true.mp c1 f (List.mem_of_getElem? h)
theorem SaysP.de (c : SaysP cks fn K) (i : Nat) {d : ObD} (h : fn[i]? = some d) : fnOb K d.at_ = d.val := by
  have e : fn.map (fun d => fnOb K d.at_) = fn.map ObD.val := congrArg (fun z : AlP => z.2) c
  have e2 : (fn.map fun d => fnOb K d.at_)[i]? = (fn.map ObD.val)[i]? := by rw [e]
  rw [List.getElem?_map, List.getElem?_map, h] at e2
  exact Option.some.inj e2
/-- a plain def -/
def plB (at_ : Str × Option Str) (qual : Str) : PySem.W.Frag → Bool := fun K => PySem.W.keepIn K (.ref (He.fAd K at_)) && (match K.lookup (He.fAd K at_) with
  | some ⟨_, _, .func fd, _⟩ => PySem.W.codeIn K fd.code qual && (match fd.defaults with
    | .none => true
    | _ => false)
  | _ => false)
theorem ob_fun {d : ObD} (e : fnOb K d.at_ = d.val) (hc : d.cl = []) (c : plB d.at_ d.qual K = true) : ∃ fd, Fun K d.name d.qual d.st (He.fAd K d.at_) fd := by
  obtain ⟨kp, c2⟩ := He.ba c
  unfold fnOb at e
  cases q : K.lookup (He.fAd K d.at_) with
  | none => rw [q] at c2; cases c2
  | some o =>
    obtain ⟨oc, od, dt, osl⟩ := o
    rw [q] at c2 e
    cases dt with
    | func fd =>
      obtain ⟨n1, n2, n3, n4, n5, n6, n7, n8, n9, n10, n11, n12, n13, n14, n15⟩ := fd
      have e2 : (some (n1, n2, n3, n4, n5, n6, n7.map (·.1), n15) : FnO) = some (d.name, d.qual, defArgs d.st, .stmts (defBody d.st), defScope d.st, mainGlobals, d.cl, builtinsNs) := e
      simp only [Option.some.injEq, Prod.mk.injEq] at e2
      obtain ⟨h1, h2, h3, h4, h5, h6, h7, h8⟩ := e2
      rw [hc] at h7
      have h7' : n7 = [] := List.map_eq_nil_iff.mp h7
      subst h1 h2 h3 h4 h5 h6 h7' h8
      obtain ⟨k1, k2⟩ := He.ba (by exact c2)
      cases n8 with
      | none => exact ⟨_, fun_mk q k1 kp⟩
      | _ => cases k2
    | _ => cases c2
/-- a def with the default None for its last parameter -/
def dfB (at_ : Str × Option Str) (qual : Str) : PySem.W.Frag → Bool := fun K => PySem.W.keepIn K (.ref (He.fAd K at_)) && (match K.lookup (He.fAd K at_) with
  | some ⟨_, _, .func fd, _⟩ => PySem.W.codeIn K fd.code qual && (He.dflB K fd.defaults [.non] && He.kwdB K fd.kwdefaults [])
  | _ => false)
theorem ob_dfl {d : ObD} (e : fnOb K d.at_ = d.val) (hc : d.cl = []) (c : dfB d.at_ d.qual K = true) : ∃ fd, FunD K d.name d.qual (defArgs d.st) (defBody d.st) (defScope d.st) [.non] [] (He.fAd K d.at_) fd := by
  obtain ⟨kp, c2⟩ := He.ba c
  unfold fnOb at e
  cases q : K.lookup (He.fAd K d.at_) with
  | none => rw [q] at c2; cases c2
  | some o =>
    obtain ⟨oc, od, dt, osl⟩ := o
    rw [q] at c2 e
    cases dt with
    | func fd =>
      obtain ⟨n1, n2, n3, n4, n5, n6, n7, n8, n9, n10, n11, n12, n13, n14, n15⟩ := fd
      have e2 : (some (n1, n2, n3, n4, n5, n6, n7.map (·.1), n15) : FnO) = some (d.name, d.qual, defArgs d.st, .stmts (defBody d.st), defScope d.st, mainGlobals, d.cl, builtinsNs) := e
      simp only [Option.some.injEq, Prod.mk.injEq] at e2
      obtain ⟨h1, h2, h3, h4, h5, h6, h7, h8⟩ := e2
      rw [hc] at h7
      have h7' : n7 = [] := List.map_eq_nil_iff.mp h7
      subst h1 h2 h3 h4 h5 h6 h7' h8
      have c3 : (PySem.W.codeIn K n13 d.qual && (He.dflB K n8 [.non] && He.kwdB K n9 [])) = true := c2
      obtain ⟨k1, k2⟩ := He.ba c3
      obtain ⟨k3, k4⟩ := He.ba k2
      exact ⟨_, ⟨oc, od, n8, n9, n10, n11, n12, n13, n14, osl, rfl, q, k1, He.dflB_ok k3, He.kwdB_ok k4⟩, kp⟩
    | _ => cases c2
/-- a def that closes over its class D -/
def supB (at_ : Str × Option Str) (qual : Str) (D : Str) (file : Str) : PySem.W.Frag → Bool := fun K => PySem.W.keepIn K (.ref (He.fAd K at_)) && (match K.lookup (He.fAd K at_) with
  | some ⟨_, _, .func fd, _⟩ => (match fd.closure, fd.code, fd.defaults with
    | [(_, cc)], .ref c, .none => PySem.W.codeIn K (.ref c) qual && ((match K.lookup cc with
        | some ⟨_, _, .cell (some v), _⟩ => decide (v = .ref (He.ga K D))
        | _ => false) && (match K.lookup c with
        | some ⟨_, _, .fields vs, _⟩ => (match (vs[2]? : Option Value) with
          | some (.str z _) => decide (z = file)
          | _ => false)
        | _ => false))
    | _, _, _ => false)
  | _ => false)
theorem ob_sup {d : ObD} {D file : Str} (e : fnOb K d.at_ = d.val) (hc : d.cl = [("__class__" : Str)]) (c : supB d.at_ d.qual D file K = true) : ∃ cc c0 : Addr,
    (∃ (oc : Value) (od : Option Addr) (kV doc pm : Value) (an : Option Addr) (ct : Value) (osl : Array (Option Value)), K.lookup (He.fAd K d.at_) = some ⟨oc, od, .func (PySem.W.fnX d.name d.qual (defArgs d.st) (defBody d.st) (defScope d.st) [(("__class__" : Str), cc)] .none kV doc pm an (.ref c0) ct), osl⟩) ∧
    PySem.W.codeIn K (.ref c0) d.qual = true ∧ PySem.W.keepIn K (.ref (He.fAd K d.at_)) = true ∧ (∃ ccl ccd ccs, K.lookup cc = some ⟨ccl, ccd, .cell (some (.ref (He.ga K D))), ccs⟩) ∧
    ∃ ccl cdd vs ccs tf, K.lookup c0 = some ⟨ccl, cdd, .fields vs, ccs⟩ ∧ vs[2]? = some (.str file tf) := by
  obtain ⟨kp, c2⟩ := He.ba c
  unfold fnOb at e
  cases q : K.lookup (He.fAd K d.at_) with
  | none => rw [q] at c2; cases c2
  | some o =>
    obtain ⟨oc, od, dt, osl⟩ := o
    rw [q] at c2 e
    cases dt with
    | func fd =>
      obtain ⟨n1, n2, n3, n4, n5, n6, n7, n8, n9, n10, n11, n12, n13, n14, n15⟩ := fd
      have e2 : (some (n1, n2, n3, n4, n5, n6, n7.map (·.1), n15) : FnO) = some (d.name, d.qual, defArgs d.st, .stmts (defBody d.st), defScope d.st, mainGlobals, d.cl, builtinsNs) := e
      simp only [Option.some.injEq, Prod.mk.injEq] at e2
      obtain ⟨h1, h2, h3, h4, h5, h6, h7, h8⟩ := e2
      rw [hc] at h7
      subst h1 h2 h3 h4 h5 h6 h8
      match n7, h7, c2 with
      | [(y, cc)], h7, c2 =>
        have hy : y = ("__class__" : Str) := (List.cons.inj h7).1
        subst hy
        cases n13 with
        | ref c0 =>
          cases n8 with
          | none =>
            obtain ⟨k1, k2⟩ := He.ba (show (PySem.W.codeIn K (.ref c0) d.qual && ((match K.lookup cc with
                | some ⟨_, _, .cell (some v), _⟩ => decide (v = .ref (He.ga K D))
                | _ => false) && (match K.lookup c0 with
                | some ⟨_, _, .fields vs, _⟩ => (match (vs[2]? : Option Value) with
                  | some (.str z _) => decide (z = file)
                  | _ => false)
                | _ => false))) = true from c2)
            obtain ⟨k3, k4⟩ := He.ba k2
            refine ⟨cc, c0, ⟨oc, od, n9, n10, n11, n12, n14, osl, rfl⟩, k1, kp, ?_, ?_⟩
            · cases z : K.lookup cc with
              | none => rw [z] at k3; cases k3
              | some o =>
                obtain ⟨a1, a2, a3, a4⟩ := o
                rw [z] at k3
                cases a3 with
                | cell v =>
                  cases v with
                  | none => cases k3
                  | some v =>
                    have : v = .ref (He.ga K D) := of_decide_eq_true k3
                    subst this
                    exact ⟨_, _, _, rfl⟩
                | _ => cases k3
            · cases z : K.lookup c0 with
              | none => rw [z] at k4; cases k4
              | some o =>
                obtain ⟨a1, a2, a3, a4⟩ := o
                rw [z] at k4
                cases a3 with
                | fields vs =>
                  have k5 : (match (vs[2]? : Option Value) with | some (.str z _) => decide (z = file) | _ => false) = true := k4
                  cases y : vs[2]? with
                  | none => rw [y] at k5; cases k5
                  | some v =>
                    rw [y] at k5
                    cases v with
                    | str z t =>
                      have : z = file := of_decide_eq_true k5
                      subst this
                      exact ⟨_, _, _, _, t, rfl, y⟩
                    | _ => cases k5
                | _ => cases k4
          | _ => cases c2
        | _ => cases n8 <;> cases c2
      | [], h7, c2 => cases h7
      | _ :: _ :: _, h7, c2 => cases (List.cons.inj h7).2
    | _ => cases c2
theorem SaysP.ck2 {css : List (List (PySem.W.Frag → Bool))} (c : SaysP css.flatten fn K) (p i : Nat) {l : List (PySem.W.Frag → Bool)} {f : PySem.W.Frag → Bool} (h1 : css[p]? = some l) (h2 : l[i]? = some f) : f K = true := by
  have c1 : (css.flatten.all fun f => f K) = true := congrArg (fun z : AlP => z.1) c
  exact List.all_eq_true.mp c1 f (List.mem_flatten.mpr ⟨l, List.mem_of_getElem? h1, List.mem_of_getElem? h2⟩)
/-- the run's parts, joined -/
theorem run_join {σ β : Type} {o : Option σ} {lk : σ → Bool} {se : σ → β} {gd : β} {kf : σ → PySem.W.Frag} {css : List (List (PySem.W.Frag → Bool))} (h0 : o.map (fun s => (lk s, se s)) = some (true, gd)) (hf : o.map (fun s => fn.map fun d => fnOb (kf s) d.at_) = some (fn.map ObD.val))
    (hc : ∀ c ∈ css, o.map (fun s => c.all fun f => f (kf s)) = some true) : o.map (fun s => (lk s, se s, obsP css.flatten fn (kf s))) = some (true, gd, valP fn) := by
  cases o with
  | none => cases h0
  | some s =>
    have e0 := Option.some.inj h0
    have ef : (fn.map fun d => fnOb (kf s) d.at_) = fn.map ObD.val := Option.some.inj hf
    have ec : (css.flatten.all fun f => f (kf s)) = true := by
      refine List.all_eq_true.mpr fun f hm => ?_
      obtain ⟨l, h1, h2⟩ := List.mem_flatten.mp hm
      exact List.all_eq_true.mp (Option.some.inj (hc l h1)) f h2
    have e1 := congrArg Prod.fst e0
    have e2 := congrArg Prod.snd e0
    simp only at e1 e2
    show some (lk s, se s, obsP css.flatten fn (kf s)) = _
    unfold obsP valP
    rw [e1, e2, ef, ec]
/-! facts with a value -/
def eqB (a b : Option Bool) : Bool := decide (a = b)
theorem eqB_ok {a b : Option Bool} (h : eqB a b = true) : a = b := of_decide_eq_true h
end
end Pl

namespace Pl
open PySem L2
def topS (i : Nat) : Stmt := PySem.Challenge.pw_pastlooks_k13_rows_of_a_world.main.body.getD i (.Pass ⟨0, 0, 0, 0⟩)
abbrev s_is_integer : Stmt := topS 10
abbrev N_is_integer : List Str := ["value"]
theorem sc_is_integer : FnScope N_is_integer ["value"] (defScope s_is_integer) := ⟨rfl, rfl, rfl, by decide +kernel, rfl, by decide +kernel, by decide +kernel⟩
abbrev s_is_name : Stmt := topS 11
abbrev N_is_name : List Str := ["name", "letter"]
theorem sc_is_name : FnScope N_is_name ["name"] (defScope s_is_name) := ⟨rfl, rfl, rfl, by decide +kernel, rfl, by decide +kernel, by decide +kernel⟩
abbrev s_check_name : Stmt := topS 12
abbrev N_check_name : List Str := ["name"]
theorem sc_check_name : FnScope N_check_name ["name"] (defScope s_check_name) := ⟨rfl, rfl, rfl, by decide +kernel, rfl, by decide +kernel, by decide +kernel⟩
abbrev s_check_moment : Stmt := topS 13
abbrev N_check_moment : List Str := ["value"]
theorem sc_check_moment : FnScope N_check_moment ["value"] (defScope s_check_moment) := ⟨rfl, rfl, rfl, by decide +kernel, rfl, by decide +kernel, by decide +kernel⟩
abbrev s_check_rows : Stmt := topS 14
abbrev N_check_rows : List Str := ["name", "moments", "moment"]
theorem sc_check_rows : FnScope N_check_rows ["name", "moments"] (defScope s_check_rows) := ⟨rfl, rfl, rfl, by decide +kernel, rfl, by decide +kernel, by decide +kernel⟩
abbrev s_limited : Stmt := topS 17
abbrev N_limited : List Str := ["pairs"]
theorem sc_limited : FnScope N_limited ["pairs"] (defScope s_limited) := ⟨rfl, rfl, rfl, by decide +kernel, rfl, by decide +kernel, by decide +kernel⟩
abbrev s_checked_pairs : Stmt := topS 18
abbrev N_checked_pairs : List Str := ["rows", "pairs", "name", "moments", "moment"]
theorem sc_checked_pairs : FnScope N_checked_pairs ["rows"] (defScope s_checked_pairs) := ⟨rfl, rfl, rfl, by decide +kernel, rfl, by decide +kernel, by decide +kernel⟩
abbrev s_World_init : Stmt := inClass (topS 21) 0
abbrev N_World_init : List Str := ["self", "rows"]
theorem sc_World_init : FnScope N_World_init ["self", "rows"] (defScope s_World_init) := ⟨rfl, rfl, rfl, by decide +kernel, rfl, by decide +kernel, by decide +kernel⟩
abbrev s_World_getitem : Stmt := inClass (topS 21) 2
abbrev N_World_getitem : List Str := ["self", "name", "stream", "moment"]
theorem sc_World_getitem : FnScope N_World_getitem ["self", "name"] (defScope s_World_getitem) := ⟨rfl, rfl, rfl, by decide +kernel, rfl, by decide +kernel, by decide +kernel⟩
abbrev s_World_contains : Stmt := inClass (topS 21) 5
abbrev N_World_contains : List Str := ["self", "thing"]
theorem sc_World_contains : FnScope N_World_contains ["self", "thing"] (defScope s_World_contains) := ⟨rfl, rfl, rfl, by decide +kernel, rfl, by decide +kernel, by decide +kernel⟩
abbrev s_World_len : Stmt := inClass (topS 21) 6
abbrev N_World_len : List Str := ["self"]
theorem sc_World_len : FnScope N_World_len ["self"] (defScope s_World_len) := ⟨rfl, rfl, rfl, by decide +kernel, rfl, by decide +kernel, by decide +kernel⟩
abbrev s_World_eq : Stmt := inClass (topS 21) 7
abbrev N_World_eq : List Str := ["self", "other"]
theorem sc_World_eq : FnScope N_World_eq ["self", "other"] (defScope s_World_eq) := ⟨rfl, rfl, rfl, by decide +kernel, rfl, by decide +kernel, by decide +kernel⟩
abbrev s_World_names : Stmt := inClass (topS 21) 10
abbrev N_World_names : List Str := ["self", "name", "moment"]
theorem sc_World_names : FnScope N_World_names ["self"] (defScope s_World_names) := ⟨rfl, rfl, rfl, by decide +kernel, rfl, by decide +kernel, by decide +kernel⟩
abbrev s_World_rows : Stmt := inClass (topS 21) 11
abbrev N_World_rows : List Str := ["self"]
theorem sc_World_rows : FnScope N_World_rows ["self"] (defScope s_World_rows) := ⟨rfl, rfl, rfl, by decide +kernel, rfl, by decide +kernel, by decide +kernel⟩
abbrev s_check_world : Stmt := topS 22
abbrev N_check_world : List Str := ["value"]
theorem sc_check_world : FnScope N_check_world ["value"] (defScope s_check_world) := ⟨rfl, rfl, rfl, by decide +kernel, rfl, by decide +kernel, by decide +kernel⟩
abbrev s_law_open : Stmt := topS 24
abbrev N_law_open : List Str := ["_law_script", "_law_cells"]
theorem sc_law_open : FnScope N_law_open ["_law_script"] (defScope s_law_open) := ⟨rfl, rfl, rfl, by decide +kernel, rfl, by decide +kernel, by decide +kernel⟩
abbrev s_law_pick : Stmt := topS 25
abbrev N_law_pick : List Str := ["_law_box", "_law_many", "_law_cells", "_law_k", "_law_at", "_law_cell", "_law_number_here"]
theorem sc_law_pick : FnScope N_law_pick ["_law_box", "_law_many"] (defScope s_law_pick) := ⟨rfl, rfl, rfl, by decide +kernel, rfl, by decide +kernel, by decide +kernel⟩
abbrev s_law_number : Stmt := topS 26
abbrev N_law_number : List Str := ["_law_box", "_law_kind"]
theorem sc_law_number : FnScope N_law_number ["_law_box"] (defScope s_law_number) := ⟨rfl, rfl, rfl, by decide +kernel, rfl, by decide +kernel, by decide +kernel⟩
abbrev s_law_names : Stmt := topS 27
abbrev N_law_names : List Str := ["_law_box", "_law_many", "_law_letters", "_law_names_here", "_law_k", "_law_name", "_law_j", "_law_word"]
theorem sc_law_names : FnScope N_law_names ["_law_box", "_law_many"] (defScope s_law_names) := ⟨rfl, rfl, rfl, by decide +kernel, rfl, by decide +kernel, by decide +kernel⟩
abbrev s_law_moments : Stmt := topS 28
abbrev N_law_moments : List Str := ["_law_box", "_law_most", "_law_found", "_law_moment", "_law_k"]
theorem sc_law_moments : FnScope N_law_moments ["_law_box", "_law_most"] (defScope s_law_moments) := ⟨rfl, rfl, rfl, by decide +kernel, rfl, by decide +kernel, by decide +kernel⟩
abbrev s_law_rows : Stmt := topS 29
abbrev N_law_rows : List Str := ["_law_box", "_law_names_here", "_law_most", "_law_rows_here", "_law_name"]
theorem sc_law_rows : FnScope N_law_rows ["_law_box", "_law_names_here", "_law_most"] (defScope s_law_rows) := ⟨rfl, rfl, rfl, by decide +kernel, rfl, by decide +kernel, by decide +kernel⟩
abbrev s_law_copy : Stmt := topS 30
abbrev N_law_copy : List Str := ["_law_rows_here", "_law_result", "_law_name"]
theorem sc_law_copy : FnScope N_law_copy ["_law_rows_here"] (defScope s_law_copy) := ⟨rfl, rfl, rfl, by decide +kernel, rfl, by decide +kernel, by decide +kernel⟩
abbrev s_law_world : Stmt := topS 31
abbrev N_law_world : List Str := ["_law_rows_here"]
theorem sc_law_world : FnScope N_law_world ["_law_rows_here"] (defScope s_law_world) := ⟨rfl, rfl, rfl, by decide +kernel, rfl, by decide +kernel, by decide +kernel⟩
abbrev s_law_pairs : Stmt := topS 32
abbrev N_law_pairs : List Str := ["_law_rows_here", "_law_pairs_here", "_law_name", "_law_moment"]
theorem sc_law_pairs : FnScope N_law_pairs ["_law_rows_here"] (defScope s_law_pairs) := ⟨rfl, rfl, rfl, by decide +kernel, rfl, by decide +kernel, by decide +kernel⟩
abbrev s_law_equal : Stmt := topS 33
abbrev N_law_equal : List Str := ["_law_one", "_law_other", "_law_nested", "_law_k"]
theorem sc_law_equal : FnScope N_law_equal ["_law_one", "_law_other"] (defScope s_law_equal) := ⟨rfl, rfl, rfl, by decide +kernel, rfl, by decide +kernel, by decide +kernel⟩
abbrev s_law_told_all : Stmt := topS 34
abbrev N_law_told_all : List Str := ["_law_world_here", "_law_rows_here", "_law_given", "_law_name", "_law_moment"]
theorem sc_law_told_all : FnScope N_law_told_all ["_law_world_here", "_law_rows_here"] (defScope s_law_told_all) := ⟨rfl, rfl, rfl, by decide +kernel, rfl, by decide +kernel, by decide +kernel⟩
abbrev s_law : Stmt := topS 35
abbrev N_law : List Str := ["_law_script", "_law_box", "_law_names_here", "_law_rows_here", "_law_turned", "_law_k", "_law_world_here", "_law_other", "_law_name", "_law_pairs_here", "_law_found", "_law_things", "_law_thing", "_law_told_rows"]
theorem sc_law : FnScope N_law ["_law_script"] (defScope s_law) := ⟨rfl, rfl, rfl, by decide +kernel, rfl, by decide +kernel, by decide +kernel⟩
structure Df (K : PySem.W.Frag) (mg : Str → Option Value) (x : Str) (st : Stmt) (ps : List Str) where
  f : Addr
  fd : FuncData
  F : Fun K x x st f fd
  b : Binds K fd ps []
  g : mg x = some (.ref f)
structure Txt (P : Program) (K : PySem.W.Frag) (mg : Str → Option Value) where
  c_World : Addr
  g_World : mg "World" = some (.ref c_World)
  u_LETTERS : Tok
  k_LETTERS : mg "LETTERS" = some (.str "abcdefghijklmnopqrstuvwxyz" u_LETTERS)
  u_MOST_ROWS : Tok
  k_MOST_ROWS : mg "MOST_ROWS" = some (.int 300 u_MOST_ROWS)
  is_integer : Df K mg "is_integer" s_is_integer ["value"]
  is_name : Df K mg "is_name" s_is_name ["name"]
  check_name : Df K mg "check_name" s_check_name ["name"]
  check_moment : Df K mg "check_moment" s_check_moment ["value"]
  check_rows : Df K mg "check_rows" s_check_rows ["name", "moments"]
  limited : Df K mg "limited" s_limited ["pairs"]
  checked_pairs : Df K mg "checked_pairs" s_checked_pairs ["rows"]
  check_world : Df K mg "check_world" s_check_world ["value"]
  law_open : Df K mg "_law_open" s_law_open ["_law_script"]
  law_pick : Df K mg "_law_pick" s_law_pick ["_law_box", "_law_many"]
  law_number : Df K mg "_law_number" s_law_number ["_law_box"]
  law_names : Df K mg "_law_names" s_law_names ["_law_box", "_law_many"]
  law_moments : Df K mg "_law_moments" s_law_moments ["_law_box", "_law_most"]
  law_rows : Df K mg "_law_rows" s_law_rows ["_law_box", "_law_names_here", "_law_most"]
  law_copy : Df K mg "_law_copy" s_law_copy ["_law_rows_here"]
  law_world : Df K mg "_law_world" s_law_world ["_law_rows_here"]
  law_pairs : Df K mg "_law_pairs" s_law_pairs ["_law_rows_here"]
  law_equal : Df K mg "_law_equal" s_law_equal ["_law_one", "_law_other"]
  law_told_all : Df K mg "_law_told_all" s_law_told_all ["_law_world_here", "_law_rows_here"]
  law : Df K mg "law" s_law ["_law_script"]
  World_init : MdD K "__init__" "World.__init__" s_World_init ["self", "rows"]
  World_getitem : Md K "__getitem__" "World.__getitem__" s_World_getitem ["self", "name"]
  World_contains : Md K "__contains__" "World.__contains__" s_World_contains ["self", "thing"]
  World_len : Md K "__len__" "World.__len__" s_World_len ["self"]
  World_eq : Md K "__eq__" "World.__eq__" s_World_eq ["self", "other"]
  World_names : Md K "names" "World.names" s_World_names ["self"]
  World_rows : Md K "rows" "World.rows" s_World_rows ["self"]
  o_World : OCls K c_World
  mk_World : Mk K c_World World_init.f
  m_World_contains : Meth K c_World "__contains__" World_contains.f
  m_World_len : Meth K c_World "__len__" World_len.f
  m_World_names : Meth K c_World "names" World_names.f
  m_World_rows : Meth K c_World "rows" World_rows.f
  n_World_pairs : NoAttr K c_World "pairs"
  gi_World : GetO K c_World World_getitem.f
  e_World_Eq : CmpO K c_World World_eq.f .Eq
  ne_World : NeO K c_World World_eq.f
  nf_World_World : PySem.W.notFirst K c_World (.ref c_World) = true
  k1_NoneType_World : PySem.W.kitOne K (.type "NoneType") (.ref c_World) = some false
  k1_World_World : PySem.W.kitOne K (.ref c_World) (.ref c_World) = some true
  k1_bool_World : PySem.W.kitOne K (.type "bool") (.ref c_World) = some false
  k1_dict_World : PySem.W.kitOne K (.type "dict") (.ref c_World) = some false
  k1_int_World : PySem.W.kitOne K (.type "int") (.ref c_World) = some false
  k1_list_World : PySem.W.kitOne K (.type "list") (.ref c_World) = some false
  k1_str_World : PySem.W.kitOne K (.type "str") (.ref c_World) = some false
  k1_tuple_World : PySem.W.kitOne K (.type "tuple") (.ref c_World) = some false
  n_isinstance : mg "isinstance" = none
  n_bool : mg "bool" = none
  n_int : mg "int" = none
  n_len : mg "len" = none
  n_str : mg "str" = none
  n_set : mg "set" = none
  n_list : mg "list" = none
  n_sorted : mg "sorted" = none
  n_tuple : mg "tuple" = none
  n_range : mg "range" = none
-- BEGIN RUN
def loose : List Str := (["_wall", "PastError", "BadName", "BadMoment", "BadWorld", "BadRows", "TooMany", "LETTERS", "is_integer", "is_name", "check_name", "check_moment", "check_rows", "MOST_ROWS", "limited", "checked_pairs", "joined", "grouped", "World", "check_world", "_law_open", "_law_pick", "_law_number", "_law_names", "_law_moments", "_law_rows", "_law_copy", "_law_world", "_law_pairs", "_law_equal"] : List Str) ++ (["_law_told_all"] : List Str)
def fns : List ObD := [⟨("is_integer", none), "is_integer", "is_integer", s_is_integer, []⟩,
  ⟨("is_name", none), "is_name", "is_name", s_is_name, []⟩,
  ⟨("check_name", none), "check_name", "check_name", s_check_name, []⟩,
  ⟨("check_moment", none), "check_moment", "check_moment", s_check_moment, []⟩,
  ⟨("check_rows", none), "check_rows", "check_rows", s_check_rows, []⟩,
  ⟨("limited", none), "limited", "limited", s_limited, []⟩,
  ⟨("checked_pairs", none), "checked_pairs", "checked_pairs", s_checked_pairs, []⟩,
  ⟨("check_world", none), "check_world", "check_world", s_check_world, []⟩,
  ⟨("_law_open", none), "_law_open", "_law_open", s_law_open, []⟩,
  ⟨("_law_pick", none), "_law_pick", "_law_pick", s_law_pick, []⟩,
  ⟨("_law_number", none), "_law_number", "_law_number", s_law_number, []⟩,
  ⟨("_law_names", none), "_law_names", "_law_names", s_law_names, []⟩,
  ⟨("_law_moments", none), "_law_moments", "_law_moments", s_law_moments, []⟩,
  ⟨("_law_rows", none), "_law_rows", "_law_rows", s_law_rows, []⟩,
  ⟨("_law_copy", none), "_law_copy", "_law_copy", s_law_copy, []⟩,
  ⟨("_law_world", none), "_law_world", "_law_world", s_law_world, []⟩,
  ⟨("_law_pairs", none), "_law_pairs", "_law_pairs", s_law_pairs, []⟩,
  ⟨("_law_equal", none), "_law_equal", "_law_equal", s_law_equal, []⟩,
  ⟨("_law_told_all", none), "_law_told_all", "_law_told_all", s_law_told_all, []⟩,
  ⟨("law", none), "law", "law", s_law, []⟩,
  ⟨("World", some "__init__"), "__init__", "World.__init__", s_World_init, []⟩,
  ⟨("World", some "__getitem__"), "__getitem__", "World.__getitem__", s_World_getitem, []⟩,
  ⟨("World", some "__contains__"), "__contains__", "World.__contains__", s_World_contains, []⟩,
  ⟨("World", some "__len__"), "__len__", "World.__len__", s_World_len, []⟩,
  ⟨("World", some "__eq__"), "__eq__", "World.__eq__", s_World_eq, []⟩,
  ⟨("World", some "names"), "names", "World.names", s_World_names, []⟩,
  ⟨("World", some "rows"), "rows", "World.rows", s_World_rows, []⟩]
def cks0 : List (PySem.W.Frag → Bool) := [fun K => He.eqO (PySem.W.nsIn K mainGlobals "World") (some (some (.ref (He.ga K "World")))),
  fun K => (He.Fa.str "LETTERS" "abcdefghijklmnopqrstuvwxyz").ok K,
  fun K => (He.Fa.int "MOST_ROWS" 300).ok K,
  fun K => plB ("is_integer", none) "is_integer" K,
  fun K => He.eqO (PySem.W.nsIn K mainGlobals "is_integer") (some (some (.ref (He.ga K "is_integer")))),
  fun K => plB ("is_name", none) "is_name" K,
  fun K => He.eqO (PySem.W.nsIn K mainGlobals "is_name") (some (some (.ref (He.ga K "is_name")))),
  fun K => plB ("check_name", none) "check_name" K,
  fun K => He.eqO (PySem.W.nsIn K mainGlobals "check_name") (some (some (.ref (He.ga K "check_name")))),
  fun K => plB ("check_moment", none) "check_moment" K,
  fun K => He.eqO (PySem.W.nsIn K mainGlobals "check_moment") (some (some (.ref (He.ga K "check_moment")))),
  fun K => plB ("check_rows", none) "check_rows" K,
  fun K => He.eqO (PySem.W.nsIn K mainGlobals "check_rows") (some (some (.ref (He.ga K "check_rows")))),
  fun K => plB ("limited", none) "limited" K,
  fun K => He.eqO (PySem.W.nsIn K mainGlobals "limited") (some (some (.ref (He.ga K "limited")))),
  fun K => plB ("checked_pairs", none) "checked_pairs" K,
  fun K => He.eqO (PySem.W.nsIn K mainGlobals "checked_pairs") (some (some (.ref (He.ga K "checked_pairs")))),
  fun K => plB ("check_world", none) "check_world" K,
  fun K => He.eqO (PySem.W.nsIn K mainGlobals "check_world") (some (some (.ref (He.ga K "check_world")))),
  fun K => plB ("_law_open", none) "_law_open" K,
  fun K => He.eqO (PySem.W.nsIn K mainGlobals "_law_open") (some (some (.ref (He.ga K "_law_open")))),
  fun K => plB ("_law_pick", none) "_law_pick" K,
  fun K => He.eqO (PySem.W.nsIn K mainGlobals "_law_pick") (some (some (.ref (He.ga K "_law_pick")))),
  fun K => plB ("_law_number", none) "_law_number" K,
  fun K => He.eqO (PySem.W.nsIn K mainGlobals "_law_number") (some (some (.ref (He.ga K "_law_number")))),
  fun K => plB ("_law_names", none) "_law_names" K,
  fun K => He.eqO (PySem.W.nsIn K mainGlobals "_law_names") (some (some (.ref (He.ga K "_law_names")))),
  fun K => plB ("_law_moments", none) "_law_moments" K,
  fun K => He.eqO (PySem.W.nsIn K mainGlobals "_law_moments") (some (some (.ref (He.ga K "_law_moments")))),
  fun K => plB ("_law_rows", none) "_law_rows" K,
  fun K => He.eqO (PySem.W.nsIn K mainGlobals "_law_rows") (some (some (.ref (He.ga K "_law_rows")))),
  fun K => plB ("_law_copy", none) "_law_copy" K,
  fun K => He.eqO (PySem.W.nsIn K mainGlobals "_law_copy") (some (some (.ref (He.ga K "_law_copy")))),
  fun K => plB ("_law_world", none) "_law_world" K,
  fun K => He.eqO (PySem.W.nsIn K mainGlobals "_law_world") (some (some (.ref (He.ga K "_law_world")))),
  fun K => plB ("_law_pairs", none) "_law_pairs" K,
  fun K => He.eqO (PySem.W.nsIn K mainGlobals "_law_pairs") (some (some (.ref (He.ga K "_law_pairs")))),
  fun K => plB ("_law_equal", none) "_law_equal" K,
  fun K => He.eqO (PySem.W.nsIn K mainGlobals "_law_equal") (some (some (.ref (He.ga K "_law_equal")))),
  fun K => plB ("_law_told_all", none) "_law_told_all" K,
  fun K => He.eqO (PySem.W.nsIn K mainGlobals "_law_told_all") (some (some (.ref (He.ga K "_law_told_all")))),
  fun K => plB ("law", none) "law" K,
  fun K => He.eqO (PySem.W.nsIn K mainGlobals "law") (some (some (.ref (He.ga K "law")))),
  fun K => dfB ("World", some "__init__") "World.__init__" K,
  fun K => plB ("World", some "__getitem__") "World.__getitem__" K,
  fun K => plB ("World", some "__contains__") "World.__contains__" K,
  fun K => plB ("World", some "__len__") "World.__len__" K,
  fun K => plB ("World", some "__eq__") "World.__eq__" K,
  fun K => plB ("World", some "names") "World.names" K,
  fun K => plB ("World", some "rows") "World.rows" K,
  fun K => PySem.W.plainGet K (He.ga K "World") Str.empty,
  fun K => PySem.W.hasDictIn K (He.ga K "World"),
  fun K => PySem.W.plainOver K (He.ga K "World"),
  fun K => He.eqO (PySem.W.findIn K (.ref (He.ga K "World")) "__setattr__") (some (some (.builtin "object.__setattr__"))),
  fun K => He.eqO (PySem.W.findIn K (.ref (He.ga K "World")) "__class__") (some (some (.builtin "object.__class__"))),
  fun K => He.eqO (PySem.W.specialIn K (.builtin "object.__class__") "__get__") (some (some (.builtin "getset_descriptor.__get__"))),
  fun K => eqB (PySem.W.takesIn K (.builtin "object.__class__")) (some true),
  fun K => eqB (PySem.W.mroIn K (He.ga K "World") (.type "object")) (some true),
  fun K => PySem.W.makesIn K (He.ga K "World"),
  fun K => He.eqO (PySem.W.findIn K (.ref (He.ga K "World")) "__init__") (some (some (.ref (He.fAd K ("World", some "__init__")))))]
def cks1 : List (PySem.W.Frag → Bool) := [fun K => PySem.W.isFn K (.ref (He.fAd K ("World", some "__init__"))),
  fun K => PySem.W.keepIn K (.ref (He.ga K "World")),
  fun K => He.eqO (PySem.W.findIn K (.ref (He.ga K "World")) "__contains__") (some (some (.ref (He.fAd K ("World", some "__contains__"))))),
  fun K => PySem.W.isFn K (.ref (He.fAd K ("World", some "__contains__"))),
  fun K => PySem.W.keepIn K (.ref (He.fAd K ("World", some "__contains__"))),
  fun K => He.eqO (PySem.W.findIn K (.ref (He.ga K "World")) "__len__") (some (some (.ref (He.fAd K ("World", some "__len__"))))),
  fun K => PySem.W.isFn K (.ref (He.fAd K ("World", some "__len__"))),
  fun K => PySem.W.keepIn K (.ref (He.fAd K ("World", some "__len__"))),
  fun K => He.eqO (PySem.W.findIn K (.ref (He.ga K "World")) "names") (some (some (.ref (He.fAd K ("World", some "names"))))),
  fun K => PySem.W.isFn K (.ref (He.fAd K ("World", some "names"))),
  fun K => PySem.W.keepIn K (.ref (He.fAd K ("World", some "names"))),
  fun K => He.eqO (PySem.W.findIn K (.ref (He.ga K "World")) "rows") (some (some (.ref (He.fAd K ("World", some "rows"))))),
  fun K => PySem.W.isFn K (.ref (He.fAd K ("World", some "rows"))),
  fun K => PySem.W.keepIn K (.ref (He.fAd K ("World", some "rows"))),
  fun K => He.eqO (PySem.W.findIn K (.ref (He.ga K "World")) "pairs") (some none),
  fun K => He.eqO (PySem.W.findIn K (.ref (He.ga K "World")) "__getitem__") (some (some (.ref (He.fAd K ("World", some "__getitem__"))))),
  fun K => PySem.W.fnIn K (He.fAd K ("World", some "__getitem__")),
  fun K => PySem.W.isFn K (.ref (He.fAd K ("World", some "__getitem__"))),
  fun K => He.eqO (PySem.W.findIn K (.ref (He.ga K "World")) "__eq__") (some (some (.ref (He.fAd K ("World", some "__eq__"))))),
  fun K => PySem.W.isFn K (.ref (He.fAd K ("World", some "__eq__"))),
  fun K => He.eqO (PySem.W.findIn K (.ref (He.ga K "World")) "__ne__") (some (some (.builtin "object.__ne__"))),
  fun K => PySem.W.notFirst K (He.ga K "World") (.ref (He.ga K "World")),
  fun K => eqB (PySem.W.kitOne K (.type "NoneType") (.ref (He.ga K "World"))) (some false),
  fun K => eqB (PySem.W.kitOne K (.ref (He.ga K "World")) (.ref (He.ga K "World"))) (some true),
  fun K => eqB (PySem.W.kitOne K (.type "bool") (.ref (He.ga K "World"))) (some false),
  fun K => eqB (PySem.W.kitOne K (.type "dict") (.ref (He.ga K "World"))) (some false),
  fun K => eqB (PySem.W.kitOne K (.type "int") (.ref (He.ga K "World"))) (some false),
  fun K => eqB (PySem.W.kitOne K (.type "list") (.ref (He.ga K "World"))) (some false),
  fun K => eqB (PySem.W.kitOne K (.type "str") (.ref (He.ga K "World"))) (some false),
  fun K => eqB (PySem.W.kitOne K (.type "tuple") (.ref (He.ga K "World"))) (some false),
  fun K => He.eqO (PySem.W.nsIn K mainGlobals "isinstance") (some none),
  fun K => He.eqO (PySem.W.nsIn K mainGlobals "bool") (some none),
  fun K => He.eqO (PySem.W.nsIn K mainGlobals "int") (some none),
  fun K => He.eqO (PySem.W.nsIn K mainGlobals "len") (some none),
  fun K => He.eqO (PySem.W.nsIn K mainGlobals "str") (some none),
  fun K => He.eqO (PySem.W.nsIn K mainGlobals "set") (some none),
  fun K => He.eqO (PySem.W.nsIn K mainGlobals "list") (some none),
  fun K => He.eqO (PySem.W.nsIn K mainGlobals "sorted") (some none),
  fun K => He.eqO (PySem.W.nsIn K mainGlobals "tuple") (some none),
  fun K => He.eqO (PySem.W.nsIn K mainGlobals "range") (some none)]
def css : List (List (PySem.W.Frag → Bool)) := [cks0, cks1]
abbrev Rw : PySem.W.OpenRow := PySem.W.OpenLaw.row PySem.Challenge.rw_pastlooks_k13_rows_of_a_world
def asL0 : List Addr := [3, 2, 6, 4, 21, 31, 51, 70, 89, 108, 120, 129, 134, 141, 148, 155, 162, 167, 174, 179, 292, 303, 310, 317, 324, 329, 336, 343, 350, 357, 364, 371, 376, 381, 0, 20, 30, 50, 69, 88, 107, 119, 128, 133, 140, 147, 154, 161, 166, 173, 178, 291, 302, 309, 316, 323, 328, 335, 342, 349, 356, 363, 370, 375, 380, 15, 16, 17, 18, 19, 29, 32, 48, 49, 67, 68, 86, 87, 105, 106, 118, 123, 124, 125, 126, 127, 130, 131, 132, 135, 136, 137, 138, 139, 142, 143, 144, 145, 146, 149]
def asL1 : List Addr := [150, 151, 152, 153, 156, 157, 158, 159, 160, 163, 164, 165, 168, 169, 170, 171, 172, 175, 176, 177, 194, 203, 209, 214, 221, 228, 235, 242, 249, 256, 261, 268, 275, 282, 289, 290, 293, 294, 297, 298, 299, 300, 301, 304, 305, 306, 307, 308, 311, 312, 313, 314, 315, 318, 319, 320, 321, 322, 325, 326, 327, 330, 331, 332, 333, 334, 337, 338, 339, 340, 341, 344, 345, 346, 347, 348, 351, 352, 353, 354, 355, 358, 359, 360, 361, 362, 365, 366, 367, 368, 369, 372, 373, 374, 377, 378, 379, 47, 66, 85]
def asL2 : List Addr := [104, 193, 187, 201, 202, 208, 213, 220, 227, 234, 241, 248, 255, 260, 267, 274, 281, 288, 42, 43, 44, 45, 46, 61, 62, 63, 64, 65, 80, 81, 82, 83, 84, 99, 100, 101, 102, 103, 188, 189, 190, 191, 192, 200, 204, 205, 206, 207, 210, 211, 212, 215, 216, 217, 218, 219, 222, 223, 224, 225, 226, 229, 230, 231, 232, 233, 236, 237, 238, 239, 240, 243, 244, 245, 246, 247, 250, 251, 252, 253, 254, 257, 258, 259, 262, 263, 264, 265, 266, 269, 270, 271, 272, 273, 276, 277, 278, 279, 280, 283]
def asL3 : List Addr := [284, 285, 286, 287]
def asL : List Addr := asL0 ++ asL1 ++ asL2 ++ asL3
abbrev hk : PySem.W.Hook := hookP asL css.flatten fns
def ob (s : PySem.W.SharedT) : AlP := obsPG asL css.flatten fns (HandSHeadRun.getT s)
theorem ob_eq (s : PySem.W.SharedT) : ob s = hk.obs s.abs := obsPG_eq (HandSHeadRun.getT_eq s)
abbrev kf (s : PySem.W.SharedT) : PySem.W.Frag := He.frG (HandSHeadRun.getT s) asL
noncomputable abbrev En (w : World) (os : OsState) : Option PySem.W.SharedT := HandSHeadRun.endF (HandSHeadRun.stepQ (HandSHeadRun.denQ HandSHeadRun.tabQ) Rw.prog w) 60000 Rw.prog w os
abbrev qv : Program := PySem.W.view Rw.prog [35]
open PySem.W in
theorem run0 (w : World) (os : OsState) : (En w os).map (fun s => (HandSHeadRun.looksF Rw.prog (boot_heap w.params) s.abs, HandSHeadRun.seenQ qv loose (importedModules Rw.prog.main.body) (fun s => xlAt qv [] s && recOk Rw.toRowW.records s) s.abs)) = some (true, openGood qv loose) := by
  kernel_rfl
theorem runF (w : World) (os : OsState) : (En w os).map (fun s => fns.map fun d => fnOb (kf s) d.at_) = some (fns.map ObD.val) := by
  kernel_rfl
theorem runC0 (w : World) (os : OsState) : (En w os).map (fun s => cks0.all fun f => f (kf s)) = some true := by
  kernel_rfl
theorem runC1 (w : World) (os : OsState) : (En w os).map (fun s => cks1.all fun f => f (kf s)) = some true := by
  kernel_rfl
theorem run (w : World) : HandSHeadRun.RunEq Rw qv hk ob 60000 loose w := by
  intro os
  refine run_join (css := css) (fn := fns) (kf := kf) (run0 w os) (runF w os) fun c hc => ?_
  simp only [css, List.mem_cons, List.not_mem_nil, or_false] at hc
  rcases hc with rfl | rfl
  · exact runC0 w os
  · exact runC1 w os
set_option maxHeartbeats 40000000 in
theorem facts {K : PySem.W.Frag} {h : Heap} {mg : Str → Option Value} {fa : Addr} (X : K.In h) (G : h.Ns mainGlobals mg) (hfa : mg "law" = some (.ref fa)) (c : SaysP css.flatten fns K) :
    ∃ T : Txt PySem.Challenge.rw_pastlooks_k13_rows_of_a_world.prog K mg, T.law.f = fa ∧ ∀ (s : Shared) (v : Value), BindsTo s T.law.fd ⟨[v], []⟩ [("_law_script", v)] := by
  have e := hfa.symm.trans (PySem.W.mg_of X G (He.eqO_ok (c.ck2 0 42 rfl rfl)))
  cases e
  obtain ⟨u_LETTERS, k_LETTERS⟩ := He.str_ok X G (x := "LETTERS") (z := "abcdefghijklmnopqrstuvwxyz") (c.ck2 0 1 rfl rfl)
  obtain ⟨u_MOST_ROWS, k_MOST_ROWS⟩ := He.int_ok X G (x := "MOST_ROWS") (i := 300) (c.ck2 0 2 rfl rfl)
  obtain ⟨fd0, F0⟩ := ob_fun (c.de 0 (d := ⟨("is_integer", none), "is_integer", "is_integer", s_is_integer, []⟩) rfl) rfl (c.ck2 0 3 rfl rfl)
  have b0 := F0.binds (ps := ["value"]) fun _ _ _ _ _ _ us hl => match us, hl with | [_], _ => rfl
  obtain ⟨fd1, F1⟩ := ob_fun (c.de 1 (d := ⟨("is_name", none), "is_name", "is_name", s_is_name, []⟩) rfl) rfl (c.ck2 0 5 rfl rfl)
  have b1 := F1.binds (ps := ["name"]) fun _ _ _ _ _ _ us hl => match us, hl with | [_], _ => rfl
  obtain ⟨fd2, F2⟩ := ob_fun (c.de 2 (d := ⟨("check_name", none), "check_name", "check_name", s_check_name, []⟩) rfl) rfl (c.ck2 0 7 rfl rfl)
  have b2 := F2.binds (ps := ["name"]) fun _ _ _ _ _ _ us hl => match us, hl with | [_], _ => rfl
  obtain ⟨fd3, F3⟩ := ob_fun (c.de 3 (d := ⟨("check_moment", none), "check_moment", "check_moment", s_check_moment, []⟩) rfl) rfl (c.ck2 0 9 rfl rfl)
  have b3 := F3.binds (ps := ["value"]) fun _ _ _ _ _ _ us hl => match us, hl with | [_], _ => rfl
  obtain ⟨fd4, F4⟩ := ob_fun (c.de 4 (d := ⟨("check_rows", none), "check_rows", "check_rows", s_check_rows, []⟩) rfl) rfl (c.ck2 0 11 rfl rfl)
  have b4 := F4.binds (ps := ["name", "moments"]) fun _ _ _ _ _ _ us hl => match us, hl with | [_, _], _ => rfl
  obtain ⟨fd5, F5⟩ := ob_fun (c.de 5 (d := ⟨("limited", none), "limited", "limited", s_limited, []⟩) rfl) rfl (c.ck2 0 13 rfl rfl)
  have b5 := F5.binds (ps := ["pairs"]) fun _ _ _ _ _ _ us hl => match us, hl with | [_], _ => rfl
  obtain ⟨fd6, F6⟩ := ob_fun (c.de 6 (d := ⟨("checked_pairs", none), "checked_pairs", "checked_pairs", s_checked_pairs, []⟩) rfl) rfl (c.ck2 0 15 rfl rfl)
  have b6 := F6.binds (ps := ["rows"]) fun _ _ _ _ _ _ us hl => match us, hl with | [_], _ => rfl
  obtain ⟨fd7, F7⟩ := ob_fun (c.de 7 (d := ⟨("check_world", none), "check_world", "check_world", s_check_world, []⟩) rfl) rfl (c.ck2 0 17 rfl rfl)
  have b7 := F7.binds (ps := ["value"]) fun _ _ _ _ _ _ us hl => match us, hl with | [_], _ => rfl
  obtain ⟨fd8, F8⟩ := ob_fun (c.de 8 (d := ⟨("_law_open", none), "_law_open", "_law_open", s_law_open, []⟩) rfl) rfl (c.ck2 0 19 rfl rfl)
  have b8 := F8.binds (ps := ["_law_script"]) fun _ _ _ _ _ _ us hl => match us, hl with | [_], _ => rfl
  obtain ⟨fd9, F9⟩ := ob_fun (c.de 9 (d := ⟨("_law_pick", none), "_law_pick", "_law_pick", s_law_pick, []⟩) rfl) rfl (c.ck2 0 21 rfl rfl)
  have b9 := F9.binds (ps := ["_law_box", "_law_many"]) fun _ _ _ _ _ _ us hl => match us, hl with | [_, _], _ => rfl
  obtain ⟨fd10, F10⟩ := ob_fun (c.de 10 (d := ⟨("_law_number", none), "_law_number", "_law_number", s_law_number, []⟩) rfl) rfl (c.ck2 0 23 rfl rfl)
  have b10 := F10.binds (ps := ["_law_box"]) fun _ _ _ _ _ _ us hl => match us, hl with | [_], _ => rfl
  obtain ⟨fd11, F11⟩ := ob_fun (c.de 11 (d := ⟨("_law_names", none), "_law_names", "_law_names", s_law_names, []⟩) rfl) rfl (c.ck2 0 25 rfl rfl)
  have b11 := F11.binds (ps := ["_law_box", "_law_many"]) fun _ _ _ _ _ _ us hl => match us, hl with | [_, _], _ => rfl
  obtain ⟨fd12, F12⟩ := ob_fun (c.de 12 (d := ⟨("_law_moments", none), "_law_moments", "_law_moments", s_law_moments, []⟩) rfl) rfl (c.ck2 0 27 rfl rfl)
  have b12 := F12.binds (ps := ["_law_box", "_law_most"]) fun _ _ _ _ _ _ us hl => match us, hl with | [_, _], _ => rfl
  obtain ⟨fd13, F13⟩ := ob_fun (c.de 13 (d := ⟨("_law_rows", none), "_law_rows", "_law_rows", s_law_rows, []⟩) rfl) rfl (c.ck2 0 29 rfl rfl)
  have b13 := F13.binds (ps := ["_law_box", "_law_names_here", "_law_most"]) fun _ _ _ _ _ _ us hl => match us, hl with | [_, _, _], _ => rfl
  obtain ⟨fd14, F14⟩ := ob_fun (c.de 14 (d := ⟨("_law_copy", none), "_law_copy", "_law_copy", s_law_copy, []⟩) rfl) rfl (c.ck2 0 31 rfl rfl)
  have b14 := F14.binds (ps := ["_law_rows_here"]) fun _ _ _ _ _ _ us hl => match us, hl with | [_], _ => rfl
  obtain ⟨fd15, F15⟩ := ob_fun (c.de 15 (d := ⟨("_law_world", none), "_law_world", "_law_world", s_law_world, []⟩) rfl) rfl (c.ck2 0 33 rfl rfl)
  have b15 := F15.binds (ps := ["_law_rows_here"]) fun _ _ _ _ _ _ us hl => match us, hl with | [_], _ => rfl
  obtain ⟨fd16, F16⟩ := ob_fun (c.de 16 (d := ⟨("_law_pairs", none), "_law_pairs", "_law_pairs", s_law_pairs, []⟩) rfl) rfl (c.ck2 0 35 rfl rfl)
  have b16 := F16.binds (ps := ["_law_rows_here"]) fun _ _ _ _ _ _ us hl => match us, hl with | [_], _ => rfl
  obtain ⟨fd17, F17⟩ := ob_fun (c.de 17 (d := ⟨("_law_equal", none), "_law_equal", "_law_equal", s_law_equal, []⟩) rfl) rfl (c.ck2 0 37 rfl rfl)
  have b17 := F17.binds (ps := ["_law_one", "_law_other"]) fun _ _ _ _ _ _ us hl => match us, hl with | [_, _], _ => rfl
  obtain ⟨fd18, F18⟩ := ob_fun (c.de 18 (d := ⟨("_law_told_all", none), "_law_told_all", "_law_told_all", s_law_told_all, []⟩) rfl) rfl (c.ck2 0 39 rfl rfl)
  have b18 := F18.binds (ps := ["_law_world_here", "_law_rows_here"]) fun _ _ _ _ _ _ us hl => match us, hl with | [_, _], _ => rfl
  obtain ⟨fd19, F19⟩ := ob_fun (c.de 19 (d := ⟨("law", none), "law", "law", s_law, []⟩) rfl) rfl (c.ck2 0 41 rfl rfl)
  have b19 := F19.binds (ps := ["_law_script"]) fun _ _ _ _ _ _ us hl => match us, hl with | [_], _ => rfl
  obtain ⟨fd20, FD20⟩ := ob_dfl (c.de 20 (d := ⟨("World", some "__init__"), "__init__", "World.__init__", s_World_init, []⟩) rfl) rfl (c.ck2 0 43 rfl rfl)
  obtain ⟨ds20, rd20, bd20⟩ := FD20.binds1 (ps := ["self", "rows"]) 2 1 (by simp) rfl (fun _ _ _ _ _ _ _ us its h1 h2 => match us, its, h1, h2 with | [_, _], [_], _, _ => ⟨_, rfl, rfl⟩)
  cases rd20
  have ex20 : ∃ (oc : Value) (od : Option Addr) (dV kV doc pm : Value) (an : Option Addr) (cdv ct : Value) (osl : Array (Option Value)), fd20 = PySem.W.fnOf "__init__" "World.__init__" (defArgs s_World_init) (defBody s_World_init) (defScope s_World_init) dV kV doc pm an cdv ct ∧ K.lookup (He.fAd K ("World", some "__init__")) = some ⟨oc, od, .func fd20, osl⟩ ∧ PySem.W.codeIn K cdv "World.__init__" = true := by obtain ⟨⟨oc, od, dV, kV, doc, pm, an, cdv, ct, osl, e1, e2, e3, _, _⟩, _⟩ := FD20; exact ⟨oc, od, dV, kV, doc, pm, an, cdv, ct, osl, e1, e2, e3⟩
  obtain ⟨fd21, F21⟩ := ob_fun (c.de 21 (d := ⟨("World", some "__getitem__"), "__getitem__", "World.__getitem__", s_World_getitem, []⟩) rfl) rfl (c.ck2 0 44 rfl rfl)
  have b21 := F21.binds (ps := ["self", "name"]) fun _ _ _ _ _ _ us hl => match us, hl with | [_, _], _ => rfl
  obtain ⟨fd22, F22⟩ := ob_fun (c.de 22 (d := ⟨("World", some "__contains__"), "__contains__", "World.__contains__", s_World_contains, []⟩) rfl) rfl (c.ck2 0 45 rfl rfl)
  have b22 := F22.binds (ps := ["self", "thing"]) fun _ _ _ _ _ _ us hl => match us, hl with | [_, _], _ => rfl
  obtain ⟨fd23, F23⟩ := ob_fun (c.de 23 (d := ⟨("World", some "__len__"), "__len__", "World.__len__", s_World_len, []⟩) rfl) rfl (c.ck2 0 46 rfl rfl)
  have b23 := F23.binds (ps := ["self"]) fun _ _ _ _ _ _ us hl => match us, hl with | [_], _ => rfl
  obtain ⟨fd24, F24⟩ := ob_fun (c.de 24 (d := ⟨("World", some "__eq__"), "__eq__", "World.__eq__", s_World_eq, []⟩) rfl) rfl (c.ck2 0 47 rfl rfl)
  have b24 := F24.binds (ps := ["self", "other"]) fun _ _ _ _ _ _ us hl => match us, hl with | [_, _], _ => rfl
  obtain ⟨fd25, F25⟩ := ob_fun (c.de 25 (d := ⟨("World", some "names"), "names", "World.names", s_World_names, []⟩) rfl) rfl (c.ck2 0 48 rfl rfl)
  have b25 := F25.binds (ps := ["self"]) fun _ _ _ _ _ _ us hl => match us, hl with | [_], _ => rfl
  obtain ⟨fd26, F26⟩ := ob_fun (c.de 26 (d := ⟨("World", some "rows"), "rows", "World.rows", s_World_rows, []⟩) rfl) rfl (c.ck2 0 49 rfl rfl)
  have b26 := F26.binds (ps := ["self"]) fun _ _ _ _ _ _ us hl => match us, hl with | [_], _ => rfl
  have bl : ∀ (s : Shared) (v : Value), BindsTo s fd19 ⟨[v], []⟩ [("_law_script", v)] := by
    obtain ⟨_, _, _, _, _, _, _, _, _, e, _⟩ := F19.ex
    rw [e]
    exact fun s v => .of_eq rfl
  exact ⟨⟨(He.ga K "World"),
    PySem.W.mg_of X G (He.eqO_ok (c.ck2 0 0 rfl rfl)),
    u_LETTERS,
    k_LETTERS,
    u_MOST_ROWS,
    k_MOST_ROWS,
    ⟨(He.fAd K ("is_integer", none)), fd0, F0, b0, PySem.W.mg_of X G (He.eqO_ok (c.ck2 0 4 rfl rfl))⟩,
    ⟨(He.fAd K ("is_name", none)), fd1, F1, b1, PySem.W.mg_of X G (He.eqO_ok (c.ck2 0 6 rfl rfl))⟩,
    ⟨(He.fAd K ("check_name", none)), fd2, F2, b2, PySem.W.mg_of X G (He.eqO_ok (c.ck2 0 8 rfl rfl))⟩,
    ⟨(He.fAd K ("check_moment", none)), fd3, F3, b3, PySem.W.mg_of X G (He.eqO_ok (c.ck2 0 10 rfl rfl))⟩,
    ⟨(He.fAd K ("check_rows", none)), fd4, F4, b4, PySem.W.mg_of X G (He.eqO_ok (c.ck2 0 12 rfl rfl))⟩,
    ⟨(He.fAd K ("limited", none)), fd5, F5, b5, PySem.W.mg_of X G (He.eqO_ok (c.ck2 0 14 rfl rfl))⟩,
    ⟨(He.fAd K ("checked_pairs", none)), fd6, F6, b6, PySem.W.mg_of X G (He.eqO_ok (c.ck2 0 16 rfl rfl))⟩,
    ⟨(He.fAd K ("check_world", none)), fd7, F7, b7, PySem.W.mg_of X G (He.eqO_ok (c.ck2 0 18 rfl rfl))⟩,
    ⟨(He.fAd K ("_law_open", none)), fd8, F8, b8, PySem.W.mg_of X G (He.eqO_ok (c.ck2 0 20 rfl rfl))⟩,
    ⟨(He.fAd K ("_law_pick", none)), fd9, F9, b9, PySem.W.mg_of X G (He.eqO_ok (c.ck2 0 22 rfl rfl))⟩,
    ⟨(He.fAd K ("_law_number", none)), fd10, F10, b10, PySem.W.mg_of X G (He.eqO_ok (c.ck2 0 24 rfl rfl))⟩,
    ⟨(He.fAd K ("_law_names", none)), fd11, F11, b11, PySem.W.mg_of X G (He.eqO_ok (c.ck2 0 26 rfl rfl))⟩,
    ⟨(He.fAd K ("_law_moments", none)), fd12, F12, b12, PySem.W.mg_of X G (He.eqO_ok (c.ck2 0 28 rfl rfl))⟩,
    ⟨(He.fAd K ("_law_rows", none)), fd13, F13, b13, PySem.W.mg_of X G (He.eqO_ok (c.ck2 0 30 rfl rfl))⟩,
    ⟨(He.fAd K ("_law_copy", none)), fd14, F14, b14, PySem.W.mg_of X G (He.eqO_ok (c.ck2 0 32 rfl rfl))⟩,
    ⟨(He.fAd K ("_law_world", none)), fd15, F15, b15, PySem.W.mg_of X G (He.eqO_ok (c.ck2 0 34 rfl rfl))⟩,
    ⟨(He.fAd K ("_law_pairs", none)), fd16, F16, b16, PySem.W.mg_of X G (He.eqO_ok (c.ck2 0 36 rfl rfl))⟩,
    ⟨(He.fAd K ("_law_equal", none)), fd17, F17, b17, PySem.W.mg_of X G (He.eqO_ok (c.ck2 0 38 rfl rfl))⟩,
    ⟨(He.fAd K ("_law_told_all", none)), fd18, F18, b18, PySem.W.mg_of X G (He.eqO_ok (c.ck2 0 40 rfl rfl))⟩,
    ⟨(He.fAd K ("law", none)), fd19, F19, b19, PySem.W.mg_of X G (He.eqO_ok (c.ck2 0 42 rfl rfl))⟩,
    ⟨(He.fAd K ("World", some "__init__")), fd20, ex20, bd20⟩,
    ⟨(He.fAd K ("World", some "__getitem__")), fd21, F21, b21⟩,
    ⟨(He.fAd K ("World", some "__contains__")), fd22, F22, b22⟩,
    ⟨(He.fAd K ("World", some "__len__")), fd23, F23, b23⟩,
    ⟨(He.fAd K ("World", some "__eq__")), fd24, F24, b24⟩,
    ⟨(He.fAd K ("World", some "names")), fd25, F25, b25⟩,
    ⟨(He.fAd K ("World", some "rows")), fd26, F26, b26⟩,
    ⟨⟨(c.ck2 0 50 rfl rfl), (c.ck2 0 51 rfl rfl), (c.ck2 0 52 rfl rfl), (He.eqO_ok (c.ck2 0 53 rfl rfl))⟩, (He.eqO_ok (c.ck2 0 54 rfl rfl)), (He.eqO_ok (c.ck2 0 55 rfl rfl)), (eqB_ok (c.ck2 0 56 rfl rfl)), (eqB_ok (c.ck2 0 57 rfl rfl))⟩,
    ⟨(c.ck2 0 58 rfl rfl), (He.eqO_ok (c.ck2 0 59 rfl rfl)), (c.ck2 1 0 rfl rfl), (c.ck2 1 1 rfl rfl)⟩,
    ⟨(He.eqO_ok (c.ck2 1 2 rfl rfl)), (c.ck2 1 3 rfl rfl), (c.ck2 1 4 rfl rfl)⟩,
    ⟨(He.eqO_ok (c.ck2 1 5 rfl rfl)), (c.ck2 1 6 rfl rfl), (c.ck2 1 7 rfl rfl)⟩,
    ⟨(He.eqO_ok (c.ck2 1 8 rfl rfl)), (c.ck2 1 9 rfl rfl), (c.ck2 1 10 rfl rfl)⟩,
    ⟨(He.eqO_ok (c.ck2 1 11 rfl rfl)), (c.ck2 1 12 rfl rfl), (c.ck2 1 13 rfl rfl)⟩,
    (He.eqO_ok (c.ck2 1 14 rfl rfl)),
    ⟨(He.eqO_ok (c.ck2 1 15 rfl rfl)), (c.ck2 1 16 rfl rfl), (c.ck2 1 17 rfl rfl)⟩,
    ⟨(He.eqO_ok (c.ck2 1 18 rfl rfl)), (c.ck2 1 19 rfl rfl)⟩,
    ⟨(He.eqO_ok (c.ck2 1 18 rfl rfl)), (c.ck2 1 19 rfl rfl), (He.eqO_ok (c.ck2 1 20 rfl rfl)), (eqB_ok (c.ck2 0 57 rfl rfl))⟩,
    (c.ck2 1 21 rfl rfl),
    (eqB_ok (c.ck2 1 22 rfl rfl)),
    (eqB_ok (c.ck2 1 23 rfl rfl)),
    (eqB_ok (c.ck2 1 24 rfl rfl)),
    (eqB_ok (c.ck2 1 25 rfl rfl)),
    (eqB_ok (c.ck2 1 26 rfl rfl)),
    (eqB_ok (c.ck2 1 27 rfl rfl)),
    (eqB_ok (c.ck2 1 28 rfl rfl)),
    (eqB_ok (c.ck2 1 29 rfl rfl)),
    PySem.W.mg_none_of X G (He.eqO_ok (c.ck2 1 30 rfl rfl)),
    PySem.W.mg_none_of X G (He.eqO_ok (c.ck2 1 31 rfl rfl)),
    PySem.W.mg_none_of X G (He.eqO_ok (c.ck2 1 32 rfl rfl)),
    PySem.W.mg_none_of X G (He.eqO_ok (c.ck2 1 33 rfl rfl)),
    PySem.W.mg_none_of X G (He.eqO_ok (c.ck2 1 34 rfl rfl)),
    PySem.W.mg_none_of X G (He.eqO_ok (c.ck2 1 35 rfl rfl)),
    PySem.W.mg_none_of X G (He.eqO_ok (c.ck2 1 36 rfl rfl)),
    PySem.W.mg_none_of X G (He.eqO_ok (c.ck2 1 37 rfl rfl)),
    PySem.W.mg_none_of X G (He.eqO_ok (c.ck2 1 38 rfl rfl)),
    PySem.W.mg_none_of X G (He.eqO_ok (c.ck2 1 39 rfl rfl))⟩, rfl, bl⟩
-- END RUN
-- LAWIX: 35
end Pl

set_option Elab.async false
set_option linter.all false
set_option maxRecDepth 100000
set_option maxHeartbeats 4000000
/-! sorted over data, max with a default, C() -/
namespace Pl
open PySem PySem.Spec PyProof.Rows L2
section
variable {X : Cx}
/-- xs reads as data, item by item -/
def RdAll (K : PySem.W.Frag) (H : Hp) {β : Type} (enc : β → PyData) (vs : List V) (bs : List β) : Prop := vs.length = bs.length ∧ ∀ (i : Nat) (v : V) (b : β), vs[i]? = some v → bs[i]? = some b → Dp K H v (enc b)
theorem each_of {R : Value → β → Prop} : ∀ {us : List Value} {bs : List β}, us.length = bs.length → (∀ (i : Nat) u b, us[i]? = some u → bs[i]? = some b → R u b) → PySem.W.EachIs R us bs
  | [], [], _, _ => .nil
  | u :: us, b :: bs, hl, h => .cons (h 0 u b rfl rfl) (each_of (Nat.succ.inj hl) fun i u b h1 h2 => h (i + 1) u b h1 h2)
theorem each_at {R : Value → β → Prop} : ∀ {us : List Value} {bs : List β}, PySem.W.EachIs R us bs → ∀ (i : Nat) u b, us[i]? = some u → bs[i]? = some b → R u b
  | _, _, .cons r _, 0, u, b, h1, h2 => by
    cases h1
    cases h2
    exact r
  | _, _, .cons _ t, i + 1, u, b, h1, h2 => each_at t i u b h1 h2
  | _, _, .nil, _, u, b, h1, _ => by simp at h1
theorem vals_of : ∀ {vs : List V} {us : List Value}, PySem.W.EachIs (fun u v => RelV v u) us vs → Vals vs us
  | _, _, .nil => .nil
  | _, _, .cons r t => .cons r (vals_of t)
theorem each_fst {β : Type} : ∀ {us : List Value} {ps : List (V × β)}, PySem.W.EachIs (fun u (p : V × β) => RelV p.1 u) us ps → Vals (ps.map (·.1)) us
  | _, _, .nil => .nil
  | _, _, .cons r t => .cons r (each_fst t)
/-- sorted(xs): xs a list that reads as alike data -/
def rSortD (K : PySem.W.Frag) {β : Type} (enc : β → PyData) : List V → Hp → VK → Prop := fun xs H Q => ∃ (a : Addr) (ps : List (V × β)), xs = [V.ref a] ∧ SqL K H a (ps.map (·.1)) ∧ ps.length ≤ 100000 ∧ (∀ p ∈ ps, Dp K H p.1 (enc p.2)) ∧
  PySem.W.AllAlike ((ps.map (·.2)).map enc) ∧ PySem.W.Sortable ((ps.map (·.2)).map enc) ∧ (∀ p ∈ ps, (enc p.2).depth ≤ 10) ∧ ∀ q, H q = none → Q (.ref q) (upd H q (.lst ((ps.mergeSort (PySem.W.dataLe false fun p => enc p.2)).map (·.1))))
theorem cr_sortD {β : Type} {enc : β → PyData} (hu : X.A.units + 64 < cLine) : CallR X (.builtin "sorted") (rSortD X.K enc) := by
  intro pins s σ H xs us Q I r h
  obtain ⟨a, ps, rfl, hs, hl, hd, hal, hsr, hdp, q⟩ := h
  obtain ⟨its, rv, hli, _⟩ := I.list hs
  rw [Vals.ref1 r]
  have hle : its.length = ps.length := by rw [← rv.length, List.length_map]
  have rel : ∀ (i : Nat) u p, its[i]? = some u → ps[i]? = some p → RelV p.1 u := fun i u p h1 h2 => by
    obtain ⟨u', hu', r'⟩ := rv.get (i := i) (x := p.1) (by rw [List.getElem?_map, h2]; rfl)
    rw [h1] at hu'
    cases hu'
    exact r'
  have e1 : PySem.W.EachIs (fun u (p : V × β) => RelV p.1 u) its ps := each_of hle rel
  have e2 : PySem.W.EachIs (fun u (p : V × β) => ∃ as, Reads s.heap u (enc p.2) as) its ps := each_of hle fun i u p h1 h2 => Dp.reads I _ _ _ (hd p (List.mem_of_getElem? h2)) (rel i u p h1 h2)
  have em : (ps.map (·.2)).map enc = ps.map fun p => enc p.2 := by rw [List.map_map]; rfl
  refine PySem.W.sorted_data (bs := ps) (enc := fun p => enc p.2) hli.isList e1 e2 (by rw [← em]; exact hal) (by rw [← em]; exact hsr) (Nat.le_trans hl (by decide)) (fun p hp => by have := hdp p hp; show X.A.units + 2 + (enc p.2).depth < cLine; omega) fun out ho eo => ?_
  obtain ⟨c, hc⟩ := sortedAll_at s.heap its out.toArray
  have fr : H (s.heap.objs.size + 1) = none := I.hok.fresh (Nat.le_succ _)
  refine ⟨.ref (s.heap.objs.size + 1), _, I.laid (t' := s.toks) (fun _ _ => sortedAll_old) (Nat.le_succ _) ?_, rfl, q _ fr⟩
  have hv := each_fst eo
  refine ⟨?_, out, c, hv, hc⟩
  rw [List.length_map, List.length_mergeSort]
  exact Nat.le_trans hl (by decide)
def mxD (d : Int) : List Int → Int
  | [] => d
  | n :: r => r.foldl max n
/-- max(xs, default=d): a list of numbers -/
def rMaxDef (K : PySem.W.Frag) : List V → List V → Hp → VK → Prop := fun xs zs H Q => ∃ (a : Addr) (ns : List Int) (d : Int), xs = [V.ref a] ∧ zs = [V.int d] ∧ SqL K H a (ns.map V.int) ∧ Q (.int (mxD d ns)) H
theorem dp_ints {K : PySem.W.Frag} {H : Hp} : ∀ ns : List Int, DpAll K H (ns.map V.int) (ns.map PyData.int)
  | [] => .nil
  | n :: ns => .cons (.int n) (dp_ints ns)
theorem crk_maxDef (hc : X.calm = true) (hu : X.A.units + 64 < cLine) : CallRK X (.builtin "max") [("default" : Str)] (rMaxDef X.K) := by
  intro pins s σ H xs zs us ws Q I r1 r2 h
  obtain ⟨a, ns, d, rfl, rfl, hs, q⟩ := h
  obtain ⟨its, rv, hli, _⟩ := I.list hs
  rw [Vals.ref1 r1]
  obtain ⟨w, rfl, rw'⟩ := r2.one
  obtain ⟨t, rfl⟩ := (show ∃ t, w = Value.int d t from rw')
  obtain ⟨as, hr⟩ := Dp.readsAll I _ _ _ (dp_ints ns) rv
  have hdp := PySem.W.depth_ints ns
  refine PySem.W.max_list_default (A := X.A) (xs := ns.map PyData.int) (vs := its.toArray) (I.ok.hd hc) hli.isList hr ?_ ?_ ?_ ?_
  · refine ⟨fun x hx y hy => ?_, fun x hx => ?_⟩
    · obtain ⟨i, _, rfl⟩ := List.mem_map.mp hx
      obtain ⟨j, _, rfl⟩ := List.mem_map.mp hy
      rfl
    · obtain ⟨i, _, rfl⟩ := List.mem_map.mp hx
      intro z
      cases z
  · rw [hdp]
    omega
  · intro e h' tk hk
    have e' : ns = [] := List.map_eq_nil_iff.mp e
    subst e'
    exact ⟨.int d, H, I.kept hk, ⟨_, rfl⟩, q⟩
  · intro y ys i v h' tk bs e hv hr' hk
    cases ns with
    | nil => cases e
    | cons n r =>
      cases e
      rw [PySem.W.maxD_ints] at hr'
      cases hr'
      exact ⟨.int _, H, I.kept hk, ⟨_, rfl⟩, q⟩
/-- C() by a positional promise -/
theorem pe_makeR0 {CX : CXT} {k : Nat} {f C : Addr} {sp : Sp} {E : XK} {x : Str} {p pos : Pos} (M : Mk X.K C f) (F : FnR X.prog X.w X.K X.mg X.base CX k f sp) (hr : Room (k + 1) X.A) (hg : Gl X x) (hm : X.mg x = some (.ref C)) (hx : Passes CX X E) (hdb : (x == ("__debug__" : Str)) = false := by decide) :
    PE X (.Call (.Name x p) [] [] pos) (StX.tMakeR C sp E tNil) := by
  refine ⟨fun pins s σ H Q I h => ?_⟩
  refine wpAny_Call_Name_kw (ld_glob I hg hm ?_ hdb)
  exact PySem.W.callWith_K0 I.kIn M.kp (StX.run_makeR (us := []) M F hr hx I .nil h)
end
end Pl

set_option Elab.async false
set_option linter.all false
set_option maxRecDepth 100000
set_option maxHeartbeats 4000000
/-! Looks and rows in plain words; comprehensions that only read. -/
namespace Pl
open PySem L2
/-! ### looks -/
def fitsB (row m : Int) (way : Str) : Bool := if way = "at" then decide (row ≤ m) else if way = "before" then decide (row < m) else if way = "since" then decide (row ≥ m) else decide (row > m)
def isBack (way : Str) : Bool := decide (way = "at") || decide (way = "before")
def tooFar (row m : Int) : Option Int → Bool
  | none => false
  | some l => decide ((if row - m < 0 then -(row - m) else row - m) > l)
def lookedUp (ms : List Int) (m : Int) (way : Str) (lim : Option Int) : Option Int :=
  match ms.filter (fitsB · m way) with
  | [] => none
  | r :: rs => if tooFar (if isBack way then (r :: rs).getLast (by simp) else r) m lim then none else some (if isBack way then (r :: rs).getLast (by simp) else r)
/-- the row that a look takes -/
structure Best (ms : List Int) (m : Int) (way : Str) (x : Int) : Prop where
  mem : x ∈ ms
  fit : fitsB x m way = true
  top : ∀ y ∈ ms, fitsB y m way = true → if isBack way then y ≤ x else x ≤ y
theorem Best.uniq {ms ms' : List Int} {m : Int} {way : Str} {x y : Int} (h : Best ms m way x) (g : Best ms' m way y) (e : ∀ z, z ∈ ms ↔ z ∈ ms') : x = y := by
  have h1 := h.top y ((e y).mpr g.mem) g.fit
  have h2 := g.top x ((e x).mp h.mem) h.fit
  split at h1
  · rename_i q; rw [if_pos q] at h2; omega
  · rename_i q; rw [if_neg q] at h2; omega
theorem sorted_last {l : List Int} (h : l.Pairwise (· ≤ ·)) (hn : l ≠ []) : ∀ y ∈ l, y ≤ l.getLast hn := by
  induction l with
  | nil => exact absurd rfl hn
  | cons a l ih =>
    cases l with
    | nil =>
      intro y hy
      simp at hy
      subst hy
      exact Int.le_refl _
    | cons b l =>
      rw [List.getLast_cons (by simp)]
      intro y hy
      rw [List.pairwise_cons] at h
      rcases List.mem_cons.mp hy with rfl | hy
      · exact h.1 _ (List.getLast_mem _)
      · exact ih h.2 (by simp) y hy
theorem lookedUp_cases {ms : List Int} (hs : ms.Pairwise (· ≤ ·)) (m : Int) (way : Str) (lim : Option Int) :
    ((∀ y ∈ ms, fitsB y m way = false) ∧ lookedUp ms m way lim = none) ∨ ∃ x, Best ms m way x ∧ lookedUp ms m way lim = if tooFar x m lim then none else some x := by
  unfold lookedUp
  have hf : (ms.filter (fitsB · m way)).Pairwise (· ≤ ·) := hs.filter _
  have hm : ∀ y, y ∈ ms.filter (fitsB · m way) ↔ y ∈ ms ∧ fitsB y m way = true := fun y => List.mem_filter
  generalize ms.filter (fitsB · m way) = l at hf hm
  cases l with
  | nil =>
    refine .inl ⟨fun y hy => ?_, rfl⟩
    cases e : fitsB y m way with
    | false => rfl
    | true => exact absurd ((hm y).mpr ⟨hy, e⟩) (by simp)
  | cons r rs =>
    refine .inr ⟨if isBack way then (r :: rs).getLast (by simp) else r, ?_, rfl⟩
    by_cases hb : isBack way = true
    · rw [if_pos hb]
      have h1 := (hm _).mp (List.getLast_mem (l := r :: rs) (by simp))
      refine ⟨h1.1, h1.2, fun y hy hyf => ?_⟩
      rw [if_pos hb]
      exact sorted_last hf (by simp) y ((hm y).mpr ⟨hy, hyf⟩)
    · rw [if_neg hb]
      have h1 := (hm r).mp (by simp)
      refine ⟨h1.1, h1.2, fun y hy hyf => ?_⟩
      rw [if_neg hb]
      rcases List.mem_cons.mp ((hm y).mpr ⟨hy, hyf⟩) with e | e
      · rw [e]; exact Int.le_refl _
      · exact (List.pairwise_cons.mp hf).1 y e
theorem lookedUp_congr {l l' : List Int} (h : l.Pairwise (· ≤ ·)) (h' : l'.Pairwise (· ≤ ·)) (e : ∀ z, z ∈ l ↔ z ∈ l') (m : Int) (way : Str) (lim : Option Int) : lookedUp l m way lim = lookedUp l' m way lim := by
  rcases lookedUp_cases h m way lim with ⟨a1, a2⟩ | ⟨x, bx, ex⟩
  · rcases lookedUp_cases h' m way lim with ⟨b1, b2⟩ | ⟨y, by_, ey⟩
    · rw [a2, b2]
    · have := a1 y ((e y).mpr by_.mem)
      rw [by_.fit] at this
      cases this
  · rcases lookedUp_cases h' m way lim with ⟨b1, b2⟩ | ⟨y, by_, ey⟩
    · have := b1 x ((e x).mp bx.mem)
      rw [bx.fit] at this
      cases this
    · rw [ex, ey, bx.uniq by_ e]
theorem fits_back {y m : Int} {way : Str} (h : fitsB y m way = true) (hb : isBack way = true) : y ≤ m := by
  unfold fitsB at h
  unfold isBack at hb
  split at h
  · exact of_decide_eq_true h
  · split at h
    · have := of_decide_eq_true h; omega
    · rename_i h1 h2; simp [h1, h2] at hb
theorem fits_fore {y m : Int} {way : Str} (h : fitsB y m way = true) (hb : ¬ isBack way = true) : m ≤ y := by
  unfold fitsB at h
  unfold isBack at hb
  split at h
  · rename_i h1; simp [h1] at hb
  · split at h
    · rename_i h1; simp [h1] at hb
    · split at h
      · have := of_decide_eq_true h; omega
      · have := of_decide_eq_true h; omega
/-! ### rows -/
def rowsOf (ps : List (Str × Int)) (s : Str) : List Int := (ps.filter fun p => decide (p.1 = s)).map (·.2)
def encP : Str × Int → PyData := fun p => .tuple [.str p.1, .int p.2]
def sortP (ps : List (Str × Int)) : List (Str × Int) := ps.mergeSort (PySem.W.dataLe false encP)
def leP (p q : Str × Int) : Prop := p.1.cps.toList < q.1.cps.toList ∨ (p.1 = q.1 ∧ p.2 ≤ q.2)
theorem str_ext {a b : Str} (h : a.cps.toList = b.cps.toList) : a = b := by
  cases a; cases b
  simp only at h
  rw [Array.toList_inj] at h
  rw [h]
theorem dataLt_si (x x' : Str) (y y' : Int) : PySem.W.dataLt (.tuple [.str x, .int y]) (.tuple [.str x', .int y']) = decide (x.cps.toList < x'.cps.toList ∨ (x = x' ∧ y < y')) := by
  rw [PySem.W.dataLt_pair (by simp [PySem.W.alike]) (by simp [PySem.W.alike]), PySem.W.dataLt_int, PySem.W.dataLt_str]
  simp only [PyData.eqv, beq_iff_eq]
  by_cases h1 : x = x'
  · subst h1
    by_cases h2 : y = y' <;> simp [h2, List.lt_irrefl]
  · simp [h1]
theorem dataLe_si (p q : Str × Int) : PySem.W.dataLe false encP p q = true ↔ leP p q := by
  show (!PySem.W.dataLt (.tuple [.str q.1, .int q.2]) (.tuple [.str p.1, .int p.2])) = true ↔ _
  rw [dataLt_si]
  simp only [Bool.not_eq_true', decide_eq_false_iff_not]
  unfold leP
  constructor
  · intro h
    by_cases e : p.1 = q.1
    · exact .inr ⟨e, by
        have : ¬ (q.1 = p.1 ∧ q.2 < p.2) := fun z => h (.inr z)
        have : ¬ q.2 < p.2 := fun z => this ⟨e.symm, z⟩
        omega⟩
    · refine .inl ?_
      have h1 : ¬ q.1.cps.toList < p.1.cps.toList := fun z => h (.inl z)
      have h2 : p.1.cps.toList ≤ q.1.cps.toList := List.not_lt.mp h1
      rcases List.le_iff_lt_or_eq.mp h2 with z | z
      · exact z
      · exact absurd (str_ext z) e
  · rintro (h | ⟨h1, h2⟩) (g | ⟨g1, g2⟩)
    · exact List.lt_irrefl _ (List.lt_trans h g)
    · rw [g1] at h; exact List.lt_irrefl _ h
    · rw [h1] at g; exact List.lt_irrefl _ g
    · omega
theorem leP_trans {p q r : Str × Int} (h : leP p q) (g : leP q r) : leP p r := by
  rcases h with h | ⟨h1, h2⟩
  · rcases g with g | ⟨g1, g2⟩
    · exact .inl (List.lt_trans h g)
    · rw [g1] at h; exact .inl h
  · rcases g with g | ⟨g1, g2⟩
    · rw [← h1] at g; exact .inl g
    · exact .inr ⟨h1.trans g1, by omega⟩
theorem leP_total (p q : Str × Int) : leP p q ∨ leP q p := by
  by_cases e : p.1 = q.1
  · rcases Int.le_total p.2 q.2 with h | h
    · exact .inl (.inr ⟨e, h⟩)
    · exact .inr (.inr ⟨e.symm, h⟩)
  · by_cases h : p.1.cps.toList < q.1.cps.toList
    · exact .inl (.inl h)
    · have h2 : q.1.cps.toList ≤ p.1.cps.toList := List.not_lt.mp h
      rcases List.le_iff_lt_or_eq.mp h2 with z | z
      · exact .inr (.inl z)
      · exact absurd (str_ext z).symm e
theorem sortP_perm (ps : List (Str × Int)) : (sortP ps).Perm ps := List.mergeSort_perm _ _
theorem sortP_pw (ps : List (Str × Int)) : (sortP ps).Pairwise leP := by
  have h := List.pairwise_mergeSort (le := PySem.W.dataLe false encP) (fun a b c h1 h2 => (dataLe_si a c).mpr (leP_trans ((dataLe_si a b).mp h1) ((dataLe_si b c).mp h2))) (fun a b => by
    rw [Bool.or_eq_true]
    rcases leP_total a b with h | h
    · exact .inl ((dataLe_si a b).mpr h)
    · exact .inr ((dataLe_si b a).mpr h)) ps
  exact h.imp fun h => (dataLe_si _ _).mp h
theorem sortP_len (ps : List (Str × Int)) : (sortP ps).length = ps.length := (sortP_perm ps).length_eq
theorem rowsOf_sorted {ps : List (Str × Int)} (h : ps.Pairwise leP) (s : Str) : (rowsOf ps s).Pairwise (· ≤ ·) := by
  unfold rowsOf
  rw [List.pairwise_map]
  refine (List.Pairwise.and_mem.mp (h.filter _)).imp ?_
  rintro a b ⟨ha, hb, hab⟩
  have e1 : a.1 = s := of_decide_eq_true (List.mem_filter.mp ha).2
  have e2 : b.1 = s := of_decide_eq_true (List.mem_filter.mp hb).2
  rcases hab with h | h
  · rw [e1, e2] at h
    exact absurd h (List.lt_irrefl _)
  · exact h.2
theorem rowsOf_perm {ps qs : List (Str × Int)} (h : ps.Perm qs) (s : Str) : (rowsOf ps s).Perm (rowsOf qs s) := (h.filter _).map _
theorem mem_rowsOf {ps : List (Str × Int)} {s : Str} {x : Int} : x ∈ rowsOf ps s ↔ (s, x) ∈ ps := by
  unfold rowsOf
  rw [List.mem_map]
  constructor
  · rintro ⟨⟨a, b⟩, h, rfl⟩
    obtain ⟨h1, h2⟩ := List.mem_filter.mp h
    have : a = s := of_decide_eq_true h2
    subst this
    exact h1
  · intro h
    exact ⟨(s, x), List.mem_filter.mpr ⟨h, decide_eq_true rfl⟩, rfl⟩
/-! ### names, ways, limits, rows as the heap has them -/
abbrev letters : Str := "abcdefghijklmnopqrstuvwxyz"
def goodName (z : Str) : Prop := 1 ≤ z.length ∧ z.length ≤ 12 ∧ ∀ c ∈ z.cps.toList, c ∈ letters.cps.toList
abbrev ways : List Str := ["at", "before", "since", "after"]
def limOk : Option Int → Prop
  | none => True
  | some l => 0 ≤ l
/-- rows: names and lists of numbers -/
abbrev Rws := List (Str × List Int)
def EntAt (H : Hp) (kv : Key × V) (r : Str × List Int) : Prop := kv.1 = .inr r.1 ∧ ∃ a, kv.2 = .ref a ∧ H a = some (.lst (r.2.map V.int))
def EntsAt (H : Hp) (kvs : List (Key × V)) (rs : Rws) : Prop := kvs.length = rs.length ∧ ∀ (i : Nat) kv r, kvs[i]? = some kv → rs[i]? = some r → EntAt H kv r
theorem EntsAt.same {H H' : Hp} {kvs : List (Key × V)} {rs : Rws} (s : Same H H') (h : EntsAt H kvs rs) : EntsAt H' kvs rs := ⟨h.1, fun i kv r h1 h2 => by
  obtain ⟨e, a, e2, ha⟩ := h.2 i kv r h1 h2
  exact ⟨e, a, e2, s _ _ ha⟩⟩
def goodRows (rs : Rws) : Prop := (∀ r ∈ rs, goodName r.1 ∧ r.2.Nodup ∧ r.2.length ≤ 300) ∧ (rs.map fun r => r.2.length).sum ≤ 300
/-- the pairs of a row -/
def prsOf (r : Str × List Int) : List (Str × Int) := r.2.map fun m => (r.1, m)
def PrsAt (H : Hp) (vs : List V) (ps : List (Str × Int)) : Prop := vs.length = ps.length ∧ ∀ (i : Nat) p, ps[i]? = some p → ∃ t, vs[i]? = some (.ref t) ∧ H t = some (.tup [.str p.1, .int p.2])
theorem PrsAt.same {H H' : Hp} {vs : List V} {ps : List (Str × Int)} (s : Same H H') (h : PrsAt H vs ps) : PrsAt H' vs ps := ⟨h.1, fun i p e => by
  obtain ⟨t, e1, e2⟩ := h.2 i p e
  exact ⟨t, e1, s _ _ e2⟩⟩
theorem PrsAt.app {H : Hp} {vs us : List V} {ps qs : List (Str × Int)} (h : PrsAt H vs ps) (g : PrsAt H us qs) : PrsAt H (vs ++ us) (ps ++ qs) := by
  refine ⟨by rw [List.length_append, List.length_append, h.1, g.1], fun i p e => ?_⟩
  rw [List.getElem?_append] at e ⊢
  by_cases hl : i < ps.length
  · rw [if_pos hl] at e
    rw [if_pos (by rw [h.1]; exact hl)]
    exact h.2 i p e
  · rw [if_neg hl] at e
    rw [if_neg (by rw [h.1]; exact hl), h.1]
    exact g.2 _ p e
theorem PrsAt.put {H : Hp} {vs xs : List V} {ps : List (Str × Int)} {D : Addr} {o : HO} (hD : H D = some (.lst xs)) (h : PrsAt H vs ps) : PrsAt (upd H D o) vs ps := ⟨h.1, fun i p e => by
  obtain ⟨t, e1, e2⟩ := h.2 i p e
  refine ⟨t, e1, ?_⟩
  rw [upd_ne (fun z => by rw [z, hD] at e2; cases e2)]
  exact e2⟩
/-- the rows of a name -/
def getR (rs : Rws) (z : Str) : List Int := match rs.find? (fun r => decide (r.1 = z)) with
  | none => []
  | some r => r.2
def wRows (rs : Rws) : List (Str × Int) := sortP (rs.flatMap prsOf)
theorem mem_prs {rs : Rws} {z : Str} {x : Int} : (z, x) ∈ rs.flatMap prsOf ↔ ∃ r ∈ rs, r.1 = z ∧ x ∈ r.2 := by
  rw [List.mem_flatMap]
  constructor
  · rintro ⟨r, h1, h2⟩
    obtain ⟨y, h3, h4⟩ := List.mem_map.mp h2
    cases h4
    exact ⟨r, h1, rfl, h3⟩
  · rintro ⟨r, h1, rfl, h3⟩
    exact ⟨r, h1, List.mem_map.mpr ⟨x, h3, rfl⟩⟩
theorem mem_getR {rs : Rws} (hn : (rs.map (·.1)).Nodup) {z : Str} {x : Int} : x ∈ getR rs z ↔ ∃ r ∈ rs, r.1 = z ∧ x ∈ r.2 := by
  unfold getR
  constructor
  · intro h
    cases e : rs.find? (fun r => decide (r.1 = z)) with
    | none => rw [e] at h; cases h
    | some r =>
      rw [e] at h
      exact ⟨r, List.mem_of_find?_eq_some e, of_decide_eq_true (List.find?_some (p := fun r : Str × List Int => decide (r.1 = z)) e), h⟩
  · rintro ⟨r, h1, h2, h3⟩
    cases e : rs.find? (fun r => decide (r.1 = z)) with
    | none =>
      have := List.find?_eq_none.mp e r h1
      simp [h2] at this
    | some q =>
      have hq := List.mem_of_find?_eq_some e
      have eq : q.1 = z := of_decide_eq_true (List.find?_some (p := fun r : Str × List Int => decide (r.1 = z)) e)
      have : q = r := by
        obtain ⟨i, hi⟩ := List.mem_iff_getElem?.mp hq
        obtain ⟨j, hj⟩ := List.mem_iff_getElem?.mp h1
        have a1 : (rs.map (·.1))[i]? = some z := by rw [List.getElem?_map, hi, ← eq]; rfl
        have a2 : (rs.map (·.1))[j]? = some z := by rw [List.getElem?_map, hj, ← h2]; rfl
        have hl1 := List.getElem?_eq_some_iff.mp a1
        have hl2 := List.getElem?_eq_some_iff.mp a2
        have : i = j := by
          rcases Nat.lt_trichotomy i j with h | h | h
          · exact absurd (hl1.2.trans hl2.2.symm) (List.pairwise_iff_getElem.mp hn i j hl1.1 hl2.1 h)
          · exact h
          · exact absurd (hl2.2.trans hl1.2.symm) (List.pairwise_iff_getElem.mp hn j i hl2.1 hl1.1 h)
        subst this
        rw [hi] at hj
        exact Option.some.inj hj
      rw [this]
      exact h3
theorem mem_world {rs : Rws} (hn : (rs.map (·.1)).Nodup) (z : Str) (x : Int) : x ∈ rowsOf (wRows rs) z ↔ x ∈ getR rs z := by
  rw [mem_rowsOf, mem_getR hn, ← mem_prs]
  exact (sortP_perm _).mem_iff
theorem world_sorted (rs : Rws) (z : Str) : (rowsOf (wRows rs) z).Pairwise (· ≤ ·) := rowsOf_sorted (sortP_pw _) z
theorem wRows_len (rs : Rws) : (wRows rs).length = (rs.map fun r => r.2.length).sum := by
  unfold wRows
  rw [sortP_len]
  induction rs with
  | nil => rfl
  | cons x rs ih =>
    simp only [List.flatMap_cons, List.length_append, List.map_cons, List.sum_cons, ih]
    simp [prsOf]
theorem prs_sort {H : Hp} {us : List V} {ps : List (Str × Int)} (h : PrsAt H us ps) : PrsAt H (((us.zip ps).mergeSort (PySem.W.dataLe false fun p => encP p.2)).map (·.1)) (sortP ps) := by
  have e2 : (us.zip ps).map (·.2) = ps := List.map_snd_zip (by rw [h.1]; exact Nat.le_refl _)
  have e3 : sortP ps = ((us.zip ps).mergeSort (PySem.W.dataLe false fun p => encP p.2)).map (·.2) := by
    have z := List.map_mergeSort (r := PySem.W.dataLe false fun p : V × (Str × Int) => encP p.2) (s := PySem.W.dataLe false encP) (f := fun p : V × (Str × Int) => p.2) (l := us.zip ps) (fun a _ b _ => rfl)
    rw [z, e2]
    rfl
  rw [e3]
  refine ⟨by rw [List.length_map, List.length_map], fun i p e => ?_⟩
  rw [List.getElem?_map] at e ⊢
  cases hz : ((us.zip ps).mergeSort (PySem.W.dataLe false fun p => encP p.2))[i]? with
  | none => rw [hz] at e; cases e
  | some z =>
    rw [hz] at e
    obtain ⟨v, q⟩ := z
    have eq : q = p := Option.some.inj e
    subst eq
    have hm := List.mem_mergeSort.mp (List.mem_of_getElem? hz)
    obtain ⟨j, hj⟩ := List.mem_iff_getElem?.mp hm
    rw [List.getElem?_zip_eq_some] at hj
    obtain ⟨t, t1, t2⟩ := h.2 j q hj.2
    rw [hj.1] at t1
    exact ⟨t, t1, t2⟩
/-! ### what stands beside the box -/
def mn (S : List Addr) (H : Hp) : Hp := fun a => if a ∈ S then none else H a
theorem mn_at {S : List Addr} {H : Hp} {a : Addr} (h : a ∉ S) : mn S H a = H a := if_neg h
theorem mn_in {S : List Addr} {H : Hp} {a : Addr} (h : a ∈ S) : mn S H a = none := if_pos h
theorem mn_same {S : List Addr} {H : Hp} : Same (mn S H) H := fun a o e => by
  unfold mn at e
  split at e
  · cases e
  · exact e
theorem same_mn {S : List Addr} {G H : Hp} (s : Same G H) (h : ∀ a ∈ S, G a = none) : Same G (mn S H) := fun a o e => by
  rw [mn_at (fun z => by rw [h a z] at e; cases e)]
  exact s a o e
/-- S: lists -/
def Lsts (S : List Addr) (H : Hp) : Prop := ∀ a ∈ S, ∃ xs, H a = some (.lst xs)
theorem mn_nl {S : List Addr} {H : Hp} {a : Addr} {o : HO} (hS : Lsts S H) (h : H a = some o) (ho : ∀ xs, o ≠ .lst xs) : mn S H a = some o := by
  rw [mn_at (fun z => by obtain ⟨xs, e⟩ := hS a z; rw [h] at e; exact ho xs (Option.some.inj e))]
  exact h
theorem PrsAt.mn {S : List Addr} {H : Hp} (hS : Lsts S H) {vs : List V} {ps : List (Str × Int)} (h : PrsAt H vs ps) : PrsAt (mn S H) vs ps := ⟨h.1, fun i p e => by
  obtain ⟨t, e1, e2⟩ := h.2 i p e
  exact ⟨t, e1, mn_nl hS e2 (fun _ z => nomatch z)⟩⟩
theorem Wd.lsts {b c : Addr} {G H : Hp} (W : Wd b c G H) : Lsts [b, c] H := fun a ha => by
  obtain ⟨_, cs, k, b1, b2, _⟩ := W.box
  simp only [List.mem_cons, List.not_mem_nil, or_false] at ha
  rcases ha with rfl | rfl
  · exact ⟨_, b1⟩
  · exact ⟨_, b2⟩
theorem Wd.sm {b c : Addr} {G H H' : Hp} (W : Wd b c G H) (s : Same H H') : Wd b c G H' := ⟨W.box.same s, W.gh.trans s, W.gb, W.gc⟩
/-- all but the box is taken among what stays -/
theorem Wd.all {b c : Addr} {G H : Hp} (W : Wd b c G H) : Wd b c (mn [b, c] H) H := ⟨W.box, mn_same, mn_in (by simp), mn_in (by simp)⟩
theorem Wd.allS {b c : Addr} {G H : Hp} (W : Wd b c G H) : Same G (mn [b, c] H) := same_mn W.gh fun a ha => by
  simp only [List.mem_cons, List.not_mem_nil, or_false] at ha
  rcases ha with rfl | rfl
  · exact W.gb
  · exact W.gc
theorem Wd.weak {b c : Addr} {G G' H : Hp} (x : Wd b c G' H) (s : Same G G') : Wd b c G H := ⟨x.box, s.trans x.gh, s.free x.gb, s.free x.gc⟩
/-- what stands at p is taken among what stays -/
theorem Wd.keep {b c p : Addr} {G H : Hp} {o : HO} (x : Wd b c G H) (h : H p = some o) (hb : p ≠ b) (hc : p ≠ c) : Wd b c (upd G p o) H :=
  ⟨x.box, fun a u e => by
    by_cases q : a = p
    · subst q; rw [upd_same] at e; cases e; exact h
    · rw [upd_ne q] at e; exact x.gh a u e, by rw [upd_ne (Ne.symm hb)]; exact x.gb, by rw [upd_ne (Ne.symm hc)]; exact x.gc⟩
theorem Wd.nb {b c p : Addr} {G H : Hp} (x : Wd b c G H) (h : H p = none) : p ≠ b ∧ p ≠ c := by
  obtain ⟨_, h1⟩ := x.box.b
  obtain ⟨_, h2⟩ := x.box.c
  exact ⟨fun e => (by rw [e, h1] at h; cases h), fun e => (by rw [e, h2] at h; cases h)⟩
/-! ### comprehensions that only read and make -/
theorem lc_pure {K : PySem.W.Frag} {a : Addr} {xs : List V} {g : TG} {tt : TT} {te : TE} {vs : List Nat} {σ : St} {H1 : Hp} {D : Addr} {Qd : Hp → Prop} (F : V → Option V) (hS : SqL K H1 a xs) (hD : H1 D = none) (hz : xs.length ≤ 100000)
    (hs : ∀ x H (N : V → Hp → Prop) (N' : Hp → Prop), x ∈ xs → Same H1 H → (∀ y H', Same H H' → F x = some y → N y H') → (∀ H', Same H H' → F x = none → N' H') → g x (wipe σ vs) H fun σ2 H2 => wipe σ2 vs = wipe σ vs ∧ tt σ2 H2 fun b H3 => if b = true then te σ2 H3 N else N' H3)
    (hd : ∀ H', Same H1 H' → H' D = some (.lst (xs.filterMap F)) → Qd H') :
    ∃ W : Nat → Nat → Hp → Prop, (∃ m, W 0 m (upd H1 D (.lst []))) ∧ ∀ i m H, W i m H →
      ((Itl K a).stop i H ∧ Qd H) ∨ ((Itl K a).go i H ∧ ∃ Nx : Hp → Prop, (∀ H', Nx H' → ∃ m', m' < m ∧ W (i + 1) m' H') ∧ ∀ x H', (Itl K a).yld i H x H' → g x (wipe σ vs) H' fun σ2 H2 => wipe σ2 vs = wipe σ vs ∧ tt σ2 H2 fun b H3 =>
        if b = true then te σ2 H3 fun y H4 => ∃ acc, H4 D = some (.lst acc) ∧ acc.length < sizeLine ∧ Nx (upd H4 D (.lst (acc ++ [y]))) else Nx H3) := by
  refine lc_list (K := K) (a := a) (xs := xs) (fun i H' => Same H1 H' ∧ H' D = some (.lst ((xs.take i).filterMap F))) ⟨same_upd hD, upd_same⟩ (fun i H' _ pp => pp.1.seq hS) (fun i x H' hx pp => ?_) (fun H' pp => ?_)
  · obtain ⟨s1, hd1⟩ := pp
    have ht : xs.take (i + 1) = xs.take i ++ [x] := by rw [List.take_add_one, hx]; rfl
    refine hs x H' _ _ (List.mem_of_getElem? hx) s1 (fun y H4 s4 ey => ⟨_, s4 _ _ hd1, ?_, ?_, ?_⟩) (fun H4 s4 ey => ⟨s1.trans s4, ?_⟩)
    · have h1 := List.length_filterMap_le F (xs.take i)
      rw [List.length_take] at h1
      have h2 := (List.getElem?_eq_some_iff.mp hx).1
      exact szl (by omega)
    · exact same_mut (s1.trans s4) hD
    · rw [upd_same, ht, List.filterMap_append]
      simp [List.filterMap, ey]
    · rw [s4 _ _ hd1, ht, List.filterMap_append]
      simp [List.filterMap, ey]
  · rw [List.take_of_length_le (Nat.le_refl _)] at pp
    exact hd H' pp.1 pp.2
end Pl

namespace Pl
open PySem L2
/-! ### tests whose answer is known -/
theorem iT {c : Bool} {A B : Prop} (h : c = true) (x : A) : if c = true then A else B := by rw [if_pos h]; exact x
theorem iF {c : Bool} {A B : Prop} (h : c = false) (x : B) : if c = true then A else B := by rw [if_neg (by rw [h]; exact Bool.false_ne_true)]; exact x
theorem yes_if {σ : St} {H : Hp} {A B : Hp → Prop} (h : A H) : tYes σ H (fun b H3 => if b = true then A H3 else B H3) := by
  show if true = true then A H else B H
  rw [if_pos rfl]
  exact h
def oV : Option Int → V
  | none => .non
  | some x => .int x
def H0 : Hp := fun _ => none
theorem same0 (H : Hp) : Same H0 H := fun _ _ h => nomatch h
theorem Wd.begin {b c : Addr} {H : Hp} (x : BoxAt b c H) : Wd b c H0 H := ⟨x, same0 H, rfl, rfl⟩
section
variable {P : Program} {w : World} {K : PySem.W.Frag} {mg : Str → Option Value} {base : Heap}
def spIsInteger : Sp := fun vs H Q _ => ∃ (v : V) (t : String), vs = [v] ∧ Ty H v t ∧ Q (.bl (isInt v)) H
theorem ok_is_integer (T : Txt P K mg) {k : Nat} : FnOk P w K mg base CX0 (k + 1) T.is_integer.f T.is_integer.fd ["value"] spIsInteger := by
  refine T.is_integer.F.ok sc_is_integer (fun vs H Q E h => ?_) (fun cdv A outer s H vs Q E hr h => ?_)
  · obtain ⟨v, t, rfl, _⟩ := h
    rfl
  · obtain ⟨v, t, rfl, ty, q⟩ := h
    refine ⟨_, (pss_one (ps_ret (pe_and (pe_callB call_isi (by rfl) T.n_isinstance (by decide +kernel) (pa_cons (pv 0) (pa_cons (pe_bltn (v := .ty "int") (by rfl) T.n_int (by decide +kernel) rfl) pa_nil))) (pe_one (pe_not (pe_callB call_isi (by rfl) T.n_isinstance (by decide +kernel) (pa_cons (pv 0) (pa_cons (pe_bltn (v := .ty "bool") (by rfl) T.n_bool (by decide +kernel) rfl) pa_nil)))))))), ?_⟩
    refine ⟨v, rfl, _, _, _, _, _, rfl, .ty "int", ty.x, isI_int ty, _, rfl, ?_⟩
    rw [← isInt_of ty] at q
    cases h1 : tyB t "int" with
    | false =>
      rw [h1] at q
      exact iF rfl q
    | true =>
      rw [h1] at q
      refine iT rfl ⟨v, rfl, _, _, _, _, _, rfl, .ty "bool", ty.x, isI_bool ty, _, rfl, ?_⟩
      rw [Bool.true_and] at q
      exact q
/-- check_moment of a number -/
def spCkMoment : Sp := fun vs H Q _ => ∃ i : Int, vs = [.int i] ∧ Q .non H
theorem ok_check_moment (T : Txt P K mg) {k : Nat} : FnOk P w K mg base CX0 (k + 2) T.check_moment.f T.check_moment.fd ["value"] spCkMoment := by
  have G_is_integer : FnOk P w K mg base CX0 (k + 1) T.is_integer.f T.is_integer.fd ["value"] spIsInteger := ok_is_integer T
  refine T.check_moment.F.ok sc_check_moment (fun vs H Q E h => ?_) (fun cdv A outer s H vs Q E hr h => ?_)
  · obtain ⟨i, rfl, _⟩ := h
    rfl
  · obtain ⟨i, rfl, q⟩ := h
    refine ⟨_, (pss_one (ps_if (pt_not (pt_val (pe_call G_is_integer (hr.mono (by omega)) (by rfl) T.is_integer.g T.is_integer.F.kp T.is_integer.b .nil pass0 (pa_cons (pv 0) pa_nil)))) (pss_one ps_never) pss_nil)), ?_⟩
    refine ⟨.int i, rfl, .int i, "int", rfl, .int i, _, rfl, ?_⟩
    exact iF rfl q
end
end Pl

namespace Pl
open PySem L2
section
variable {P : Program} {w : World} {K : PySem.W.Frag} {mg : Str → Option Value} {base : Heap}
def spOpen (K : PySem.W.Frag) : Sp := fun vs H Q _ => ∃ (a : Addr) (ns : List Int), vs = [.ref a] ∧ SqL K H a (ns.map V.int) ∧ ns.length ≤ 63 ∧
  ∀ (b c : Addr) (H' : Hp), H b = none → H c = none → Same H H' → BoxAt b c H' → Q (.ref b) H'
theorem cut63 (ns : List Int) (h : ns.length ≤ 63) : cutV (ns.map V.int) none (some 63) = ns.map V.int := by
  unfold cutV
  rw [HT.sIx_none, show HT.sIx (ns.map V.int).length (ns.map V.int).length (some 63) = min 63 (ns.map V.int).length from HT.sIx_nat _ _ 63]
  rw [List.drop_zero, List.length_map, Nat.sub_zero]
  exact List.take_of_length_le (by rw [List.length_map]; omega)
theorem ok_law_open (T : Txt P K mg) {k : Nat} : FnOk P w K mg base CX0 (k + 1) T.law_open.f T.law_open.fd ["_law_script"] (spOpen K) := by
  refine T.law_open.F.ok sc_law_open (fun vs H Q E h => ?_) (fun cdv A outer s H vs Q E hr h => ?_)
  · obtain ⟨a, ns, rfl, _⟩ := h
    rfl
  · obtain ⟨a, ns, rfl, hS, hl, q⟩ := h
    refine ⟨_, (pss_cons (ps_set (i := 1) sc_law_open.nd rfl (.inl rfl) (pe_callTy call_list_of (by rfl) T.n_list (by decide +kernel) (pa_cons (pe_slice sl_list (pv 0) po_none (po_some pe_int)) pa_nil)))
  (pss_cons (ps_if (pt_cmpR op_eq (pe_callB call_len_seq (by rfl) T.n_len PySem.boot_len (pa_cons (pv 1) pa_nil)) pe_int (nomark _)) (pss_one (ps_expr (pe_bm PySem.F.plainAttrs_list PySem.F.slot_list_append PySem.F.type_list_append mt_append (pv 1) (pa_cons pe_int pa_nil)))) pss_nil)
  (pss_one (ps_ret (pe_lst (pa_cons (pv 1) (pa_cons pe_int pa_nil))))))), ?_⟩
    refine ⟨.ref a, rfl, 63, rfl, a, _, rfl, hS, fun p hp => ?_⟩
    rw [cut63 ns hl]
    refine ⟨p, _, rfl, .inl (SqL.of upd_same), fun c hc => ?_⟩
    have ncp : c ≠ p := fun e => by
      rw [e, upd_same] at hc
      cases hc
    have hc0 : H c = none := by rw [upd_ne ncp] at hc; exact hc
    have s1 : Same H (upd (upd H p (.lst (ns.map V.int))) c (.lst (ns.map V.int))) := (same_upd hp).trans (same_upd hc)
    refine ⟨.ref c, rfl, c, _, rfl, .inl (SqL.of upd_same), rfl, _, rfl, ite2 (fun e => ?_) (fun e => ?_)⟩
    · have e0 : ((ns.map V.int).length : Int) = 0 := V.int.inj (of_decide_eq_true e)
      have e1 : ns = [] := by
        cases ns with
        | nil => rfl
        | cons x r =>
          rw [List.length_map, List.length_cons] at e0
          omega
      subst e1
      refine ⟨.ref c, rfl, .inl ⟨rfl, _, SqL.of upd_same⟩, c, _, _, rfl, rfl, upd_same, szl (by show 0 < 100000; decide), ?_⟩
      rw [upd_upd]
      have s2 : Same H (upd (upd H p (.lst [])) c (.lst [.int 0])) := (same_upd hp).trans (same_upd hc)
      refine ⟨.ref c, rfl, sz (by show 2 ≤ 100000; decide), fun b hb => ?_⟩
      have nbc : b ≠ c := fun e => by
        rw [e, upd_same] at hb
        cases hb
      exact q b c _ (s2.free hb) hc0 (s2.trans (same_upd hb)) ⟨nbc, [0], 0, upd_same, by rw [upd_ne (Ne.symm nbc), upd_same]; rfl, by decide, by decide⟩
    · have h0 : 0 < ns.length := by
        cases ns with
        | nil => exact absurd (decide_eq_true rfl) e
        | cons x r => exact Nat.succ_pos _
      refine ⟨.ref c, rfl, sz (by show 2 ≤ 100000; decide), fun b hb => ?_⟩
      have nbc : b ≠ c := fun e => by
        rw [e, upd_same] at hb
        cases hb
      exact q b c _ (s1.free hb) hc0 (s1.trans (same_upd hb)) ⟨nbc, ns, 0, upd_same, by rw [upd_ne (Ne.symm nbc), upd_same], h0, by omega⟩
theorem nzA : (2147483647 : Int) ≠ 0 := by decide
theorem nzB : (2147483399 : Int) ≠ 0 := by decide
def spPick : Sp := fun vs H Q _ => ∃ (b c : Addr) (G : Hp) (m : Int), vs = [.ref b, .int m] ∧ Wd b c G H ∧ 0 < m ∧ m < 1073741824 ∧
  ∀ (i : Int) (H' : Hp), Wd b c G H' → 0 ≤ i → i < m → Q (.int i) H'
theorem box_cells {b c : Addr} {G H : Hp} {cs cs' : List Int} {k : Int} (nbc : b ≠ c) (x : Wd b c G H) (h : 0 < cs.length) (h' : cs.length ≤ 64) : Wd b c G (upd (upd H b (.lst [.ref c, .int k])) c (.lst (cs.map V.int))) :=
  ⟨⟨nbc, cs, k, by rw [upd_ne nbc, upd_same], upd_same, h, h'⟩, same_mut (same_mut x.gh x.gb) x.gc, x.gb, x.gc⟩
theorem ok_law_pick (T : Txt P K mg) {k : Nat} : FnOk P w K mg base CX0 (k + 1) T.law_pick.f T.law_pick.fd ["_law_box", "_law_many"] spPick := by
  refine T.law_pick.F.ok sc_law_pick (fun vs H Q E h => ?_) (fun cdv A outer s H vs Q E hr h => ?_)
  · obtain ⟨b, c, G, m, rfl, _⟩ := h
    rfl
  · obtain ⟨b, c, G, m, rfl, W, m0, m1, q⟩ := h
    obtain ⟨nbc, cs, k, hb, hc, l0, l1⟩ := W.box
    refine ⟨_, (pss_cons (ps_set (i := 2) sc_law_pick.nd rfl (.inl rfl) (pe_ix ix_list (pv 0) pe_int (fun _ _ => rfl)))
  (pss_cons (ps_set (i := 3) sc_law_pick.nd rfl (.inl rfl) (pe_ix ix_list (pv 0) pe_int (fun _ _ => rfl)))
  (pss_cons (ps_asg (pe_op op_add (pv 3) pe_int) (pg_sub (pv 0) pe_int set_list))
  (pss_cons (ps_set (i := 4) sc_law_pick.nd rfl (.inl rfl) (pe_op op_modN (pv 3) (pe_callB call_len_seq (by rfl) T.n_len PySem.boot_len (pa_cons (pv 2) pa_nil))))
  (pss_cons (ps_set (i := 5) sc_law_pick.nd rfl (.inl rfl) (pe_ix ix_list (pv 2) (pv 4) (fun _ _ => rfl)))
  (pss_cons (ps_if (pt_cmpR op_ge (pv 5) (pe_op op_pow pe_int pe_int) (nomark _)) (pss_cons (ps_asg (pe_op op_fdivN (pv 5) (pv 1)) (pg_sub (pv 2) (pv 4) set_list))
  (pss_one (ps_ret (pe_op op_modN (pe_callTy call_int1 (by rfl) T.n_int (by decide +kernel) (pa_cons (pv 5) pa_nil)) (pv 1))))) pss_nil)
  (pss_cons (ps_set (i := 6) sc_law_pick.nd rfl (.inl rfl) (pe_op op_modN (pe_callTy call_int1 (by rfl) T.n_int (by decide +kernel) (pa_cons (pe_op op_mul (pe_op op_add (pe_op op_add (pe_op op_modN (pe_callTy call_int1 (by rfl) T.n_int (by decide +kernel) (pa_cons (pv 5) pa_nil)) pe_int) (pe_op op_mul pe_int (pv 3))) pe_int) pe_int) pa_nil)) pe_int))
  (pss_cons (ps_set (i := 6) sc_law_pick.nd rfl (.inl rfl) (pe_op op_modN (pe_callTy call_int1 (by rfl) T.n_int (by decide +kernel) (pa_cons (pe_op op_mul (pv 6) (pe_op op_add (pe_op op_fdivN (pv 6) pe_int) pe_int)) pa_nil)) pe_int))
  (pss_cons (ps_set (i := 6) sc_law_pick.nd rfl (.inl rfl) (pe_op op_modN (pe_callTy call_int1 (by rfl) T.n_int (by decide +kernel) (pa_cons (pe_op op_mul (pv 6) (pe_op op_add (pe_op op_fdivN (pv 6) pe_int) pe_int)) pa_nil)) pe_int))
  (pss_one (ps_ret (pe_op op_modN (pe_callTy call_int1 (by rfl) T.n_int (by decide +kernel) (pa_cons (pe_op op_fdivN (pv 6) pe_int) pa_nil)) (pv 1))))))))))))), ?_⟩
    refine ⟨.ref b, rfl, b, _, 0, _, rfl, rfl, SqL.of hb, rfl, ?_⟩
    refine ⟨.ref b, rfl, b, _, 1, _, rfl, rfl, SqL.of hb, rfl, ?_⟩
    refine ⟨.int k, rfl, k, 1, rfl, rfl, .ref b, rfl, b, _, 1, 1, rfl, rfl, hb, rfl, ?_⟩
    show tSeq _ _ _ _ (upd H b (.lst [.ref c, .int (k + 1)]))
    have hc1 : upd H b (.lst [.ref c, .int (k + 1)]) c = some (.lst (cs.map V.int)) := by rw [upd_ne (Ne.symm nbc)]; exact hc
    have W1 : Wd b c G (upd H b (.lst [.ref c, .int (k + 1)])) := ⟨⟨nbc, cs, k + 1, upd_same, hc1, l0, l1⟩, same_mut W.gh W.gb, W.gb, W.gc⟩
    have ln : (0 : Int) < ((cs.map V.int).length : Int) := by rw [List.length_map]; omega
    refine ⟨.int k, rfl, .ref c, rfl, c, _, rfl, .inl (SqL.of hc1), k, _, rfl, rfl, by omega, ?_⟩
    have j0 := fm0 (a := k) ln
    have j1 := fm1 (a := k) ln
    dsimp only
    generalize ej : k.fmod ((cs.map V.int).length : Int) = j at j0 j1 ⊢
    have j2 : j < (cs.length : Int) := by rw [List.length_map] at j1; exact j1
    obtain ⟨x, hx⟩ := at_ints j0 j2
    refine ⟨.ref c, rfl, .int j, rfl, c, _, j, .int x, rfl, rfl, SqL.of hc1, hx, ?_⟩
    refine ⟨.int x, rfl, 10, 18, rfl, rfl, ⟨by decide, by decide, by decide⟩, x, _, rfl, rfl, _, rfl, ite2 (fun _ => ?_) (fun _ => ?_)⟩
    · refine ⟨.int x, rfl, .int m, rfl, x, m, rfl, rfl, ⟨by omega, by omega⟩, .ref c, rfl, .int j, rfl, c, _, j, j.toNat, rfl, rfl, hc1, ix_in j0 j1, ?_⟩
      refine ⟨.int x, rfl, .inl ⟨x, rfl, .int m, rfl, x, m, rfl, rfl, by omega, ?_⟩⟩
      refine q _ _ ?_ (fm0 m0) (fm1 m0)
      rw [← List.map_set]
      exact ⟨⟨nbc, cs.set j.toNat (x.fdiv m), k + 1, by rw [upd_ne nbc, upd_same], upd_same, by rw [List.length_set]; exact l0, by rw [List.length_set]; exact l1⟩, same_mut W1.gh W1.gc, W1.gb, W1.gc⟩
    · -- the number is mixed
      refine ⟨.int x, rfl, .inl ⟨x, rfl, x, 2147483647, rfl, rfl, nzA, .int k, rfl, 7919, k, rfl, rfl, .inl ⟨by decide, by decide⟩, _, _, rfl, rfl, _, 1, rfl, rfl, _, 48271, rfl, rfl, .inr ⟨by decide, by decide⟩, .inl ⟨_, rfl, _, 2147483647, rfl, rfl, nzA, ?_⟩⟩⟩
      have a0 := fm0 (a := (x.fmod 2147483647 + 7919 * k + 1) * 48271) (b := 2147483647) (by decide)
      have a1 := fm1 (a := (x.fmod 2147483647 + 7919 * k + 1) * 48271) (b := 2147483647) (by decide)
      dsimp only
      generalize ((x.fmod 2147483647 + 7919 * k + 1) * 48271).fmod 2147483647 = y at a0 a1 ⊢
      refine ⟨.int y, rfl, .int y, rfl, y, 1009, rfl, rfl, ⟨by decide, by decide⟩, _, 69621, rfl, rfl, y, _, rfl, rfl, .inl ⟨by omega, by omega⟩, .inl ⟨_, rfl, _, 2147483647, rfl, rfl, nzA, ?_⟩⟩
      have b0 := fm0 (a := y * (y.fdiv 1009 + 69621)) (b := 2147483647) (by decide)
      have b1 := fm1 (a := y * (y.fdiv 1009 + 69621)) (b := 2147483647) (by decide)
      dsimp only
      generalize (y * (y.fdiv 1009 + 69621)).fmod 2147483647 = z at b0 b1 ⊢
      refine ⟨.int z, rfl, .int z, rfl, z, 2003, rfl, rfl, ⟨by decide, by decide⟩, _, 40692, rfl, rfl, z, _, rfl, rfl, .inl ⟨by omega, by omega⟩, .inl ⟨_, rfl, _, 2147483399, rfl, rfl, nzB, ?_⟩⟩
      dsimp only
      generalize (z * (z.fdiv 2003 + 40692)).fmod 2147483399 = u
      refine ⟨.int u, rfl, u, 7, rfl, rfl, ⟨by decide, by decide⟩, .inl ⟨_, rfl, .int m, rfl, _, m, rfl, rfl, by omega, ?_⟩⟩
      exact q _ _ W1 (fm0 m0) (fm1 m0)
def spNumber : Sp := fun vs H Q _ => ∃ (b c : Addr) (G : Hp), vs = [.ref b] ∧ Wd b c G H ∧ ∀ (i : Int) (H' : Hp), Wd b c G H' → -100000000 * 10 ^ 32 ≤ i → i ≤ 100000001 * 10 ^ 32 → Q (.int i) H'
theorem ok_law_number (T : Txt P K mg) {k : Nat} : FnOk P w K mg base CX0 (k + 2) T.law_number.f T.law_number.fd ["_law_box"] spNumber := by
  have G_law_pick : FnOk P w K mg base CX0 (k + 1) T.law_pick.f T.law_pick.fd ["_law_box", "_law_many"] spPick := ok_law_pick T
  refine T.law_number.F.ok sc_law_number (fun vs H Q E h => ?_) (fun cdv A outer s H vs Q E hr h => ?_)
  · obtain ⟨b, c, G, rfl, _⟩ := h
    rfl
  · obtain ⟨b, c, G, rfl, W, q⟩ := h
    refine ⟨_, (pss_cons (ps_set (i := 1) sc_law_number.nd rfl (.inl rfl) (pe_call G_law_pick (hr.mono (by omega)) (by rfl) T.law_pick.g T.law_pick.F.kp T.law_pick.b .nil pass0 (pa_cons (pv 0) (pa_cons pe_int pa_nil))))
  (pss_cons (ps_if (pt_cmpR op_lt (pv 1) pe_int (nomark _)) (pss_one (ps_ret (pe_op op_sub (pe_call G_law_pick (hr.mono (by omega)) (by rfl) T.law_pick.g T.law_pick.F.kp T.law_pick.b .nil pass0 (pa_cons (pv 0) (pa_cons pe_int pa_nil))) pe_int))) pss_nil)
  (pss_cons (ps_if (pt_cmpR op_eq (pv 1) pe_int (nomark _)) (pss_one (ps_ret (pe_op op_sub (pe_call G_law_pick (hr.mono (by omega)) (by rfl) T.law_pick.g T.law_pick.F.kp T.law_pick.b .nil pass0 (pa_cons (pv 0) (pa_cons pe_int pa_nil))) pe_int))) pss_nil)
  (pss_cons (ps_if (pt_cmpR op_eq (pv 1) pe_int (nomark _)) (pss_one (ps_ret (pe_op op_sub (pe_call G_law_pick (hr.mono (by omega)) (by rfl) T.law_pick.g T.law_pick.F.kp T.law_pick.b .nil pass0 (pa_cons (pv 0) (pa_cons pe_int pa_nil))) pe_int))) pss_nil)
  (pss_one (ps_ret (pe_op op_add (pe_op op_mul (pe_op op_sub (pe_call G_law_pick (hr.mono (by omega)) (by rfl) T.law_pick.g T.law_pick.F.kp T.law_pick.b .nil pass0 (pa_cons (pv 0) (pa_cons pe_int pa_nil))) pe_int) (pe_op op_pow pe_int pe_int)) (pe_call G_law_pick (hr.mono (by omega)) (by rfl) T.law_pick.g T.law_pick.F.kp T.law_pick.b .nil pass0 (pa_cons (pv 0) (pa_cons pe_int pa_nil)))))))))), ?_⟩
    refine ⟨.ref b, rfl, b, c, G, 8, rfl, W, by decide, by decide, fun i H1 W1 i0 i1 => ?_⟩
    refine ⟨.int i, rfl, i, 5, rfl, rfl, _, rfl, ite2 (fun _ => ?_) (fun _ => ?_)⟩
    · refine ⟨.ref b, rfl, b, c, G, 9, rfl, W1, by decide, by decide, fun j H2 W2 j0 j1 => ?_⟩
      exact ⟨j, 4, rfl, rfl, q _ _ W2 (by omega) (by omega)⟩
    · refine ⟨.int i, rfl, rfl, _, rfl, ite2 (fun _ => ?_) (fun _ => ?_)⟩
      · refine ⟨.ref b, rfl, b, c, G, 41, rfl, W1, by decide, by decide, fun j H2 W2 j0 j1 => ?_⟩
        exact ⟨j, 20, rfl, rfl, q _ _ W2 (by omega) (by omega)⟩
      · refine ⟨.int i, rfl, rfl, _, rfl, ite2 (fun _ => ?_) (fun _ => ?_)⟩
        · refine ⟨.ref b, rfl, b, c, G, 2000001, rfl, W1, by decide, by decide, fun j H2 W2 j0 j1 => ?_⟩
          exact ⟨j, 1000000, rfl, rfl, q _ _ W2 (by omega) (by omega)⟩
        · refine ⟨.ref b, rfl, b, c, G, 200000001, rfl, W1, by decide, by decide, fun j H2 W2 j0 j1 => ?_⟩
          refine ⟨j, 100000000, rfl, rfl, 10, 32, rfl, rfl, ⟨by decide, by decide, by decide⟩, _, _, rfl, rfl, .inl ⟨by omega, by omega⟩, ?_⟩
          refine ⟨.ref b, rfl, b, c, G, 100000000, rfl, W2, by decide, by decide, fun l H3 W3 l0 l1 => ?_⟩
          refine ⟨_, l, rfl, rfl, q _ _ W3 ?_ ?_⟩
          · show -100000000 * 10 ^ 32 ≤ (j - 100000000) * (10 ^ 32 : Int) + l
            omega
          · show (j - 100000000) * (10 ^ 32 : Int) + l ≤ 100000001 * 10 ^ 32
            omega
end
end Pl

namespace Pl
open PySem L2
section
variable {P : Program} {w : World} {K : PySem.W.Frag} {mg : Str → Option Value} {base : Heap}
/-- a world's object -/
def WoIs (T : Txt P K mg) (H : Hp) (a : Addr) : Prop := ∃ dx fs, H a = some (.ins T.c_World dx fs)
/-- a world at a, its list of pairs at l, its rows ps -/
def WoA (T : Txt P K mg) (H : Hp) (a l : Addr) (ps : List (Str × Int)) : Prop := ∃ dx vs, H a = some (.ins T.c_World dx [("pairs", .ref l)]) ∧ H l = some (.lst vs) ∧ PrsAt H vs ps
theorem WoA.same {T : Txt P K mg} {H H' : Hp} {a l : Addr} {ps : List (Str × Int)} (s : Same H H') (h : WoA T H a l ps) : WoA T H' a l ps := by
  obtain ⟨dx, vs, h1, h2, h3⟩ := h
  exact ⟨dx, vs, s _ _ h1, s _ _ h2, h3.same s⟩
theorem WoA.is {T : Txt P K mg} {H : Hp} {a l : Addr} {ps : List (Str × Int)} (h : WoA T H a l ps) : WoIs T H a := by
  obtain ⟨dx, vs, h1, _⟩ := h
  exact ⟨dx, _, h1⟩
theorem WoA.mn {T : Txt P K mg} {S : List Addr} {H : Hp} {a l : Addr} {ps : List (Str × Int)} (hS : Lsts S H) (hl : l ∉ S) (h : WoA T H a l ps) : WoA T (mn S H) a l ps := by
  obtain ⟨dx, vs, h1, h2, h3⟩ := h
  exact ⟨dx, vs, mn_nl hS h1 (fun _ z => nomatch z), by rw [mn_at hl]; exact h2, h3.mn hS⟩
def spCkWorld (T : Txt P K mg) : Sp := fun vs H Q _ => ∃ (a : Addr), vs = [.ref a] ∧ WoIs T H a ∧ Q .non H
theorem ok_check_world (T : Txt P K mg) {k : Nat} : FnOk P w K mg base CX0 (k + 1) T.check_world.f T.check_world.fd ["value"] (spCkWorld T) := by
  refine T.check_world.F.ok (k := k) sc_check_world (fun vs H Q E h => ?_) (fun cdv A outer s H vs Q E hr h => ?_)
  · obtain ⟨a, rfl, _⟩ := h
    rfl
  · obtain ⟨a, rfl, ⟨dx, fs, ha⟩, q⟩ := h
    refine ⟨_, (pss_one (ps_if (pt_not (pt_val (pe_callB call_isi (by rfl) T.n_isinstance (by decide +kernel) (pa_cons (pv 0) (pa_cons (pe_glob (v := .ref T.c_World) (by rfl) T.g_World rfl) pa_nil))))) (pss_one ps_never) pss_nil)), ?_⟩
    exact ⟨.ref a, rfl, _, _, _, _, _, rfl, .own _, T.o_World.ty ha, T.k1_World_World, _, rfl, iF rfl q⟩
end
end Pl

namespace Pl
open PySem L2
section
variable {P : Program} {w : World} {K : PySem.W.Frag} {mg : Str → Option Value} {base : Heap}
def spIsName : Sp := fun vs H Q _ => ∃ z : Str, vs = [.str z] ∧ goodName z ∧ ∀ H', Same H H' → Q (.bl true) H'
theorem ok_is_name (T : Txt P K mg) {k : Nat} : FnOk P w K mg base CX0 (k + 1) T.is_name.f T.is_name.fd ["name"] spIsName := by
  refine T.is_name.F.ok (k := k) sc_is_name (fun vs H Q E h => ?_) (fun cdv A outer s H vs Q E hr h => ?_)
  · obtain ⟨z, rfl, _⟩ := h
    rfl
  · obtain ⟨z, rfl, ⟨g1, g2, g3⟩, q⟩ := h
    refine ⟨_, (pss_cons (ps_if (PW.pt (pw_or (pt_not (pt_val (pe_callB call_isi (by rfl) T.n_isinstance (by decide +kernel) (pa_cons (pv 0) (pa_cons (pe_bltn (v := .ty "str") (by rfl) T.n_str (by decide +kernel) rfl) pa_nil))))) (pw_or1 (pt_not (pt_chain op_le op_le pe_int (pe_callB call_len_str (by rfl) T.n_len PySem.boot_len (pa_cons (pv 0) pa_nil)) pe_int))))) (pss_one (ps_ret pe_bl)) pss_nil)
  (pss_one (ps_ret (pe_cmpR op_eq (pe_callB call_len_seq (by rfl) T.n_len PySem.boot_len (pa_cons (pe_lc (own := [("letter", 1)]) (g := gName 1) (tt := (tTest (tOp _ (tVar 1) (tC _)))) (te := (tVar 1)) rfl sc_is_name.nd (pi_str (pv 0)) (blkOk_by (own := [("letter", 1)]) (N := N_is_name) (sc := defScope s_is_name) (by decide +kernel)) (fun _ _ _ _ _ => (pg_name (i := 1) sc_is_name.nd rfl (.inl rfl))) (fun _ _ _ _ _ => (pts_one (pt_cmpR op_notIn_sign (pv 1) (pe_glob (v := .str "abcdefghijklmnopqrstuvwxyz") (by rfl) T.k_LETTERS ⟨_, rfl⟩) (by with_unfolding_all rfl)))) (fun _ _ _ _ _ => (pv 1))) pa_nil)) pe_int (nomark _))))), ?_⟩
    have ty : Ty H (.str z) "str" := .str z
    have hz : z.length ≤ sizeLine := Nat.le_trans g2 (by decide)
    refine ⟨.str z, rfl, _, _, _, _, _, rfl, .ty "str", ty.x, isI_str ty, _, rfl, iF (by unfold tyB; rw [kb_str_str]; rfl) ?_⟩
    refine ⟨.str z, rfl, z, rfl, hz, ?_⟩
    refine ⟨_, _, rfl, rfl, _, rfl, iT (decide_eq_true (by omega)) ⟨_, _, rfl, rfl, _, rfl, iF (by rw [decide_eq_true (by omega : ((z.length : Nat) : Int) ≤ 12)]; rfl) ?_⟩⟩
    refine ⟨.str z, rfl, z, rfl, fun D hD => ?_⟩
    refine lc_it (walk_str (z := z)) (fun i H' => Same H H' ∧ H' D = some (.lst [])) ⟨same_upd hD, upd_same⟩ (fun _ _ _ _ => trivial) (fun i x H1 H2 hi pp y => ?_) (fun H' pp => ?_)
    · obtain ⟨rfl, c, hc, rfl⟩ := y
      refine ⟨rfl, ?_⟩
      refine ⟨.str ⟨#[c]⟩, rfl, c, _, rfl, rfl, _, rfl, ?_⟩
      have hin : c ∈ letters.cps.toList := g3 c (by
        have := Array.mem_of_getElem? hc
        exact Array.mem_toList_iff.mpr this)
      exact iF (by rw [decide_eq_true hin]; rfl) pp
    · exact ⟨D, _, rfl, .inl (SqL.of pp.2), rfl, q H' pp.1⟩
def spCkName : Sp := fun vs H Q _ => ∃ z : Str, vs = [.str z] ∧ goodName z ∧ ∀ H', Same H H' → Q .non H'
theorem ok_check_name (T : Txt P K mg) {k : Nat} : FnOk P w K mg base CX0 (k + 2) T.check_name.f T.check_name.fd ["name"] spCkName := by
  have G_is_name : FnOk P w K mg base CX0 (k + 1) T.is_name.f T.is_name.fd ["name"] spIsName := ok_is_name T
  refine T.check_name.F.ok (k := k + 1) sc_check_name (fun vs H Q E h => ?_) (fun cdv A outer s H vs Q E hr h => ?_)
  · obtain ⟨z, rfl, _⟩ := h
    rfl
  · obtain ⟨z, rfl, g, q⟩ := h
    refine ⟨_, (pss_one (ps_if (pt_not (pt_val (pe_call G_is_name (hr.mono (by omega)) (by rfl) T.is_name.g T.is_name.F.kp T.is_name.b .nil pass0 (pa_cons (pv 0) pa_nil)))) (pss_one ps_never) pss_nil)), ?_⟩
    exact ⟨.str z, rfl, z, rfl, g, fun H' s' => ⟨_, rfl, iF rfl (q H' s')⟩⟩
/-- check_rows of a list of distinct numbers -/
def spCkRows : Sp := fun vs H Q _ => ∃ (v : V) (a : Addr) (ns : List Int), vs = [v, .ref a] ∧ H a = some (.lst (ns.map V.int)) ∧ ns.Nodup ∧ ns.length ≤ 300 ∧ Q .non H
theorem ok_check_rows (T : Txt P K mg) {k : Nat} : FnOk P w K mg base CX0 (k + 2) T.check_rows.f T.check_rows.fd ["name", "moments"] spCkRows := by
  have G_is_integer : FnOk P w K mg base CX0 (k + 1) T.is_integer.f T.is_integer.fd ["value"] spIsInteger := ok_is_integer T
  refine T.check_rows.F.ok (k := k + 1) sc_check_rows (fun vs H Q E h => ?_) (fun cdv A outer s H vs Q E hr h => ?_)
  · obtain ⟨v, a, ns, rfl, _⟩ := h
    rfl
  · obtain ⟨v, a, ns, rfl, ha, hnd, hl, q⟩ := h
    refine ⟨_, (pss_cons (ps_if (pt_not (pt_val (pe_callB call_isi (by rfl) T.n_isinstance (by decide +kernel) (pa_cons (pv 1) (pa_cons (pe_bltn (v := .ty "list") (by rfl) T.n_list (by decide +kernel) rfl) pa_nil))))) (pss_one ps_never) pss_nil)
  (pss_cons (ps_for PassesOwn.never rfl (pi_list (pv 1)) (pg_name (i := 2) sc_check_rows.nd rfl (.inl rfl))
   (pss_one (ps_if (pt_not (pt_val (pe_call G_is_integer (hr.mono (by omega)) (by rfl) T.is_integer.g T.is_integer.F.kp T.is_integer.b .nil pass0 (pa_cons (pv 2) pa_nil)))) (pss_one ps_never) pss_nil)))
  (pss_one (ps_if (pt_cmpR op_lt (RZ.pe_lenSetI (by rfl) T.n_len (by rfl) T.n_set (pv 1)) (pe_callB call_len_seq (by rfl) T.n_len PySem.boot_len (pa_cons (pv 1) pa_nil)) (nomark _)) (pss_one ps_never) pss_nil)))), ?_⟩
    have ty : Ty H (.ref a) "list" := .lst ha
    refine ⟨.ref a, rfl, _, _, _, _, _, rfl, .ty "list", ty.x, isI_list ty, _, rfl, iF (by unfold tyB; rw [kb_list_list]; rfl) ?_⟩
    refine ⟨.ref a, rfl, a, rfl, ⟨_, SqL.of ha⟩, ?_⟩
    refine for_list (K := K) (a := a) (xs := ns.map V.int) (fun i σ H' => H' = H ∧ ∃ u, σ = [some v, some (.ref a), u]) ⟨rfl, _, rfl⟩ (fun i σ H' _ pp => by rw [pp.1]; exact SqL.of ha) (fun i x σ H' hx pp => ?_) (fun σ H' pp => ?_)
    · obtain ⟨rfl, u, rfl⟩ := pp
      obtain ⟨j, rfl⟩ : ∃ j, x = V.int j := by
        rw [List.getElem?_map] at hx
        cases e : ns[i]? with
        | none => rw [e] at hx; cases hx
        | some j => rw [e] at hx; exact ⟨j, (Option.some.inj hx).symm⟩
      exact ⟨.int j, rfl, .int j, "int", rfl, .int j, _, rfl, iF rfl ⟨rfl, _, rfl⟩⟩
    · obtain ⟨rfl, u, rfl⟩ := pp
      refine ⟨.ref a, rfl, a, ns, rfl, SqL.of ha, hnd, by omega, .ref a, rfl, a, _, rfl, .inl (SqL.of ha), _, _, rfl, rfl, _, rfl, ?_⟩
      exact iF (decide_eq_false (by rw [List.length_map]; omega)) q
/-- limited(pairs) -/
def spLimited : Sp := fun vs H Q _ => ∃ (a : Addr) (xs : List V), vs = [.ref a] ∧ H a = some (.lst xs) ∧ xs.length ≤ 300 ∧ Q (.ref a) H
theorem ok_limited (T : Txt P K mg) {k : Nat} : FnOk P w K mg base CX0 (k + 1) T.limited.f T.limited.fd ["pairs"] spLimited := by
  refine T.limited.F.ok (k := k) sc_limited (fun vs H Q E h => ?_) (fun cdv A outer s H vs Q E hr h => ?_)
  · obtain ⟨a, xs, rfl, _⟩ := h
    rfl
  · obtain ⟨a, xs, rfl, ha, hl, q⟩ := h
    refine ⟨_, (pss_cons (ps_if (pt_cmpR op_gt (pe_callB call_len_seq (by rfl) T.n_len PySem.boot_len (pa_cons (pv 0) pa_nil)) (pe_glob (v := .int 300) (by rfl) T.k_MOST_ROWS ⟨_, rfl⟩) (nomark _)) (pss_one ps_never) pss_nil)
  (pss_one (ps_ret (pv 0)))), ?_⟩
    refine ⟨.ref a, rfl, a, _, rfl, .inl (SqL.of ha), _, _, rfl, rfl, _, rfl, iF (decide_eq_false (by omega)) ?_⟩
    exact ⟨.ref a, rfl, q⟩
end
end Pl

namespace Pl
open PySem L2
section
variable {P : Program} {w : World} {K : PySem.W.Frag} {mg : Str → Option Value} {base : Heap}
theorem prs_len {rs : Rws} (i : Nat) (r : Str × List Int) (h : rs[i]? = some r) : ((rs.take i).flatMap prsOf).length + (prsOf r).length ≤ (rs.map fun r => r.2.length).sum := by
  induction rs generalizing i with
  | nil => simp at h
  | cons x rs ih =>
    cases i with
    | zero =>
      have e : x = r := Option.some.inj h
      subst e
      simp [prsOf]
    | succ i =>
      have := ih i h
      simp only [List.take_succ_cons, List.flatMap_cons, List.length_append, List.map_cons, List.sum_cons]
      have e : (prsOf x).length = x.2.length := by simp [prsOf]
      omega
theorem prs_all (rs : Rws) : (rs.flatMap prsOf).length = (rs.map fun r => r.2.length).sum := by
  induction rs with
  | nil => rfl
  | cons x rs ih =>
    simp only [List.flatMap_cons, List.length_append, List.map_cons, List.sum_cons, ih]
    simp [prsOf]
/-- checked_pairs: the sorted pairs -/
def spChPairs : Sp := fun vs H Q _ => ∃ (d : Addr) (kvs : List (Key × V)) (rs : Rws), vs = [.ref d] ∧ H d = some (.dK kvs) ∧ EntsAt H kvs rs ∧ goodRows rs ∧
  ∀ (r : Addr) (H' : Hp) (us : List V), Same H H' → H r = none → H' r = some (.lst us) → PrsAt H' us (wRows rs) → Q (.ref r) H'
theorem ok_checked_pairs (T : Txt P K mg) {k : Nat} : FnOk P w K mg base CX0 (k + 3) T.checked_pairs.f T.checked_pairs.fd ["rows"] spChPairs := by
  have G_check_name : FnOk P w K mg base CX0 (k + 2) T.check_name.f T.check_name.fd ["name"] spCkName := ok_check_name T
  have G_check_rows : FnOk P w K mg base CX0 (k + 2) T.check_rows.f T.check_rows.fd ["name", "moments"] spCkRows := ok_check_rows T
  have G_limited : FnOk P w K mg base CX0 (k + 1) T.limited.f T.limited.fd ["pairs"] spLimited := ok_limited T
  refine T.checked_pairs.F.ok (k := k + 2) sc_checked_pairs (fun vs H Q E h => ?_) (fun cdv A outer s H vs Q E hr h => ?_)
  · obtain ⟨d, kvs, rs, rfl, _⟩ := h
    rfl
  · obtain ⟨d, kvs, rs, rfl, hd, he, hg, q⟩ := h
    refine ⟨_, (pss_cons (ps_set (i := 1) sc_checked_pairs.nd rfl (.inl rfl) (pe_lst pa_nil))
  (pss_cons (ps_lock (ps_for PassesOwn.never rfl (pi_items (pv 0)) (pg_tup rfl (pgs_cons (pg_name (i := 2) sc_checked_pairs.nd rfl (.inr rfl)) (pgs_cons (pg_name (i := 3) sc_checked_pairs.nd rfl (.inl rfl)) pgs_nil)))
   (pss_cons (ps_expr (pe_call G_check_name (hr.mono (by omega)) (by rfl) T.check_name.g T.check_name.F.kp T.check_name.b .nil pass0 (pa_cons (pv 2) pa_nil)))
  (pss_cons (ps_expr (pe_call G_check_rows (hr.mono (by omega)) (by rfl) T.check_rows.g T.check_rows.F.kp T.check_rows.b .nil pass0 (pa_cons (pv 2) (pa_cons (pv 3) pa_nil))))
  (pss_one (ps_aug (i := 1) sc_checked_pairs.nd rfl (.inl rfl) (pe_lc (own := [("moment", 4)]) (g := gName 4) (tt := tYes) (te := (tTup (tCons (tVar 2) (tCons (tVar 4) tNil)))) rfl sc_checked_pairs.nd (pi_list (pv 3)) (blkOk_by (own := [("moment", 4)]) (N := N_checked_pairs) (sc := defScope s_checked_pairs) (by decide +kernel)) (fun _ _ _ _ _ => (pg_name (i := 4) sc_checked_pairs.nd rfl (.inl rfl))) (fun _ _ _ _ _ => pts_nil) (fun _ _ _ _ _ => (pe_tup (pa_cons (pv 2) (pa_cons (pv 4) pa_nil))))) iop_ext))))))
  (pss_one (ps_ret (pe_call G_limited (hr.mono (by omega)) (by rfl) T.limited.g T.limited.F.kp T.limited.b .nil pass0 (pa_cons (pe_callB (cr_sortD (enc := fun p : Str × Int => .tuple [.str p.1, .int p.2]) hr.units) (by rfl) T.n_sorted (by decide +kernel) (pa_cons (pv 1) pa_nil)) pa_nil)))))), ?_⟩
    refine ⟨sz (by show 0 ≤ 100000; decide), fun l hl => ?_⟩
    have hd1 : upd H l (.lst []) d = some (.dK kvs) := by rw [upd_ne (ne_of_none hd hl)]; exact hd
    refine ⟨d, _, hd1, trivial, fun od => ?_⟩
    refine ⟨.ref d, rfl, d, od, kvs, rfl, upd_same, ?_⟩
    refine for_it (walk_items (d := d) (o := od) (kvs := kvs)) (fun i σ H' => ∃ (us : List V) (y2 y3 y4 : Option V), σ = [some (.ref d), some (.ref l), y2, y3, y4] ∧ (∀ b o, b ≠ d → H b = some o → H' b = some o) ∧ H' d = some (.frz od (.dK kvs)) ∧
      H' l = some (.lst us) ∧ PrsAt H' us ((rs.take i).flatMap prsOf)) ?_ (fun i σ H' _ pp => ?_) (fun i x σ H1 H2 hi pp y => ?_) (fun σ H' pp => ?_)
    · exact ⟨[], none, none, none, rfl, fun b o nb e => by rw [upd_ne nb, upd_ne (ne_of_none e hl)]; exact e, upd_same, by rw [upd_ne (ne_of_none hd hl).symm, upd_same], rfl, fun i p e => by simp at e⟩
    · obtain ⟨us, y2, y3, y4, _, _, h3, _⟩ := pp
      exact h3
    · obtain ⟨us, y2, y3, y4, rfl, hb, hdf, hlu, hpr⟩ := pp
      obtain ⟨t, xk, yv, rfl, hT, rfl, e1, e2⟩ := y
      obtain ⟨kv, hkv⟩ : ∃ kv, kvs[i]? = some kv := ⟨_, List.getElem?_eq_getElem hi⟩
      obtain ⟨r, hr0⟩ : ∃ r, rs[i]? = some r := ⟨_, List.getElem?_eq_getElem (by rw [← he.1]; exact hi)⟩
      obtain ⟨k1, a, k2, ha⟩ := he.2 i kv r hkv hr0
      dsimp only at e1 e2
      rw [hkv] at e1 e2
      have e1' : kV kv.1 = xk := Option.some.inj e1
      have e2' : kv.2 = yv := Option.some.inj e2
      rw [k1] at e1'
      rw [k2] at e2'
      subst e1' e2'
      obtain ⟨g1, g2, g3⟩ := hg.1 r (List.mem_of_getElem? hr0)
      have nad : a ≠ d := fun z => by rw [z, hd] at ha; cases ha
      have ha1 : H1 a = some (.lst (r.2.map V.int)) := hb a _ nad ha
      have s2 : Same H1 (upd H1 t (.tup [kV (.inr r.1), .ref a])) := same_upd hT
      refine ⟨t, _, rfl, SqT.of upd_same, rfl, _, _, rfl, _, _, rfl, rfl, ?_⟩
      refine ⟨.str r.1, rfl, r.1, rfl, g1, fun H3 s3 => ?_⟩
      have s23 := s2.trans s3
      refine ⟨.str r.1, rfl, .ref a, rfl, .str r.1, a, r.2, rfl, s23 _ _ ha1, g2, g3, ?_⟩
      refine ⟨.ref l, rfl, .ref a, rfl, a, rfl, ⟨_, SqL.of (s23 _ _ ha1)⟩, fun D hD => ?_⟩
      have hD1 : H1 D = none := s23.free hD
      refine lc_list (K := K) (a := a) (xs := r.2.map V.int) (fun j H' => Same H3 H' ∧ ∃ vs, H' D = some (.lst vs) ∧ PrsAt H' vs ((prsOf r).take j)) ⟨same_upd hD, [], upd_same, rfl, fun i p e => by simp at e⟩ (fun j H' _ pp => SqL.of (pp.1 _ _ (s23 _ _ ha1))) (fun j x H' hx pp => ?_) (fun H' pp => ?_)
      · obtain ⟨s4, vs, hv, hp4⟩ := pp
        obtain ⟨m, hm, rfl⟩ : ∃ m, r.2[j]? = some m ∧ x = V.int m := by
          rw [List.getElem?_map] at hx
          cases e : r.2[j]? with
          | none => rw [e] at hx; cases hx
          | some m => rw [e] at hx; exact ⟨m, rfl, (Option.some.inj hx).symm⟩
        have hj : j < r.2.length := (List.getElem?_eq_some_iff.mp hm).1
        refine ⟨rfl, yes_if ⟨.str r.1, rfl, .int m, rfl, sz (by show 2 ≤ 100000; decide), fun p hp => ?_⟩⟩
        have npD : D ≠ p := ne_of_none hv hp
        have hv5 : upd H' p (.tup [.str r.1, .int m]) D = some (.lst vs) := by rw [upd_ne npD]; exact hv
        have hlen : vs.length ≤ 300 := by
          have := hp4.1
          rw [List.length_take] at this
          have e : (prsOf r).length = r.2.length := by simp [prsOf]
          omega
        refine ⟨vs, hv5, szl (by omega), same_mut (s4.trans (same_upd hp)) hD, vs ++ [.ref p], upd_same, ?_⟩
        have hpm : (prsOf r)[j]? = some (r.1, m) := by
          unfold prsOf
          rw [List.getElem?_map, hm]
          rfl
        rw [List.take_add_one, hpm]
        refine PrsAt.put hv5 ((hp4.same (same_upd hp)).app ⟨rfl, fun i q e => ?_⟩)
        cases i with
        | zero =>
          cases e
          exact ⟨p, rfl, upd_same⟩
        | succ i => simp at e
      · obtain ⟨s4, vs, hv, hp4⟩ := pp
        have e : (prsOf r).length = r.2.length := by simp [prsOf]
        rw [List.length_map, List.take_of_length_le (by omega)] at hp4
        have s14 := s23.trans s4
        have hl4 := s14 _ _ hlu
        have hlen := prs_len i r hr0
        have nlD : l ≠ D := fun z => by rw [z] at hlu; rw [hD1] at hlu; cases hlu
        refine ⟨l, D, us, vs, rfl, rfl, hl4, hv, sz (by rw [hpr.1, hp4.1]; have := hg.2; omega), ?_⟩
        refine ⟨us ++ vs, _, _, _, rfl, fun b o nb eb => ?_, ?_, upd_same, ?_⟩
        · rw [upd_ne (ne_of_none eb hl)]
          exact s14 _ _ (hb b o nb eb)
        · rw [upd_ne (ne_of_none hd hl)]
          exact s14 _ _ hdf
        · rw [List.take_add_one, hr0]
          rw [show (rs.take i ++ (some r).toList) = rs.take i ++ [r] from rfl, List.flatMap_append, List.flatMap_cons, List.flatMap_nil, List.append_nil]
          exact PrsAt.put hl4 ((hpr.same s14).app hp4)
    · obtain ⟨us, y2, y3, y4, rfl, hb, hdf, hlu, hpr⟩ := pp
      rw [he.1, List.take_of_length_le (Nat.le_refl _)] at hpr
      refine ⟨hdf, ?_⟩
      have hl5 : upd H' d (.dK kvs) l = some (.lst us) := by rw [upd_ne (ne_of_none hd hl).symm]; exact hlu
      have sH : Same H (upd H' d (.dK kvs)) := fun b o e => by
        by_cases nb : b = d
        · subst nb
          rw [upd_same, ← hd, e]
        · rw [upd_ne nb]
          exact hb b o nb e
      have hpr5 : PrsAt (upd H' d (.dK kvs)) us (rs.flatMap prsOf) := ⟨hpr.1, fun i p e => by
        obtain ⟨t, t1, t2⟩ := hpr.2 i p e
        refine ⟨t, t1, ?_⟩
        rw [upd_ne (fun z => by rw [z, hdf] at t2; cases t2)]
        exact t2⟩
      have hlen : us.length ≤ 300 := by rw [hpr.1, prs_all]; exact hg.2
      generalize upd H' d (.dK kvs) = H5 at hl5 sH hpr5 ⊢
      have hz1 : (us.zip (rs.flatMap prsOf)).map (·.1) = us := List.map_fst_zip (by rw [hpr5.1]; exact Nat.le_refl _)
      refine ⟨.ref l, rfl, l, us.zip (rs.flatMap prsOf), rfl, by rw [hz1]; exact SqL.of hl5, by rw [List.length_zip]; omega, fun p hp => ?_, PySem.W.AllAlike.of fun b b' => rfl, PySem.W.Sortable.tuples fun b => ⟨_, _, rfl⟩, fun p hp => ?_, fun z hz => ?_⟩
      · obtain ⟨i, hi⟩ := List.mem_iff_getElem?.mp hp
        obtain ⟨v, q'⟩ := p
        rw [List.getElem?_zip_eq_some] at hi
        obtain ⟨t, t1, t2⟩ := hpr5.2 i q' hi.2
        rw [hi.1] at t1
        cases t1
        exact .tup (SqT.of t2) (.cons (.str _) (.cons (.int _) .nil))
      · show PyData.depth (.tuple [.str p.2.1, .int p.2.2]) ≤ 10
        simp [PyData.depth, PyData.depthAll]
      · refine ⟨z, _, rfl, upd_same, ?_, q z _ _ (sH.trans (same_upd hz)) (sH.free hz) upd_same ((prs_sort hpr5).same (same_upd hz))⟩
        rw [List.length_map, List.length_mergeSort, List.length_zip]
        omega
end
end Pl

namespace Pl
open PySem L2
section
variable {P : Program} {w : World} {K : PySem.W.Frag} {mg : Str → Option Value} {base : Heap}
/-- World.__init__(self, rows) -/
def spWInit (T : Txt P K mg) : Sp := fun vs H Q _ => ∃ (G : Hp) (x d dx : Addr) (kvs : List (Key × V)) (rs : Rws), vs = [.ref x, .ref d] ∧ Same G H ∧ G x = none ∧ H x = some (.ins T.c_World dx []) ∧ H d = some (.dK kvs) ∧ EntsAt H kvs rs ∧ goodRows rs ∧
  ∀ H' l, Same G H' → H l = none → WoA T H' x l (wRows rs) → Q .non H'
theorem ok_world_init (T : Txt P K mg) {k : Nat} : FnR P w K mg base CX0 (k + 4) T.World_init.f (spWInit T) := by
  have G_checked_pairs : FnOk P w K mg base CX0 (k + 3) T.checked_pairs.f T.checked_pairs.fd ["rows"] spChPairs := ok_checked_pairs T
  refine toR (T.World_init.ok (k := k + 3) sc_World_init (fun vs H Q E h => ?_) (fun cdv A outer s H vs Q E hr h => ?_)) T.World_init.b
  · obtain ⟨G, x, d, dx, kvs, rs, rfl, _⟩ := h
    rfl
  · obtain ⟨G, x, d, dx, kvs, rs, rfl, sG, xG, hx, hd, he, hg, q⟩ := h
    refine ⟨_, (pss_one (ps_if (pt_cmpR op_isN (pv 1) pe_non (nomark _)) (pss_one (ps_fld (pv 0) (pe_lst pa_nil) rfl)) (pss_one (ps_fld (pv 0) (pe_call G_checked_pairs (hr.mono (by omega)) (by rfl) T.checked_pairs.g T.checked_pairs.F.kp T.checked_pairs.b .nil pass0 (pa_cons (pv 1) pa_nil)) rfl)))), ?_⟩
    refine ⟨.ref d, rfl, rfl, _, rfl, iF (decide_eq_false (fun h => nomatch h)) ?_⟩
    refine ⟨.ref d, rfl, d, kvs, rs, rfl, hd, he, hg, fun r H1 us s1 r0 h1 h2 => ?_⟩
    refine ⟨.ref x, rfl, x, _, dx, [], rfl, s1 _ _ hx, T.o_World.cl, T.n_World_pairs, by decide, ?_⟩
    have hx1 := s1 _ _ hx
    have nrx : r ≠ x := fun e => by rw [e, hx1] at h1; cases h1
    refine q _ r (same_mut (sG.trans s1) xG) r0 ⟨dx, us, upd_same, by rw [upd_ne nrx]; exact h1, h2.1, fun i p e => ?_⟩
    obtain ⟨t, t1, t2⟩ := h2.2 i p e
    exact ⟨t, t1, by rw [upd_ne (fun z => by rw [z, hx1] at t2; cases t2)]; exact t2⟩
theorem inV_ints (x : Int) : ∀ ns : List Int, inV (.int x) (ns.map V.int) = decide (x ∈ ns)
  | [] => by simp [inV]
  | n :: ns => by
    have := inV_ints x ns
    unfold inV at this ⊢
    rw [List.map_cons, List.any_cons, this]
    show ((n == x) || _) = _
    by_cases e : n = x
    · subst e; simp
    · have e' : ¬ x = n := fun z => e z.symm
      simp [e, e', List.mem_cons]
theorem flat_ints : ∀ ns : List Int, (ns.map V.int).all flatV = true
  | [] => rfl
  | n :: ns => by
    rw [List.map_cons, List.all_cons, flat_ints ns]
    rfl
end
end Pl

namespace Pl
open PySem L2
theorem tl_flat : ∀ parts : List (List Nat), TL.joinL [] parts = parts.flatten
  | [] => rfl
  | [p] => by simp [TL.joinL]
  | p :: q :: ps => by
    have := tl_flat (q :: ps)
    simp only [TL.joinL, List.flatten_cons, List.append_nil, List.nil_append] at this ⊢
    rw [this]
theorem one_good {c : Nat} (h : c ∈ letters.cps.toList) : goodName ⟨#[c]⟩ := ⟨by show 1 ≤ 1; decide, by show 1 ≤ 12; decide, fun d hd => by
  have : d = c := by simpa using hd
  rw [this]; exact h⟩
theorem join_good {cs : List Nat} (h1 : 1 ≤ cs.length) (h2 : cs.length ≤ 12) (h : ∀ c ∈ cs, c ∈ letters.cps.toList) : goodName (Txt.join "" (cs.map fun c => (⟨#[c]⟩ : Str))) := by
  have e : (Txt.join "" (cs.map fun c => (⟨#[c]⟩ : Str))).cps.toList = cs := by
    rw [TL.join_eq]
    show TL.tl _ = cs
    rw [TL.tl_join, show TL.tl ("" : Str) = [] from by decide +kernel, tl_flat, List.map_map]
    clear h1 h2 h
    induction cs with
    | nil => rfl
    | cons c cs ih =>
      rw [List.map_cons, List.flatten_cons, ih]
      rfl
  have el : (Txt.join "" (cs.map fun c => (⟨#[c]⟩ : Str))).length = cs.length := by
    show (Txt.join "" (cs.map fun c => (⟨#[c]⟩ : Str))).cps.size = cs.length
    rw [← Array.length_toList, e]
  exact ⟨by rw [el]; exact h1, by rw [el]; exact h2, by rw [e]; exact h⟩
theorem let_at {i : Int} (h0 : 0 ≤ i) (h1 : i < 26) : ∃ c, atI letters.cps.toList i = some c ∧ c ∈ letters.cps.toList := by
  have hl : i.toNat < letters.cps.toList.length := by
    have : letters.cps.toList.length = 26 := by decide +kernel
    omega
  exact ⟨letters.cps.toList[i.toNat], at_ix2 h0 (List.getElem?_eq_getElem hl), List.getElem_mem hl⟩
theorem inV_strs (x : Str) : ∀ zs : List Str, inV (.str x) (zs.map V.str) = decide (x ∈ zs)
  | [] => by simp [inV]
  | n :: ns => by
    have := inV_strs x ns
    unfold inV at this ⊢
    rw [List.map_cons, List.any_cons, this]
    show ((n == x) || _) = _
    by_cases e : n = x
    · subst e; simp
    · have e' : ¬ x = n := fun z => e z.symm
      simp [e, e', List.mem_cons]
theorem flat_strs : ∀ zs : List Str, (zs.map V.str).all flatV = true
  | [] => rfl
  | n :: ns => by
    rw [List.map_cons, List.all_cons, flat_strs ns]
    rfl
abbrev abcd : List Str := ["a", "b", "c", "d"]
theorem spare {zs : List Str} (h : zs.length ≤ 3) : ∃ z r, abcd.filter (fun w => !decide (w ∈ zs)) = z :: r ∧ z ∈ abcd ∧ z ∉ zs := by
  cases e : abcd.filter (fun w => !decide (w ∈ zs)) with
  | cons z r =>
    have : z ∈ abcd.filter (fun w => !decide (w ∈ zs)) := by rw [e]; simp
    obtain ⟨m1, m2⟩ := List.mem_filter.mp this
    exact ⟨z, r, rfl, m1, by simpa using m2⟩
  | nil =>
    exfalso
    have hin : ∀ w ∈ abcd, w ∈ zs := fun w hw => by
      have := List.filter_eq_nil_iff.mp e w hw
      simpa using this
    have ha := hin "a" (by decide)
    have hb : ("b" : Str) ∈ zs.erase "a" := (List.mem_erase_of_ne (by decide)).mpr (hin "b" (by decide))
    have hc : ("c" : Str) ∈ (zs.erase "a").erase "b" := (List.mem_erase_of_ne (by decide)).mpr ((List.mem_erase_of_ne (by decide)).mpr (hin "c" (by decide)))
    have hd : ("d" : Str) ∈ ((zs.erase "a").erase "b").erase "c" := (List.mem_erase_of_ne (by decide)).mpr ((List.mem_erase_of_ne (by decide)).mpr ((List.mem_erase_of_ne (by decide)).mpr (hin "d" (by decide))))
    have l1 := List.length_erase_of_mem ha
    have l2 := List.length_erase_of_mem hb
    have l3 := List.length_erase_of_mem hc
    have l4 := List.length_pos_of_mem hd
    omega
theorem abcd_good {z : Str} (h : z ∈ abcd) : goodName z := by
  simp only [abcd, List.mem_cons, List.not_mem_nil, or_false] at h
  rcases h with rfl | rfl | rfl | rfl <;> exact ⟨by decide +kernel, by decide +kernel, by decide +kernel⟩
section
variable {P : Program} {w : World} {K : PySem.W.Frag} {mg : Str → Option Value} {base : Heap}
/-- _law_names: distinct names -/
def spNames : Sp := fun vs H Q _ => ∃ (b c : Addr) (G : Hp) (n : Nat), vs = [.ref b, .int (n : Nat)] ∧ Wd b c G H ∧ n ≤ 4 ∧
  ∀ (a : Addr) (zs : List Str) (H' : Hp), G a = none → a ≠ b → a ≠ c → Wd b c (upd G a (.lst (zs.map V.str))) H' → zs.Nodup → zs.length = n → (∀ z ∈ zs, goodName z) → Q (.ref a) H'
theorem ok_law_names (T : Txt P K mg) {k : Nat} : FnOk P w K mg base CX0 (k + 2) T.law_names.f T.law_names.fd ["_law_box", "_law_many"] spNames := by
  have G_law_pick : FnOk P w K mg base CX0 (k + 1) T.law_pick.f T.law_pick.fd ["_law_box", "_law_many"] spPick := ok_law_pick T
  refine T.law_names.F.ok (k := k + 1) sc_law_names (fun vs H Q E h => ?_) (fun cdv A outer s H vs Q E hr h => ?_)
  · obtain ⟨b, c, G, n, rfl, _⟩ := h
    rfl
  · obtain ⟨b, c, G, n, rfl, W, hn, q⟩ := h
    refine ⟨_, (pss_cons (ps_set (i := 2) sc_law_names.nd rfl (.inr rfl) pe_str)
  (pss_cons (ps_set (i := 3) sc_law_names.nd rfl (.inr rfl) (pe_lst pa_nil))
  (pss_cons (ps_for PassesOwn.never rfl (pi_range1 (by rfl) T.n_range (pa_cons (pv 1) pa_nil)) (pg_name (i := 4) sc_law_names.nd rfl (.inl rfl))
   (pss_cons (ps_set (i := 5) sc_law_names.nd rfl (.inl rfl) (pe_ix ix_str (pv 2) (pe_call G_law_pick (hr.mono (by omega)) (by rfl) T.law_pick.g T.law_pick.F.kp T.law_pick.b .nil pass0 (pa_cons (pv 0) (pa_cons pe_int pa_nil))) (fun _ _ => rfl)))
  (Evl.pss_cut (ps_if (pt_cmpR op_eq (pe_call G_law_pick (hr.mono (by omega)) (by rfl) T.law_pick.g T.law_pick.F.kp T.law_pick.b .nil pass0 (pa_cons (pv 0) (pa_cons pe_int pa_nil))) pe_int (nomark _)) (pss_one (ps_set (i := 5) sc_law_names.nd rfl (.inl rfl) (pe_join pe_str (pe_lc (own := [("_law_j", 6)]) (g := gName 6) (tt := tYes) (te := (tOp _ (tVar 2) (tCall _ _ _ (tCons (tVar 0) (tCons (tC _) tNil))))) rfl sc_law_names.nd (pi_range1 (by rfl) T.n_range (pa_cons (pe_op op_add pe_int (pe_call G_law_pick (hr.mono (by omega)) (by rfl) T.law_pick.g T.law_pick.F.kp T.law_pick.b .nil pass0 (pa_cons (pv 0) (pa_cons pe_int pa_nil)))) pa_nil)) (blkOk_by (own := [("_law_j", 6)]) (N := N_law_names) (sc := defScope s_law_names) (by decide +kernel)) (fun _ _ _ _ _ => (pg_name (i := 6) sc_law_names.nd rfl (.inl rfl))) (fun _ _ _ _ _ => pts_nil) (fun _ _ _ _ _ => (pe_ix ix_str (pv 2) (pe_call G_law_pick (hr.mono (by omega)) (by rfl) T.law_pick.g T.law_pick.F.kp T.law_pick.b .nil pass0 (pa_cons (pv 0) (pa_cons pe_int pa_nil))) (fun _ _ => rfl))))))) pss_nil)
  (Evl.pss_cut (ps_if (pt_cmpR op_in_seq (pv 5) (pv 3) (by with_unfolding_all rfl)) (pss_one (ps_set (i := 5) sc_law_names.nd rfl (.inl rfl) (pe_ix ix_list (pe_lc (own := [("_law_word", 7)]) (g := gName 7) (tt := (tTest (tOp (rIn K true) (tVar 7) (tVar 3)))) (te := (tVar 7)) rfl sc_law_names.nd (pi_list (pe_lst (pa_cons pe_str (pa_cons pe_str (pa_cons pe_str (pa_cons pe_str pa_nil)))))) (blkOk_by (own := [("_law_word", 7)]) (N := N_law_names) (sc := defScope s_law_names) (by decide +kernel)) (fun _ _ _ _ _ => (pg_name (i := 7) sc_law_names.nd rfl (.inl rfl))) (fun _ _ _ _ _ => (pts_one (pt_cmpR op_notIn_seq (pv 7) (pv 3) (by with_unfolding_all rfl)))) (fun _ _ _ _ _ => (pv 7))) pe_int (fun _ _ => rfl)))) pss_nil)
  (pss_one (ps_expr (pe_bm PySem.F.plainAttrs_list PySem.F.slot_list_append PySem.F.type_list_append mt_append (pv 3) (pa_cons (pv 5) pa_nil))))))))
  (pss_one (ps_ret (pv 3)))))), ?_⟩
    refine ⟨Nat.zero_le _, fun p hp => ?_⟩
    obtain ⟨pb, pc⟩ := W.nb hp
    have gp : G p = none := W.gh.free hp
    have W1 : Wd b c (upd G p (.lst [])) (upd H p (.lst [])) := (W.mut gp pb pc).keep upd_same pb pc
    refine ⟨_, rfl, (n : Nat), rfl, by omega, by omega, ?_⟩
    refine for_range (lo := 0) (n := ((n : Nat) : Int).toNat) (fun t σ H' => ∃ (zs : List Str) (y4 y5 : Option V), σ = [some (.ref b), some (.int (n : Nat)), some (.str letters), some (.ref p), y4, y5, none, none] ∧ Wd b c (upd G p (.lst (zs.map V.str))) H' ∧ zs.Nodup ∧ zs.length = t ∧ ∀ z ∈ zs, goodName z) ⟨[], none, none, rfl, W1, by simp, rfl, fun z h => nomatch h⟩ (fun t σ H' ht pp => ?_) (fun σ H' pp => ?_)
    · obtain ⟨zs, y4, y5, rfl, W2, nd, hl, hg⟩ := pp
      have ht : t < n := ht
      refine ⟨.str letters, rfl, .ref b, rfl, b, c, _, 3, rfl, W2, by decide, by decide, fun i H1 W3 i0 i1 => ?_⟩
      obtain ⟨ch, hch, hin⟩ := let_at i0 (by omega)
      refine ⟨letters, i, ch, rfl, rfl, by decide +kernel, hch, ?_⟩
      refine ⟨fun σ H2 => ∃ (z : Str) (x4 : Option V), goodName z ∧ σ = [some (.ref b), some (.int (n : Nat)), some (.str letters), some (.ref p), x4, some (.str z), none, none] ∧ Wd b c (upd G p (.lst (zs.map V.str))) H2, ?_, ?_⟩
      · refine ⟨.ref b, rfl, b, c, _, 2, rfl, W3, by decide, by decide, fun j H2 W4 j0 j1 => ?_⟩
        refine ⟨rfl, _, rfl, ite2 (fun _ => ?_) (fun _ => ?_)⟩
        · refine ⟨⟨_, rfl⟩, ?_⟩
          refine ⟨.ref b, rfl, b, c, _, 12, rfl, W4, by decide, by decide, fun m H3 W5 m0 m1 => ?_⟩
          refine ⟨1, m, rfl, rfl, 1 + m, rfl, by omega, by omega, fun D hD => ?_⟩
          obtain ⟨Db, Dc⟩ := W5.nb hD
          have gD : upd G p (.lst (zs.map V.str)) D = none := W5.gh.free hD
          refine lc_range (lo := 0) (n := (1 + m).toNat) (fun r H' => ∃ cs : List Nat, Wd b c (upd (upd G p (.lst (zs.map V.str))) D (.lst ((cs.map fun c => (⟨#[c]⟩ : Str)).map V.str))) H' ∧ cs.length = r ∧ ∀ c ∈ cs, c ∈ letters.cps.toList) ⟨[], (W5.mut gD Db Dc).keep upd_same Db Dc, rfl, fun c h => nomatch h⟩ (fun r H' hr' pp => ?_) (fun H' pp => ?_)
          · obtain ⟨cs, W6, hc, hcs⟩ := pp
            refine ⟨rfl, yes_if ?_⟩
            refine ⟨.str letters, rfl, .ref b, rfl, b, c, _, 26, rfl, W6, by decide, by decide, fun u H7 W7 u0 u1 => ?_⟩
            obtain ⟨d, hd, hdin⟩ := let_at u0 u1
            refine ⟨letters, u, d, rfl, rfl, by decide +kernel, hd, ?_⟩
            have hD7 := W7.gh _ _ (upd_same (H := upd G p (.lst (zs.map V.str))) (a := D))
            refine ⟨_, hD7, szl (by rw [List.length_map, List.length_map]; omega), cs ++ [d], ?_, by rw [List.length_append, hc]; rfl, fun x hx => ?_⟩
            · have e : (cs.map fun c => (⟨#[c]⟩ : Str)).map V.str ++ [V.str ⟨#[d]⟩] = ((cs ++ [d]).map fun c => (⟨#[c]⟩ : Str)).map V.str := by rw [List.map_append, List.map_append]; rfl
              rw [e]
              exact ((W7.weak (same_upd gD)).mut gD Db Dc).keep upd_same Db Dc
            · rcases List.mem_append.mp hx with h | h
              · exact hcs x h
              · cases List.mem_singleton.mp h
                exact hdin
          · obtain ⟨cs, W6, hc, hcs⟩ := pp
            have hD7 := W6.gh _ _ (upd_same (H := upd G p (.lst (zs.map V.str))) (a := D))
            refine ⟨_, D, cs.map fun c => (⟨#[c]⟩ : Str), rfl, rfl, .inl (SqL.of hD7), ?_, ?_⟩
            · rw [show (("" : Str)).length = 0 from rfl, Nat.mul_zero, Nat.add_zero, List.map_map]
              have : (cs.map ((fun x : Str => x.length) ∘ fun c => (⟨#[c]⟩ : Str))).sum = cs.length := by
                clear hD7 W6 hcs hc
                induction cs with
                | nil => rfl
                | cons x xs ih =>
                  rw [List.map_cons, List.sum_cons, ih, List.length_cons]
                  show 1 + xs.length = xs.length + 1
                  omega
              rw [this]
              omega
            · exact ⟨_, _, join_good (by omega) (by omega) hcs, rfl, W6.weak (same_upd gD)⟩
        · exact ⟨_, _, one_good hin, rfl, W4⟩
      · rintro σ H2 ⟨z, x4, gz, rfl, W4⟩
        refine ⟨fun σ H3 => ∃ (z : Str) (x4 : Option V), goodName z ∧ z ∉ zs ∧ σ = [some (.ref b), some (.int (n : Nat)), some (.str letters), some (.ref p), x4, some (.str z), none, none] ∧ Wd b c (upd G p (.lst (zs.map V.str))) H3, ?_, ?_⟩
        · have hp4 := W4.gh _ _ (upd_same (H := G) (a := p))
          refine ⟨.str z, rfl, .ref p, rfl, p, _, rfl, .inl (SqL.of hp4), rfl, flat_strs zs, _, rfl, ?_⟩
          rw [inV_strs]
          by_cases hz : z ∈ zs
          · refine iT (decide_eq_true hz) ⟨sz (by show 4 ≤ 100000; decide), fun L hL => ?_⟩
            have s5 : Same H2 (upd H2 L (.lst (abcd.map V.str))) := same_upd hL
            have W5 := W4.sm s5
            have hp5 := W5.gh _ _ (upd_same (H := G) (a := p))
            refine ⟨L, rfl, ⟨abcd.map V.str, SqL.of upd_same⟩, fun D hD => ?_⟩
            refine lc_pure (K := K) (a := L) (xs := abcd.map V.str) (fun v => match v with | .str r => if !decide (r ∈ zs) then some (V.str r) else none | _ => none) (SqL.of upd_same) hD (by decide) (fun x H6 N N' hx s6 n1 n2 => ?_) (fun H6 s6 hD6 => ?_)
            · obtain ⟨r, _, rfl⟩ := List.mem_map.mp hx
              refine ⟨rfl, .str r, rfl, .ref p, rfl, p, _, rfl, .inl (SqL.of (s6 _ _ hp5)), rfl, flat_strs zs, _, rfl, ?_⟩
              rw [inV_strs]
              cases hf : decide (r ∈ zs) with
              | true => exact iF rfl (n2 _ (Same.refl _) (by simp only [hf]; rfl))
              | false => exact iT rfl ⟨.str r, rfl, n1 _ _ (Same.refl _) (by simp only [hf]; rfl)⟩
            · obtain ⟨z2, r2, e2, m2, n2⟩ := spare (zs := zs) (by omega)
              have e3 : (abcd.map V.str).filterMap (fun v => match v with | .str r => if !decide (r ∈ zs) then some (V.str r) else none | _ => none) = (abcd.filter (fun w => !decide (w ∈ zs))).map V.str := by
                generalize abcd = l
                induction l with
                | nil => rfl
                | cons x l ih =>
                  rw [List.map_cons, List.filterMap_cons, List.filter_cons, ih]
                  by_cases hx : x ∈ zs <;> simp [hx]
              rw [e3, e2] at hD6
              refine ⟨D, _, 0, .str z2, rfl, rfl, SqL.of hD6, at_ix (by decide) rfl, ?_⟩
              exact ⟨z2, _, abcd_good m2, n2, rfl, W5.sm s6⟩
          · exact iF (decide_eq_false hz) ⟨z, _, gz, hz, rfl, W4⟩
        · rintro σ H3 ⟨z, x4, gz, hz, rfl, W5⟩
          have hp5 := W5.gh _ _ (upd_same (H := G) (a := p))
          refine ⟨.ref p, rfl, .inl ⟨rfl, _, SqL.of hp5⟩, .str z, rfl, p, _, _, rfl, rfl, hp5, szl (by rw [List.length_map]; omega), ?_⟩
          have e : zs.map V.str ++ [V.str z] = (zs ++ [z]).map V.str := by rw [List.map_append]; rfl
          rw [e]
          refine ⟨zs ++ [z], _, _, rfl, ((W5.weak (same_upd gp)).mut gp pb pc).keep upd_same pb pc, List.nodup_append.mpr ⟨nd, by simp, fun a ha b hb => by cases List.mem_singleton.mp hb; exact fun y => hz (y ▸ ha)⟩, by rw [List.length_append, hl]; rfl, fun y hy => ?_⟩
          rcases List.mem_append.mp hy with h | h
          · exact hg y h
          · cases List.mem_singleton.mp h
            exact gz
    · obtain ⟨zs, y4, y5, rfl, W2, nd, hl, hg⟩ := pp
      exact ⟨.ref p, rfl, q p zs H' gp pb pc W2 nd (by omega) hg⟩
end
end Pl

set_option Elab.async false
set_option linter.all false
set_option maxRecDepth 100000
set_option maxHeartbeats 4000000
/-! The pure layer: values as trees, slots, what a reading does to them (no heap in sight). -/
namespace Pl
open PySem L2
/-! ### heaps alike but for locks -/
def Alk (o o' : HO) : Prop := o = o' ∨ ∃ kvs, (o = .dK kvs ∨ ∃ x, o = .frz x (.dK kvs)) ∧ (o' = .dK kvs ∨ ∃ x, o' = .frz x (.dK kvs))
def Sm (H H' : Hp) : Prop := ∀ a o, H a = some o → ∃ o', H' a = some o' ∧ Alk o o'
theorem Sm.of {H H' : Hp} (s : Same H H') : Sm H H' := fun a o h => ⟨o, s a o h, .inl rfl⟩
theorem Sm.refl (H : Hp) : Sm H H := Sm.of (Same.refl H)
theorem Alk.trans {a b c : HO} (h : Alk a b) (k : Alk b c) : Alk a c := by
  rcases h with rfl | ⟨kvs, h1, h2⟩
  · exact k
  · rcases k with rfl | ⟨kvs', k1, k2⟩
    · exact .inr ⟨kvs, h1, h2⟩
    · have e : kvs = kvs' := by
        rcases h2 with rfl | ⟨x, rfl⟩ <;> rcases k1 with h | ⟨y, h⟩ <;> cases h <;> rfl
      subst e
      exact .inr ⟨kvs, h1, k2⟩
theorem Sm.trans {A B C : Hp} (h : Sm A B) (k : Sm B C) : Sm A C := fun a o e => by
  obtain ⟨o1, e1, a1⟩ := h a o e
  obtain ⟨o2, e2, a2⟩ := k a o1 e1
  exact ⟨o2, e2, a1.trans a2⟩
theorem Sm.at {H H' : Hp} (s : Sm H H') {a : Addr} {o : HO} (h : H a = some o) (h1 : ∀ kvs, o ≠ .dK kvs) (h2 : ∀ x kvs, o ≠ .frz x (.dK kvs)) : H' a = some o := by
  obtain ⟨o', e, q⟩ := s a o h
  rcases q with rfl | ⟨kvs, q | ⟨x, q⟩, _⟩
  · exact e
  · exact absurd q (h1 kvs)
  · exact absurd q (h2 x kvs)
theorem Sm.lst {H H' : Hp} (s : Sm H H') {a : Addr} {xs : List V} (h : H a = some (.lst xs)) : H' a = some (.lst xs) := s.at h (by simp) (by simp)
theorem Sm.tup {H H' : Hp} (s : Sm H H') {a : Addr} {xs : List V} (h : H a = some (.tup xs)) : H' a = some (.tup xs) := s.at h (by simp) (by simp)
theorem Sm.ins {H H' : Hp} (s : Sm H H') {a C d : Addr} {fs : List (Str × V)} (h : H a = some (.ins C d fs)) : H' a = some (.ins C d fs) := s.at h (by simp) (by simp)
theorem Sm.rd {H H' : Hp} (s : Sm H H') {a : Addr} {kvs : List (Key × V)} (h : Rd H a (.dK kvs)) : Rd H' a (.dK kvs) := by
  rcases h with h | ⟨x, h⟩
  · obtain ⟨o', e, q⟩ := s a _ h
    rcases q with rfl | ⟨k, q, q'⟩
    · exact .inl e
    · have : k = kvs := by rcases q with q | ⟨x, q⟩ <;> cases q <;> rfl
      subst this
      rcases q' with rfl | ⟨x, rfl⟩
      · exact .inl e
      · exact .inr ⟨x, e⟩
  · obtain ⟨o', e, q⟩ := s a _ h
    rcases q with rfl | ⟨k, q, q'⟩
    · exact .inr ⟨x, e⟩
    · have : k = kvs := by rcases q with q | ⟨x, q⟩ <;> cases q <;> rfl
      subst this
      rcases q' with rfl | ⟨x, rfl⟩
      · exact .inl e
      · exact .inr ⟨x, e⟩
/-! ### all but the tables of code objects -/
def kt (H : Hp) : Hp := fun b => match H b with
  | some (.tbl _) => none
  | o => o
def NT (o : HO) : Prop := ∀ ps, o ≠ .tbl ps
theorem kt_at {H : Hp} {a : Addr} {o : HO} (h : H a = some o) (n : NT o) : kt H a = some o := by
  unfold kt
  rw [h]
  cases o <;> first | rfl | exact absurd rfl (n _)
theorem kt_sub {H : Hp} {a : Addr} {o : HO} (h : kt H a = some o) : H a = some o ∧ NT o := by
  unfold kt at h
  cases e : H a with
  | none => rw [e] at h; cases h
  | some u =>
    rw [e] at h
    cases u <;> first | (cases h; exact ⟨rfl, fun ps z => nomatch z⟩) | cases h
theorem kt_none {H : Hp} {a : Addr} (h : H a = none) : kt H a = none := by
  unfold kt
  rw [h]
theorem kt_le {H : Hp} : Same (kt H) H := fun b o h => (kt_sub h).1
theorem kt_mono {H H' : Hp} (s : Same H H') : Same (kt H) (kt H') := fun b o h => kt_at (s b o (kt_sub h).1) (kt_sub h).2
theorem kt_upd {H : Hp} {a : Addr} {o : HO} (n : NT o) : kt (upd H a o) = upd (kt H) a o := by
  funext b
  by_cases e : b = a
  · rw [e, upd_same, kt_at upd_same n]
  · rw [upd_ne e]
    unfold kt
    rw [upd_ne e]
/-! ### trees of values -/
structure TvSem where
  R : Hp → V → Prop
  mono : ∀ {H H' : Hp} {v : V}, Sm H H' → R H v → R H' v
  tk : ∀ {H : Hp} {v : V}, R H v → R (kt H) v
inductive Tv where
  | int (i : Int)
  | str (s : Str)
  | bl (b : Bool)
  | non
  | tup (xs : List Tv)
  | lst (xs : List Tv)
  | dic (l : Bool) (ks : List Key) (ts : List Tv)
  | ext (S : TvSem)
def Dat (H : Hp) (l : Bool) (a : Addr) (us : List (Key × V)) : Prop := if l = true then Rd H a (.dK us) else H a = some (.dK us)
theorem Dat.rd {H : Hp} {l : Bool} {a : Addr} {us : List (Key × V)} (h : Dat H l a us) : Rd H a (.dK us) := by
  unfold Dat at h
  split at h
  · exact h
  · exact .inl h
theorem Dat.same {H H' : Hp} (s : Same H H') {l : Bool} {a : Addr} {us : List (Key × V)} (h : Dat H l a us) : Dat H' l a us := by
  unfold Dat at h ⊢
  by_cases e : l = true
  · rw [if_pos e] at h ⊢
    exact Same.rd s h
  · rw [if_neg e] at h ⊢
    exact s _ _ h
mutual
def Rep (H : Hp) : Tv → V → Prop
  | .int i, v => v = .int i
  | .str s, v => v = .str s
  | .bl b, v => v = .bl b
  | .non, v => v = .non
  | .tup xs, v => ∃ a us, v = .ref a ∧ H a = some (.tup us) ∧ RepL H xs us
  | .lst xs, v => ∃ a us, v = .ref a ∧ H a = some (.lst us) ∧ RepL H xs us
  | .dic l ks ts, v => ∃ a us, v = .ref a ∧ Dat H l a us ∧ us.map (·.1) = ks ∧ RepL H ts (us.map (·.2))
  | .ext S, v => S.R H v
def RepL (H : Hp) : List Tv → List V → Prop
  | [], us => us = []
  | x :: xs, us => ∃ u r, us = u :: r ∧ Rep H x u ∧ RepL H xs r
end
mutual
theorem Rep.mono {H H' : Hp} (s : Same H H') : ∀ {t : Tv} {v : V}, Rep H t v → Rep H' t v
  | .int _, _, h => h
  | .str _, _, h => h
  | .bl _, _, h => h
  | .non, _, h => h
  | .tup xs, _, h => by
    obtain ⟨a, us, e, h1, h2⟩ := h
    exact ⟨a, us, e, s _ _ h1, RepL.mono s h2⟩
  | .lst xs, _, h => by
    obtain ⟨a, us, e, h1, h2⟩ := h
    exact ⟨a, us, e, s _ _ h1, RepL.mono s h2⟩
  | .dic l ks ts, _, h => by
    obtain ⟨a, us, e, h1, h2, h3⟩ := h
    exact ⟨a, us, e, h1.same s, h2, RepL.mono s h3⟩
  | .ext S, _, h => S.mono (Sm.of s) h
theorem RepL.mono {H H' : Hp} (s : Same H H') : ∀ {ts : List Tv} {vs : List V}, RepL H ts vs → RepL H' ts vs
  | [], _, h => h
  | x :: xs, _, h => by
    obtain ⟨u, r, e, h1, h2⟩ := h
    exact ⟨u, r, e, Rep.mono s h1, RepL.mono s h2⟩
end
mutual
/-- what is left of it while some dict may be locked -/
def Tv.fz : Tv → Tv
  | .tup xs => .tup (fzL xs)
  | .lst xs => .lst (fzL xs)
  | .dic _ ks ts => .dic true ks (fzL ts)
  | .int i => .int i
  | .str s => .str s
  | .bl b => .bl b
  | .non => .non
  | .ext S => .ext S
def fzL : List Tv → List Tv
  | [] => []
  | x :: xs => x.fz :: fzL xs
end
mutual
theorem Rep.fz {H H' : Hp} (s : Sm H H') : ∀ {t : Tv} {v : V}, Rep H t v → Rep H' t.fz v
  | .int _, _, h => by simpa [Tv.fz, Rep] using h
  | .str _, _, h => by simpa [Tv.fz, Rep] using h
  | .bl _, _, h => by simpa [Tv.fz, Rep] using h
  | .non, _, h => by simpa [Tv.fz, Rep] using h
  | .tup xs, _, h => by
    obtain ⟨a, us, e, h1, h2⟩ := h
    rw [Tv.fz]
    exact ⟨a, us, e, s.tup h1, RepL.fz s h2⟩
  | .lst xs, _, h => by
    obtain ⟨a, us, e, h1, h2⟩ := h
    rw [Tv.fz]
    exact ⟨a, us, e, s.lst h1, RepL.fz s h2⟩
  | .dic l ks ts, _, h => by
    obtain ⟨a, us, e, h1, h2, h3⟩ := h
    rw [Tv.fz]
    exact ⟨a, us, e, (by unfold Dat; rw [if_pos rfl]; exact s.rd h1.rd), h2, RepL.fz s h3⟩
  | .ext S, _, h => by
    rw [Tv.fz]
    exact S.mono s h
theorem RepL.fz {H H' : Hp} (s : Sm H H') : ∀ {ts : List Tv} {vs : List V}, RepL H ts vs → RepL H' (fzL ts) vs
  | [], _, h => h
  | x :: xs, _, h => by
    obtain ⟨u, r, e, h1, h2⟩ := h
    exact ⟨u, r, e, Rep.fz s h1, RepL.fz s h2⟩
end
theorem Dat.tk {H : Hp} {l : Bool} {a : Addr} {us : List (Key × V)} (h : Dat H l a us) : Dat (kt H) l a us := by
  unfold Dat at h ⊢
  by_cases e : l = true
  · rw [if_pos e] at h ⊢
    rcases h with h | ⟨x, h⟩
    · exact .inl (kt_at h fun _ z => nomatch z)
    · exact .inr ⟨x, kt_at h fun _ z => nomatch z⟩
  · rw [if_neg e] at h ⊢
    exact kt_at h fun _ z => nomatch z
mutual
theorem Rep.tk {H : Hp} : ∀ {t : Tv} {v : V}, Rep H t v → Rep (kt H) t v
  | .int _, _, h => h
  | .str _, _, h => h
  | .bl _, _, h => h
  | .non, _, h => h
  | .tup xs, _, h => by
    obtain ⟨a, us, e, h1, h2⟩ := h
    exact ⟨a, us, e, kt_at h1 (fun _ z => nomatch z), RepL.tk h2⟩
  | .lst xs, _, h => by
    obtain ⟨a, us, e, h1, h2⟩ := h
    exact ⟨a, us, e, kt_at h1 (fun _ z => nomatch z), RepL.tk h2⟩
  | .dic l ks ts, _, h => by
    obtain ⟨a, us, e, h1, h2, h3⟩ := h
    exact ⟨a, us, e, h1.tk, h2, RepL.tk h3⟩
  | .ext S, _, h => S.tk h
theorem RepL.tk {H : Hp} : ∀ {ts : List Tv} {vs : List V}, RepL H ts vs → RepL (kt H) ts vs
  | [], _, h => h
  | x :: xs, _, h => by
    obtain ⟨u, r, e, h1, h2⟩ := h
    exact ⟨u, r, e, Rep.tk h1, RepL.tk h2⟩
end
theorem RepL.len {H : Hp} : ∀ {ts : List Tv} {vs : List V}, RepL H ts vs → vs.length = ts.length
  | [], _, h => by rw [show _ = [] from h]; rfl
  | x :: xs, _, h => by
    obtain ⟨u, r, rfl, h1, h2⟩ := h
    rw [List.length_cons, List.length_cons, RepL.len h2]
theorem RepL.get {H : Hp} : ∀ {ts : List Tv} {vs : List V}, RepL H ts vs → ∀ (i : Nat) (t : Tv), ts[i]? = some t → ∃ v, vs[i]? = some v ∧ Rep H t v
  | [], _, h, i, t, e => by simp at e
  | x :: xs, _, h, i, t, e => by
    obtain ⟨u, r, rfl, h1, h2⟩ := h
    cases i with
    | zero => exact ⟨u, rfl, by simp at e; subst e; exact h1⟩
    | succ n =>
      obtain ⟨v, e1, e2⟩ := RepL.get h2 n t (by simpa using e)
      exact ⟨v, by simpa using e1, e2⟩
theorem RepL.app {H : Hp} : ∀ {ts us : List Tv} {vs ws : List V}, RepL H ts vs → RepL H us ws → RepL H (ts ++ us) (vs ++ ws)
  | [], _, _, _, h, k => by rw [show _ = [] from h]; exact k
  | x :: xs, _, _, _, h, k => by
    obtain ⟨u, r, rfl, h1, h2⟩ := h
    exact ⟨u, r ++ _, rfl, h1, RepL.app h2 k⟩
theorem RepL.one {H : Hp} {t : Tv} {v : V} (h : Rep H t v) : RepL H [t] [v] := ⟨v, [], rfl, h, rfl⟩
theorem RepL.drop {H : Hp} : ∀ {ts : List Tv} {vs : List V} (n : Nat), RepL H ts vs → RepL H (ts.drop n) (vs.drop n)
  | _, _, 0, h => h
  | [], _, n + 1, h => by rw [show _ = [] from h]; rfl
  | x :: xs, _, n + 1, h => by
    obtain ⟨u, r, rfl, h1, h2⟩ := h
    exact RepL.drop n h2
theorem RepL.take {H : Hp} : ∀ {ts : List Tv} {vs : List V} (n : Nat), RepL H ts vs → RepL H (ts.take n) (vs.take n)
  | _, _, 0, h => rfl
  | [], _, n + 1, h => by rw [show _ = [] from h]; rfl
  | x :: xs, _, n + 1, h => by
    obtain ⟨u, r, rfl, h1, h2⟩ := h
    exact ⟨u, r.take n, rfl, h1, RepL.take n h2⟩
theorem RepL.set {H : Hp} {t : Tv} {v : V} (hv : Rep H t v) : ∀ {ts : List Tv} {vs : List V} (n : Nat), RepL H ts vs → RepL H (ts.set n t) (vs.set n v)
  | [], _, n, h => by rw [show _ = [] from h]; exact rfl
  | x :: xs, _, 0, h => by
    obtain ⟨u, r, rfl, h1, h2⟩ := h
    exact ⟨v, r, rfl, hv, h2⟩
  | x :: xs, _, n + 1, h => by
    obtain ⟨u, r, rfl, h1, h2⟩ := h
    exact ⟨u, r.set n v, rfl, h1, RepL.set hv n h2⟩
theorem RepL.rev {H : Hp} : ∀ {ts : List Tv} {vs : List V}, RepL H ts vs → RepL H ts.reverse vs.reverse
  | [], _, h => by rw [show _ = [] from h]; rfl
  | x :: xs, _, h => by
    obtain ⟨u, r, rfl, h1, h2⟩ := h
    rw [List.reverse_cons, List.reverse_cons]
    exact RepL.app (RepL.rev h2) (RepL.one h1)
theorem RepL.mem {H : Hp} {ts : List Tv} {vs : List V} (h : RepL H ts vs) {v : V} (hv : v ∈ vs) : ∃ t ∈ ts, Rep H t v := by
  obtain ⟨i, hi⟩ := List.mem_iff_getElem?.mp hv
  have hl : i < ts.length := by rw [← h.len]; exact (List.getElem?_eq_some_iff.mp hi).1
  obtain ⟨v', e, r⟩ := h.get i ts[i] (List.getElem?_eq_getElem hl)
  rw [hi] at e
  cases e
  exact ⟨_, List.getElem_mem hl, r⟩
theorem RepL.at {H : Hp} {ts : List Tv} {vs : List V} (h : RepL H ts vs) {i : Int} {t : Tv} (e : atI ts i = some t) : ∃ v, atI vs i = some v ∧ Rep H t v := by
  unfold atI at e ⊢
  rw [h.len]
  cases q : ixN ts.length i with
  | none => rw [q] at e; cases e
  | some j => rw [q] at e; exact h.get j t e
theorem RepL.ints {H : Hp} {ns : List Int} {vs : List V} (h : RepL H (ns.map Tv.int) vs) : vs = ns.map V.int := by
  induction ns generalizing vs with
  | nil => exact h
  | cons n r ih =>
    obtain ⟨u, w, rfl, h1, h2⟩ := h
    rw [ih h2]
    cases h1
    rfl
theorem RepL.strs {H : Hp} {ns : List Str} {vs : List V} (h : RepL H (ns.map Tv.str) vs) : vs = ns.map V.str := by
  induction ns generalizing vs with
  | nil => exact h
  | cons n r ih =>
    obtain ⟨u, w, rfl, h1, h2⟩ := h
    rw [ih h2]
    cases h1
    rfl
theorem RepL.of_ints {H : Hp} : ∀ (ns : List Int), RepL H (ns.map Tv.int) (ns.map V.int)
  | [] => rfl
  | n :: r => ⟨_, _, rfl, rfl, RepL.of_ints r⟩
theorem RepL.of_strs {H : Hp} : ∀ (ns : List Str), RepL H (ns.map Tv.str) (ns.map V.str)
  | [] => rfl
  | n :: r => ⟨_, _, rfl, rfl, RepL.of_strs r⟩
/-! ### the box, the steps -/
abbrev Bx := Option (Addr × Addr)
def bxs : Bx → List Addr
  | none => []
  | some (b, c) => [b, c]
def BxOk (B : Bx) (H : Hp) : Prop := ∀ b c, B = some (b, c) → BoxAt b c H
theorem BxOk.st {B : Bx} {H : Hp} (h : BxOk B H) {a : Addr} (ha : a ∈ bxs B) : ∃ o, H a = some o := by
  rcases B with _ | ⟨b, c⟩
  · cases ha
  · rcases List.mem_cons.mp ha with rfl | ha
    · exact (h _ _ rfl).b
    · cases List.mem_singleton.mp ha
      exact (h _ _ rfl).c
theorem BxOk.nin {B : Bx} {H : Hp} (h : BxOk B H) {a : Addr} (ha : H a = none) : a ∉ bxs B := fun hm => by
  obtain ⟨o, e⟩ := h.st hm
  rw [ha] at e
  cases e
/-- what stood stays, the box apart -/
def Stay (B : Bx) (H H' : Hp) : Prop := ∀ a o, H a = some o → a ∉ bxs B → H' a = some o
theorem Stay.refl (B : Bx) (H : Hp) : Stay B H H := fun _ _ h _ => h
theorem Stay.trans {B : Bx} {H H1 H2 : Hp} (a : Stay B H H1) (b : Stay B H1 H2) : Stay B H H2 := fun x o h n => b x o (a x o h n) n
theorem Stay.of {B : Bx} {H H' : Hp} (s : Same H H') : Stay B H H' := fun a o h _ => s a o h
theorem Stay.free {B : Bx} {H H' : Hp} (s : Stay B H H') (b : BxOk B H') {a : Addr} (h : H' a = none) : H a = none := by
  cases e : H a with
  | none => rfl
  | some o =>
    have := s a o e (b.nin h)
    rw [h] at this
    cases this
theorem BxOk.same {B : Bx} {H H' : Hp} (h : BxOk B H) (s : Same H H') : BxOk B H' := fun b c e => (h b c e).same s
abbrev kn (B : Bx) (O : List Addr) (H : Hp) : Hp := kt (mn (O ++ bxs B) H)
theorem kn_eq {B : Bx} {O : List Addr} {H : Hp} {a : Addr} (h1 : a ∉ O) (h2 : a ∉ bxs B) : mn (O ++ bxs B) H a = H a := mn_at fun h => by
  rcases List.mem_append.mp h with h | h
  · exact h1 h
  · exact h2 h
theorem kn_at {B : Bx} {O : List Addr} {H : Hp} {a : Addr} {o : HO} (h1 : a ∉ O) (h2 : a ∉ bxs B) (h : H a = some o) (n : NT o := by exact fun _ z => nomatch z) : kn B O H a = some o := kt_at (by rw [kn_eq h1 h2]; exact h) n
theorem kn_inv {B : Bx} {O : List Addr} {H : Hp} {a : Addr} {o : HO} (h : kn B O H a = some o) : H a = some o ∧ a ∉ O ∧ a ∉ bxs B := by
  have h := (kt_sub h).1
  by_cases hm : a ∈ O ++ bxs B
  · rw [mn_in hm] at h
    cases h
  · rw [mn_at hm] at h
    exact ⟨h, fun x => hm (List.mem_append_left _ x), fun x => hm (List.mem_append_right _ x)⟩
theorem kn_nt {B : Bx} {O : List Addr} {H : Hp} {a : Addr} {o : HO} (h : kn B O H a = some o) : NT o := (kt_sub h).2
/-- hidden more, but nothing that was known -/
theorem kn_sm {B : Bx} {O O' : List Addr} {H H' : Hp} (s : Stay B H H') (ho : ∀ a ∈ O', a ∈ O ∨ H a = none) : Same (kn B O H) (kn B O' H') := fun a o h => by
  obtain ⟨h1, h2, h3⟩ := kn_inv h
  exact kn_at (fun hm => by
    rcases ho a hm with h | h
    · exact h2 h
    · rw [h] at h1; cases h1) h3 (s a o h1 h3) (kn_nt h)
theorem kn_all {B : Bx} {O : List Addr} {H : Hp} : Same (kn B O H) H := fun a o h => (kn_inv h).1
theorem kn_less {B : Bx} {O O' : List Addr} {H : Hp} (h : ∀ a ∈ O', a ∈ O) : Same (kn B O H) (kn B O' H) := kn_sm (Stay.refl B H) fun a ha => .inl (h a ha)
/-- a list or a dict -/
def LD (o : HO) : Prop := (∃ xs, o = .lst xs) ∨ ∃ kvs, o = .dK kvs
structure Wl (B : Bx) (O0 O : List Addr) (Hs Kb H : Hp) : Prop where
  kb : Same Kb (kn B O H)
  hh : Stay B Hs H
  bx : BxOk B H
  bs : BxOk B Hs
  o0 : ∀ a ∈ O0, a ∈ O
  s0 : ∀ a ∈ O0, ∃ o, Hs a = some o
  on : ∀ a ∈ O, a ∈ O0 ∨ Hs a = none
  st : ∀ a ∈ O, ∃ o, H a = some o
  ob : ∀ a ∈ O, a ∉ bxs B
  ld : ∀ a ∈ O, ∀ o, H a = some o → LD o
theorem Wl.go {B : Bx} {O0 O : List Addr} {Hs Kb H H' : Hp} (W : Wl B O0 O Hs Kb H) (s : Stay B H H') (b : BxOk B H') : Wl B O0 O Hs Kb H' :=
  ⟨W.kb.trans (kn_sm s fun _ h => .inl h), W.hh.trans s, b, W.bs, W.o0, W.s0, W.on, fun a ha => by obtain ⟨o, e⟩ := W.st a ha; exact ⟨o, s a o e (W.ob a ha)⟩, W.ob, fun a ha o h => by
    obtain ⟨o', e⟩ := W.st a ha
    have := s a o' e (W.ob a ha)
    rw [h] at this
    cases this
    exact W.ld a ha _ e⟩
/-! ### slots -/
inductive Sl where
  | any
  | val (t : Tv)
  | own (xs : List Tv)
  | owd (ks : List Key) (ts : List Tv)
  | box
  | lkd (d : Addr) (ks : List Key) (ts : List Tv)
  | pvd (K : Hp) (v : V) (t : Tv)
  | odl (as : List Addr) (ks : List Key) (xss : List (List Tv))
def Sl.isOwn : Sl → Bool
  | .own _ => true
  | .owd _ _ => true
  | .odl _ _ _ => true
  | _ => false
/-- the inner lists of an own dict of own lists -/
def Sl.ads : Sl → List Addr
  | .odl as _ _ => as
  | _ => []
theorem Sl.ads_own {s : Sl} {a : Addr} (h : a ∈ s.ads) : s.isOwn = true := by
  cases s <;> first | rfl | cases h
def OwL (B : Bx) (O : List Addr) (Hs H : Hp) (as : List Addr) (xss : List (List Tv)) : Prop := as.Nodup ∧ as.length = xss.length ∧ ∀ (i : Nat) (b : Addr) (xs : List Tv), as[i]? = some b → xss[i]? = some xs → b ∈ O ∧ Hs b = none ∧ ∃ ws, H b = some (.lst ws) ∧ RepL (kn B O H) xs ws
theorem OwL.of {B : Bx} {O O' : List Addr} {Hs Hs' H H' : Hp} {as : List Addr} {xss : List (List Tv)} (h : OwL B O Hs H as xss) (k : ∀ (b : Addr) (xs : List Tv), b ∈ as → b ∈ O → Hs b = none → ∀ ws, H b = some (.lst ws) → RepL (kn B O H) xs ws → b ∈ O' ∧ Hs' b = none ∧ ∃ ws, H' b = some (.lst ws) ∧ RepL (kn B O' H') xs ws) : OwL B O' Hs' H' as xss :=
  ⟨h.1, h.2.1, fun i b xs e1 e2 => by obtain ⟨q1, q2, ws, q3, q4⟩ := h.2.2 i b xs e1 e2; exact k b xs (List.mem_of_getElem? e1) q1 q2 ws q3 q4⟩
theorem OwL.mem {B : Bx} {O : List Addr} {Hs H : Hp} {as : List Addr} {xss : List (List Tv)} (h : OwL B O Hs H as xss) {b : Addr} (hb : b ∈ as) : b ∈ O ∧ Hs b = none ∧ ∃ ws, H b = some (.lst ws) := by
  obtain ⟨i, hi⟩ := List.mem_iff_getElem?.mp hb
  have hl : i < xss.length := by rw [← h.2.1]; exact (List.getElem?_eq_some_iff.mp hi).1
  obtain ⟨q1, q2, ws, q3, _⟩ := h.2.2 i b _ hi (List.getElem?_eq_getElem hl)
  exact ⟨q1, q2, ws, q3⟩
def SlOk (B : Bx) (O : List Addr) (Hs H : Hp) : Sl → Option V → Prop
  | .any, _ => True
  | .val t, o => ∃ v, o = some v ∧ Rep (kn B O H) t v
  | .own xs, o => ∃ a us, o = some (.ref a) ∧ a ∈ O ∧ Hs a = none ∧ H a = some (.lst us) ∧ RepL (kn B O H) xs us
  | .owd ks ts, o => ∃ a us, o = some (.ref a) ∧ a ∈ O ∧ Hs a = none ∧ H a = some (.dK us) ∧ us.map (·.1) = ks ∧ RepL (kn B O H) ts (us.map (·.2))
  | .box, o => ∃ b c, B = some (b, c) ∧ o = some (.ref b)
  | .lkd d ks ts, o => ∃ us x, o = some (.ref d) ∧ kn B O H d = some (.frz x (.dK us)) ∧ us.map (·.1) = ks ∧ RepL (kn B O H) ts (us.map (·.2))
  | .pvd K v t, o => o = some v ∧ Rep K t v ∧ Rep (kn B O H) t.fz v
  | .odl as ks xss, o => ∃ a us, o = some (.ref a) ∧ a ∈ O ∧ Hs a = none ∧ H a = some (.dK us) ∧ us.map (·.1) = ks ∧ us.map (·.2) = as.map V.ref ∧ OwL B O Hs H as xss
structure Rels (B : Bx) (O : List Addr) (Hs H : Hp) (ss : List Sl) (σ : L2.St) : Prop where
  len : ss.length = σ.length
  at_ : ∀ (i : Nat) s, ss[i]? = some s → ∃ o, σ[i]? = some o ∧ SlOk B O Hs H s o
  dis : ∀ (i j : Nat) s t a, i ≠ j → ss[i]? = some s → ss[j]? = some t → s.isOwn = true → t.isOwn = true → σ[i]? = some (some (.ref a)) → σ[j]? = some (some (.ref a)) → False
  din : ∀ (i j : Nat) s t a, i ≠ j → ss[i]? = some s → ss[j]? = some t → a ∈ s.ads → (t.isOwn = true → σ[j]? ≠ some (some (.ref a))) ∧ a ∉ t.ads
/-- own slots that come of own slots -/
theorem Rels.sub {B : Bx} {O O' : List Addr} {Hs Hs' H H' : Hp} {ss ss' : List Sl} {σ σ' : L2.St} (R : Rels B O Hs H ss σ) (hl : ss'.length = σ'.length) (ha : ∀ (i : Nat) s, ss'[i]? = some s → ∃ o, σ'[i]? = some o ∧ SlOk B O' Hs' H' s o) (f : ∀ (i : Nat) s, ss'[i]? = some s → s.isOwn = true → ∃ s', ss[i]? = some s' ∧ s'.isOwn = true ∧ (∀ a ∈ s.ads, a ∈ s'.ads) ∧ σ'[i]? = σ[i]?) : Rels B O' Hs' H' ss' σ' :=
  ⟨hl, ha, fun i j s t a hne e1 e2 o1 o2 h1 h2 => by
    obtain ⟨s', f1, f2, f3, f4⟩ := f i s e1 o1
    obtain ⟨t', g1, g2, g3, g4⟩ := f j t e2 o2
    exact R.dis i j s' t' a hne f1 g1 f2 g2 (by rw [← f4]; exact h1) (by rw [← g4]; exact h2), fun i j s t a hne e1 e2 h => by
    obtain ⟨s', f1, f2, f3, f4⟩ := f i s e1 (Sl.ads_own h)
    refine ⟨fun o => ?_, fun hm => ?_⟩
    · obtain ⟨t', g1, g2, g3, g4⟩ := f j t e2 o
      rw [g4]
      exact (R.din i j s' t' a hne f1 g1 (f3 a h)).1 g2
    · obtain ⟨t', g1, g2, g3, g4⟩ := f j t e2 (Sl.ads_own hm)
      exact (R.din i j s' t' a hne f1 g1 (f3 a h)).2 (g3 a hm)⟩
theorem SlOk.go {B : Bx} {O O' : List Addr} {Hs H H' : Hp} {s : Sl} {o : Option V} (h : SlOk B O Hs H s o) (ob : ∀ a ∈ O, a ∉ bxs B) (sp : Stay B H H') (h1 : ∀ a ∈ O, a ∈ O') (h2 : ∀ a ∈ O', a ∈ O ∨ H a = none) : SlOk B O' Hs H' s o := by
  have sm := kn_sm (O := O) (O' := O') sp h2
  cases s with
  | any => trivial
  | val t => obtain ⟨v, e, r⟩ := h; exact ⟨v, e, r.mono sm⟩
  | own xs => obtain ⟨a, us, e, m, n, q, r⟩ := h; exact ⟨a, us, e, h1 a m, n, sp a _ q (ob a m), r.mono sm⟩
  | owd ks ts => obtain ⟨a, us, e, m, n, q, k, r⟩ := h; exact ⟨a, us, e, h1 a m, n, sp a _ q (ob a m), k, r.mono sm⟩
  | box => exact h
  | lkd d ks ts => obtain ⟨us, x, e, q, k, r⟩ := h; exact ⟨us, x, e, sm _ _ q, k, r.mono sm⟩
  | pvd K v t => exact ⟨h.1, h.2.1, h.2.2.mono sm⟩
  | odl as ks xss =>
    obtain ⟨a, us, e, m, n, q, k, k2, w⟩ := h
    exact ⟨a, us, e, h1 a m, n, sp a _ q (ob a m), k, k2, w.of fun b xs _ mb nb ws hb r => ⟨h1 b mb, nb, ws, sp b _ hb (ob b mb), r.mono sm⟩⟩
theorem Rels.go {B : Bx} {O O' : List Addr} {Hs H H' : Hp} {ss : List Sl} {σ : L2.St} (R : Rels B O Hs H ss σ) (ob : ∀ a ∈ O, a ∉ bxs B) (sp : Stay B H H') (h1 : ∀ a ∈ O, a ∈ O') (h2 : ∀ a ∈ O', a ∈ O ∨ H a = none) : Rels B O' Hs H' ss σ :=
  ⟨R.len, fun i s e => by obtain ⟨o, e1, k⟩ := R.at_ i s e; exact ⟨o, e1, k.go ob sp h1 h2⟩, R.dis, R.din⟩
theorem Rels.go0 {B : Bx} {O0 O : List Addr} {Hs Kb H H' : Hp} {ss : List Sl} {σ : L2.St} (R : Rels B O Hs H ss σ) (W : Wl B O0 O Hs Kb H) (sp : Stay B H H') : Rels B O Hs H' ss σ := R.go W.ob sp (fun _ h => h) fun _ h => .inl h
/-! ### results of expressions -/
inductive Sx where
  | v (t : Tv)
  | n (xs : List Tv)
  | nd (ks : List Key) (ts : List Tv)
  | o (i : Nat) (xs : List Tv)
  | od (i : Nat) (ks : List Key) (ts : List Tv)
  | ol (i : Nat) (as : List Addr) (ks : List Key) (xss : List (List Tv))
  | b
  | ty (n : String)
  | cl (C : Addr)
def XR (B : Bx) (O : List Addr) (H0 H : Hp) (ss : List Sl) (σ : L2.St) : Sx → V → Prop
  | .v t, v => Rep (kn B O H) t v
  | .n xs, v => ∃ a us, v = .ref a ∧ H0 a = none ∧ H a = some (.lst us) ∧ RepL (kn B (a :: O) H) xs us
  | .nd ks ts, v => ∃ a us, v = .ref a ∧ H0 a = none ∧ H a = some (.dK us) ∧ us.map (·.1) = ks ∧ RepL (kn B (a :: O) H) ts (us.map (·.2))
  | .o i xs, v => σ[i]? = some (some v) ∧ ss[i]? = some (.own xs)
  | .od i ks ts, v => σ[i]? = some (some v) ∧ ss[i]? = some (.owd ks ts)
  | .ol i as ks xss, v => σ[i]? = some (some v) ∧ ss[i]? = some (.odl as ks xss)
  | .b, v => ∃ b c, B = some (b, c) ∧ v = .ref b
  | .ty n, v => v = .ty n
  | .cl C, v => v = .ref C
def Sx.tv : Sx → Option Tv
  | .v t => some t
  | .n xs => some (.lst xs)
  | .nd ks ts => some (.dic false ks ts)
  | _ => none
def Sx.sq : Sx → Option (List Tv)
  | .v (.lst xs) => some xs
  | .n xs => some xs
  | .o _ xs => some xs
  | _ => none
def Sx.dq : Sx → Option (List Key × List Tv)
  | .v (.dic _ ks ts) => some (ks, ts)
  | .nd ks ts => some (ks, ts)
  | .od _ ks ts => some (ks, ts)
  | _ => none
section
variable {B : Bx} {O0 O : List Addr} {Hs Kb H0 H H1 H2 : Hp} {ss : List Sl} {σ : L2.St} {x : Sx} {v : V}
theorem kn_new {a : Addr} (W : Wl B O0 O Hs Kb H0) (s : Stay B H0 H) (ha : H0 a = none) {o : HO} (h : H a = some o) (n : NT o := by exact fun _ z => nomatch z) : kn B O H a = some o := kn_at (fun h => by
  obtain ⟨o, e⟩ := W.st a h
  rw [ha] at e
  cases e) (W.bx.nin ha) h n
theorem XR.go (W : Wl B O0 O Hs Kb H0) (s1 : Stay B H0 H1) (s2 : Stay B H1 H2) (h : XR B O H0 H1 ss σ x v) : XR B O H0 H2 ss σ x v := by
  cases x with
  | v t => exact Rep.mono (kn_sm s2 fun _ h => .inl h) h
  | n xs =>
    obtain ⟨a, us, e, n, q, r⟩ := h
    exact ⟨a, us, e, n, s2 a _ q (W.bx.nin n), r.mono (kn_sm s2 fun _ h => .inl h)⟩
  | nd ks ts =>
    obtain ⟨a, us, e, n, q, k, r⟩ := h
    exact ⟨a, us, e, n, s2 a _ q (W.bx.nin n), k, r.mono (kn_sm s2 fun _ h => .inl h)⟩
  | o i xs => exact h
  | od i ks ts => exact h
  | ol i as ks xss => exact h
  | b => exact h
  | ty n => exact h
  | cl C => exact h
theorem XR.back (b : BxOk B H1) (s : Stay B H0 H1) (h : XR B O H1 H2 ss σ x v) : XR B O H0 H2 ss σ x v := by
  cases x with
  | v t => exact h
  | n xs =>
    obtain ⟨a, us, e, n, q⟩ := h
    exact ⟨a, us, e, s.free b n, q⟩
  | nd ks ts =>
    obtain ⟨a, us, e, n, q⟩ := h
    exact ⟨a, us, e, s.free b n, q⟩
  | o i xs => exact h
  | od i ks ts => exact h
  | ol i as ks xss => exact h
  | b => exact h
  | ty n => exact h
  | cl C => exact h
theorem XR.rep {t : Tv} (W : Wl B O0 O Hs Kb H0) (s : Stay B H0 H) (e : x.tv = some t) (h : XR B O H0 H ss σ x v) : Rep (kn B O H) t v := by
  cases x with
  | v u => cases e; exact h
  | n xs =>
    cases e
    obtain ⟨a, us, e, n, q, r⟩ := h
    exact ⟨a, us, e, kn_new W s n q, r.mono (kn_less fun _ h => List.mem_cons_of_mem _ h)⟩
  | nd ks ts =>
    cases e
    obtain ⟨a, us, e, n, q, k, r⟩ := h
    exact ⟨a, us, e, (show kn B O H a = _ from kn_new W s n q), k, r.mono (kn_less fun _ h => List.mem_cons_of_mem _ h)⟩
  | _ => cases e
theorem XR.seq {xs : List Tv} (W : Wl B O0 O Hs Kb H0) (s : Stay B H0 H) (R : Rels B O Hs H ss σ) (e : x.sq = some xs) (h : XR B O H0 H ss σ x v) : ∃ a us, v = .ref a ∧ H a = some (.lst us) ∧ RepL (kn B O H) xs us := by
  cases x with
  | v u =>
    cases u <;> cases e
    obtain ⟨a, us, e, q, r⟩ := h
    exact ⟨a, us, e, (kn_inv q).1, r⟩
  | n ys =>
    cases e
    obtain ⟨a, us, e, n, q, r⟩ := h
    exact ⟨a, us, e, q, r.mono (kn_less fun _ h => List.mem_cons_of_mem _ h)⟩
  | nd ks ts => cases e
  | o i ys =>
    cases e
    obtain ⟨h1, h2⟩ := h
    obtain ⟨o, e1, a, us, e2, m, n, q, r⟩ := R.at_ i _ h2
    rw [h1] at e1
    cases e1
    cases e2
    exact ⟨a, us, rfl, q, r⟩
  | _ => cases e
theorem XR.dic {ks : List Key} {ts : List Tv} (W : Wl B O0 O Hs Kb H0) (s : Stay B H0 H) (R : Rels B O Hs H ss σ) (e : x.dq = some (ks, ts)) (h : XR B O H0 H ss σ x v) : ∃ a us, v = .ref a ∧ Rd H a (.dK us) ∧ us.map (·.1) = ks ∧ RepL (kn B O H) ts (us.map (·.2)) := by
  cases x with
  | v u =>
    cases u <;> cases e
    obtain ⟨a, us, e, q, k, r⟩ := h
    exact ⟨a, us, e, Same.rd kn_all q.rd, k, r⟩
  | n ys => cases e
  | nd ks ts =>
    cases e
    obtain ⟨a, us, e, n, q, k, r⟩ := h
    exact ⟨a, us, e, .inl q, k, r.mono (kn_less fun _ h => List.mem_cons_of_mem _ h)⟩
  | o i ys => cases e
  | od i ks ts =>
    cases e
    obtain ⟨h1, h2⟩ := h
    obtain ⟨o, e1, a, us, e2, m, n, q, k, r⟩ := R.at_ i _ h2
    rw [h1] at e1
    cases e1
    cases e2
    exact ⟨a, us, rfl, .inl q, k, r⟩
  | _ => cases e
end
end Pl

set_option Elab.async false
set_option linter.all false
set_option maxRecDepth 100000
set_option maxHeartbeats 4000000
/-! The pure layer: expressions. -/
namespace Pl
open PySem L2
abbrev PX := List Sl → (Sx → Prop) → Prop
abbrev PTx := List Sl → (Bool → Prop) → Prop
abbrev PAx := List Sl → (List Sx → Prop) → Prop
def XRL (B : Bx) (O : List Addr) (H0 H : Hp) (ss : List Sl) (σ : L2.St) : List Sx → List V → Prop
  | [], vs => vs = []
  | x :: xs, vs => ∃ v r, vs = v :: r ∧ XR B O H0 H ss σ x v ∧ XRL B O H0 H ss σ xs r
/-- the frame in which a reading runs -/
structure Ct (fw : Bool) (B : Bx) (O0 O : List Addr) (Hs Kb H : Hp) (ss : List Sl) (σ : L2.St) : Prop where
  w : Wl B O0 O Hs Kb H
  r : Rels B O Hs H ss σ
  fl : fw = true → O0 = [] ∧ O = []
variable {fw : Bool}
theorem Ct.go {B : Bx} {O0 O : List Addr} {Hs Kb H H' : Hp} {ss : List Sl} {σ : L2.St} (c : Ct fw B O0 O Hs Kb H ss σ) (s : Stay B H H') (b : BxOk B H') : Ct fw B O0 O Hs Kb H' ss σ := ⟨c.w.go s b, c.r.go0 c.w s, c.fl⟩
class LE (fw : Bool) (te : TE) (pe : outParam PX) : Prop where
  run : ∀ {B : Bx} {O0 O : List Addr} {Hs Kb H : Hp} {ss : List Sl} {σ : L2.St} {Q : VK} {Qp : Sx → Prop}, Ct fw B O0 O Hs Kb H ss σ → pe ss Qp → (∀ x H' v, Qp x → Stay B H H' → BxOk B H' → XR B O H H' ss σ x v → Q v H') → te σ H Q
class LT (fw : Bool) (tt : TT) (pt : outParam PTx) : Prop where
  run : ∀ {B : Bx} {O0 O : List Addr} {Hs Kb H : Hp} {ss : List Sl} {σ : L2.St} {Q : Bool → Hp → Prop} {Qp : Bool → Prop}, Ct fw B O0 O Hs Kb H ss σ → pt ss Qp → (∀ b H', Qp b → Stay B H H' → BxOk B H' → Q b H') → tt σ H Q
class LA (fw : Bool) (ta : TA) (pa : outParam PAx) : Prop where
  run : ∀ {B : Bx} {O0 O : List Addr} {Hs Kb H : Hp} {ss : List Sl} {σ : L2.St} {Q : List V → Hp → Prop} {Qp : List Sx → Prop}, Ct fw B O0 O Hs Kb H ss σ → pa ss Qp → (∀ xs H' vs, Qp xs → Stay B H H' → BxOk B H' → XRL B O H H' ss σ xs vs → Q vs H') → ta σ H Q
/-- what a step on values may do: Hz is where the operands began -/
structure Fin (B : Bx) (O : List Addr) (H : Hp) (ss : List Sl) (σ : L2.St) (Q : VK) (Qp : Sx → Prop) : Prop where
  run : ∀ x H' v, Qp x → Stay B H H' → BxOk B H' → XR B O H H' ss σ x v → Q v H'
class LR (fw : Bool) (r : R2) (pr : outParam (Sx → Sx → (Sx → Prop) → Prop)) : Prop where
  run : ∀ {B : Bx} {O0 O : List Addr} {Hs Kb H0 H : Hp} {ss : List Sl} {σ : L2.St} {Q : VK} {Qp : Sx → Prop} {x y : Sx} {v u : V}, Ct fw B O0 O Hs Kb H0 ss σ → Ct fw B O0 O Hs Kb H ss σ → Stay B H0 H → XR B O H0 H ss σ x v → XR B O H0 H ss σ y u → pr x y Qp → Fin B O H ss σ Q Qp → r v u H Q
class LU (fw : Bool) (r : V → Hp → VK → Prop) (pr : outParam (Sx → (Sx → Prop) → Prop)) : Prop where
  run : ∀ {B : Bx} {O0 O : List Addr} {Hs Kb H0 H : Hp} {ss : List Sl} {σ : L2.St} {Q : VK} {Qp : Sx → Prop} {x : Sx} {v : V}, Ct fw B O0 O Hs Kb H0 ss σ → Ct fw B O0 O Hs Kb H ss σ → Stay B H0 H → XR B O H0 H ss σ x v → pr x Qp → Fin B O H ss σ Q Qp → r v H Q
class LC (fw : Bool) (r : List V → Hp → VK → Prop) (pr : outParam (List Sx → (Sx → Prop) → Prop)) : Prop where
  run : ∀ {B : Bx} {O0 O : List Addr} {Hs Kb H0 H : Hp} {ss : List Sl} {σ : L2.St} {Q : VK} {Qp : Sx → Prop} {xs : List Sx} {vs : List V}, Ct fw B O0 O Hs Kb H0 ss σ → Ct fw B O0 O Hs Kb H ss σ → Stay B H0 H → XRL B O H0 H ss σ xs vs → pr xs Qp → Fin B O H ss σ Q Qp → r vs H Q
section
variable {B : Bx} {O0 O : List Addr} {Hs Kb H0 H H1 H2 : Hp} {ss : List Sl} {σ : L2.St} {x y : Sx} {v u : V} {Q : VK} {Qp : Sx → Prop}
theorem XRL.go (W : Wl B O0 O Hs Kb H0) (s1 : Stay B H0 H1) (s2 : Stay B H1 H2) : ∀ {xs : List Sx} {vs : List V}, XRL B O H0 H1 ss σ xs vs → XRL B O H0 H2 ss σ xs vs
  | [], _, h => h
  | x :: xs, _, h => by
    obtain ⟨v, r, e, h1, h2⟩ := h
    exact ⟨v, r, e, h1.go W s1 s2, h2.go W s1 s2⟩
theorem XRL.back (b : BxOk B H1) (s : Stay B H0 H1) : ∀ {xs : List Sx} {vs : List V}, XRL B O H1 H2 ss σ xs vs → XRL B O H0 H2 ss σ xs vs
  | [], _, h => h
  | x :: xs, _, h => by
    obtain ⟨v, r, e, h1, h2⟩ := h
    exact ⟨v, r, e, h1.back b s, h2.back b s⟩
/-- ends at once with a tree -/
theorem Fin.now {t : Tv} (f : Fin B O H ss σ Q Qp) (b : BxOk B H) (q : Qp (.v t)) (r : Rep (kn B O H) t v) : Q v H := f.run _ _ _ q (Stay.refl B H) b r
/-- a new tuple -/
theorem Fin.tup {ts : List Tv} {us : List V} {p : Addr} (f : Fin B O H ss σ Q Qp) (c : Ct fw B O0 O Hs Kb H ss σ) (q : Qp (.v (.tup ts))) (r : RepL (kn B O H) ts us) (hp : H p = none) : Q (.ref p) (upd H p (.tup us)) := by
  have s : Stay B H (upd H p (.tup us)) := Stay.of (same_upd hp)
  refine f.run _ _ _ q s (c.w.bx.same (same_upd hp)) ⟨p, us, rfl, ?_, r.mono (kn_sm s fun _ h => .inl h)⟩
  exact kn_new c.w s hp upd_same
/-- a new list -/
theorem Fin.lst {ts : List Tv} {us : List V} {p : Addr} (f : Fin B O H ss σ Q Qp) (c : Ct fw B O0 O Hs Kb H ss σ) (q : Qp (.n ts)) (r : RepL (kn B O H) ts us) (hp : H p = none) : Q (.ref p) (upd H p (.lst us)) := by
  have s : Stay B H (upd H p (.lst us)) := Stay.of (same_upd hp)
  exact f.run _ _ _ q s (c.w.bx.same (same_upd hp)) ⟨p, us, rfl, hp, upd_same, r.mono (kn_sm s fun a ha => by
    rcases List.mem_cons.mp ha with rfl | h
    · exact .inr hp
    · exact .inl h)⟩
end
/-! ### names, constants -/
def pVar (i : Nat) : PX := fun ss Q => match ss[i]? with
  | some (.val t) => Q (.v t)
  | some (.own xs) => Q (.o i xs)
  | some (.owd ks ts) => Q (.od i ks ts)
  | some .box => Q .b
  | some (.lkd _ ks ts) => Q (.v (.dic true ks ts))
  | some (.pvd _ _ t) => Q (.v t.fz)
  | some (.odl as ks xss) => Q (.ol i as ks xss)
  | _ => False
instance lVar {i : Nat} : LE fw (tVar i) (pVar i) := ⟨fun {B O0 O Hs Kb H ss σ Q Qp} c h q => by
  unfold pVar at h
  split at h
  · rename_i t e
    obtain ⟨o, e1, v, e2, r⟩ := c.r.at_ _ _ e
    subst e2
    exact ⟨v, e1, q _ _ _ h (Stay.refl _ _) c.w.bx r⟩
  · rename_i xs e
    obtain ⟨o, e1, a, us, e2, r⟩ := c.r.at_ _ _ e
    subst e2
    exact ⟨_, e1, q _ _ _ h (Stay.refl _ _) c.w.bx ⟨e1, e⟩⟩
  · rename_i ks ts e
    obtain ⟨o, e1, a, us, e2, r⟩ := c.r.at_ _ _ e
    subst e2
    exact ⟨_, e1, q _ _ _ h (Stay.refl _ _) c.w.bx ⟨e1, e⟩⟩
  · rename_i e
    obtain ⟨o, e1, b, c', eB, e2⟩ := c.r.at_ _ _ e
    subst e2
    exact ⟨_, e1, q _ _ _ h (Stay.refl _ _) c.w.bx ⟨b, c', eB, rfl⟩⟩
  · rename_i e
    obtain ⟨o, e1, us, x, e2, r1, r2, r3⟩ := c.r.at_ _ _ e
    subst e2
    exact ⟨_, e1, q _ _ _ h (Stay.refl _ _) c.w.bx ⟨_, us, rfl, .inr ⟨x, r1⟩, r2, r3⟩⟩
  · rename_i e
    obtain ⟨o, e1, e2, r1, r2⟩ := c.r.at_ _ _ e
    subst e2
    exact ⟨_, e1, q _ _ _ h (Stay.refl _ _) c.w.bx r2⟩
  · rename_i as ks xss e
    obtain ⟨o, e1, a, us, e2, r⟩ := c.r.at_ _ _ e
    subst e2
    exact ⟨_, e1, q _ _ _ h (Stay.refl _ _) c.w.bx ⟨e1, e⟩⟩
  · exact h.elim⟩
def pC (t : Tv) : PX := fun _ Q => Q (.v t)
instance lInt {i : Int} : LE fw (tC (.int i)) (pC (.int i)) := ⟨fun c h q => q _ _ _ h (Stay.refl _ _) c.w.bx rfl⟩
instance lStr {i : Str} : LE fw (tC (.str i)) (pC (.str i)) := ⟨fun c h q => q _ _ _ h (Stay.refl _ _) c.w.bx rfl⟩
instance lBl {i : Bool} : LE fw (tC (.bl i)) (pC (.bl i)) := ⟨fun c h q => q _ _ _ h (Stay.refl _ _) c.w.bx rfl⟩
instance lNon : LE fw (tC .non) (pC .non) := ⟨fun c h q => q _ _ _ h (Stay.refl _ _) c.w.bx rfl⟩
def pTy (n : String) : PX := fun _ Q => Q (.ty n)
instance lTy {n : String} : LE fw (tC (.ty n)) (pTy n) := ⟨fun c h q => q _ _ _ h (Stay.refl _ _) c.w.bx rfl⟩
def pCl (C : Addr) : PX := fun _ Q => Q (.cl C)
instance lCl {C : Addr} : LE fw (tC (.ref C)) (pCl C) := ⟨fun c h q => q _ _ _ h (Stay.refl _ _) c.w.bx rfl⟩
/-! ### arguments -/
def pNil : PAx := fun _ Q => Q []
def pCons (pe : PX) (pa : PAx) : PAx := fun ss Q => pe ss fun x => pa ss fun xs => Q (x :: xs)
instance lNil : LA fw tNil pNil := ⟨fun c h q => q _ _ _ h (Stay.refl _ _) c.w.bx rfl⟩
instance lCons {te : TE} {ta : TA} {pe : PX} {pa : PAx} [a : LE fw te pe] [b : LA fw ta pa] : LA fw (tCons te ta) (pCons pe pa) := ⟨fun c h q =>
  a.run c h fun x H1 v q1 s1 b1 r1 => b.run (c.go s1 b1) q1 fun xs H2 vs q2 s2 b2 r2 =>
    q _ _ _ q2 (s1.trans s2) b2 ⟨v, vs, rfl, r1.go c.w s1 s2, r2.back b1 s1⟩⟩
/-! ### operators -/
def pOp (pr : Sx → Sx → (Sx → Prop) → Prop) (pa pb : PX) : PX := fun ss Q => pa ss fun x => pb ss fun y => pr x y Q
instance lOp {r : R2} {ta tb : TE} {pa pb : PX} {pr : Sx → Sx → (Sx → Prop) → Prop} [a : LE fw ta pa] [b : LE fw tb pb] [k : LR fw r pr] : LE fw (tOp r ta tb) (pOp pr pa pb) := ⟨fun c h q =>
  a.run c h fun x H1 v q1 s1 b1 r1 => b.run (c.go s1 b1) q1 fun y H2 u q2 s2 b2 r2 =>
    k.run c ((c.go s1 b1).go s2 b2) (s1.trans s2) (r1.go c.w s1 s2) (r2.back b1 s1) q2 ⟨fun z H3 w q3 s3 b3 r3 => q _ _ _ q3 ((s1.trans s2).trans s3) b3 (r3.back b2 (s1.trans s2))⟩⟩
def pUn (pr : Sx → (Sx → Prop) → Prop) (pa : PX) : PX := fun ss Q => pa ss fun x => pr x Q
instance lUn {r : V → Hp → VK → Prop} {ta : TE} {pa : PX} {pr : Sx → (Sx → Prop) → Prop} [a : LE fw ta pa] [k : LU fw r pr] : LE fw (tUn r ta) (pUn pr pa) := ⟨fun c h q =>
  a.run c h fun x H1 v q1 s1 b1 r1 => k.run c (c.go s1 b1) s1 r1 q1 ⟨fun z H3 w q3 s3 b3 r3 => q _ _ _ q3 (s1.trans s3) b3 (r3.back b1 s1)⟩⟩
def pCB (pr : List Sx → (Sx → Prop) → Prop) (pa : PAx) : PX := fun ss Q => pa ss fun xs => pr xs Q
instance lCB {r : List V → Hp → VK → Prop} {ta : TA} {pa : PAx} {pr : List Sx → (Sx → Prop) → Prop} [a : LA fw ta pa] [k : LC fw r pr] : LE fw (tCB r ta) (pCB pr pa) := ⟨fun c h q =>
  a.run c h fun xs H1 vs q1 s1 b1 r1 => k.run c (c.go s1 b1) s1 r1 q1 ⟨fun z H3 w q3 s3 b3 r3 => q _ _ _ q3 (s1.trans s3) b3 (r3.back b1 s1)⟩⟩
def pI (f : Int → Int → Int) : Sx → Sx → (Sx → Prop) → Prop := fun x y Q => match x, y with
  | .v (.int i), .v (.int j) => Q (.v (.int (f i j)))
  | _, _ => False
def pIC (C : Int → Int → Prop) (f : Int → Int → Int) : Sx → Sx → (Sx → Prop) → Prop := fun x y Q => match x, y with
  | .v (.int i), .v (.int j) => C i j ∧ Q (.v (.int (f i j)))
  | _, _ => False
def pIB (f : Int → Int → Bool) : Sx → Sx → (Sx → Prop) → Prop := fun x y Q => match x, y with
  | .v (.int i), .v (.int j) => Q (.v (.bl (f i j)))
  | _, _ => False
instance lI {f : Int → Int → Int} : LR fw (rI0 fun i j => .int (f i j)) (pI f) := ⟨fun {B O0 O Hs Kb H0 H ss σ Q Qp x y v u} c0 c s rx ry h q => by
  unfold pI at h
  split at h
  · cases rx; cases ry
    exact ⟨_, _, rfl, rfl, q.now c.w.bx h rfl⟩
  · exact h.elim⟩
instance lIC {C : Int → Int → Prop} {f : Int → Int → Int} : LR fw (rI C fun i j => .int (f i j)) (pIC C f) := ⟨fun {B O0 O Hs Kb H0 H ss σ Q Qp x y v u} c0 c s rx ry h q => by
  unfold pIC at h
  split at h
  · cases rx; cases ry
    exact ⟨_, _, rfl, rfl, h.1, q.now c.w.bx h.2 rfl⟩
  · exact h.elim⟩
instance lIB {f : Int → Int → Bool} : LR fw (rI0 fun i j => .bl (f i j)) (pIB f) := ⟨fun {B O0 O Hs Kb H0 H ss σ Q Qp x y v u} c0 c s rx ry h q => by
  unfold pIB at h
  split at h
  · cases rx; cases ry
    exact ⟨_, _, rfl, rfl, q.now c.w.bx h rfl⟩
  · exact h.elim⟩
def pNeg : Sx → (Sx → Prop) → Prop := fun x Q => match x with
  | .v (.int i) => Q (.v (.int (-i)))
  | _ => False
instance lNeg : LU fw (rU fun i => .int (-i)) pNeg := ⟨fun {B O0 O Hs Kb H0 H ss σ Q Qp x v} c0 c s rx h q => by
  unfold pNeg at h
  split at h
  · cases rx
    exact ⟨_, rfl, q.now c.w.bx h rfl⟩
  · exact h.elim⟩
/-- == of scalars -/
def Tv.sc : Tv → Option V
  | .int i => some (.int i)
  | .str s => some (.str s)
  | .bl b => some (.bl b)
  | .non => some .non
  | _ => none
theorem Tv.sc_rep {H : Hp} {t : Tv} {v w : V} (e : t.sc = some w) (r : Rep H t v) : v = w := by
  cases t <;> cases e <;> exact r
def eqS (x y : Sx) : Option Bool := match x, y with
  | .v (.int i), .v (.int j) => some (decide (i = j))
  | .v (.str i), .v (.str j) => some (decide (i = j))
  | .v (.bl i), .v (.bl j) => some (decide (i = j))
  | .v .non, .v .non => some true
  | .v (.int _), .v .non => some false
  | .v .non, .v (.int _) => some false
  | .v (.str _), .v .non => some false
  | .v .non, .v (.str _) => some false
  | .v (.int _), .v (.str _) => some false
  | .v (.str _), .v (.int _) => some false
  | _, _ => none
def pEq (neg : Bool) : Sx → Sx → (Sx → Prop) → Prop := fun x y Q => match eqS x y with
  | some b => Q (.v (.bl (neg ^^ b)))
  | none => False
theorem eqS_ok {B : Bx} {O : List Addr} {H0 H : Hp} {ss : List Sl} {σ : L2.St} {x y : Sx} {v u : V} {b : Bool} (h : eqS x y = some b) (rx : XR B O H0 H ss σ x v) (ry : XR B O H0 H ss σ y u) : scal v u = true ∧ decide (v = u) = b := by
  unfold eqS at h
  split at h <;> cases h <;> cases rx <;> cases ry <;> exact ⟨rfl, by simp⟩
instance lEq : LR fw rEq (pEq false) := ⟨fun {B O0 O Hs Kb H0 H ss σ Q Qp x y v u} c0 c s rx ry h q => by
  unfold pEq at h
  split at h
  · rename_i b e
    obtain ⟨h1, h2⟩ := eqS_ok e rx ry
    refine ⟨h1, ?_⟩
    rw [h2]
    exact q.now c.w.bx h (by simp [Rep])
  · exact h.elim⟩
instance lNe : LR fw rNe (pEq true) := ⟨fun {B O0 O Hs Kb H0 H ss σ Q Qp x y v u} c0 c s rx ry h q => by
  unfold pEq at h
  split at h
  · rename_i b e
    obtain ⟨h1, h2⟩ := eqS_ok e rx ry
    refine ⟨h1, ?_⟩
    rw [h2]
    exact q.now c.w.bx h (by simp [Rep])
  · exact h.elim⟩
/-- is None -/
def isNonS : Sx → Option Bool
  | .v .non => some true
  | .v (.ext _) => none
  | .ty _ => none
  | .cl _ => none
  | _ => some false
def pIsN (neg : Bool) : Sx → Sx → (Sx → Prop) → Prop := fun x y Q => match y, isNonS x with
  | .v .non, some b => Q (.v (.bl (neg ^^ b)))
  | _, _ => False
theorem isNonS_ok {B : Bx} {O0 O : List Addr} {Hs Kb H0 H : Hp} {ss : List Sl} {σ : L2.St} {x : Sx} {v : V} {b : Bool} (c : Ct fw B O0 O Hs Kb H ss σ) (h : isNonS x = some b) (rx : XR B O H0 H ss σ x v) : decide (v = .non) = b := by
  cases x with
  | v t =>
    cases t with
    | ext S => cases h
    | non => cases h; cases rx; rfl
    | tup xs => cases h; obtain ⟨a, us, rfl, _⟩ := rx; rfl
    | lst xs => cases h; obtain ⟨a, us, rfl, _⟩ := rx; rfl
    | dic l ks xs => cases h; obtain ⟨a, us, rfl, _⟩ := rx; rfl
    | _ => cases h; cases rx; rfl
  | n xs => cases h; obtain ⟨a, us, rfl, _⟩ := rx; rfl
  | nd ks ts => cases h; obtain ⟨a, us, rfl, _⟩ := rx; rfl
  | o i xs =>
    cases h
    obtain ⟨h1, h2⟩ := rx
    obtain ⟨o, e1, a, us, e2, _⟩ := c.r.at_ i _ h2
    rw [h1] at e1
    cases e1
    cases e2
    rfl
  | od i ks ts =>
    cases h
    obtain ⟨h1, h2⟩ := rx
    obtain ⟨o, e1, a, us, e2, _⟩ := c.r.at_ i _ h2
    rw [h1] at e1
    cases e1
    cases e2
    rfl
  | ol i as ks xss =>
    cases h
    obtain ⟨h1, h2⟩ := rx
    obtain ⟨o, e1, a, us, e2, _⟩ := c.r.at_ i _ h2
    rw [h1] at e1
    cases e1
    cases e2
    rfl
  | b => cases h; obtain ⟨b, c', _, rfl⟩ := rx; rfl
  | ty n => cases h
  | cl C => cases h
instance lIsN : LR fw (fun x y H Q => y = .non ∧ Q (.bl (decide (x = .non))) H) (pIsN false) := ⟨fun {B O0 O Hs Kb H0 H ss σ Q Qp x y v u} c0 c s rx ry h q => by
  unfold pIsN at h
  split at h
  · rename_i b e
    refine ⟨ry, ?_⟩
    rw [isNonS_ok c e rx]
    exact q.now c.w.bx h (by simp [Rep])
  · exact h.elim⟩
instance lNotN : LR fw (fun x y H Q => y = .non ∧ Q (.bl (!decide (x = .non))) H) (pIsN true) := ⟨fun {B O0 O Hs Kb H0 H ss σ Q Qp x y v u} c0 c s rx ry h q => by
  unfold pIsN at h
  split at h
  · rename_i b e
    refine ⟨ry, ?_⟩
    rw [isNonS_ok c e rx]
    exact q.now c.w.bx h (by simp [Rep])
  · exact h.elim⟩
/-! ### sequences -/
def Sx.tq : Sx → Option (List Tv)
  | .v (.tup xs) => some xs
  | _ => none
theorem XR.tpl {B : Bx} {O : List Addr} {H0 H : Hp} {ss : List Sl} {σ : L2.St} {x : Sx} {v : V} {xs : List Tv} (e : x.tq = some xs) (h : XR B O H0 H ss σ x v) : ∃ a us, v = .ref a ∧ H a = some (.tup us) ∧ RepL (kn B O H) xs us := by
  cases x with
  | v u =>
    cases u <;> cases e
    obtain ⟨a, us, e, q, r⟩ := h
    exact ⟨a, us, e, (kn_inv q).1, r⟩
  | _ => cases e
/-- s[i] of a list, a tuple, a text -/
def pIx : Sx → Sx → (Sx → Prop) → Prop := fun x y Q => match y with
  | .v (.int i) => match x with
    | .v (.str z) => z.length ≤ 100000 ∧ ∃ c, atI z.cps.toList i = some c ∧ Q (.v (.str ⟨#[c]⟩))
    | .v (.tup xs) => ∃ t, atI xs i = some t ∧ Q (.v t)
    | .v (.lst xs) => ∃ t, atI xs i = some t ∧ Q (.v t)
    | .n xs => ∃ t, atI xs i = some t ∧ Q (.v t)
    | .o _ xs => ∃ t, atI xs i = some t ∧ Q (.v t)
    | _ => False
  | _ => False
theorem ix_inv {x y : Sx} {Q : Sx → Prop} (h : pIx x y Q) : ∃ i : Int, y = .v (.int i) ∧ ((∃ z c, x = .v (.str z) ∧ z.length ≤ 100000 ∧ atI z.cps.toList i = some c ∧ Q (.v (.str ⟨#[c]⟩))) ∨ (∃ xs t, x.tq = some xs ∧ atI xs i = some t ∧ Q (.v t)) ∨ ∃ xs t, x.sq = some xs ∧ atI xs i = some t ∧ Q (.v t)) := by
  cases y with
  | v ty =>
    cases ty with
    | int i =>
      refine ⟨_, rfl, ?_⟩
      cases x with
      | v tx =>
        cases tx with
        | str z => obtain ⟨h1, c, h2, h3⟩ := h; exact .inl ⟨_, c, rfl, h1, h2, h3⟩
        | tup xs => obtain ⟨t, h1, h2⟩ := h; exact .inr (.inl ⟨_, t, rfl, h1, h2⟩)
        | lst xs => obtain ⟨t, h1, h2⟩ := h; exact .inr (.inr ⟨_, t, rfl, h1, h2⟩)
        | _ => exact h.elim
      | n xs => obtain ⟨t, h1, h2⟩ := h; exact .inr (.inr ⟨_, t, rfl, h1, h2⟩)
      | o k xs => obtain ⟨t, h1, h2⟩ := h; exact .inr (.inr ⟨_, t, rfl, h1, h2⟩)
      | _ => exact h.elim
    | _ => exact h.elim
  | _ => exact h.elim
instance lIx {K : PySem.W.Frag} : LR fw (rIx K) pIx := ⟨fun {B O0 O Hs Kb H0 H ss σ Q Qp x y v u} c0 c s rx ry h q => by
  obtain ⟨i, rfl, h'⟩ := ix_inv h
  clear h
  cases ry
  rcases h' with ⟨z, k, rfl, h1, h2, h3⟩ | ⟨xs, t, e, h1, h2⟩ | ⟨xs, t, e, h1, h2⟩
  · cases rx
    exact .inr (.inr ⟨z, i, k, rfl, rfl, sz h1, h2, q.now c.w.bx h3 rfl⟩)
  · obtain ⟨a, us, rfl, g, r⟩ := rx.tpl e
    obtain ⟨w, e1, r1⟩ := r.at h1
    exact .inr (.inl ⟨a, us, i, w, rfl, rfl, SqT.of g, e1, q.now c.w.bx h2 r1⟩)
  · obtain ⟨a, us, rfl, g, r⟩ := rx.seq c0.w s c.r e
    obtain ⟨w, e1, r1⟩ := r.at h1
    exact .inl ⟨a, us, i, w, rfl, rfl, SqL.of g, e1, q.now c.w.bx h2 r1⟩⟩
/-- tuples and lists written out -/
def tvs : List Sx → Option (List Tv)
  | [] => some []
  | x :: xs => match x.tv, tvs xs with
    | some t, some ts => some (t :: ts)
    | _, _ => none
theorem XRL.reps {B : Bx} {O0 O : List Addr} {Hs Kb H0 H : Hp} {ss : List Sl} {σ : L2.St} (W : Wl B O0 O Hs Kb H0) (s : Stay B H0 H) : ∀ {xs : List Sx} {ts : List Tv} {vs : List V}, tvs xs = some ts → XRL B O H0 H ss σ xs vs → RepL (kn B O H) ts vs
  | [], _, _, e, h => by cases e; exact h
  | x :: xs, ts, _, e, h => by
    obtain ⟨v, r, rfl, h1, h2⟩ := h
    unfold tvs at e
    split at e
    · rename_i t ts' e1 e2
      cases e
      exact ⟨v, r, rfl, h1.rep W s e1, h2.reps W s e2⟩
    · cases e
def pTup (pa : PAx) : PX := fun ss Q => pa ss fun xs => match tvs xs with
  | some ts => ts.length ≤ 100000 ∧ Q (.v (.tup ts))
  | none => False
instance lTup {ta : TA} {pa : PAx} [a : LA fw ta pa] : LE fw (tTup ta) (pTup pa) := ⟨fun {B O0 O Hs Kb H ss σ Q Qp} c h q => a.run c h fun xs H1 vs q1 s1 b1 r1 => by
  split at q1
  · rename_i ts e
    have r := r1.reps c.w s1 e
    refine ⟨sz (by rw [r.len]; exact q1.1), fun p hp => ?_⟩
    have f : Fin B O H1 ss σ Q Qp := ⟨fun z H3 w q3 s3 b3 r3 => q _ _ _ q3 (s1.trans s3) b3 (r3.back b1 s1)⟩
    exact f.tup (c.go s1 b1) q1.2 r hp
  · exact q1.elim⟩
def pLst (pa : PAx) : PX := fun ss Q => pa ss fun xs => match tvs xs with
  | some ts => ts.length ≤ 100000 ∧ Q (.n ts)
  | none => False
instance lLst {ta : TA} {pa : PAx} [a : LA fw ta pa] : LE fw (tLst ta) (pLst pa) := ⟨fun {B O0 O Hs Kb H ss σ Q Qp} c h q => a.run c h fun xs H1 vs q1 s1 b1 r1 => by
  split at q1
  · rename_i ts e
    have r := r1.reps c.w s1 e
    refine ⟨sz (by rw [r.len]; exact q1.1), fun p hp => ?_⟩
    have f : Fin B O H1 ss σ Q Qp := ⟨fun z H3 w q3 s3 b3 r3 => q _ _ _ q3 (s1.trans s3) b3 (r3.back b1 s1)⟩
    exact f.lst (c.go s1 b1) q1.2 r hp
  · exact q1.elim⟩
/-! ### tests -/
def pTest (pe : PX) : PTx := fun ss Q => pe ss fun x => match x with
  | .v (.bl b) => Q b
  | _ => False
instance lTest {te : TE} {pe : PX} [a : LE fw te pe] : LT fw (tTest te) (pTest pe) := ⟨fun {B O0 O Hs Kb H ss σ Q Qp} c h q => a.run c h fun x H1 v q1 s1 b1 r1 => by
  split at q1
  · exact ⟨_, r1, q _ _ q1 s1 b1⟩
  · exact q1.elim⟩
instance lB {te : TE} {pe : PX} [a : LE fw te pe] : LT fw (tB te) (pTest pe) := ⟨fun {B O0 O Hs Kb H ss σ Q Qp} c h q => a.run c h fun x H1 v q1 s1 b1 r1 => by
  split at q1
  · exact ⟨_, r1, q _ _ q1 s1 b1⟩
  · exact q1.elim⟩
def pAnd (p1 p2 : PTx) : PTx := fun ss Q => p1 ss fun c => if c = true then p2 ss Q else Q false
def pOr (p1 p2 : PTx) : PTx := fun ss Q => p1 ss fun c => if c = true then Q true else p2 ss Q
def pNot (p1 : PTx) : PTx := fun ss Q => p1 ss fun c => Q (!c)
instance lAnd {t1 t2 : TT} {p1 p2 : PTx} [a : LT fw t1 p1] [b : LT fw t2 p2] : LT fw (tAnd t1 t2) (pAnd p1 p2) := ⟨fun {B O0 O Hs Kb H ss σ Q Qp} c h q => a.run c h fun k H1 q1 s1 b1 => by
  split at q1
  · rename_i e
    rw [if_pos e]
    exact b.run (c.go s1 b1) q1 fun k' H2 q2 s2 b2 => q _ _ q2 (s1.trans s2) b2
  · rename_i e
    rw [if_neg e]
    exact q _ _ q1 s1 b1⟩
instance lOr {t1 t2 : TT} {p1 p2 : PTx} [a : LT fw t1 p1] [b : LT fw t2 p2] : LT fw (tOr t1 t2) (pOr p1 p2) := ⟨fun {B O0 O Hs Kb H ss σ Q Qp} c h q => a.run c h fun k H1 q1 s1 b1 => by
  split at q1
  · rename_i e
    rw [if_pos e]
    exact q _ _ q1 s1 b1
  · rename_i e
    rw [if_neg e]
    exact b.run (c.go s1 b1) q1 fun k' H2 q2 s2 b2 => q _ _ q2 (s1.trans s2) b2⟩
instance lNot {t1 : TT} {p1 : PTx} [a : LT fw t1 p1] : LT fw (tNot t1) (pNot p1) := ⟨fun {B O0 O Hs Kb H ss σ Q Qp} c h q => a.run c h fun k H1 q1 s1 b1 => q _ _ q1 s1 b1⟩
def pAndV (p1 p2 : PX) : PX := fun ss Q => p1 ss fun x => match x with
  | .v (.bl c) => if c = true then p2 ss Q else Q (.v (.bl false))
  | _ => False
def pOrV (p1 p2 : PX) : PX := fun ss Q => p1 ss fun x => match x with
  | .v (.bl c) => if c = true then Q (.v (.bl true)) else p2 ss Q
  | _ => False
def pNotV (p1 : PX) : PX := fun ss Q => p1 ss fun x => match x with
  | .v (.bl c) => Q (.v (.bl (!c)))
  | _ => False
instance lAndV {t1 t2 : TE} {p1 p2 : PX} [a : LE fw t1 p1] [b : LE fw t2 p2] : LE fw (tAndV t1 t2) (pAndV p1 p2) := ⟨fun {B O0 O Hs Kb H ss σ Q Qp} c h q => a.run c h fun k H1 v q1 s1 b1 r1 => by
  split at q1
  · refine ⟨_, r1, ?_⟩
    split at q1
    · rename_i e
      rw [if_pos e]
      exact b.run (c.go s1 b1) q1 fun k' H2 w q2 s2 b2 r2 => q _ _ _ q2 (s1.trans s2) b2 (r2.back b1 s1)
    · rename_i e
      rw [if_neg e]
      exact q _ _ _ q1 s1 b1 rfl
  · exact q1.elim⟩
instance lOrV {t1 t2 : TE} {p1 p2 : PX} [a : LE fw t1 p1] [b : LE fw t2 p2] : LE fw (tOrV t1 t2) (pOrV p1 p2) := ⟨fun {B O0 O Hs Kb H ss σ Q Qp} c h q => a.run c h fun k H1 v q1 s1 b1 r1 => by
  split at q1
  · refine ⟨_, r1, ?_⟩
    split at q1
    · rename_i e
      rw [if_pos e]
      exact q _ _ _ q1 s1 b1 rfl
    · rename_i e
      rw [if_neg e]
      exact b.run (c.go s1 b1) q1 fun k' H2 w q2 s2 b2 r2 => q _ _ _ q2 (s1.trans s2) b2 (r2.back b1 s1)
  · exact q1.elim⟩
instance lNotV {t1 : TE} {p1 : PX} [a : LE fw t1 p1] : LE fw (tNotV t1) (pNotV p1) := ⟨fun {B O0 O Hs Kb H ss σ Q Qp} c h q => a.run c h fun k H1 v q1 s1 b1 r1 => by
  split at q1
  · exact ⟨_, r1, q _ _ _ q1 s1 b1 rfl⟩
  · exact q1.elim⟩
def pIf (pt : PTx) (p1 p2 : PX) : PX := fun ss Q => pt ss fun c => if c = true then p1 ss Q else p2 ss Q
instance lIf {tt : TT} {t1 t2 : TE} {pt : PTx} {p1 p2 : PX} [k : LT fw tt pt] [a : LE fw t1 p1] [b : LE fw t2 p2] : LE fw (tIf tt t1 t2) (pIf pt p1 p2) := ⟨fun {B O0 O Hs Kb H ss σ Q Qp} c h q => k.run c h fun x H1 q1 s1 b1 => by
  split at q1
  · rename_i e
    rw [if_pos e]
    exact a.run (c.go s1 b1) q1 fun k' H2 w q2 s2 b2 r2 => q _ _ _ q2 (s1.trans s2) b2 (r2.back b1 s1)
  · rename_i e
    rw [if_neg e]
    exact b.run (c.go s1 b1) q1 fun k' H2 w q2 s2 b2 r2 => q _ _ _ q2 (s1.trans s2) b2 (r2.back b1 s1)⟩
def pChain (pr pr' : Sx → Sx → (Sx → Prop) → Prop) (pa pb pc : PX) : PX := fun ss Q => pa ss fun x => pb ss fun y => pr x y fun z => match z with
  | .v (.bl k) => if k = true then pc ss fun w => pr' y w Q else Q (.v (.bl false))
  | _ => False
instance lChain {r r' : R2} {ta tb tc : TE} {pa pb pc : PX} {pr pr' : Sx → Sx → (Sx → Prop) → Prop} [a : LE fw ta pa] [b : LE fw tb pb] [d : LE fw tc pc] [k : LR fw r pr] [k' : LR fw r' pr'] : LE fw (tChain r r' ta tb tc) (pChain pr pr' pa pb pc) := ⟨fun {B O0 O Hs Kb H ss σ Q Qp} c h q =>
  a.run c h fun x H1 v q1 s1 b1 r1 => b.run (c.go s1 b1) q1 fun y H2 u q2 s2 b2 r2 => by
    have s12 := s1.trans s2
    have c2 := (c.go s1 b1).go s2 b2
    refine k.run c c2 s12 (r1.go c.w s1 s2) (r2.back b1 s1) q2 ⟨fun z H3 w q3 s3 b3 r3 => ?_⟩
    split at q3
    · refine ⟨_, r3, ?_⟩
      have c3 := c2.go s3 b3
      split at q3
      · rename_i e
        rw [if_pos e]
        refine d.run c3 q3 fun z' H4 w' q4 s4 b4 r4 => ?_
        exact k'.run c (c3.go s4 b4) ((s12.trans s3).trans s4) (((r2.back b1 s1).go c.w s12 s3).go c.w (s12.trans s3) s4) (r4.back b3 (s12.trans s3)) q4 ⟨fun z5 H5 w5 q5 s5 b5 r5 => q _ _ _ q5 (((s12.trans s3).trans s4).trans s5) b5 (r5.back b4 ((s12.trans s3).trans s4))⟩
      · rename_i e
        rw [if_neg e]
        exact q _ _ _ q3 (s12.trans s3) b3 rfl
    · exact q3.elim⟩
end Pl

set_option Elab.async false
set_option linter.all false
set_option maxRecDepth 100000
set_option maxHeartbeats 4000000
/-! The pure layer: statements. -/
namespace Pl
open PySem L2
variable {fw tp : Bool}
structure PEnds where
  nx : List Sl → Prop
  rt : Tv → Prop
  bk : List Sl → Prop := fun _ => False
  ct : List Sl → Prop := fun _ => False
structure Lk (B : Bx) (O0 : List Addr) (Hs Kb : Hp) (Dp : PEnds) (D : Ends) : Prop where
  nx : ∀ O H σ ss, Dp.nx ss → Ct false B O0 O Hs Kb H ss σ → D.nx σ H
  bk : ∀ O H σ ss, Dp.bk ss → Ct false B O0 O Hs Kb H ss σ → D.bk σ H
  ct : ∀ O H σ ss, Dp.ct ss → Ct false B O0 O Hs Kb H ss σ → D.ct σ H
  rt : ∀ O H t v, Dp.rt t → Wl B O0 O Hs Kb H → Rep (kn B O0 H) t v → D.rt v H
/-- keeps a simplifier out of the program's text -/
structure Ph (ts : TS) (Dp : PEnds) : Type where
/-- a statement does what is wanted, from slots like these -/
def Sim (tp : Bool) (ts : TS) (Dp : PEnds) (ss : List Sl) (_ : Ph ts Dp := ⟨⟩) : Prop := ∀ (B : Bx) (O0 O : List Addr) (Hs Kb H : Hp) (σ : L2.St) (D : Ends), (tp = true → O0 = []) → Ct false B O0 O Hs Kb H ss σ → Lk B O0 Hs Kb Dp D → ts D σ H
theorem s_seq {t u : TS} {Dp : PEnds} {ss : List Sl} (h : Sim tp t { Dp with nx := fun s => Sim tp u Dp s } ss) : Sim tp (tSeq t u) Dp ss := fun B O0 O Hs Kb H σ D htp c l =>
  h B O0 O Hs Kb H σ _ htp c ⟨fun O H σ ss k c => k B O0 O Hs Kb H σ D htp c l, l.bk, l.ct, l.rt⟩
theorem s_cut {t u : TS} {Dp : PEnds} {ss : List Sl} (Mid : List Sl → Prop) (h : Sim tp t { Dp with nx := Mid } ss) (k : ∀ s, Mid s → Sim tp u Dp s) : Sim tp (Evl.tCut t u) Dp ss := fun B O0 O Hs Kb H σ D htp c l =>
  ⟨fun σ' H' => ∃ O s, Mid s ∧ Ct false B O0 O Hs Kb H' s σ', h B O0 O Hs Kb H σ _ htp c ⟨fun O H σ ss k c => ⟨O, ss, k, c⟩, l.bk, l.ct, l.rt⟩, fun σ' H' ⟨O, s, m, c⟩ => k s m B O0 O Hs Kb H' σ' D htp c l⟩
theorem s_mid {t : TS} {Dp : PEnds} {ss : List Sl} (Mid : List Sl → Prop) (h : Sim tp t { Dp with nx := Mid } ss) (k : ∀ s, Mid s → Dp.nx s) : Sim tp t Dp ss := fun B O0 O Hs Kb H σ D htp c l =>
  h B O0 O Hs Kb H σ D htp c ⟨fun O H σ ss m c => l.nx O H σ ss (k ss m) c, l.bk, l.ct, l.rt⟩
theorem s_next {Dp : PEnds} {ss : List Sl} (h : Dp.nx ss) : Sim tp tNext Dp ss := fun B O0 O Hs Kb H σ D htp c l => l.nx _ _ _ _ h c
theorem s_break {Dp : PEnds} {ss : List Sl} (h : Dp.bk ss) : Sim tp tBreak Dp ss := fun B O0 O Hs Kb H σ D htp c l => l.bk _ _ _ _ h c
theorem s_cont {Dp : PEnds} {ss : List Sl} (h : Dp.ct ss) : Sim tp tCont Dp ss := fun B O0 O Hs Kb H σ D htp c l => l.ct _ _ _ _ h c
theorem s_if {c : TT} {t u : TS} {pt : PTx} [k : LT false c pt] {Dp : PEnds} {ss : List Sl} (h : pt ss fun b => if b = true then Sim tp t Dp ss else Sim tp u Dp ss) : Sim tp (tIfS c t u) Dp ss := fun B O0 O Hs Kb H σ D htp ct l =>
  k.run ct h fun b H' q s b1 => by
    split at q
    · rename_i e
      rw [if_pos e]
      exact q B O0 O Hs Kb H' σ D htp (ct.go s b1) l
    · rename_i e
      rw [if_neg e]
      exact q B O0 O Hs Kb H' σ D htp (ct.go s b1) l
theorem s_drop {te : TE} {pe : PX} [k : LE false te pe] {Dp : PEnds} {ss : List Sl} (h : pe ss fun _ => Dp.nx ss) : Sim tp (tDrop te) Dp ss := fun B O0 O Hs Kb H σ D htp c l =>
  k.run c h fun x H' v q s b r => l.nx _ _ _ _ q (c.go s b)
/-! ### slots written -/
theorem Rels.set {B : Bx} {O : List Addr} {Hs H : Hp} {ss : List Sl} {σ : L2.St} (R : Rels B O Hs H ss σ) (i : Nat) {s : Sl} {o : Option V} (k : SlOk B O Hs H s o)
    (d : s.isOwn = true → ∀ (j : Nat) t a, i ≠ j → ss[j]? = some t → o = some (.ref a) → (t.isOwn = true → σ[j]? ≠ some (some (.ref a))) ∧ a ∉ t.ads) (d2 : s.ads = [] := by rfl) : Rels B O Hs H (ss.set i s) (σ.set i o) := by
  refine ⟨by rw [List.length_set, List.length_set]; exact R.len, fun j t e => ?_, fun j m t u a hne e1 e2 o1 o2 h1 h2 => ?_, fun j m t u a hne e1 e2 hm => ?_⟩
  · by_cases h : i = j
    · subst h
      by_cases hl : i < ss.length
      · rw [List.getElem?_set_self hl] at e
        cases e
        exact ⟨o, List.getElem?_set_self (by rw [← R.len]; exact hl), k⟩
      · rw [List.getElem?_eq_none (by rw [List.length_set]; omega)] at e
        cases e
    · rw [List.getElem?_set_ne h] at e ⊢
      exact R.at_ j t e
  · by_cases hj : i = j
    · subst hj
      have hl : i < ss.length := by
        have := (List.getElem?_eq_some_iff.mp e1).1
        rwa [List.length_set] at this
      rw [List.getElem?_set_self hl] at e1
      rw [List.getElem?_set_self (by rw [← R.len]; exact hl)] at h1
      rw [List.getElem?_set_ne hne] at e2 h2
      cases e1
      exact (d o1 m u a hne e2 (Option.some.inj h1)).1 o2 h2
    · by_cases hm : i = m
      · subst hm
        have hl : i < ss.length := by
          have := (List.getElem?_eq_some_iff.mp e2).1
          rwa [List.length_set] at this
        rw [List.getElem?_set_self hl] at e2
        rw [List.getElem?_set_self (by rw [← R.len]; exact hl)] at h2
        rw [List.getElem?_set_ne hj] at e1 h1
        cases e2
        exact (d o2 j t a hj e1 (Option.some.inj h2)).1 o1 h1
      · rw [List.getElem?_set_ne hj] at e1 h1
        rw [List.getElem?_set_ne hm] at e2 h2
        exact R.dis j m t u a hne e1 e2 o1 o2 h1 h2
  · by_cases hj : i = j
    · subst hj
      have hl : i < ss.length := by
        have := (List.getElem?_eq_some_iff.mp e1).1
        rwa [List.length_set] at this
      rw [List.getElem?_set_self hl] at e1
      cases e1
      rw [d2] at hm
      cases hm
    · rw [List.getElem?_set_ne hj] at e1
      by_cases hq : i = m
      · subst hq
        have hl : i < ss.length := by
          have := (List.getElem?_eq_some_iff.mp e2).1
          rwa [List.length_set] at this
        rw [List.getElem?_set_self hl] at e2
        rw [List.getElem?_set_self (by rw [← R.len]; exact hl)]
        cases e2
        exact ⟨fun o1 z => (d o1 j t a hj e1 (Option.some.inj z)).2 hm, by rw [d2]; exact fun z => nomatch z⟩
      · rw [List.getElem?_set_ne hq] at e2 ⊢
        exact R.din j m t u a hne e1 e2 hm
def Sx.sl : Sx → Option Sl
  | .v t => some (.val t)
  | .n xs => some (.own xs)
  | .nd ks ts => some (.owd ks ts)
  | .b => some .box
  | _ => none
section
variable {B : Bx} {O0 O : List Addr} {Hs Kb H H1 H2 : Hp} {ss : List Sl} {σ : L2.St}
/-- a new object is hidden from now on -/
theorem Ct.own (c : Ct fw B O0 O Hs Kb H ss σ) (s : Stay B H H1) (b : BxOk B H1) {a : Addr} {o : HO} (ha : H a = none) (ho : H1 a = some o) (hl : LD o := by first | exact .inl ⟨_, rfl⟩ | exact .inr ⟨_, rfl⟩) : Wl B O0 (a :: O) Hs Kb H1 ∧ Rels B (a :: O) Hs H1 ss σ ∧ Hs a = none ∧ ∀ (j : Nat) t, ss[j]? = some t → (t.isOwn = true → σ[j]? ≠ some (some (.ref a))) ∧ a ∉ t.ads := by
  have ho2 : ∀ a' ∈ a :: O, a' ∈ O ∨ H a' = none := fun a' h => by
    rcases List.mem_cons.mp h with rfl | h
    · exact .inr ha
    · exact .inl h
  have hs : Hs a = none := c.w.hh.free c.w.bx ha
  have nb := c.w.bx.nin ha
  refine ⟨⟨c.w.kb.trans (kn_sm s ho2), c.w.hh.trans s, b, c.w.bs, fun x h => List.mem_cons_of_mem _ (c.w.o0 x h), c.w.s0, fun x h => ?_, fun x h => ?_, fun x h => ?_, fun x h o' e' => ?_⟩, c.r.go c.w.ob s (fun x h => List.mem_cons_of_mem _ h) ho2, hs, fun j t e => ⟨fun o e1 => ?_, fun hm => ?_⟩⟩
  · rcases List.mem_cons.mp h with rfl | h
    · exact .inr hs
    · exact c.w.on x h
  · rcases List.mem_cons.mp h with rfl | h
    · exact ⟨_, ho⟩
    · obtain ⟨u, e⟩ := c.w.st x h
      exact ⟨u, s x u e (c.w.ob x h)⟩
  · rcases List.mem_cons.mp h with rfl | h
    · exact nb
    · exact c.w.ob x h
  · rcases List.mem_cons.mp h with rfl | h
    · rw [ho] at e'; cases e'; exact hl
    · exact (c.w.go s b).ld x h o' e'
  · obtain ⟨u, e2, k⟩ := c.r.at_ j t e
    rw [e1] at e2
    cases e2
    cases t with
    | own xs => obtain ⟨a', us, e, m, n, q, _⟩ := k; cases e; rw [ha] at q; cases q
    | owd ks ts => obtain ⟨a', us, e, m, n, q, _⟩ := k; cases e; rw [ha] at q; cases q
    | odl as ks ts => obtain ⟨a', us, e, m, n, q, _⟩ := k; cases e; rw [ha] at q; cases q
    | _ => cases o
  · obtain ⟨u, e2, k⟩ := c.r.at_ j t e
    cases t with
    | odl as ks ts =>
      obtain ⟨a', us, e, m, n, q, _, _, w⟩ := k
      obtain ⟨_, _, ws, z⟩ := w.mem hm
      rw [ha] at z
      cases z
    | _ => cases hm
theorem Ct.put (c : Ct fw B O0 O Hs Kb H ss σ) (s : Stay B H H1) (b : BxOk B H1) {x : Sx} {v : V} {sl : Sl} (r : XR B O H H1 ss σ x v) (e : x.sl = some sl) (i : Nat) : ∃ O', Ct false B O0 O' Hs Kb H1 (ss.set i sl) (σ.set i (some v)) := by
  cases x with
  | v t =>
    cases e
    have c1 := c.go s b
    exact ⟨O, c1.w, c1.r.set i (s := .val t) ⟨v, rfl, r⟩ (fun h => nomatch h), (fun h => nomatch h)⟩
  | n xs =>
    cases e
    obtain ⟨a, us, rfl, ha, h1, r⟩ := r
    obtain ⟨w, rr, hs, nd⟩ := c.own s b ha h1
    exact ⟨a :: O, w, rr.set i (s := .own xs) ⟨a, us, rfl, List.mem_cons_self, hs, h1, r⟩ (fun _ j t a' _ e1 e2 => by cases e2; exact nd j t e1), (fun h => nomatch h)⟩
  | nd ks ts =>
    cases e
    obtain ⟨a, us, rfl, ha, h1, k, r⟩ := r
    obtain ⟨w, rr, hs, nd⟩ := c.own s b ha h1
    exact ⟨a :: O, w, rr.set i (s := .owd ks ts) ⟨a, us, rfl, List.mem_cons_self, hs, h1, k, r⟩ (fun _ j t a' _ e1 e2 => by cases e2; exact nd j t e1), (fun h => nomatch h)⟩
  | b =>
    cases e
    obtain ⟨p, q, e1, rfl⟩ := r
    have c1 := c.go s b
    exact ⟨O, c1.w, c1.r.set i (s := .box) ⟨p, q, e1, rfl⟩ (fun h => nomatch h), (fun h => nomatch h)⟩
  | _ => cases e
end
theorem s_set {i : Nat} {te : TE} {pe : PX} [k : LE false te pe] {Dp : PEnds} {ss : List Sl} (h : pe ss fun x => match x.sl with | some s => Dp.nx (ss.set i s) | none => False) : Sim tp (tAsg te (gName i)) Dp ss := fun B O0 O Hs Kb H σ D htp c l =>
  k.run c h fun x H' v q s b r => by
    split at q
    · rename_i sl e
      obtain ⟨O', c'⟩ := c.put s b r e i
      exact l.nx _ _ _ _ q c'
    · exact q.elim
/-! ### targets -/
abbrev PGx := Tv → List Sl → (List Sl → Prop) → Prop
class LG (fw : Bool) (g : TG) (pg : outParam PGx) (ix : outParam (List Nat)) : Prop where
  run : ∀ {B : Bx} {O0 O : List Addr} {Hs Kb H : Hp} {ss : List Sl} {σ : L2.St} {Q : L2.St → Hp → Prop} {Qp : List Sl → Prop} {t : Tv} {v : V}, Ct fw B O0 O Hs Kb H ss σ → Rep (kn B O H) t v → pg t ss Qp →
    (∀ ss' σ', Qp ss' → Ct fw B O0 O Hs Kb H ss' σ' → (∀ vs : List Nat, (∀ i ∈ ix, i ∈ vs) → wipe σ' vs = wipe σ vs) → Q σ' H) → g v σ H Q
class LGs (fw : Bool) (g : TGs) (pg : outParam (List Tv → List Sl → (List Sl → Prop) → Prop)) (ix : outParam (List Nat)) : Prop where
  run : ∀ {B : Bx} {O0 O : List Addr} {Hs Kb H : Hp} {ss : List Sl} {σ : L2.St} {Q : L2.St → Hp → Prop} {Qp : List Sl → Prop} {ts : List Tv} {vs : List V}, Ct fw B O0 O Hs Kb H ss σ → RepL (kn B O H) ts vs → pg ts ss Qp →
    (∀ ss' σ', Qp ss' → Ct fw B O0 O Hs Kb H ss' σ' → (∀ vs : List Nat, (∀ i ∈ ix, i ∈ vs) → wipe σ' vs = wipe σ vs) → Q σ' H) → g vs σ H Q
theorem wipe_get (σ : L2.St) (j : Nat) : ∀ vs : List Nat, (wipe σ vs)[j]? = if j ∈ vs then (if j < σ.length then some none else none) else σ[j]?
  | [] => by simp [wipe]
  | v :: vs => by
    unfold wipe
    by_cases h : v = j
    · subst h
      rw [if_pos List.mem_cons_self]
      by_cases hl : v < σ.length
      · rw [List.getElem?_set_self (by rw [wipe_length]; exact hl), if_pos hl]
      · rw [List.getElem?_eq_none (by rw [List.length_set, wipe_length]; omega), if_neg hl]
    · rw [List.getElem?_set_ne h, wipe_get σ j vs]
      simp only [List.mem_cons, show (j = v) = False from by simp [Ne.symm h], false_or]
theorem wipe_set {σ : L2.St} {i : Nat} {o : Option V} {vs : List Nat} (h : i ∈ vs) : wipe (σ.set i o) vs = wipe σ vs := by
  apply List.ext_getElem?
  intro j
  rw [wipe_get, wipe_get, List.length_set]
  by_cases hj : j ∈ vs
  · rw [if_pos hj, if_pos hj]
  · rw [if_neg hj, if_neg hj]
    exact List.getElem?_set_ne (fun e => hj (by rw [← e]; exact h))
def pgName (i : Nat) : PGx := fun t ss Q => Q (ss.set i (.val t))
instance lgName {i : Nat} : LG fw (gName i) (pgName i) [i] := ⟨fun {B O0 O Hs Kb H ss σ Q Qp t v} c r h q =>
  q _ _ h ⟨c.w, c.r.set i (s := .val t) ⟨v, rfl, r⟩ (fun h => nomatch h), c.fl⟩ fun vs hv => wipe_set (hv i List.mem_cons_self)⟩
def pgNil : List Tv → List Sl → (List Sl → Prop) → Prop := fun ts ss Q => ts = [] ∧ Q ss
def pgCons (pg : PGx) (pgs : List Tv → List Sl → (List Sl → Prop) → Prop) : List Tv → List Sl → (List Sl → Prop) → Prop := fun ts ss Q => match ts with
  | t :: r => pg t ss fun s2 => pgs r s2 Q
  | [] => False
instance lgNil : LGs fw gNil pgNil [] := ⟨fun {B O0 O Hs Kb H ss σ Q Qp ts vs} c r h q => by
  obtain ⟨rfl, h⟩ := h
  exact ⟨r, q _ _ h c fun _ _ => rfl⟩⟩
instance lgCons {g : TG} {gs : TGs} {pg : PGx} {pgs : List Tv → List Sl → (List Sl → Prop) → Prop} {ix iy : List Nat} [a : LG fw g pg ix] [b : LGs fw gs pgs iy] : LGs fw (gCons g gs) (pgCons pg pgs) (ix ++ iy) := ⟨fun {B O0 O Hs Kb H ss σ Q Qp ts vs} c r h q => by
  cases ts with
  | nil => exact h.elim
  | cons t ts =>
    obtain ⟨v, w, rfl, r1, r2⟩ := r
    exact ⟨v, w, rfl, a.run c r1 h fun s1 σ1 h1 c1 w1 => b.run c1 r2 h1 fun s2 σ2 h2 c2 w2 => q _ _ h2 c2 fun vs hv => (w2 vs fun i hi => hv i (List.mem_append_right _ hi)).trans (w1 vs fun i hi => hv i (List.mem_append_left _ hi))⟩⟩
def pgTup (n : Nat) (pgs : List Tv → List Sl → (List Sl → Prop) → Prop) : PGx := fun t ss Q => match t with
  | .tup xs => xs.length = n ∧ pgs xs ss Q
  | _ => False
instance lgTup {K : PySem.W.Frag} {n : Nat} {gs : TGs} {pgs : List Tv → List Sl → (List Sl → Prop) → Prop} {ix : List Nat} [a : LGs fw gs pgs ix] : LG fw (gTup K n gs) (pgTup n pgs) ix := ⟨fun {B O0 O Hs Kb H ss σ Q Qp t v} c r h q => by
  cases t with
  | tup xs =>
    obtain ⟨p, us, rfl, h1, r1⟩ := r
    exact ⟨p, us, rfl, SqT.of (kn_inv h1).1, by rw [r1.len]; exact h.1, a.run c r1 h.2 q⟩
  | _ => exact h.elim⟩
theorem s_asg {g : TG} {pg : PGx} {ix : List Nat} {te : TE} {pe : PX} [k : LE false te pe] [m : LG false g pg ix] {Dp : PEnds} {ss : List Sl} (h : pe ss fun x => match x.tv with | some t => pg t ss Dp.nx | none => False) : Sim tp (tAsg te g) Dp ss := fun B O0 O Hs Kb H σ D htp c l =>
  k.run c h fun x H' v q s b r => by
    split at q
    · rename_i t e
      exact m.run (c.go s b) (r.rep c.w s e) q fun ss' σ' q' c' _ => l.nx _ _ _ _ q' c'
    · exact q.elim
/-! ### return -/
def Sx.rt : Sx → Option Tv
  | .o _ xs => some (.lst xs)
  | .od _ ks ts => some (.dic false ks ts)
  | x => x.tv
theorem XR.ret {B : Bx} {O0 O : List Addr} {Hs Kb H0 H : Hp} {ss : List Sl} {σ : L2.St} {x : Sx} {v : V} {t : Tv} (c : Ct fw B O0 O Hs Kb H0 ss σ) (s : Stay B H0 H) (b : BxOk B H) (e : x.rt = some t) (h : XR B O H0 H ss σ x v) : Rep (kn B O0 H) t v := by
  have c1 := c.go s b
  cases x with
  | o i xs =>
    cases e
    obtain ⟨h1, h2⟩ := h
    obtain ⟨o, e1, a, us, e2, m, n, q, r⟩ := c1.r.at_ i _ h2
    rw [h1] at e1
    cases e1
    cases e2
    refine ⟨a, us, rfl, ?_, r.mono (kn_less c1.w.o0)⟩
    exact kn_at (fun hm => by obtain ⟨o, e⟩ := c1.w.s0 a hm; rw [n] at e; cases e) (c1.w.ob a m) q
  | od i ks ts =>
    cases e
    obtain ⟨h1, h2⟩ := h
    obtain ⟨o, e1, a, us, e2, m, n, q, k, r⟩ := c1.r.at_ i _ h2
    rw [h1] at e1
    cases e1
    cases e2
    refine ⟨a, us, rfl, ?_, k, r.mono (kn_less c1.w.o0)⟩
    show kn B O0 H a = _
    exact kn_at (fun hm => by obtain ⟨o, e⟩ := c1.w.s0 a hm; rw [n] at e; cases e) (c1.w.ob a m) q
  | v u => exact (XR.rep (x := .v u) c.w s e h).mono (kn_less c1.w.o0)
  | n xs => exact (XR.rep (x := .n xs) c.w s e h).mono (kn_less c1.w.o0)
  | nd ks ts => exact (XR.rep (x := .nd ks ts) c.w s e h).mono (kn_less c1.w.o0)
  | _ => cases e
theorem s_ret {te : TE} {pe : PX} [k : LE false te pe] {Dp : PEnds} {ss : List Sl} (h : pe ss fun x => match x.rt with | some t => Dp.rt t | none => False) : Sim tp (tRet te) Dp ss := fun B O0 O Hs Kb H σ D htp c l =>
  k.run c h fun x H' v q s b r => by
    split at q
    · rename_i t e
      exact l.rt _ _ _ _ q (c.go s b).w (r.ret c s b e)
    · exact q.elim
theorem s_retN {Dp : PEnds} {ss : List Sl} (h : Dp.rt .non) : Sim tp tRetN Dp ss := fun B O0 O Hs Kb H σ D htp c l => l.rt _ _ .non _ h c.w rfl
/-! ### freezing -/
theorem SlOk.less {B : Bx} {O O' : List Addr} {Hs H : Hp} {s : Sl} {o : Option V} (h : SlOk B O Hs H s o) (k : ∀ a ∈ O', a ∈ O) (h1 : ∀ a, a ∈ O → s.isOwn = true → o = some (.ref a) → a ∈ O') (h2 : ∀ a ∈ s.ads, a ∈ O → a ∈ O') : SlOk B O' Hs H s o := by
  have kk := kn_less (B := B) (H := H) k
  cases s with
  | any => trivial
  | val t => obtain ⟨v, e, r⟩ := h; exact ⟨v, e, r.mono kk⟩
  | own ys => obtain ⟨a, us, e, m, n, q, r⟩ := h; exact ⟨a, us, e, h1 a m rfl e, n, q, r.mono kk⟩
  | owd ks ys => obtain ⟨a, us, e, m, n, q, k', r⟩ := h; exact ⟨a, us, e, h1 a m rfl e, n, q, k', r.mono kk⟩
  | box => exact h
  | lkd d ks ts => obtain ⟨us, x, e, q, kk', r⟩ := h; exact ⟨us, x, e, kk _ _ q, kk', r.mono kk⟩
  | pvd K v t => exact ⟨h.1, h.2.1, h.2.2.mono kk⟩
  | odl as ks xss =>
    obtain ⟨a, us, e, m, n, q, k1, k2, w⟩ := h
    exact ⟨a, us, e, h1 a m rfl e, n, q, k1, k2, w.of fun b xs hb mb nb ws hw r => ⟨h2 b hb mb, nb, ws, hw, r.mono kk⟩⟩
/-- an own thing is given free -/
theorem Ct.free {B : Bx} {O0 O : List Addr} {Hs Kb H : Hp} {ss : List Sl} {σ : L2.St} (c : Ct fw B O0 O Hs Kb H ss σ) {i : Nat} {s : Sl} {a : Addr} (e : ss[i]? = some s) (io : s.isOwn = true) (e1 : σ[i]? = some (some (.ref a))) (hr : ∀ x ∈ a :: s.ads, x ∈ O ∧ Hs x = none) {t : Tv}
    (r : ∀ O', (∀ x ∈ O', x ∈ O) → (∀ x ∈ a :: s.ads, x ∉ O') → Rep (kn B O' H) t (.ref a)) : ∃ O', Ct fw B O0 O' Hs Kb H (ss.set i (.val t)) σ := by
  have hO : ∀ x ∈ O.filter (fun x => decide (x ∉ a :: s.ads)), x ∈ O := fun x h => (List.mem_filter.mp h).1
  have hn : ∀ x ∈ a :: s.ads, x ∉ O.filter (fun x => decide (x ∉ a :: s.ads)) := fun x h z => by
    have := (List.mem_filter.mp z).2
    exact of_decide_eq_true this h
  have kk := kn_less (B := B) (H := H) hO
  refine ⟨_, ⟨c.w.kb.trans kk, c.w.hh, c.w.bx, c.w.bs, fun x hx => List.mem_filter.mpr ⟨c.w.o0 x hx, decide_eq_true fun z => ?_⟩, c.w.s0, fun x hx => c.w.on x (hO x hx), fun x hx => c.w.st x (hO x hx), fun x hx => c.w.ob x (hO x hx), fun x hx => c.w.ld x (hO x hx)⟩, c.r.sub (by rw [List.length_set]; exact c.r.len) (fun j t' ej => ?_) (fun j t' ej oj => ?_), fun h => by
    obtain ⟨z1, z2⟩ := c.fl h
    exact ⟨z1, by rw [z2]; rfl⟩⟩
  · obtain ⟨o, e⟩ := c.w.s0 x hx
    rw [(hr x z).2] at e
    cases e
  · by_cases hj : i = j
    · subst hj
      rw [List.getElem?_set_self (List.getElem?_eq_some_iff.mp e).1] at ej
      cases ej
      exact ⟨_, e1, _, rfl, r _ hO hn⟩
    · rw [List.getElem?_set_ne hj] at ej
      obtain ⟨o, e2, k⟩ := c.r.at_ j t' ej
      refine ⟨o, e2, k.less hO (fun x hx ox z => List.mem_filter.mpr ⟨hx, decide_eq_true fun w => ?_⟩) fun x hx ox => List.mem_filter.mpr ⟨ox, decide_eq_true fun w => ?_⟩⟩
      · subst z
        rcases List.mem_cons.mp w with rfl | w
        · exact c.r.dis i j s t' x hj e ej io ox e1 e2
        · exact (c.r.din i j s t' x hj e ej w).1 ox e2
      · rcases List.mem_cons.mp w with rfl | w
        · exact (c.r.din j i t' s x (Ne.symm hj) ej e hx).1 io e1
        · exact (c.r.din i j s t' x hj e ej w).2 hx
  · by_cases hj : i = j
    · subst hj
      rw [List.getElem?_set_self (List.getElem?_eq_some_iff.mp e).1] at ej
      cases ej
      cases oj
    · rw [List.getElem?_set_ne hj] at ej
      exact ⟨t', ej, oj, fun _ h => h, rfl⟩
theorem Ct.fz {B : Bx} {O0 O : List Addr} {Hs Kb H : Hp} {ss : List Sl} {σ : L2.St} (c : Ct fw B O0 O Hs Kb H ss σ) {i : Nat} {xs : List Tv} (e : ss[i]? = some (.own xs)) : ∃ O', Ct fw B O0 O' Hs Kb H (ss.set i (.val (.lst xs))) σ := by
  obtain ⟨o, e1, a, us, rfl, m, n, q, r⟩ := c.r.at_ i _ e
  refine c.free e rfl e1 (fun x hx => ?_) fun O' h1 h2 => ⟨a, us, rfl, ?_, r.mono (kn_less h1)⟩
  · cases List.mem_singleton.mp hx
    exact ⟨m, n⟩
  · exact kn_at (h2 a List.mem_cons_self) (c.w.ob a m) q
theorem Ct.fzd {B : Bx} {O0 O : List Addr} {Hs Kb H : Hp} {ss : List Sl} {σ : L2.St} (c : Ct fw B O0 O Hs Kb H ss σ) {i : Nat} {ks : List Key} {xs : List Tv} (e : ss[i]? = some (.owd ks xs)) : ∃ O', Ct fw B O0 O' Hs Kb H (ss.set i (.val (.dic false ks xs))) σ := by
  obtain ⟨o, e1, a, us, rfl, m, n, q, kks, r⟩ := c.r.at_ i _ e
  refine c.free e rfl e1 (fun x hx => ?_) fun O' h1 h2 => ⟨a, us, rfl, ?_, kks, r.mono (kn_less h1)⟩
  · cases List.mem_singleton.mp hx
    exact ⟨m, n⟩
  · show kn B O' H a = _
    exact kn_at (h2 a List.mem_cons_self) (c.w.ob a m) q
theorem OwL.rep {B : Bx} {O O' : List Addr} {Hs H : Hp} {as : List Addr} {xss : List (List Tv)} (ob : ∀ a ∈ O, a ∉ bxs B) (h1 : ∀ x ∈ O', x ∈ O) : ∀ (as : List Addr) (xss : List (List Tv)), as.length = xss.length → (∀ (i : Nat) (b : Addr) (xs : List Tv), as[i]? = some b → xss[i]? = some xs → b ∈ O ∧ Hs b = none ∧ ∃ ws, H b = some (.lst ws) ∧ RepL (kn B O H) xs ws) → (∀ b ∈ as, b ∉ O') → RepL (kn B O' H) (xss.map Tv.lst) (as.map V.ref)
  | [], [], _, _, _ => rfl
  | a :: as, x :: xs, hl, h, hn => by
    obtain ⟨q1, _, ws, q3, q4⟩ := h 0 a x rfl rfl
    refine ⟨_, _, rfl, ⟨a, ws, rfl, ?_, q4.mono (kn_less h1)⟩, OwL.rep (as := as) (xss := xs) ob h1 as xs (Nat.succ.inj hl) (fun i b ys e1 e2 => h (i + 1) b ys (by simpa using e1) (by simpa using e2)) fun b hb => hn b (List.mem_cons_of_mem _ hb)⟩
    exact kn_at (hn a List.mem_cons_self) (ob a q1) q3
theorem Ct.fzl {B : Bx} {O0 O : List Addr} {Hs Kb H : Hp} {ss : List Sl} {σ : L2.St} (c : Ct fw B O0 O Hs Kb H ss σ) {i : Nat} {as : List Addr} {ks : List Key} {xss : List (List Tv)} (e : ss[i]? = some (.odl as ks xss)) : ∃ O', Ct fw B O0 O' Hs Kb H (ss.set i (.val (.dic false ks (xss.map Tv.lst)))) σ := by
  obtain ⟨o, e1, a, us, rfl, m, n, q, kks, k2, w⟩ := c.r.at_ i _ e
  refine c.free e rfl e1 (fun x hx => ?_) fun O' h1 h2 => ⟨a, us, rfl, ?_, kks, ?_⟩
  · rcases List.mem_cons.mp hx with rfl | hx
    · exact ⟨m, n⟩
    · obtain ⟨z1, z2, _⟩ := w.mem hx
      exact ⟨z1, z2⟩
  · show kn B O' H a = _
    exact kn_at (h2 a List.mem_cons_self) (c.w.ob a m) q
  · rw [k2]
    exact OwL.rep (as := as) (xss := xss) c.w.ob h1 as xss w.2.1 w.2.2 fun b hb => h2 b (List.mem_cons_of_mem _ hb)
theorem s_fz (i : Nat) {xs : List Tv} {ts : TS} {Dp : PEnds} {ss : List Sl} (e : ss[i]? = some (.own xs)) (h : Sim tp ts Dp (ss.set i (.val (.lst xs)))) : Sim tp ts Dp ss := fun B O0 O Hs Kb H σ D htp c l => by
  obtain ⟨O', c'⟩ := c.fz e
  exact h B O0 O' Hs Kb H σ D htp c' l
theorem s_fzd (i : Nat) {ks : List Key} {xs : List Tv} {ts : TS} {Dp : PEnds} {ss : List Sl} (e : ss[i]? = some (.owd ks xs)) (h : Sim tp ts Dp (ss.set i (.val (.dic false ks xs)))) : Sim tp ts Dp ss := fun B O0 O Hs Kb H σ D htp c l => by
  obtain ⟨O', c'⟩ := c.fzd e
  exact h B O0 O' Hs Kb H σ D htp c' l
theorem s_fzl (i : Nat) {as : List Addr} {ks : List Key} {xss : List (List Tv)} {ts : TS} {Dp : PEnds} {ss : List Sl} (e : ss[i]? = some (.odl as ks xss)) (h : Sim tp ts Dp (ss.set i (.val (.dic false ks (xss.map Tv.lst))))) : Sim tp ts Dp ss := fun B O0 O Hs Kb H σ D htp c l => by
  obtain ⟨O', c'⟩ := c.fzl e
  exact h B O0 O' Hs Kb H σ D htp c' l
/-- forget -/
theorem s_wk {ts : TS} {Dp : PEnds} {ss ss' : List Sl} (hl : ss'.length = ss.length) (h : ∀ (i : Nat) (s : Sl), ss'[i]? = some s → s = .any ∨ ss[i]? = some s) (k : Sim tp ts Dp ss') : Sim tp ts Dp ss := fun B O0 O Hs Kb H σ D htp c l =>
  k B O0 O Hs Kb H σ D htp ⟨c.w, c.r.sub (hl.trans c.r.len) (fun i s e => by
    have hi : i < σ.length := by rw [← c.r.len, ← hl]; exact (List.getElem?_eq_some_iff.mp e).1
    rcases h i s e with rfl | h
    · exact ⟨_, List.getElem?_eq_getElem hi, trivial⟩
    · exact c.r.at_ i s h) (fun i s e o => by
    rcases h i s e with rfl | k1
    · cases o
    · exact ⟨s, k1, o, fun _ h => h, rfl⟩), fun h => nomatch h⟩ l
/-- all is known at the top where nothing is owned: promises of the wide kind may be used -/
theorem s_any (n : Nat) {ts : TS} {Dp : PEnds} {ss : List Sl} (k : Sim tp ts Dp (ss.set n .any)) : Sim tp ts Dp ss := s_wk (by rw [List.length_set]) (fun i s e => by
  by_cases h : n = i
  · subst h
    rw [List.getElem?_set_self (by have := (List.getElem?_eq_some_iff.mp e).1; rwa [List.length_set] at this)] at e
    cases e
    exact .inl rfl
  · rw [List.getElem?_set_ne h] at e
    exact .inr e) k
theorem Ct.full {B : Bx} {O : List Addr} {Hs Kb H : Hp} {ss : List Sl} {σ : L2.St} (c : Ct false B [] O Hs Kb H ss σ) (no : ∀ (i : Nat) s, ss[i]? = some s → s.isOwn = false) : Ct true B [] [] Hs Kb H ss σ := by
  have kk : Same (kn B O H) (kn B [] H) := kn_less (fun _ h => nomatch h)
  refine ⟨⟨c.w.kb.trans kk, c.w.hh, c.w.bx, c.w.bs, (fun _ h => h), c.w.s0, (fun _ h => nomatch h), (fun _ h => nomatch h), (fun _ h => nomatch h), (fun _ h => nomatch h)⟩, c.r.sub c.r.len (fun i s e => ?_) (fun i s e1 o1 => ?_), fun _ => ⟨rfl, rfl⟩⟩
  · obtain ⟨o, e1, k⟩ := c.r.at_ i s e
    refine ⟨o, e1, ?_⟩
    cases s with
    | any => trivial
    | val t => obtain ⟨v, e, r⟩ := k; exact ⟨v, e, r.mono kk⟩
    | own xs => exact absurd (no i _ e) (by simp [Sl.isOwn])
    | owd ks xs => exact absurd (no i _ e) (by simp [Sl.isOwn])
    | odl as ks xs => exact absurd (no i _ e) (by simp [Sl.isOwn])
    | box => exact k
    | lkd d ks ts => obtain ⟨us, x, e, q, kk', r⟩ := k; exact ⟨us, x, e, kk _ _ q, kk', r.mono kk⟩
    | pvd K v t => exact ⟨k.1, k.2.1, k.2.2.mono kk⟩
  · have := no i s e1
    rw [o1] at this
    cases this
def noOwn (ss : List Sl) : Bool := ss.all fun s => !s.isOwn
theorem noOwn_at {ss : List Sl} (h : noOwn ss = true) (i : Nat) (s : Sl) (e : ss[i]? = some s) : s.isOwn = false := by
  have := List.all_eq_true.mp h s (List.mem_of_getElem? e)
  simpa using this
theorem s_setF {i : Nat} {te : TE} {pe : PX} [k : LE true te pe] {Dp : PEnds} {ss : List Sl} (no : noOwn ss = true) (h : pe ss fun x => match x.sl with | some s => Dp.nx (ss.set i s) | none => False) : Sim true (tAsg te (gName i)) Dp ss := fun B O0 O Hs Kb H σ D htp c l => by
  cases htp rfl
  have c' := c.full (noOwn_at no)
  refine k.run c' h fun x H' v q s b r => ?_
  split at q
  · rename_i sl e
    obtain ⟨O', c''⟩ := c'.put s b r e i
    exact l.nx _ _ _ _ q c''
  · exact q.elim
theorem Ct.dn {B : Bx} {O0 O : List Addr} {Hs Kb H : Hp} {ss : List Sl} {σ : L2.St} (c : Ct fw B O0 O Hs Kb H ss σ) : Ct false B O0 O Hs Kb H ss σ := ⟨c.w, c.r, fun h => nomatch h⟩
theorem s_asgF {g : TG} {pg : PGx} {ix : List Nat} {te : TE} {pe : PX} [k : LE true te pe] [m : LG false g pg ix] {Dp : PEnds} {ss : List Sl} (no : noOwn ss = true) (h : pe ss fun x => match x.tv with | some t => pg t ss Dp.nx | none => False) : Sim true (tAsg te g) Dp ss := fun B O0 O Hs Kb H σ D htp c l => by
  cases htp rfl
  have c' := c.full (noOwn_at no)
  refine k.run c' h fun x H' v q s b r => ?_
  split at q
  · rename_i t e
    exact m.run (c'.go s b).dn (r.rep c'.w s e) q fun ss' σ' q' c' _ => l.nx _ _ _ _ q' c'
  · exact q.elim
theorem s_ifF {c : TT} {t u : TS} {pt : PTx} [k : LT true c pt] {Dp : PEnds} {ss : List Sl} (no : noOwn ss = true) (h : pt ss fun b => if b = true then Sim true t Dp ss else Sim true u Dp ss) : Sim true (tIfS c t u) Dp ss := fun B O0 O Hs Kb H σ D htp ct l => by
  have h0 := htp rfl
  subst h0
  have c' := ct.full (noOwn_at no)
  refine k.run c' h fun b H' q s b1 => ?_
  split at q
  · rename_i e
    rw [if_pos e]
    exact q B [] [] Hs Kb H' σ D htp (c'.go s b1).dn l
  · rename_i e
    rw [if_neg e]
    exact q B [] [] Hs Kb H' σ D htp (c'.go s b1).dn l
theorem s_retF {te : TE} {pe : PX} [k : LE true te pe] {Dp : PEnds} {ss : List Sl} (no : noOwn ss = true) (h : pe ss fun x => match x.rt with | some t => Dp.rt t | none => False) : Sim true (tRet te) Dp ss := fun B O0 O Hs Kb H σ D htp c l => by
  cases htp rfl
  have c' := c.full (noOwn_at no)
  refine k.run c' h fun x H' v q s b r => ?_
  split at q
  · rename_i t e
    exact l.rt _ _ _ _ q (c'.go s b).w (r.ret c' s b e)
  · exact q.elim
end Pl

set_option Elab.async false
set_option linter.all false
set_option maxRecDepth 100000
set_option maxHeartbeats 4000000
/-! The pure layer: loops, comprehensions, calls. -/
namespace Pl
open PySem PySem.Spec PyProof.Rows L2
variable {fw tp : Bool}
/-! ### a list or a tuple, walked -/
def iSeq (K : PySem.W.Frag) (tl : TE) : TI := fun σ H R => tl σ H fun x H1 => ∃ a, x = .ref a ∧ ((∃ xs, SqL K H1 a xs) ∧ R (Itl K a) H1 ∨ (∃ xs, SqT K H1 a xs) ∧ R (Itt K a) H1)
theorem pi_seq {X : Cx} {tg l : Expr} {tl : TE} (hl : PE X l tl) : PI X tg l (iSeq X.K tl) := by
  refine ⟨fun pins s σ H R I h => ?_⟩
  refine thn (hl.run pins s σ H _ I h) fun v s1 ⟨x, H1, I1, r1, q1⟩ => ?_
  obtain ⟨a, e, q⟩ := q1
  subst e
  cases r1
  rcases q with ⟨⟨xs, hq⟩, q⟩ | ⟨⟨xs, hq⟩, q⟩
  · obtain ⟨its, rv, p, hz⟩ := I1.list hq
    refine wpAny_pyIter_list p.isList ?_
    refine ⟨s1.heap.objs.size, [s1.heap.objs.size], _, _, H1, rfl, I1.kept (t' := s1.toks) fun b o e => Heap.get?_push_of_some _ e, turn_list a _, ⟨_, Heap.get?_push_size _ rfl, rfl, rfl⟩, fun b hb => ?_, q⟩
    have e : b = s1.heap.objs.size := by simpa using hb
    subst e
    exact I1.fpOk (Nat.le_refl _) (I1.hok.fresh (Nat.le_refl _))
  · obtain ⟨its, rv, p, hz⟩ := I1.tuple hq
    refine wpAny_pyIter_tuple (show s1.heap.IsTuple a its.toArray from p) ?_
    refine ⟨s1.heap.objs.size, [s1.heap.objs.size], _, _, H1, rfl, I1.kept (t' := s1.toks) fun b o e => Heap.get?_push_of_some _ e, turn_tuple a _, ⟨_, Heap.get?_push_size _ rfl, rfl, rfl⟩, fun b hb => ?_, q⟩
    have e : b = s1.heap.objs.size := by simpa using hb
    subst e
    exact I1.fpOk (Nat.le_refl _) (I1.hok.fresh (Nat.le_refl _))
/-! ### iterators -/
structure Yl (J : It) (K1 : Hp) (ts : List Tv) : Prop where
  go : ∀ i H, Same K1 H → i < ts.length → J.go i H
  stop : ∀ H, Same K1 H → J.stop ts.length H
  yld : ∀ i H x H', i < ts.length → Same K1 H → J.yld i H x H' → Same H H' ∧ ∃ t, ts[i]? = some t ∧ ∀ (B : Bx) (O : List Addr), Same K1 (kn B O H) → (∀ a ∈ O, ∃ o, H a = some o) → BxOk B H → Rep (kn B O H') t x
class LI (fw : Bool) (wi : TI) (pi : outParam (List Sl → (List Tv → Prop) → Prop)) : Prop where
  run : ∀ {B : Bx} {O0 O : List Addr} {Hs Kb H : Hp} {ss : List Sl} {σ : L2.St} {R : It → Hp → Prop} {Qp : List Tv → Prop}, Ct fw B O0 O Hs Kb H ss σ → pi ss Qp → (∀ ts H' J, Qp ts → Stay B H H' → BxOk B H' → Yl J (kn B O H') ts → R J H') → wi σ H R
def Sx.sqv : Sx → Option (List Tv)
  | .v (.lst xs) => some xs
  | .n xs => some xs
  | _ => none
theorem XR.seqk {B : Bx} {O0 O : List Addr} {Hs Kb H0 H : Hp} {ss : List Sl} {σ : L2.St} {x : Sx} {v : V} {xs : List Tv} (W : Wl B O0 O Hs Kb H0) (s : Stay B H0 H) (e : x.sqv = some xs) (h : XR B O H0 H ss σ x v) : ∃ a us, v = .ref a ∧ kn B O H a = some (.lst us) ∧ RepL (kn B O H) xs us := by
  cases x with
  | v u => cases u <;> cases e; exact h
  | n ys => exact XR.rep (x := .n ys) (t := .lst xs) W s (by cases e; rfl) h
  | _ => cases e
theorem yl_list {K : PySem.W.Frag} {K1 : Hp} {a : Addr} {us : List V} {ts : List Tv} (h : K1 a = some (.lst us)) (r : RepL K1 ts us) : Yl (Itl K a) K1 ts := by
  refine ⟨fun i H s hi => ?_, fun H s => ⟨us, SqL.of (s _ _ h), by rw [r.len]; exact Nat.le_refl _⟩, fun i H x H' hi s y => ?_⟩
  · obtain ⟨v, e, _⟩ := r.get i _ (List.getElem?_eq_getElem hi)
    exact ⟨us, v, SqL.of (s _ _ h), e⟩
  · obtain ⟨rfl, y⟩ := y
    have e := y us (SqL.of (s _ _ h))
    obtain ⟨v, e1, r1⟩ := r.get i _ (List.getElem?_eq_getElem hi)
    rw [e] at e1
    cases e1
    exact ⟨Same.refl _, _, List.getElem?_eq_getElem hi, fun B O k _ _ => r1.mono k⟩
theorem yl_tup {K : PySem.W.Frag} {K1 : Hp} {a : Addr} {us : List V} {ts : List Tv} (h : K1 a = some (.tup us)) (r : RepL K1 ts us) : Yl (Itt K a) K1 ts := by
  refine ⟨fun i H s hi => ?_, fun H s => ⟨us, SqT.of (s _ _ h), by rw [r.len]; exact Nat.le_refl _⟩, fun i H x H' hi s y => ?_⟩
  · obtain ⟨v, e, _⟩ := r.get i _ (List.getElem?_eq_getElem hi)
    exact ⟨us, v, SqT.of (s _ _ h), e⟩
  · obtain ⟨rfl, y⟩ := y
    have e := y us (SqT.of (s _ _ h))
    obtain ⟨v, e1, r1⟩ := r.get i _ (List.getElem?_eq_getElem hi)
    rw [e] at e1
    cases e1
    exact ⟨Same.refl _, _, List.getElem?_eq_getElem hi, fun B O k _ _ => r1.mono k⟩
def piList (pe : PX) : List Sl → (List Tv → Prop) → Prop := fun ss Q => pe ss fun x => match x.sqv with | some ts => Q ts | none => False
def piTup (pe : PX) : List Sl → (List Tv → Prop) → Prop := fun ss Q => pe ss fun x => match x.tq with | some ts => Q ts | none => False
def piSeq (pe : PX) : List Sl → (List Tv → Prop) → Prop := fun ss Q => pe ss fun x => match x with
  | .v (.tup ts) => Q ts
  | .v (.lst ts) => Q ts
  | .n ts => Q ts
  | _ => False
theorem XR.tpk {B : Bx} {O : List Addr} {H0 H : Hp} {ss : List Sl} {σ : L2.St} {x : Sx} {v : V} {xs : List Tv} (e : x.tq = some xs) (h : XR B O H0 H ss σ x v) : ∃ a us, v = .ref a ∧ kn B O H a = some (.tup us) ∧ RepL (kn B O H) xs us := by
  cases x with
  | v u => cases u <;> cases e; exact h
  | _ => cases e
instance liList {K : PySem.W.Frag} {te : TE} {pe : PX} [k : LE fw te pe] : LI fw (iList K te) (piList pe) := ⟨fun {B O0 O Hs Kb H ss σ R Qp} c h q => k.run c h fun x H' v q1 s b r => by
  split at q1
  · rename_i ts e
    obtain ⟨a, us, rfl, g, r1⟩ := r.seqk c.w s e
    exact ⟨a, rfl, ⟨us, SqL.of (kn_inv g).1⟩, q _ _ _ q1 s b (yl_list g r1)⟩
  · exact q1.elim⟩
instance liTup {K : PySem.W.Frag} {te : TE} {pe : PX} [k : LE fw te pe] : LI fw (iTup K te) (piTup pe) := ⟨fun {B O0 O Hs Kb H ss σ R Qp} c h q => k.run c h fun x H' v q1 s b r => by
  split at q1
  · rename_i ts e
    obtain ⟨a, us, rfl, g, r1⟩ := r.tpk e
    exact ⟨a, rfl, ⟨us, SqT.of (kn_inv g).1⟩, q _ _ _ q1 s b (yl_tup g r1)⟩
  · exact q1.elim⟩
instance liSeq {K : PySem.W.Frag} {te : TE} {pe : PX} [k : LE fw te pe] : LI fw (iSeq K te) (piSeq pe) := ⟨fun {B O0 O Hs Kb H ss σ R Qp} c h q => k.run c h fun x H' v q1 s b r => by
  split at q1
  · rename_i ts
    obtain ⟨a, us, rfl, g, r1⟩ := XR.tpk (x := .v (.tup ts)) rfl r
    exact ⟨a, rfl, .inr ⟨⟨us, SqT.of (kn_inv g).1⟩, q _ _ _ q1 s b (yl_tup g r1)⟩⟩
  · rename_i ts
    obtain ⟨a, us, rfl, g, r1⟩ := XR.seqk (x := .v (.lst ts)) c.w s rfl r
    exact ⟨a, rfl, .inl ⟨⟨us, SqL.of (kn_inv g).1⟩, q _ _ _ q1 s b (yl_list g r1)⟩⟩
  · rename_i ts
    obtain ⟨a, us, rfl, g, r1⟩ := XR.seqk (x := .n ts) c.w s rfl r
    exact ⟨a, rfl, .inl ⟨⟨us, SqL.of (kn_inv g).1⟩, q _ _ _ q1 s b (yl_list g r1)⟩⟩
  · exact q1.elim⟩
def rgT (lo : Int) (n : Nat) : List Tv := (List.range n).map fun i : Nat => Tv.int (lo + (i : Nat))
theorem rgT_len {lo : Int} {n : Nat} : (rgT lo n).length = n := by simp [rgT]
theorem rgT_at {lo : Int} {n i : Nat} {t : Tv} (h : (rgT lo n)[i]? = some t) : t = .int (lo + (i : Nat)) ∧ i < n := by
  have hi : i < n := by
    have := (List.getElem?_eq_some_iff.mp h).1
    rwa [rgT_len] at this
  refine ⟨?_, hi⟩
  have e : (rgT lo n)[i]? = some (.int (lo + (i : Nat))) := by
    rw [rgT, List.getElem?_map, List.getElem?_range hi]
    rfl
  rw [h] at e
  exact Option.some.inj e
def piRange1 (pa : PAx) : List Sl → (List Tv → Prop) → Prop := fun ss Q => pa ss fun xs => match xs with
  | [.v (.int j)] => -(2 ^ 62) ≤ j ∧ j < 2 ^ 62 ∧ Q (rgT 0 j.toNat)
  | _ => False
def piRange2 (pa : PAx) : List Sl → (List Tv → Prop) → Prop := fun ss Q => pa ss fun xs => match xs with
  | [.v (.int i), .v (.int j)] => -(2 ^ 62) ≤ i ∧ i < 2 ^ 62 ∧ -(2 ^ 62) ≤ j ∧ j < 2 ^ 62 ∧ Q (rgT i (j - i).toNat)
  | _ => False
theorem yl_range {lo : Int} {n : Nat} {K1 : Hp} : Yl (Itr lo n) K1 (rgT lo n) := by
  refine ⟨fun i H s hi => by rw [rgT_len] at hi; exact hi, fun H s => by show n ≤ _; rw [rgT_len]; exact Nat.le_refl _, fun i H x H' hi s y => ?_⟩
  obtain ⟨rfl, rfl⟩ := y
  rw [rgT_len] at hi
  exact ⟨Same.refl _, .int (lo + (i : Nat)), by rw [rgT, List.getElem?_map, List.getElem?_range hi]; rfl, fun B O k _ _ => rfl⟩
instance liRange1 {ta : TA} {pa : PAx} [k : LA fw ta pa] : LI fw (iRng1 ta) (piRange1 pa) := ⟨fun {B O0 O Hs Kb H ss σ R Qp} c h q => k.run c h fun xs H' vs q1 s b r => by
  split at q1
  · obtain ⟨v, w, rfl, r1, r2⟩ := r
    cases r1
    cases r2
    exact ⟨_, rfl, q1.1, q1.2.1, q _ _ _ q1.2.2 s b yl_range⟩
  · exact q1.elim⟩
instance liRange2 {ta : TA} {pa : PAx} [k : LA fw ta pa] : LI fw (iRng2 ta) (piRange2 pa) := ⟨fun {B O0 O Hs Kb H ss σ R Qp} c h q => k.run c h fun xs H' vs q1 s b r => by
  split at q1
  · obtain ⟨v, w, rfl, r1, u, w', rfl, r2, r3⟩ := r
    cases r1
    cases r2
    cases r3
    exact ⟨_, _, rfl, ⟨q1.1, q1.2.1, q1.2.2.1, q1.2.2.2.1⟩, q _ _ _ q1.2.2.2.2 s b yl_range⟩
  · exact q1.elim⟩
/-! ### for, while -/
theorem Ct.base {B : Bx} {O0 O : List Addr} {Hs Kb H : Hp} {ss : List Sl} {σ : L2.St} (c : Ct fw B O0 O Hs Kb H ss σ) {K1 : Hp} (k : Same K1 (kn B O H)) : Ct fw B O0 O Hs K1 H ss σ :=
  ⟨⟨k, c.w.hh, c.w.bx, c.w.bs, c.w.o0, c.w.s0, c.w.on, c.w.st, c.w.ob, c.w.ld⟩, c.r, c.fl⟩
theorem Wl.base {B : Bx} {O0 O : List Addr} {Hs Kb H : Hp} (w : Wl B O0 O Hs Kb H) {K1 : Hp} (k : Same K1 (kn B O H)) : Wl B O0 O Hs K1 H := ⟨k, w.hh, w.bx, w.bs, w.o0, w.s0, w.on, w.st, w.ob, w.ld⟩
theorem Lk.base {B : Bx} {O0 : List Addr} {Hs Kb K1 : Hp} {Dp : PEnds} {D : Ends} (l : Lk B O0 Hs Kb Dp D) (k : Same Kb K1) : Lk B O0 Hs K1 Dp D :=
  ⟨fun O H σ ss a c => l.nx O H σ ss a (c.base (k.trans c.w.kb)), fun O H σ ss a c => l.bk O H σ ss a (c.base (k.trans c.w.kb)), fun O H σ ss a c => l.ct O H σ ss a (c.base (k.trans c.w.kb)), fun O H t v a w r => l.rt O H t v a (w.base (k.trans w.kb)) r⟩
theorem s_for {wi : TI} {g : TG} {tb : TS} {pi : List Sl → (List Tv → Prop) → Prop} {pg : PGx} {ix : List Nat} [k : LI false wi pi] [m : LG false g pg ix] {Dp : PEnds} {ss : List Sl}
    (h : pi ss fun ts => ∃ Iv : Nat → List Sl → Prop, Iv 0 ss ∧ (∀ i t s, ts[i]? = some t → Iv i s → pg t s fun s2 => Sim tp tb ⟨Iv (i + 1), Dp.rt, Dp.nx, Iv (i + 1)⟩ s2) ∧ ∀ s, Iv ts.length s → Dp.nx s) : Sim tp (tFor wi g tb) Dp ss := fun B O0 O Hs Kb H σ D htp c l =>
  k.run c h fun ts H1 J q s b y => by
    obtain ⟨Iv, i0, st, en⟩ := q
    have c0 := c.go s b
    have l1 := l.base (K1 := kn B O H1) c0.w.kb
    have c1 := c0.base (Same.refl (kn B O H1))
    generalize kn B O H1 = K1 at y l1 c1
    refine ⟨fun i n σ H => n = ts.length - i ∧ i ≤ ts.length ∧ ∃ O s, Iv i s ∧ Ct false B O0 O Hs K1 H s σ, ⟨_, rfl, Nat.zero_le _, O, ss, i0, c1⟩, ?_⟩
    rintro i n σ2 H2 ⟨rfl, hi, O2, s2, iv, c2⟩
    have k2 : Same K1 H2 := c2.w.kb.trans kn_all
    by_cases hlt : i < ts.length
    · refine .inr ⟨y.go i H2 k2 hlt, fun σ' H' => ∃ O s, Iv (i + 1) s ∧ Ct false B O0 O Hs K1 H' s σ', fun σ' H' ⟨O', s', a, c'⟩ => ⟨ts.length - (i + 1), by omega, rfl, hlt, O', s', a, c'⟩, fun x H3 yy => ?_⟩
      obtain ⟨sm, t, et, rp⟩ := y.yld i H2 x H3 hlt k2 yy
      have c3 := c2.go (Stay.of sm) (c2.w.bx.same sm)
      refine m.run c3 (rp B O2 c2.w.kb c2.w.st c2.w.bx) (st i t s2 et iv) fun s3 σ3 q3 c4 _ => ?_
      exact q3 B O0 O2 Hs K1 H3 σ3 _ htp c4 ⟨fun O H σ ss a c => ⟨O, ss, a, c⟩, l1.nx, fun O H σ ss a c => ⟨O, ss, a, c⟩, l1.rt⟩
    · have e : i = ts.length := by omega
      subst e
      exact .inl ⟨y.stop H2 k2, l1.nx _ _ _ _ (en s2 iv) c2⟩
theorem s_while {tc : TT} {tb : TS} {pt : PTx} [k : LT false tc pt] {Dp : PEnds} {ss : List Sl} (Iv : Nat → List Sl → Prop) (h0 : ∃ m, Iv m ss)
    (h : ∀ m s, Iv m s → pt s fun b => if b = true then Sim tp tb ⟨fun s' => ∃ m', m' < m ∧ Iv m' s', Dp.rt, Dp.nx, fun s' => ∃ m', m' < m ∧ Iv m' s'⟩ s else Dp.nx s) : Sim tp (tWhile tc tb) Dp ss := fun B O0 O Hs Kb H σ D htp c l => by
  obtain ⟨m0, i0⟩ := h0
  refine ⟨fun m σ H => ∃ O s, Iv m s ∧ Ct false B O0 O Hs Kb H s σ, ⟨m0, O, ss, i0, c⟩, ?_⟩
  rintro m σ1 H1 ⟨O1, s1, iv, c1⟩
  refine k.run c1 (h m s1 iv) fun b H2 q s bx => ?_
  have c2 := c1.go s bx
  split at q
  · rename_i e
    rw [if_pos e]
    exact ⟨fun σ' H' => ∃ m', m' < m ∧ ∃ O s, Iv m' s ∧ Ct false B O0 O Hs Kb H' s σ', fun σ' H' ⟨m', hm, O, s, a, c⟩ => ⟨m', hm, O, s, a, c⟩,
      q B O0 O1 Hs Kb H2 σ1 _ htp c2 ⟨fun O H σ ss ⟨m', hm, a⟩ c => ⟨m', hm, O, ss, a, c⟩, l.nx, fun O H σ ss ⟨m', hm, a⟩ c => ⟨m', hm, O, ss, a, c⟩, l.rt⟩⟩
  · rename_i e
    rw [if_neg e]
    exact l.nx _ _ _ _ q c2
/-! ### owned things written -/
theorem kn_mut {B : Bx} {O : List Addr} {H : Hp} {a : Addr} {o : HO} (ha : a ∈ O) : kn B O (upd H a o) = kn B O H := by
  refine congrArg kt ?_
  funext b
  unfold mn
  by_cases h : b ∈ O ++ bxs B
  · rw [if_pos h, if_pos h]
  · rw [if_neg h, if_neg h]
    exact upd_ne fun e => h (List.mem_append_left _ (by rw [e]; exact ha))
theorem BxOk.mut {B : Bx} {H : Hp} {a : Addr} {o : HO} (b : BxOk B H) (ha : a ∉ bxs B) : BxOk B (upd H a o) := fun p q e => by
  subst e
  have np : p ≠ a := fun e => ha (by rw [e]; simp [bxs])
  have nq : q ≠ a := fun e => ha (by rw [e]; simp [bxs])
  obtain ⟨n, cs, k, h1, h2, h3⟩ := b p q rfl
  exact ⟨n, cs, k, by rw [upd_ne np]; exact h1, by rw [upd_ne nq]; exact h2, h3⟩
theorem Wl.mut {B : Bx} {O0 O : List Addr} {Hs Kb H : Hp} (w : Wl B O0 O Hs Kb H) {a : Addr} {o : HO} (ha : a ∈ O) (hs : Hs a = none) (hl : LD o := by first | exact .inl ⟨_, rfl⟩ | exact .inr ⟨_, rfl⟩) : Wl B O0 O Hs Kb (upd H a o) :=
  ⟨by rw [kn_mut ha]; exact w.kb, fun b u e n => by rw [upd_ne (ne_of_none e hs)]; exact w.hh b u e n, w.bx.mut (w.ob a ha), w.bs, w.o0, w.s0, w.on, fun b hb => by
    by_cases e : b = a
    · rw [e]; exact ⟨_, upd_same⟩
    · rw [upd_ne e]; exact w.st b hb, w.ob, fun b hb o' e' => by
    by_cases e : b = a
    · rw [e, upd_same] at e'; cases e'; exact hl
    · rw [upd_ne e] at e'; exact w.ld b hb o' e'⟩
theorem SlOk.mut {B : Bx} {O : List Addr} {Hs H : Hp} {s : Sl} {v : Option V} {a : Addr} {o : HO} (h : SlOk B O Hs H s v) (ha : a ∈ O) (nd : s.isOwn = true → v ≠ some (.ref a)) (na : a ∉ s.ads) : SlOk B O Hs (upd H a o) s v := by
  cases s with
  | any => trivial
  | val t => unfold SlOk at h ⊢; rw [kn_mut ha]; exact h
  | own xs =>
    obtain ⟨b, us, e, m, n, q, r⟩ := h
    exact ⟨b, us, e, m, n, by rw [upd_ne (fun z => nd rfl (by rw [e, z]))]; exact q, by rw [kn_mut ha]; exact r⟩
  | owd ks ts =>
    obtain ⟨b, us, e, m, n, q, k, r⟩ := h
    exact ⟨b, us, e, m, n, by rw [upd_ne (fun z => nd rfl (by rw [e, z]))]; exact q, k, by rw [kn_mut ha]; exact r⟩
  | box => exact h
  | lkd d ks ts => unfold SlOk at h ⊢; rw [kn_mut ha]; exact h
  | pvd K v t => unfold SlOk at h ⊢; rw [kn_mut ha]; exact h
  | odl as ks xss =>
    obtain ⟨b, us, e, m, n, q, k, k2, w⟩ := h
    exact ⟨b, us, e, m, n, by rw [upd_ne (fun z => nd rfl (by rw [e, z]))]; exact q, k, k2, w.of fun x xs hx mx nx ws hw r => ⟨mx, nx, ws, by rw [upd_ne (fun z => na (by rw [← z]; exact hx))]; exact hw, by rw [kn_mut ha]; exact r⟩⟩
theorem Ct.mut {B : Bx} {O0 O : List Addr} {Hs Kb H : Hp} {ss : List Sl} {σ : L2.St} (c : Ct fw B O0 O Hs Kb H ss σ) {a : Addr} {o : HO} (ha : a ∈ O) (hs : Hs a = none) (nd : ∀ (j : Nat) t, ss[j]? = some t → (t.isOwn = true → σ[j]? ≠ some (some (.ref a))) ∧ a ∉ t.ads) (hl : LD o := by first | exact .inl ⟨_, rfl⟩ | exact .inr ⟨_, rfl⟩) : Ct fw B O0 O Hs Kb (upd H a o) ss σ :=
  ⟨c.w.mut ha hs hl, ⟨c.r.len, fun i s e => by
    obtain ⟨v, e1, k⟩ := c.r.at_ i s e
    exact ⟨v, e1, k.mut ha (fun h z => (nd i s e).1 h (by rw [e1, z])) (nd i s e).2⟩, c.r.dis, c.r.din⟩, c.fl⟩
/-- slot i's own thing is written -/
theorem Ct.wr {B : Bx} {O0 O : List Addr} {Hs Kb H : Hp} {ss : List Sl} {σ : L2.St} (c : Ct fw B O0 O Hs Kb H ss σ) {i : Nat} {a : Addr} {s s' : Sl} {o : HO} (e : ss[i]? = some s) (io : s.isOwn = true) (e1 : σ[i]? = some (some (.ref a))) (ha : a ∈ O) (hs : Hs a = none)
    (io' : s'.isOwn = true) (k : SlOk B O Hs (upd H a o) s' (some (.ref a))) (ad : ∀ x ∈ s'.ads, x ∈ s.ads := by exact fun _ h => nomatch h) (hl : LD o := by first | exact .inl ⟨_, rfl⟩ | exact .inr ⟨_, rfl⟩) : Ct fw B O0 O Hs Kb (upd H a o) (ss.set i s') σ := by
  have hi := (List.getElem?_eq_some_iff.mp e).1
  refine ⟨c.w.mut ha hs hl, c.r.sub (by rw [List.length_set]; exact c.r.len) (fun j t ej => ?_) (fun j t e1' o1 => ?_), c.fl⟩
  · by_cases hj : i = j
    · subst hj
      rw [List.getElem?_set_self hi] at ej
      cases ej
      exact ⟨_, e1, k⟩
    · rw [List.getElem?_set_ne hj] at ej
      obtain ⟨v, e2, q⟩ := c.r.at_ j t ej
      exact ⟨v, e2, q.mut ha (fun h z => c.r.dis i j s t a hj e ej io h e1 (by rw [e2, z])) fun hm => (c.r.din j i t s a (Ne.symm hj) ej e hm).1 io e1⟩
  · by_cases hz : i = j
    · subst hz
      rw [List.getElem?_set_self hi] at e1'
      cases e1'
      exact ⟨s, e, io, ad, rfl⟩
    · rw [List.getElem?_set_ne hz] at e1'
      exact ⟨t, e1', o1, fun _ h => h, rfl⟩
theorem Ct.ownAt {B : Bx} {O0 O : List Addr} {Hs Kb H : Hp} {ss : List Sl} {σ : L2.St} (c : Ct fw B O0 O Hs Kb H ss σ) {i : Nat} {xs : List Tv} (e : ss[i]? = some (.own xs)) : ∃ a us, σ[i]? = some (some (.ref a)) ∧ a ∈ O ∧ Hs a = none ∧ H a = some (.lst us) ∧ RepL (kn B O H) xs us := by
  obtain ⟨o, e1, a, us, e2, q⟩ := c.r.at_ i _ e
  subst e2
  exact ⟨a, us, e1, q⟩
theorem Ct.ownList {B : Bx} {O0 O : List Addr} {Hs Kb H : Hp} {ss : List Sl} {σ : L2.St} (c : Ct fw B O0 O Hs Kb H ss σ) {i : Nat} {xs ys : List Tv} {a : Addr} {us : List V} (e : ss[i]? = some (.own xs)) (e1 : σ[i]? = some (some (.ref a))) (ha : a ∈ O) (hs : Hs a = none) (r : RepL (kn B O H) ys us) :
    Ct fw B O0 O Hs Kb (upd H a (.lst us)) (ss.set i (.own ys)) σ := c.wr (s' := .own ys) e rfl e1 ha hs rfl ⟨a, us, rfl, ha, hs, upd_same, by rw [kn_mut ha]; exact r⟩
/-- xs.append(e) -/
theorem s_append {K : PySem.W.Frag} {i : Nat} {te : TE} {pe : PX} [k : LE false te pe] {Dp : PEnds} {ss : List Sl} {xs : List Tv} (e : ss[i]? = some (.own xs)) (hl : xs.length < 100000)
    (h : pe ss fun x => match x.tv with | some t => Dp.nx (ss.set i (.own (xs ++ [t]))) | none => False) : Sim tp (tDrop (tBM K "list" rAppend (tVar i) (tCons te tNil))) Dp ss := fun B O0 O Hs Kb H σ D htp c l => by
  obtain ⟨a, us, e1, m, n, q, r⟩ := c.ownAt e
  refine ⟨.ref a, e1, .inl ⟨rfl, us, SqL.of q⟩, k.run c h fun x H1 v q1 s b rx => ?_⟩
  split at q1
  · rename_i t et
    have c1 := c.go s b
    have h1 : H1 a = some (.lst us) := s a _ q (c.w.ob a m)
    have r1 := r.mono (kn_sm (O := O) (O' := O) s fun _ h => .inl h)
    refine ⟨a, us, v, rfl, rfl, h1, szl (by rw [r.len]; exact hl), ?_⟩
    exact l.nx _ _ _ _ q1 (c1.ownList e e1 m n (r1.app (RepL.one (rx.rep c.w s et))))
  · exact q1.elim
/-- xs += e -/
theorem s_ext {i : Nat} {te : TE} {pe : PX} [k : LE false te pe] {Dp : PEnds} {ss : List Sl} {xs : List Tv} (e : ss[i]? = some (.own xs))
    (h : pe ss fun x => match x.sq with | some ys => xs.length + ys.length ≤ 100000 ∧ Dp.nx (ss.set i (.own (xs ++ ys))) | none => False) : Sim tp (tAug i te rExt2) Dp ss := fun B O0 O Hs Kb H σ D htp c l => by
  obtain ⟨a, us, e1, m, n, q, r⟩ := c.ownAt e
  refine ⟨.ref a, e1, k.run c h fun x H1 v q1 s b rx => ?_⟩
  split at q1
  · rename_i ys et
    have c1 := c.go s b
    have h1 : H1 a = some (.lst us) := s a _ q (c.w.ob a m)
    have r1 := r.mono (kn_sm (O := O) (O' := O) s fun _ h => .inl h)
    obtain ⟨b2, ws, rfl, h2, r2⟩ := rx.seq c.w s c1.r et
    refine ⟨a, b2, us, ws, rfl, rfl, h1, h2, sz (by rw [r.len, r2.len]; exact q1.1), ?_⟩
    have hs : σ.set i (some (.ref a)) = σ := by
      apply List.ext_getElem?
      intro j
      by_cases hj : i = j
      · subst hj
        rw [List.getElem?_set_self (List.getElem?_eq_some_iff.mp e1).1, e1]
      · rw [List.getElem?_set_ne hj]
    show D.nx (σ.set i (some (.ref a))) _
    rw [hs]
    exact l.nx _ _ _ _ q1.2 (c1.ownList e e1 m n (r1.app r2))
  · exact q1.elim
/-- i += e, ints -/
theorem s_aug {i : Nat} {f : Int → Int → Int} {te : TE} {pe : PX} [k : LE false te pe] {Dp : PEnds} {ss : List Sl} {a : Int} (e : ss[i]? = some (.val (.int a)))
    (h : pe ss fun x => match x with | .v (.int b) => Dp.nx (ss.set i (.val (.int (f a b)))) | _ => False) : Sim tp (tAug i te (ipI f)) Dp ss := fun B O0 O Hs Kb H σ D htp c l => by
  obtain ⟨o, e1, v, e2, r⟩ := c.r.at_ i _ e
  subst e2
  cases r
  refine ⟨_, e1, k.run c h fun x H1 v q1 s b rx => ?_⟩
  split at q1
  · cases rx
    obtain ⟨O', c'⟩ := c.put (x := .v (.int _)) (sl := .val (.int _)) s b (show XR B O H H1 ss σ (.v (.int (f a _))) (.int (f a _)) from rfl) rfl i
    exact ⟨_, _, rfl, rfl, l.nx _ _ _ _ q1 c'⟩
  · exact q1.elim
/-- xs[j] = e -/
theorem s_setL {i : Nat} {te ti : TE} {pe pi : PX} [k : LE false te pe] [m : LE false ti pi] {Dp : PEnds} {ss : List Sl} {xs : List Tv} (e : ss[i]? = some (.own xs))
    (h : pe ss fun x => pi ss fun y => match x.tv, y with | some t, .v (.int j) => ∃ n, ixN xs.length j = some n ∧ Dp.nx (ss.set i (.own (xs.set n t))) | _, _ => False) : Sim tp (tAsg te (gSub (tVar i) ti rSetL)) Dp ss := fun B O0 O Hs Kb H σ D htp c l => by
  obtain ⟨a, us, e1, ma, n, q, r⟩ := c.ownAt e
  refine k.run c h fun x H1 v q1 s b rx => ?_
  refine ⟨.ref a, e1, ?_⟩
  have c1 := c.go s b
  refine m.run c1 q1 fun y H2 w q2 s2 b2 ry => ?_
  have s12 := s.trans s2
  have c2 := c1.go s2 b2
  split at q2
  · rename_i t j et
    obtain ⟨p, hp, q3⟩ := q2
    cases ry
    have h2 : H2 a = some (.lst us) := s12 a _ q (c.w.ob a ma)
    have r2 := r.mono (kn_sm (O := O) (O' := O) s12 fun _ h => .inl h)
    refine ⟨a, us, j, p, rfl, rfl, h2, by rw [r.len]; exact hp, ?_⟩
    exact l.nx _ _ _ _ q3 (c2.ownList e e1 ma n (RepL.set ((rx.go c.w s s2).rep c.w s12 et) p r2))
  · exact q2.elim
def Tv.key : Tv → Option Key
  | .int i => some (.inl i)
  | .str s => some (.inr s)
  | _ => none
theorem Tv.key_rep {H : Hp} {t : Tv} {k : Key} {v : V} (e : t.key = some k) (r : Rep H t v) : v = kV k := by
  cases t <;> cases e <;> exact r
def putT (kvs : List (Key × Tv)) (k : Key) (v : Tv) : List (Key × Tv) :=
  if (kvs.any fun kv => decide (kv.1 = k)) = true then kvs.map (fun kv => if kv.1 = k then (kv.1, v) else kv) else kvs ++ [(k, v)]
theorem putT_new {kvs : List (Key × Tv)} {k : Key} {v : Tv} (h : k ∉ kvs.map (·.1)) : putT kvs k v = kvs ++ [(k, v)] := by
  unfold putT
  rw [if_neg (fun z => by obtain ⟨p, hp, e⟩ := List.any_eq_true.mp z; exact h (List.mem_map.mpr ⟨p, hp, of_decide_eq_true e⟩))]
theorem putT_old {kvs : List (Key × Tv)} {k : Key} {v : Tv} (h : k ∈ kvs.map (·.1)) : putT kvs k v = kvs.map fun kv => if kv.1 = k then (kv.1, v) else kv := by
  unfold putT
  rw [if_pos (by obtain ⟨p, hp, e⟩ := List.mem_map.mp h; exact List.any_eq_true.mpr ⟨p, hp, decide_eq_true e⟩)]
theorem put_rep {H : Hp} {k : Key} {t : Tv} {v : V} (rv : Rep H t v) : ∀ {kvs : List (Key × Tv)} {us : List (Key × V)}, us.map (·.1) = kvs.map (·.1) → RepL H (kvs.map (·.2)) (us.map (·.2)) → (putK us k v).map (·.1) = (putT kvs k t).map (·.1) ∧ RepL H ((putT kvs k t).map (·.2)) ((putK us k v).map (·.2)) := by
  intro kvs us e r
  have ha : (us.any fun kv => decide (kv.1 = k)) = (kvs.any fun kv => decide (kv.1 = k)) := by
    have h1 : (us.any fun kv => decide (kv.1 = k)) = (us.map (·.1)).any fun x => decide (x = k) := by rw [List.any_map]; rfl
    have h2 : (kvs.any fun kv => decide (kv.1 = k)) = (kvs.map (·.1)).any fun x => decide (x = k) := by rw [List.any_map]; rfl
    rw [h1, h2, e]
  unfold putK putT
  rw [ha]
  by_cases hk : (kvs.any fun kv => decide (kv.1 = k)) = true
  · rw [if_pos hk, if_pos hk]
    clear ha hk
    induction kvs generalizing us with
    | nil =>
      cases us with
      | nil => exact ⟨rfl, rfl⟩
      | cons p us => cases e
    | cons p kvs ih =>
      cases us with
      | nil => cases e
      | cons q us =>
        rw [List.map_cons, List.map_cons] at e
        injection e with e1 e2
        obtain ⟨u, w, ew, r1, r2⟩ := r
        rw [List.map_cons] at ew
        injection ew with ew1 ew2
        subst ew1 ew2
        obtain ⟨i1, i2⟩ := ih e2 r2
        refine ⟨?_, ?_⟩
        · rw [List.map_cons, List.map_cons, List.map_cons, List.map_cons, i1]
          congr 1
          rw [e1]
          split
          · rfl
          · exact e1
        · rw [List.map_cons, List.map_cons, List.map_cons, List.map_cons]
          refine ⟨_, _, rfl, ?_, i2⟩
          by_cases h : p.1 = k
          · rw [if_pos h, if_pos (by rw [e1]; exact h)]
            exact rv
          · rw [if_neg h, if_neg (by rw [e1]; exact h)]
            exact r1
  · rw [if_neg hk, if_neg hk, List.map_append, List.map_append, List.map_append, List.map_append, e]
    exact ⟨rfl, r.app (RepL.one rv)⟩
/-- d[k] = e -/
theorem s_setD {i : Nat} {te ti : TE} {pe pi : PX} [k : LE false te pe] [m : LE false ti pi] {Dp : PEnds} {ss : List Sl} {kvs : List (Key × Tv)} (e : ss[i]? = some (.owd (kvs.map (·.1)) (kvs.map (·.2)))) (hl : kvs.length < 100000)
    (h : pe ss fun x => pi ss fun y => match x.tv, y.tv.bind Tv.key with | some t, some j => Dp.nx (ss.set i (.owd ((putT kvs j t).map (·.1)) ((putT kvs j t).map (·.2)))) | _, _ => False) : Sim tp (tAsg te (gSub (tVar i) ti rSetD)) Dp ss := fun B O0 O Hs Kb H σ D htp c l => by
  obtain ⟨o, e1, a, us, e2, ma, n, q, kk, r⟩ := c.r.at_ i _ e
  subst e2
  refine k.run c h fun x H1 v q1 s b rx => ?_
  refine ⟨.ref a, e1, ?_⟩
  have c1 := c.go s b
  refine m.run c1 q1 fun y H2 w q2 s2 b2 ry => ?_
  have s12 := s.trans s2
  have c2 := c1.go s2 b2
  split at q2
  · rename_i t j et ej
    obtain ⟨ty, ety, ekey⟩ := Option.bind_eq_some_iff.mp ej
    have rw' := Tv.key_rep ekey (ry.rep c1.w s2 ety)
    subst rw'
    have h2 : H2 a = some (.dK us) := s12 a _ q (c.w.ob a ma)
    have r2 := r.mono (kn_sm (O := O) (O' := O) s12 fun _ h => .inl h)
    have hul : us.length = kvs.length := by have := congrArg List.length kk; simpa using this
    obtain ⟨p1, p2⟩ := put_rep (k := j) ((rx.go c.w s s2).rep c.w s12 et) kk r2
    refine ⟨a, _, rfl, DPut.k h2 (szl (by rw [hul]; exact hl)), ?_⟩
    refine l.nx _ _ _ _ q2 (c2.wr (s' := .owd _ _) e rfl e1 ma n rfl ⟨a, _, rfl, ma, n, upd_same, p1, ?_⟩)
    rw [kn_mut ma]
    exact p2
  · exact q2.elim
end Pl

set_option Elab.async false
set_option linter.all false
set_option maxRecDepth 100000
set_option maxHeartbeats 4000000
/-! The pure layer: comprehensions, calls, promises. -/
namespace Pl
open PySem PySem.Spec PyProof.Rows L2
variable {fw tp : Bool}
/-! ### comprehensions -/
def wipeS (ss : List Sl) : List Nat → List Sl
  | [] => ss
  | v :: vs => (wipeS ss vs).set v .any
theorem wipeS_get (ss : List Sl) (j : Nat) : ∀ vs : List Nat, (wipeS ss vs)[j]? = if j ∈ vs then (if j < ss.length then some .any else none) else ss[j]?
  | [] => by simp [wipeS]
  | v :: vs => by
    have hl : ∀ vs : List Nat, (wipeS ss vs).length = ss.length := fun vs => by
      induction vs with
      | nil => rfl
      | cons v vs ih => unfold wipeS; rw [List.length_set, ih]
    unfold wipeS
    by_cases h : v = j
    · subst h
      rw [if_pos List.mem_cons_self]
      by_cases hq : v < ss.length
      · rw [List.getElem?_set_self (by rw [hl]; exact hq), if_pos hq]
      · rw [List.getElem?_eq_none (by rw [List.length_set, hl]; omega), if_neg hq]
    · rw [List.getElem?_set_ne h, wipeS_get ss j vs]
      simp only [List.mem_cons, show (j = v) = False from by simp [Ne.symm h], false_or]
theorem wipeS_len (ss : List Sl) : ∀ vs : List Nat, (wipeS ss vs).length = ss.length
  | [] => rfl
  | v :: vs => by unfold wipeS; rw [List.length_set, wipeS_len ss vs]
theorem wipe_wipe (σ : L2.St) (vs : List Nat) : wipe (wipe σ vs) vs = wipe σ vs := by
  apply List.ext_getElem?
  intro j
  rw [wipe_get, wipe_get, wipe_length]
  by_cases hj : j ∈ vs
  · rw [if_pos hj, if_pos hj]
  · rw [if_neg hj, if_neg hj]
theorem Ct.wipe {B : Bx} {O0 O : List Addr} {Hs Kb H : Hp} {ss : List Sl} {σ : L2.St} (c : Ct fw B O0 O Hs Kb H ss σ) (vs : List Nat) : Ct fw B O0 O Hs Kb H (wipeS ss vs) (L2.wipe σ vs) := by
  have nv : ∀ (j : Nat) t, (wipeS ss vs)[j]? = some t → t.isOwn = true → j ∉ vs ∧ ss[j]? = some t := fun j t e o => by
    rw [wipeS_get] at e
    by_cases hj : j ∈ vs
    · rw [if_pos hj] at e
      split at e <;> cases e
      cases o
    · rw [if_neg hj] at e
      exact ⟨hj, e⟩
  refine ⟨c.w, c.r.sub (by rw [wipeS_len, wipe_length]; exact c.r.len) (fun i s e => ?_) (fun i s e1 o1 => ?_), c.fl⟩
  · rw [wipeS_get] at e
    rw [wipe_get]
    by_cases hj : i ∈ vs
    · rw [if_pos hj] at e ⊢
      by_cases hl : i < ss.length
      · rw [if_pos hl] at e
        rw [if_pos (by rw [← c.r.len]; exact hl)]
        cases e
        exact ⟨_, rfl, trivial⟩
      · rw [if_neg hl] at e
        cases e
    · rw [if_neg hj] at e ⊢
      exact c.r.at_ i s e
  · obtain ⟨n1, k1⟩ := nv i s e1 o1
    exact ⟨s, k1, o1, fun _ h => h, by rw [wipe_get, if_neg n1]⟩
/-- [elt for target in iter if test] -/
def pLc (pi : List Sl → (List Tv → Prop) → Prop) (pg : PGx) (ix : List Nat) (pt : PTx) (pe : PX) (vs : List Nat) : PX := fun ss Q => pi ss fun ts => (ix.all fun i => vs.contains i) = true ∧
  ∃ Iv : Nat → List Tv → Prop, Iv 0 [] ∧ (∀ i t acc, ts[i]? = some t → Iv i acc → acc.length < 100000 ∧ pg t (wipeS ss vs) fun s2 => pt s2 fun b => if b = true then pe s2 fun x => (match x.tv with | some u => Iv (i + 1) (acc ++ [u]) | none => False) else Iv (i + 1) acc) ∧ ∀ acc, Iv ts.length acc → Q (.n acc)
def pYes : PTx := fun _ Q => Q true
instance lYes : LT fw tYes pYes := ⟨fun c h q => q _ _ h (Stay.refl _ _) c.w.bx⟩
instance lLc {wi : TI} {g : TG} {tt : TT} {te : TE} {vs : List Nat} {pi : List Sl → (List Tv → Prop) → Prop} {pg : PGx} {ix : List Nat} {pt : PTx} {pe : PX} [ki : LI fw wi pi] [kg : LG false g pg ix] [kt : LT false tt pt] [ke : LE false te pe] : LE fw (tLc wi g tt te vs) (pLc pi pg ix pt pe vs) := ⟨fun {B O0 O Hs Kb H ss σ Q Qp} c h q => ki.run c h fun ts H1 J q1 s b y => by
  obtain ⟨hix, Iv, i0, st, en⟩ := q1
  have hiv : ∀ i ∈ ix, i ∈ vs := fun i hi => by simpa using List.all_eq_true.mp hix i hi
  intro D hD
  have c1 := (c.go s b).dn
  have nb := c1.w.bx.nin hD
  have sD : Stay B H1 (upd H1 D (.lst [])) := Stay.of (same_upd hD)
  obtain ⟨w2, r2, hs, nd⟩ := c1.own sD (c1.w.bx.same (same_upd hD)) hD upd_same
  have hk : Same (kn B O H1) (kn B (D :: O) (upd H1 D (.lst []))) := kn_sm sD fun a ha => by
    rcases List.mem_cons.mp ha with rfl | h
    · exact .inr hD
    · exact .inl h
  have c2 : Ct false B O0 (D :: O) Hs (kn B O H1) (upd H1 D (.lst [])) ss σ := ⟨w2.base hk, r2, fun h => nomatch h⟩
  refine ⟨fun i n H => n = ts.length - i ∧ i ≤ ts.length ∧ ∃ acc us, Iv i acc ∧ Ct false B O0 (D :: O) Hs (kn B O H1) H ss σ ∧ H D = some (.lst us) ∧ RepL (kn B (D :: O) H) acc us ∧ Stay B H1 H, ⟨_, rfl, Nat.zero_le _, [], [], i0, c2, upd_same, rfl, sD⟩, ?_⟩
  rintro i n H2 ⟨rfl, hi, acc, us, iv, c3, hd, ra, s2⟩
  have k2 : Same (kn B O H1) H2 := c3.w.kb.trans kn_all
  by_cases hlt : i < ts.length
  · refine .inr ⟨y.go i H2 k2 hlt, fun H' => ∃ acc us, Iv (i + 1) acc ∧ Ct false B O0 (D :: O) Hs (kn B O H1) H' ss σ ∧ H' D = some (.lst us) ∧ RepL (kn B (D :: O) H') acc us ∧ Stay B H1 H', fun H' z => ⟨ts.length - (i + 1), by omega, rfl, hlt, z⟩, fun x H3 yy => ?_⟩
    obtain ⟨sm, t, et, rp⟩ := y.yld i H2 x H3 hlt k2 yy
    obtain ⟨hal, hst⟩ := st i t acc et iv
    have c4 := c3.go (Stay.of sm) (c3.w.bx.same sm)
    refine kg.run (c4.wipe vs) (rp B (D :: O) c3.w.kb c3.w.st c3.w.bx) hst fun s3 σ3 q3 c5 w5 => ⟨(w5 vs hiv).trans (wipe_wipe σ vs), ?_⟩
    refine kt.run c5 q3 fun bb H4 q4 s4 b4 => ?_
    have s24 : Stay B H2 H4 := (Stay.of sm).trans s4
    have c6 := c4.go s4 b4
    split at q4
    · rename_i eb
      rw [if_pos eb]
      refine ke.run (c5.go s4 b4) q4 fun x5 H5 v5 q5 s5 b5 r5 => ?_
      split at q5
      · rename_i u eu
        have s25 := s24.trans s5
        have hd5 : H5 D = some (.lst us) := s25 D _ hd nb
        have c7 := c6.go s5 b5
        have ru := r5.rep (c5.go s4 b4).w s5 eu
        have ra5 := ra.mono (kn_sm (O := D :: O) (O' := D :: O) s25 fun _ h => .inl h)
        refine ⟨us, hd5, szl (by rw [ra.len]; exact hal), acc ++ [u], us ++ [v5], q5, c7.mut List.mem_cons_self hs nd, upd_same, ?_, fun a o e na => ?_⟩
        · rw [kn_mut List.mem_cons_self]
          exact ra5.app (RepL.one ru)
        · rw [upd_ne (ne_of_none e hD)]
          exact s25 a o (s2 a o e na) na
      · exact q5.elim
    · rename_i eb
      rw [if_neg eb]
      exact ⟨acc, us, q4, c6, s24 D _ hd nb, ra.mono (kn_sm (O := D :: O) (O' := D :: O) s24 fun _ h => .inl h), s2.trans s24⟩
  · have e : i = ts.length := by omega
    subst e
    refine .inl ⟨y.stop H2 k2, q _ _ _ (en acc iv) (s.trans s2) c3.w.bx ⟨D, us, rfl, s.free c1.w.bx hD, hd, ra⟩⟩⟩
/-- elementwise -/
def pLcM (ts : List Tv) (F : Tv → Option Tv) : List Tv := ts.filterMap F
theorem lc_map {pi : List Sl → (List Tv → Prop) → Prop} {pg : PGx} {ix : List Nat} {pt : PTx} {pe : PX} {vs : List Nat} {ss : List Sl} {Q : Sx → Prop} (F : Tv → Option Tv)
    (h : pi ss fun ts => (ix.all fun i => vs.contains i) = true ∧ ts.length ≤ 100000 ∧ (∀ t ∈ ts, pg t (wipeS ss vs) fun s2 => pt s2 fun b => if b = true then pe s2 fun x => ∃ u, x.tv = some u ∧ F t = some u else F t = none) ∧ Q (.n (ts.filterMap F)))
    (mi : ∀ {P P' : List Tv → Prop}, (∀ x, P x → P' x) → pi ss P → pi ss P') (mg : ∀ {t s} {P P' : List Sl → Prop}, (∀ x, P x → P' x) → pg t s P → pg t s P') (mt : ∀ {s} {P P' : Bool → Prop}, (∀ x, P x → P' x) → pt s P → pt s P') (me : ∀ {s} {P P' : Sx → Prop}, (∀ x, P x → P' x) → pe s P → pe s P') :
    pLc pi pg ix pt pe vs ss Q := by
  refine mi (fun ts ⟨h1, h2, h3, h4⟩ => ⟨h1, fun i acc => acc = (ts.take i).filterMap F, rfl, fun i t acc et ea => ?_, fun acc ea => ?_⟩) h
  · subst ea
    have hi : i < ts.length := (List.getElem?_eq_some_iff.mp et).1
    refine ⟨?_, mg (fun s2 z => mt (fun b z => ?_) z) (h3 t (List.mem_of_getElem? et))⟩
    · have h1 := List.length_filterMap_le F (ts.take i)
      have h2 := List.length_take_le i ts
      omega
    · have e1 : (ts.take (i + 1)).filterMap F = (ts.take i).filterMap F ++ (F t).toList := by
        rw [List.take_add_one, et, List.filterMap_append]
        cases hF : F t <;> simp [hF]
      by_cases eb : b = true
      · rw [if_pos eb] at z ⊢
        refine me (fun x ⟨u, hu, hF⟩ => ?_) z
        rw [hu]
        show _ = _
        rw [e1, hF]
        rfl
      · rw [if_neg eb] at z ⊢
        show _ = _
        rw [e1, z]
        simp
  · rw [ea, List.take_length]
    exact h4
/-! ### promises of defs -/
inductive Ar where
  | tv (t : Tv)
  | b
def Ar.sl : Ar → Sl
  | .tv t => .val t
  | .b => .box
def Sx.ar : Sx → Option Ar
  | .b => some .b
  | x => x.tv.map .tv
def ars : List Sx → Option (List Ar)
  | [] => some []
  | x :: xs => match x.ar, ars xs with
    | some t, some ts => some (t :: ts)
    | _, _ => none
def ArR (B : Bx) (G : Hp) : Ar → V → Prop
  | .tv t, v => Rep G t v
  | .b, v => ∃ b c, B = some (b, c) ∧ v = .ref b
def ArL (B : Bx) (G : Hp) : List Ar → List V → Prop
  | [], vs => vs = []
  | x :: xs, vs => ∃ v r, vs = v :: r ∧ ArR B G x v ∧ ArL B G xs r
abbrev PSp := List Ar → (Tv → Prop) → Prop
def spP (n : Nat) (p : PSp) : Sp := fun vs H Q _ => ∃ (B : Bx) (O : List Addr) (xs : List Ar) (Qp : Tv → Prop), Wl B O O H (kn B O H) H ∧ ArL B (kn B O H) xs vs ∧ xs.length = n ∧ p xs Qp ∧ ∀ t H' v, Qp t → Stay B H H' → BxOk B H' → Rep (kn B O H') t v → Q v H'
theorem ArL.len {B : Bx} {G : Hp} : ∀ {xs : List Ar} {vs : List V}, ArL B G xs vs → vs.length = xs.length
  | [], _, h => by rw [show _ = [] from h]; rfl
  | x :: xs, _, h => by
    obtain ⟨v, r, rfl, _, h2⟩ := h
    rw [List.length_cons, List.length_cons, h2.len]
theorem XRL.ars {B : Bx} {O0 O : List Addr} {Hs Kb H0 H : Hp} {ss : List Sl} {σ : L2.St} (W : Wl B O0 O Hs Kb H0) (s : Stay B H0 H) : ∀ {xs : List Sx} {as : List Ar} {vs : List V}, ars xs = some as → XRL B O H0 H ss σ xs vs → ArL B (kn B O H) as vs
  | [], _, _, e, h => by cases e; exact h
  | x :: xs, as, _, e, h => by
    obtain ⟨v, r, rfl, h1, h2⟩ := h
    unfold Pl.ars at e
    split at e
    · rename_i t ts' e1 e2
      cases e
      refine ⟨v, r, rfl, ?_, h2.ars W s e2⟩
      cases x with
      | b => cases e1; exact h1
      | v t => cases e1; exact h1
      | n ys => cases e1; exact h1.rep W s rfl
      | nd ks ys => cases e1; exact h1.rep W s rfl
      | _ => cases e1
    · cases e
class LSp (fw : Bool) (sp : Sp) (pr : outParam (List Sx → (Sx → Prop) → Prop)) : Prop where
  run : ∀ {B : Bx} {O0 O : List Addr} {Hs Kb H0 H : Hp} {ss : List Sl} {σ : L2.St} {Q : VK} {E : XK} {Qp : Sx → Prop} {xs : List Sx} {vs : List V}, Ct fw B O0 O Hs Kb H0 ss σ → Ct fw B O0 O Hs Kb H ss σ → Stay B H0 H → XRL B O H0 H ss σ xs vs → pr xs Qp → Fin B O H ss σ Q Qp → sp vs H Q E
def pSp (n : Nat) (p : PSp) : List Sx → (Sx → Prop) → Prop := fun xs Q => match ars xs with
  | some as => as.length = n ∧ p as fun t => Q (.v t)
  | none => False
theorem Wl.start {B : Bx} {O0 O : List Addr} {Hs Kb H : Hp} (w : Wl B O0 O Hs Kb H) : Wl B O O H (kn B O H) H :=
  ⟨Same.refl _, Stay.refl _ _, w.bx, w.bx, fun _ h => h, w.st, fun _ h => .inl h, w.st, w.ob, w.ld⟩
instance lspP {n : Nat} {p : PSp} : LSp fw (spP n p) (pSp n p) := ⟨fun {B O0 O Hs Kb H0 H ss σ Q E Qp xs vs} c0 c s r h f => by
  unfold pSp at h
  split at h
  · rename_i as e
    exact ⟨B, O, as, _, c.w.start, r.ars c0.w s e, h.1, h.2, fun t H' v q s' b' r' => f.run _ _ _ q s' b' r'⟩
  · exact h.elim⟩
instance lCall {sp : Sp} {E : XK} {ta : TA} {pa : PAx} {pr : List Sx → (Sx → Prop) → Prop} [a : LA fw ta pa] [k : LSp fw sp pr] : LE fw (tCall sp [] E ta) (pCB pr pa) := ⟨fun c h q =>
  a.run c h fun xs H1 vs q1 s1 b1 r1 => by
    rw [List.append_nil]
    exact k.run c (c.go s1 b1) s1 r1 q1 ⟨fun z H3 w q3 s3 b3 r3 => q _ _ _ q3 (s1.trans s3) b3 (r3.back b1 s1)⟩⟩
theorem ArL.rel {B : Bx} {O : List Addr} {H : Hp} : ∀ {xs : List Ar} {vs : List V}, ArL B (kn B O H) xs vs → ∀ (n : Nat) (i : Nat) s, (xs.map Ar.sl ++ List.replicate n .any)[i]? = some s → (∃ o, (vs.map some ++ List.replicate n none)[i]? = some o ∧ SlOk B O H H s o) ∧ s.isOwn = false
  | [], _, h, n, i, s, e => by
    rw [show _ = [] from h]
    simp only [List.map_nil, List.nil_append] at e ⊢
    rw [List.getElem?_replicate] at e ⊢
    split at e
    · rename_i hn
      cases e
      exact ⟨⟨_, if_pos hn, trivial⟩, rfl⟩
    · cases e
  | x :: xs, _, h, n, i, s, e => by
    obtain ⟨v, r, rfl, h1, h2⟩ := h
    cases i with
    | zero =>
      simp only [List.map_cons, List.cons_append, List.getElem?_cons_zero] at e ⊢
      cases e
      cases x with
      | tv t => exact ⟨⟨_, rfl, (show ∃ v', some v = some v' ∧ Rep (kn B O H) t v' from ⟨v, rfl, h1⟩)⟩, rfl⟩
      | b => obtain ⟨b, c, e1, e2⟩ := h1; exact ⟨⟨_, rfl, (show ∃ b c, B = some (b, c) ∧ some v = some (V.ref b) from ⟨b, c, e1, by rw [e2]⟩)⟩, rfl⟩
    | succ i =>
      simp only [List.map_cons, List.cons_append, List.getElem?_cons_succ] at e ⊢
      exact h2.rel n i s e
def stS (k : Nat) (xs : List Ar) : List Sl := xs.map Ar.sl ++ List.replicate k .any
/-- THE RULE for a def in the pure layer -/
theorem okPu {P : Program} {w : World} {K : PySem.W.Frag} {mg : Str → Option Value} {base : Heap} {x qual : Str} {st : Stmt} {f : Addr} {fd : FuncData} {N ps : List Str} {k : Nat} {p : PSp} (F : Fun K x qual st f fd) (S : FnScope N ps (defScope st))
    (hbody : ∀ (xs : List Ar) (Qp : Tv → Prop), xs.length = ps.length → p xs Qp → ∀ (cdv : Value) (A : Around) (outer : List Env) (s : Shared) (H : Hp) (E : XK), Room k (A.deeper (envOfC qual (defScope st) s.heap.objs.size f cdv)) →
      ∃ t, PSs (cxOf CX0 P w K mg base N qual (defScope st) f cdv A outer s H E).nox (defBody st) t ∧ Sim false t ⟨fun _ => Qp .non, Qp, fun _ => False, fun _ => False⟩ (stS (N.length - ps.length) xs)) : FnOk P w K mg base CX0 (k + 1) f fd ps (spP ps.length p) := by
  refine F.ok S (fun vs H Q E h => ?_) (fun cdv A outer s H vs Q E hr h => ?_)
  · obtain ⟨B, O, xs, Qp, _, h1, h2, _⟩ := h
    rw [h1.len, h2]
  · obtain ⟨B, O, xs, Qp, w, r, hl, hp, q⟩ := h
    obtain ⟨t, ht, sm⟩ := hbody xs Qp hl hp cdv A outer s H E hr
    refine ⟨t, ht, sm B O O H (kn B O H) H _ _ (fun h => nomatch h) ⟨w, ⟨?_, fun i s e => ?_, fun i j s t a _ e1 _ o1 => ?_, fun i j s t a _ e1 _ hm => ?_⟩, fun h => nomatch h⟩ ⟨fun O' H' σ' ss' h c => q .non H' .non h c.w.hh c.w.bx rfl, fun _ _ _ _ h => h.elim, fun _ _ _ _ h => h.elim, fun O' H' t v h w' r' => q t H' v h w'.hh w'.bx r'⟩⟩
    · unfold stS L2.start
      rw [List.length_append, List.length_append, List.length_map, List.length_map, List.length_replicate, List.length_replicate, r.len, hl]
    · unfold stS at e
      unfold L2.start
      rw [r.len, hl]
      exact (r.rel _ i s e).1
    · have := (r.rel _ i s e1).2
      rw [o1] at this
      cases this
    · have := (r.rel _ i s e1).2
      rw [Sl.ads_own hm] at this
      cases this
/-! ### wide promises: made where nothing is hidden -/
def spF (n : Nat) (p : PSp) : Sp := fun vs H Q _ => ∃ (B : Bx) (xs : List Ar) (Qp : Tv → Prop), Wl B [] [] H (kn B [] H) H ∧ ArL B (kn B [] H) xs vs ∧ xs.length = n ∧ p xs Qp ∧ ∀ t H' v, Qp t → Stay B H H' → BxOk B H' → Rep (kn B [] H') t v → Q v H'
instance lspF {n : Nat} {p : PSp} : LSp true (spF n p) (pSp n p) := ⟨fun {B O0 O Hs Kb H0 H ss σ Q E Qp xs vs} c0 c s r h g => by
  obtain ⟨h1, h2⟩ := c.fl rfl
  subst h1 h2
  unfold pSp at h
  split at h
  · rename_i as e
    exact ⟨B, as, _, c.w.start, r.ars c0.w s e, h.1, h.2, fun t H' v q s' b' r' => g.run _ _ _ q s' b' r'⟩
  · exact h.elim⟩
/-- the rule for a def with a wide promise -/
theorem okFu {P : Program} {w : World} {K : PySem.W.Frag} {mg : Str → Option Value} {base : Heap} {x qual : Str} {st : Stmt} {f : Addr} {fd : FuncData} {N ps : List Str} {k : Nat} {p : PSp} (F : Fun K x qual st f fd) (S : FnScope N ps (defScope st))
    (hbody : ∀ (xs : List Ar) (Qp : Tv → Prop), xs.length = ps.length → p xs Qp → ∀ (cdv : Value) (A : Around) (outer : List Env) (s : Shared) (H : Hp) (E : XK), Room k (A.deeper (envOfC qual (defScope st) s.heap.objs.size f cdv)) →
      ∃ t, PSs (cxOf CX0 P w K mg base N qual (defScope st) f cdv A outer s H E).nox (defBody st) t ∧ Sim true t ⟨fun _ => Qp .non, Qp, fun _ => False, fun _ => False⟩ (stS (N.length - ps.length) xs)) : FnOk P w K mg base CX0 (k + 1) f fd ps (spF ps.length p) := by
  refine F.ok S (fun vs H Q E h => ?_) (fun cdv A outer s H vs Q E hr h => ?_)
  · obtain ⟨B, xs, Qp, _, h1, h2, _⟩ := h
    rw [h1.len, h2]
  · obtain ⟨B, xs, Qp, w, r, hl, hp, q⟩ := h
    obtain ⟨t, ht, sm⟩ := hbody xs Qp hl hp cdv A outer s H E hr
    refine ⟨t, ht, sm B [] [] H (kn B [] H) H _ _ (fun _ => rfl) ⟨w, ⟨?_, fun i s e => ?_, fun i j s t a _ e1 _ o1 => ?_, fun i j s t a _ e1 _ hm => ?_⟩, fun h => nomatch h⟩ ⟨fun O' H' σ' ss' h c => q .non H' .non h c.w.hh c.w.bx rfl, fun _ _ _ _ h => h.elim, fun _ _ _ _ h => h.elim, fun O' H' t v h w' r' => q t H' v h w'.hh w'.bx r'⟩⟩
    · unfold stS L2.start
      rw [List.length_append, List.length_append, List.length_map, List.length_map, List.length_replicate, List.length_replicate, r.len, hl]
    · unfold stS at e
      unfold L2.start
      rw [r.len, hl]
      exact (r.rel _ i s e).1
    · have := (r.rel _ i s e1).2
      rw [o1] at this
      cases this
    · have := (r.rel _ i s e1).2
      rw [Sl.ads_own hm] at this
      cases this
end Pl

set_option Elab.async false
set_option linter.all false
set_option maxRecDepth 100000
set_option maxHeartbeats 4000000
/-! The pure layer: locks; more operations. -/
namespace Pl
open PySem PySem.Spec PyProof.Rows L2
variable {fw tp : Bool}
/-! ### a dict walked is locked -/
def Unl (d : Addr) (us : List (Key × V)) (H H' : Hp) : Prop := ∀ a x, H a = some x → (a = d ∧ (∃ o, x = .frz o (.dK us)) ∧ H' a = some (.dK us)) ∨ H' a = some x
theorem Unl.sm {d : Addr} {us : List (Key × V)} {H H' : Hp} (u : Unl d us H H') : Sm H H' := fun a x e => by
  rcases u a x e with ⟨_, ⟨o, rfl⟩, h⟩ | h
  · exact ⟨_, h, .inr ⟨us, .inr ⟨o, rfl⟩, .inl rfl⟩⟩
  · exact ⟨_, h, .inl rfl⟩
mutual
theorem Rep.unl {d : Addr} {us : List (Key × V)} {H H' : Hp} (s : Unl d us H H') : ∀ {t : Tv} {v : V}, Rep H t v → Rep H' t v
  | .int _, _, h => h
  | .str _, _, h => h
  | .bl _, _, h => h
  | .non, _, h => h
  | .tup xs, _, h => by
    obtain ⟨a, us, e, h1, h2⟩ := h
    exact ⟨a, us, e, s.sm.tup h1, RepL.unl s h2⟩
  | .lst xs, _, h => by
    obtain ⟨a, us, e, h1, h2⟩ := h
    exact ⟨a, us, e, s.sm.lst h1, RepL.unl s h2⟩
  | .dic true ks ts, _, h => by
    obtain ⟨a, us, e, h1, h2, h3⟩ := h
    exact ⟨a, us, e, (show Dat H' true a us from s.sm.rd h1), h2, RepL.unl s h3⟩
  | .dic false ks ts, _, h => by
    obtain ⟨a, us, e, h1, h2, h3⟩ := h
    refine ⟨a, us, e, ?_, h2, RepL.unl s h3⟩
    have h1 : H a = some (.dK us) := h1
    rcases s a _ h1 with ⟨_, ⟨o, z⟩, _⟩ | z
    · cases z
    · exact z
  | .ext S, _, h => S.mono s.sm h
theorem RepL.unl {d : Addr} {us : List (Key × V)} {H H' : Hp} (s : Unl d us H H') : ∀ {ts : List Tv} {vs : List V}, RepL H ts vs → RepL H' ts vs
  | [], _, h => h
  | x :: xs, _, h => by
    obtain ⟨u, r, e, h1, h2⟩ := h
    exact ⟨u, r, e, Rep.unl s h1, RepL.unl s h2⟩
end
/-- the slots under a lock -/
def lkS (Ku : Hp) : List Sl → List (Option V) → List Sl
  | s :: ss, o :: os => (match s, o with
    | .val (.int i), _ => .val (.int i)
    | .val (.str i), _ => .val (.str i)
    | .val (.bl i), _ => .val (.bl i)
    | .val .non, _ => .val .non
    | .val t, some v => .pvd Ku v t
    | .own xs, _ => .own (fzL xs)
    | .owd ks xs, _ => .owd ks (fzL xs)
    | .odl as ks xss, _ => .odl as ks (xss.map fzL)
    | .box, _ => .box
    | _, _ => .any) :: lkS Ku ss os
  | _, _ => []
open Classical in
/-- the slots behind a lock -/
noncomputable def unSl (d : Addr) (Ku : Hp) : Sl → Sl := fun s => match s with
  | .lkd d' ks ts => if d' = d then .val (.dic false ks ts) else .lkd d' ks ts
  | .pvd K v t => if K = Ku then .val t else .val t.fz
  | s => s
noncomputable def unS (d : Addr) (Ku : Hp) (ss : List Sl) : List Sl := ss.map (unSl d Ku)
theorem unSl_lkd {d : Addr} {Ku : Hp} {ks : List Key} {ts : List Tv} : unSl d Ku (.lkd d ks ts) = .val (.dic false ks ts) := if_pos rfl
theorem unSl_pvd {d : Addr} {Ku : Hp} {v : V} {t : Tv} : unSl d Ku (.pvd Ku v t) = .val t := if_pos rfl
theorem unSl_val {d : Addr} {Ku : Hp} {t : Tv} : unSl d Ku (.val t) = .val t := rfl
theorem unSl_own {d : Addr} {Ku : Hp} {xs : List Tv} : unSl d Ku (.own xs) = .own xs := rfl
theorem unSl_owd {d : Addr} {Ku : Hp} {ks : List Key} {ts : List Tv} : unSl d Ku (.owd ks ts) = .owd ks ts := rfl
theorem unSl_odl {d : Addr} {Ku : Hp} {as : List Addr} {ks : List Key} {ts : List (List Tv)} : unSl d Ku (.odl as ks ts) = .odl as ks ts := rfl
theorem unSl_box {d : Addr} {Ku : Hp} : unSl d Ku .box = .box := rfl
theorem unSl_any {d : Addr} {Ku : Hp} : unSl d Ku .any = .any := rfl
theorem upd_kn {B : Bx} {O : List Addr} {H : Hp} {d : Addr} {o : HO} (h1 : d ∉ O) (h2 : d ∉ bxs B) (n : NT o := by exact fun _ z => nomatch z) : kn B O (upd H d o) = upd (kn B O H) d o := by
  rw [← kt_upd n]
  refine congrArg kt ?_
  funext a
  by_cases e : a = d
  · subst e
    rw [upd_same, kn_eq h1 h2, upd_same]
  · rw [upd_ne e]
    unfold mn
    by_cases hm : a ∈ O ++ bxs B
    · rw [if_pos hm, if_pos hm]
    · rw [if_neg hm, if_neg hm, upd_ne e]
theorem lkS_len (Ku : Hp) : ∀ (ss : List Sl) (os : List (Option V)), ss.length = os.length → (lkS Ku ss os).length = os.length
  | [], [], _ => rfl
  | s :: ss, o :: os, h => by unfold lkS; rw [List.length_cons, List.length_cons, lkS_len Ku ss os (Nat.succ.inj h)]
theorem lkS_at {B : Bx} {O : List Addr} {Hs H : Hp} {d : Addr} {us : List (Key × V)} {od : Obj} {Hs' : Hp} (hd : kn B O H d = some (.dK us)) (hs : ∀ a, Hs a = none → Hs' a = none) :
    ∀ (ss : List Sl) (os : List (Option V)), (∀ (i : Nat) s, ss[i]? = some s → ∃ o, os[i]? = some o ∧ SlOk B O Hs H s o) → ∀ (i : Nat) s, (lkS (kn B O H) ss os)[i]? = some s → ∃ o, os[i]? = some o ∧ SlOk B O Hs' (upd H d (.frz od (.dK us))) s o ∧ (s.isOwn = true → ∃ s', ss[i]? = some s' ∧ s'.isOwn = true ∧ ∀ a ∈ s.ads, a ∈ s'.ads)
  | [], os, _, i, s, e => by simp [lkS] at e
  | s0 :: ss, [], _, i, s, e => by simp [lkS] at e
  | s0 :: ss, o0 :: os, h, i, s, e => by
    obtain ⟨h1, h2, h3⟩ := kn_inv hd
    have ek : kn B O (upd H d (.frz od (.dK us))) = upd (kn B O H) d (.frz od (.dK us)) := upd_kn h2 h3
    have sm : Sm (kn B O H) (kn B O (upd H d (.frz od (.dK us)))) := fun a x ex => by
      rw [ek]
      by_cases ea : a = d
      · subst ea
        rw [hd] at ex
        cases ex
        exact ⟨_, upd_same, .inr ⟨us, .inl rfl, .inr ⟨od, rfl⟩⟩⟩
      · exact ⟨x, by rw [upd_ne ea]; exact ex, .inl rfl⟩
    cases i with
    | succ i =>
      unfold lkS at e
      rw [List.getElem?_cons_succ] at e
      obtain ⟨o, q1, q2, q3⟩ := lkS_at (od := od) hd hs ss os (fun j s' e' => h (j + 1) s' (by rw [List.getElem?_cons_succ]; exact e')) i s e
      exact ⟨o, by rw [List.getElem?_cons_succ]; exact q1, q2, fun z => by obtain ⟨s', r1, r2⟩ := q3 z; exact ⟨s', by rw [List.getElem?_cons_succ]; exact r1, r2⟩⟩
    | zero =>
      unfold lkS at e
      rw [List.getElem?_cons_zero] at e
      obtain ⟨o, q1, q2⟩ := h 0 s0 rfl
      rw [List.getElem?_cons_zero] at q1
      cases q1
      cases e
      refine ⟨o0, rfl, ?_⟩
      cases s0 with
      | val t =>
        obtain ⟨v, rfl, r⟩ := q2
        cases t with
        | int i => exact ⟨⟨v, rfl, r⟩, fun z => nomatch z⟩
        | str i => exact ⟨⟨v, rfl, r⟩, fun z => nomatch z⟩
        | bl i => exact ⟨⟨v, rfl, r⟩, fun z => nomatch z⟩
        | non => exact ⟨⟨v, rfl, r⟩, fun z => nomatch z⟩
        | tup xs => exact ⟨⟨rfl, r, r.fz sm⟩, fun z => nomatch z⟩
        | lst xs => exact ⟨⟨rfl, r, r.fz sm⟩, fun z => nomatch z⟩
        | dic l ks ts => exact ⟨⟨rfl, r, r.fz sm⟩, fun z => nomatch z⟩
        | ext S => exact ⟨⟨rfl, r, r.fz sm⟩, fun z => nomatch z⟩
      | own xs =>
        obtain ⟨a, ws, rfl, m, n, q, r⟩ := q2
        exact ⟨⟨a, ws, rfl, m, hs a n, by rw [upd_ne (fun z => h2 (by rw [← z]; exact m))]; exact q, r.fz sm⟩, fun _ => ⟨_, rfl, rfl, fun _ h => h⟩⟩
      | owd ks xs =>
        obtain ⟨a, ws, rfl, m, n, q, k, r⟩ := q2
        exact ⟨⟨a, ws, rfl, m, hs a n, by rw [upd_ne (fun z => h2 (by rw [← z]; exact m))]; exact q, k, r.fz sm⟩, fun _ => ⟨_, rfl, rfl, fun _ h => h⟩⟩
      | box => exact ⟨q2, fun z => nomatch z⟩
      | any => exact ⟨trivial, fun z => nomatch z⟩
      | lkd d ks ts => exact ⟨trivial, fun z => nomatch z⟩
      | pvd K v t => exact ⟨trivial, fun z => nomatch z⟩
      | odl as ks xss =>
        obtain ⟨a, ws, rfl, m, n, q, k, k2, w⟩ := q2
        refine ⟨⟨a, ws, rfl, m, hs a n, by rw [upd_ne (fun z => h2 (by rw [← z]; exact m))]; exact q, k, k2, w.1, by rw [List.length_map]; exact w.2.1, fun i b xs e1 e2 => ?_⟩, fun _ => ⟨_, rfl, rfl, fun _ h => h⟩⟩
        rw [List.getElem?_map] at e2
        cases e3 : xss[i]? with
        | none => rw [e3] at e2; cases e2
        | some ys =>
          rw [e3] at e2
          cases e2
          obtain ⟨z1, z2, ws', z3, z4⟩ := w.2.2 i b ys e1 e3
          exact ⟨z1, hs b z2, ws', by rw [upd_ne (fun z => h2 (by rw [← z]; exact z1))]; exact z3, z4.fz sm⟩
/-- lock, do, unlock: j is the slot of the dict -/
theorem s_lock (j : Nat) {ks : List Key} {ts : List Tv} {t : TS} {Dp : PEnds} {ss : List Sl} (ej : ss[j]? = some (.val (.dic false ks ts)))
    (h : ∀ (d : Addr) (Ku : Hp) (os : List (Option V)), os.length = ss.length → os[j]? = some (some (.ref d)) → (∀ (i : Nat) t, ss[i]? = some (.val t) → ∃ v, os[i]? = some (some v)) → Sim tp t ⟨fun s => Dp.nx (unS d Ku s), Dp.rt, fun s => Dp.bk (unS d Ku s), fun s => Dp.ct (unS d Ku s)⟩ ((lkS Ku ss os).set j (.lkd d ks (fzL ts)))) : Sim tp (tLock t) Dp ss := fun B O0 O Hs Kb H σ D htp c l => by
  obtain ⟨o, e1, v, e2, d, us, e3, hd, hk, hr⟩ := c.r.at_ j _ ej
  subst e2 e3
  have hd : kn B O H d = some (.dK us) := hd
  obtain ⟨h1, h2, h3⟩ := kn_inv hd
  refine ⟨d, .dK us, h1, trivial, fun od => ?_⟩
  have sm := h d (kn B O H) σ c.r.len.symm e1 (fun i t e => by obtain ⟨o, x1, v, x2, _⟩ := c.r.at_ i _ e; exact ⟨v, by rw [x1, x2]⟩)
  let Hs' : Hp := fun a => if a = d then (match Hs d with | none => none | some _ => some (.frz od (.dK us))) else Hs a
  have hs1 : ∀ a, Hs a = none → Hs' a = none := fun a e => by
    by_cases ea : a = d
    · subst ea
      show (if a = a then _ else _) = _
      rw [if_pos rfl, e]
    · show (if a = d then _ else _) = _
      rw [if_neg ea, e]
  have hs2 : ∀ a, Hs' a = none → Hs a = none := fun a e => by
    by_cases ea : a = d
    · subst ea
      have e' : (if a = a then (match Hs a with | none => none | some _ => some (.frz od (.dK us))) else Hs a) = none := e
      rw [if_pos rfl] at e'
      cases q : Hs a with
      | none => rfl
      | some x => rw [q] at e'; cases e'
    · have e' : (if a = d then (match Hs d with | none => none | some _ => some (.frz od (.dK us))) else Hs a) = none := e
      rwa [if_neg ea] at e'
  have hs3 : ∀ a, a ≠ d → Hs' a = Hs a := fun a ea => if_neg ea
  have hsd : ∀ x, Hs' d = some x → x = .frz od (.dK us) := fun x e => by
    have e' : (if d = d then (match Hs d with | none => none | some _ => some (.frz od (.dK us))) else Hs d) = some x := e
    rw [if_pos rfl] at e'
    cases q : Hs d with
    | none => rw [q] at e'; cases e'
    | some y => rw [q] at e'; exact (Option.some.inj e').symm
  have ek : kn B O (upd H d (.frz od (.dK us))) = upd (kn B O H) d (.frz od (.dK us)) := upd_kn h2 h3
  have bmut : ∀ {G G' : Hp}, (∀ a, a ≠ d → G' a = G a) → BxOk B G → BxOk B G' := fun {G G'} hg hb p q eB => by
    have np : p ≠ d := fun z => h3 (by rw [eB, ← z]; simp [bxs])
    have nq : q ≠ d := fun z => h3 (by rw [eB, ← z]; simp [bxs])
    obtain ⟨n, cs, k, q1, q2, q3⟩ := hb p q eB
    exact ⟨n, cs, k, by rw [hg p np]; exact q1, by rw [hg q nq]; exact q2, q3⟩
  have cl : Ct false B O0 O Hs' (upd (kn B O H) d (.frz od (.dK us))) (upd H d (.frz od (.dK us))) ((lkS (kn B O H) ss σ).set j (.lkd d ks (fzL ts))) σ := by
    refine ⟨⟨by rw [ek]; exact Same.refl _, fun a x e na => ?_, bmut (fun a ea => upd_ne ea) c.w.bx, bmut hs3 c.w.bs, c.w.o0, fun a ha => ?_, fun a ha => (c.w.on a ha).imp id (hs1 a), fun a ha => ?_, c.w.ob, fun a ha o e => c.w.ld a ha o (by rw [upd_ne (fun z => h2 (by rw [← z]; exact ha))] at e; exact e)⟩, c.r.sub (by rw [List.length_set]; exact lkS_len _ _ _ c.r.len) (fun i s e => ?_) (fun i s x1 o1 => ?_), fun h => nomatch h⟩
    · by_cases ea : a = d
      · subst ea; rw [upd_same, hsd x e]
      · rw [upd_ne ea]; rw [hs3 a ea] at e; exact c.w.hh a x e na
    · obtain ⟨x, e⟩ := c.w.s0 a ha
      cases q : Hs' a with
      | some y => exact ⟨y, rfl⟩
      | none => rw [hs2 a q] at e; cases e
    · obtain ⟨x, e⟩ := c.w.st a ha
      exact ⟨x, by rw [upd_ne (fun z => h2 (by rw [← z]; exact ha))]; exact e⟩
    · by_cases hj : j = i
      · subst hj
        have hl : j < (lkS (kn B O H) ss σ).length := by rw [lkS_len _ _ _ c.r.len, ← c.r.len]; exact (List.getElem?_eq_some_iff.mp ej).1
        rw [List.getElem?_set_self hl] at e
        cases e
        refine ⟨_, e1, us, od, rfl, by rw [ek, upd_same], hk, hr.fz fun a x ex => ?_⟩
        rw [ek]
        by_cases ea : a = d
        · subst ea
          rw [hd] at ex
          cases ex
          exact ⟨_, upd_same, .inr ⟨us, .inl rfl, .inr ⟨od, rfl⟩⟩⟩
        · exact ⟨x, by rw [upd_ne ea]; exact ex, .inl rfl⟩
      · rw [List.getElem?_set_ne hj] at e
        obtain ⟨o, q1, q2, _⟩ := lkS_at (od := od) hd hs1 ss σ c.r.at_ i s e
        exact ⟨o, q1, q2⟩
    · by_cases hj : j = i
      · subst hj
        have hl : j < (lkS (kn B O H) ss σ).length := by rw [lkS_len _ _ _ c.r.len, ← c.r.len]; exact (List.getElem?_eq_some_iff.mp ej).1
        rw [List.getElem?_set_self hl] at x1
        cases x1
        cases o1
      · rw [List.getElem?_set_ne hj] at x1
        obtain ⟨_, _, _, q3⟩ := lkS_at (od := od) hd hs1 ss σ c.r.at_ i s x1
        obtain ⟨s', z1, z2, z3⟩ := q3 o1
        exact ⟨s', z1, z2, z3, rfl⟩
  -- unlocking
  have wu : ∀ {O' : List Addr} {H' : Hp}, Wl B O0 O' Hs' (upd (kn B O H) d (.frz od (.dK us))) H' → d ∉ O' ∧ H' d = some (.frz od (.dK us)) ∧ Wl B O0 O' Hs Kb (upd H' d (.dK us)) ∧ Same (kn B O H) (kn B O' (upd H' d (.dK us))) ∧ Unl d us (kn B O' H') (kn B O' (upd H' d (.dK us))) := fun {O' H'} w => by
    have kd := w.kb d _ upd_same
    obtain ⟨g1, g2, g3⟩ := kn_inv kd
    have ek' : kn B O' (upd H' d (.dK us)) = upd (kn B O' H') d (.dK us) := upd_kn g2 h3
    have sb : Same (kn B O H) (kn B O' (upd H' d (.dK us))) := fun a x e => by
      rw [ek']
      by_cases ea : a = d
      · subst ea; rw [hd] at e; cases e; exact upd_same
      · rw [upd_ne ea]; exact w.kb a x (by rw [upd_ne ea]; exact e)
    refine ⟨g2, g1, ⟨c.w.kb.trans sb, fun a x e na => ?_, bmut (fun a ea => upd_ne ea) w.bx, c.w.bs, w.o0, c.w.s0, fun a ha => (w.on a ha).imp id (hs2 a), fun a ha => ?_, w.ob, fun a ha o e => w.ld a ha o (by rw [upd_ne (fun z => g2 (by rw [← z]; exact ha))] at e; exact e)⟩, sb, fun a x e => ?_⟩
    · by_cases ea : a = d
      · subst ea
        have := c.w.hh a x e na
        rw [h1] at this
        cases this
        exact upd_same
      · rw [upd_ne ea]
        exact w.hh a x (by rw [hs3 a ea]; exact e) na
    · obtain ⟨x, e⟩ := w.st a ha
      exact ⟨x, by rw [upd_ne (fun z => g2 (by rw [← z]; exact ha))]; exact e⟩
    · rw [ek']
      by_cases ea : a = d
      · subst ea
        rw [kd] at e
        cases e
        exact .inl ⟨rfl, ⟨od, rfl⟩, upd_same⟩
      · exact .inr (by rw [upd_ne ea]; exact e)
  have cu : ∀ {O' : List Addr} {H' : Hp} {ss' : List Sl} {σ' : L2.St}, Ct false B O0 O' Hs' (upd (kn B O H) d (.frz od (.dK us))) H' ss' σ' → H' d = some (.frz od (.dK us)) ∧ Ct false B O0 O' Hs Kb (upd H' d (.dK us)) (unS d (kn B O H) ss') σ' := fun {O' H' ss' σ'} c' => by
    obtain ⟨g2, g1, w, sb, un⟩ := wu c'.w
    have ek' : kn B O' (upd H' d (.dK us)) = upd (kn B O' H') d (.dK us) := upd_kn g2 h3
    refine ⟨g1, w, c'.r.sub (by unfold unS; rw [List.length_map]; exact c'.r.len) (fun i s e => ?_) (fun i s x1 o1 => ?_), fun h => nomatch h⟩
    · unfold unS at e
      rw [List.getElem?_map] at e
      cases e0 : ss'[i]? with
      | none => rw [e0] at e; cases e
      | some s0 =>
        rw [e0] at e
        cases e
        obtain ⟨o, q1, q2⟩ := c'.r.at_ i s0 e0
        refine ⟨o, q1, ?_⟩
        cases s0 with
        | any => trivial
        | val t => obtain ⟨v, e, r⟩ := q2; exact ⟨v, e, r.unl un⟩
        | own xs => obtain ⟨a, ws, e, m, n, q, r⟩ := q2; exact ⟨a, ws, e, m, hs2 a n, by rw [upd_ne (fun z => g2 (by rw [← z]; exact m))]; exact q, r.unl un⟩
        | owd ks' xs => obtain ⟨a, ws, e, m, n, q, k, r⟩ := q2; exact ⟨a, ws, e, m, hs2 a n, by rw [upd_ne (fun z => g2 (by rw [← z]; exact m))]; exact q, k, r.unl un⟩
        | box => exact q2
        | lkd d' ks' ts' =>
          obtain ⟨ws, x, e, q, k, r⟩ := q2
          unfold unSl
          dsimp only
          by_cases hd' : d' = d
          · rw [if_pos hd']
            subst hd'
            rw [show kn B O' H' d' = some (.frz od (.dK us)) from kn_at g2 h3 g1] at q
            have e5 : us = ws := by cases q; rfl
            subst e5
            refine ⟨_, e, d', us, rfl, ?_, k, r.unl un⟩
            show kn B O' _ d' = _
            rw [ek', upd_same]
          · rw [if_neg hd']
            exact ⟨ws, x, e, by rw [ek', upd_ne hd']; exact q, k, r.unl un⟩
        | pvd K v t =>
          obtain ⟨e, r1, r2⟩ := q2
          unfold unSl
          dsimp only
          by_cases hK : K = kn B O H
          · rw [if_pos hK]
            exact ⟨v, e, (by rw [hK] at r1; exact r1.mono sb)⟩
          · rw [if_neg hK]
            exact ⟨v, e, r2.unl un⟩
        | odl as ks' xss =>
          obtain ⟨a, ws, e, m, n, q, k, k2, w'⟩ := q2
          exact ⟨a, ws, e, m, hs2 a n, by rw [upd_ne (fun z => g2 (by rw [← z]; exact m))]; exact q, k, k2, w'.of fun b xs hb mb nb vs hv r => ⟨mb, hs2 b nb, vs, by rw [upd_ne (fun z => g2 (by rw [← z]; exact mb))]; exact hv, r.unl un⟩⟩
    · unfold unS at x1
      rw [List.getElem?_map] at x1
      cases e0 : ss'[i]? with
      | none => rw [e0] at x1; cases x1
      | some s0 =>
        rw [e0] at x1
        cases x1
        refine ⟨s0, rfl, ?_⟩
        cases s0 with
        | lkd d' ks' ts' => unfold unSl at o1; dsimp only at o1; split at o1 <;> cases o1
        | pvd K v t => unfold unSl at o1; dsimp only at o1; split at o1 <;> cases o1
        | _ => exact ⟨o1, fun _ h => h, rfl⟩
  refine sm B O0 O Hs' _ _ σ _ htp cl ⟨fun O' H' σ' ss' q c' => ⟨(cu c').1, l.nx _ _ _ _ q (cu c').2⟩, fun O' H' σ' ss' q c' => ⟨(cu c').1, l.bk _ _ _ _ q (cu c').2⟩, fun O' H' σ' ss' q c' => ⟨(cu c').1, l.ct _ _ _ _ q (cu c').2⟩, fun O' H' t v q w' r => ?_⟩
  obtain ⟨g2, g1, w, _, _⟩ := wu w'
  refine ⟨g1, l.rt _ _ _ _ q w (r.unl (d := d) (us := us) fun a x e => ?_)⟩
  have g0 : d ∉ O0 := fun z => g2 (w'.o0 d z)
  rw [upd_kn g0 h3]
  by_cases ea : a = d
  · subst ea
    rw [show kn B O0 H' a = some (.frz od (.dK us)) from kn_at g0 h3 g1] at e
    cases e
    exact .inl ⟨rfl, ⟨od, rfl⟩, upd_same⟩
  · exact .inr (by rw [upd_ne ea]; exact e)
end Pl

set_option Elab.async false
set_option linter.all false
set_option maxRecDepth 100000
set_option maxHeartbeats 4000000
/-! The pure layer: more operations. -/
namespace Pl
open PySem PySem.Spec PyProof.Rows L2
variable {fw : Bool}
def kT : Key → Tv
  | .inl i => .int i
  | .inr s => .str s
theorem kT_rep {H : Hp} {k : Key} : Rep H (kT k) (kV k) := by cases k <;> rfl
/-! ### dicts -/
def piKeys (pe : PX) (j : Nat) : List Sl → (List Tv → Prop) → Prop := fun ss Q => match ss[j]? with
  | some (.lkd _ ks _) => Q (ks.map kT)
  | _ => False
instance liKeys {j : Nat} : LI fw (iKeys (tVar j)) (piKeys (pVar j) j) := ⟨fun {B O0 O Hs Kb H ss σ R Qp} c h q => by
  unfold piKeys at h
  split at h
  · rename_i d ks ts e
    obtain ⟨o, e1, us, x, e2, g, hk, hr⟩ := c.r.at_ _ _ e
    subst e2
    refine ⟨_, e1, d, x, rfl, .inl ⟨us, (kn_inv g).1, q _ _ _ h (Stay.refl _ _) c.w.bx ⟨fun i H' s hi => ⟨s _ _ g, ?_⟩, fun H' s => ⟨s _ _ g, ?_⟩, fun i H' x' H'' hi s y => ?_⟩⟩⟩
    · rw [List.length_map, ← hk, List.length_map] at hi
      exact hi
    · rw [List.length_map, ← hk, List.length_map]
      exact Nat.le_refl _
    · obtain ⟨rfl, k, v, ek, rfl⟩ := y
      refine ⟨Same.refl _, kT k, ?_, fun B O _ _ _ => kT_rep⟩
      rw [List.getElem?_map, ← hk, List.getElem?_map, ek]
      rfl
  · exact h.elim⟩
def piItems (pe : PX) (j : Nat) : List Sl → (List Tv → Prop) → Prop := fun ss Q => match ss[j]? with
  | some (.lkd _ ks ts) => ks.length = ts.length ∧ Q ((ks.zip ts).map fun p => Tv.tup [kT p.1, p.2])
  | _ => False
instance liItems {j : Nat} : LI fw (iItems (tVar j)) (piItems (pVar j) j) := ⟨fun {B O0 O Hs Kb H ss σ R Qp} c h q => by
  unfold piItems at h
  split at h
  · rename_i d ks ts e
    obtain ⟨o, e1, us, x, e2, g, hk, hr⟩ := c.r.at_ _ _ e
    subst e2
    have hl : us.length = ks.length := by rw [← hk, List.length_map]
    refine ⟨_, e1, d, x, us, rfl, (kn_inv g).1, q _ _ _ h.2 (Stay.refl _ _) c.w.bx ⟨fun i H' s hi => ⟨s _ _ g, ?_⟩, fun H' s => ⟨s _ _ g, ?_⟩, fun i H' x' H'' hi s y => ?_⟩⟩
    · rw [List.length_map, List.length_zip, ← h.1] at hi
      omega
    · rw [List.length_map, List.length_zip, ← h.1]
      omega
    · obtain ⟨T, k, v, ek, rfl, hT, rfl⟩ := y
      have h1 : ks[i]? = some k := by rw [← hk, List.getElem?_map, ek]; rfl
      have hi' : i < ts.length := by rw [← h.1]; exact (List.getElem?_eq_some_iff.mp h1).1
      obtain ⟨v', e3, r3⟩ := hr.get i ts[i] (List.getElem?_eq_getElem hi')
      rw [List.getElem?_map, ek] at e3
      cases e3
      refine ⟨same_upd hT, .tup [kT k, ts[i]], ?_, fun B' O' kk st bx => ⟨T, [kV k, v], rfl, ?_, ⟨_, _, rfl, kT_rep, _, _, rfl, ?_, rfl⟩⟩⟩
      · rw [List.getElem?_map, (List.getElem?_zip_eq_some (z := (k, ts[i]))).mpr ⟨h1, List.getElem?_eq_getElem hi'⟩]
        rfl
      · exact kn_at (fun hm => by obtain ⟨o, e⟩ := st T hm; rw [hT] at e; cases e) (bx.nin hT) upd_same
      · exact r3.mono (kk.trans (kn_sm (Stay.of (same_upd hT)) fun _ h => .inl h))
  · exact h.elim⟩
def pDNew : PX := fun _ Q => Q (.nd [] [])
instance lDNew : LE fw tDNewK pDNew := ⟨fun {B O0 O Hs Kb H ss σ Q Qp} c h q p hp => by
  have s : Stay B H (upd H p (.dK [])) := Stay.of (same_upd hp)
  exact q _ _ _ h s (c.w.bx.same (same_upd hp)) ⟨p, [], rfl, hp, upd_same, rfl, rfl⟩⟩
def vT (ks : List Key) (ts : List Tv) (k : Key) : Option Tv := ((ks.zip ts).find? fun p => decide (p.1 = k)).map (·.2)
theorem vT_rep {H : Hp} {k : Key} : ∀ {us : List (Key × V)} {ks : List Key} {ts : List Tv}, us.map (·.1) = ks → RepL H ts (us.map (·.2)) → (∀ t, vT ks ts k = some t → ∃ v, valV us k = some v ∧ Rep H t v) ∧ (vT ks ts k = none → valV us k = none)
  | [], ks, ts, e, r => by
    cases e
    exact ⟨fun t h => by simp [vT] at h, fun _ => rfl⟩
  | p :: us, [], ts, e, r => by cases e
  | p :: us, k0 :: ks, [], e, r => by cases r
  | p :: us, k0 :: ks, t0 :: ts, e, r => by
    rw [List.map_cons] at e
    injection e with e1 e2
    obtain ⟨v, w, ew, r1, r2⟩ := r
    rw [List.map_cons] at ew
    injection ew with ew1 ew2
    subst ew1 ew2 e1
    by_cases hk : p.1 = k
    · rw [valV_pos hk]
      have : vT (p.1 :: ks) (t0 :: ts) k = some t0 := by simp [vT, hk]
      rw [this]
      exact ⟨fun t h => by cases h; exact ⟨_, rfl, r1⟩, fun h => nomatch h⟩
    · rw [valV_neg hk]
      have : vT (p.1 :: ks) (t0 :: ts) k = vT ks ts k := by simp [vT, hk]
      rw [this]
      exact vT_rep e2 r2
def pDGet (pd py : PX) : PX := fun ss Q => pd ss fun x => py ss fun y => match x.dq, y.tv.bind Tv.key with
  | some (ks, ts), some k => ∃ t, vT ks ts k = some t ∧ Q (.v t)
  | _, _ => False
theorem DGet.rd {H : Hp} {a : Addr} {kvs : List (Key × V)} {k : Key} (e : Rd H a (.dK kvs)) : DGet H a (kV k) (valV kvs k) := .inl ⟨kvs, k, e, rfl, rfl⟩
instance lDGet {td ty : TE} {pd py : PX} [a : LE fw td pd] [b : LE fw ty py] : LE fw (tDGet td ty) (pDGet pd py) := ⟨fun {B O0 O Hs Kb H ss σ Q Qp} c h q => a.run c h fun x H1 v q1 s1 b1 r1 => b.run (c.go s1 b1) q1 fun y H2 u q2 s2 b2 r2 => by
  have c2 := (c.go s1 b1).go s2 b2
  have s12 := s1.trans s2
  split at q2
  · rename_i ks ts k ex ek
    obtain ⟨t, ht, q3⟩ := q2
    obtain ⟨d, us, rfl, g, hk, hr⟩ := (r1.go c.w s1 s2).dic c.w s12 c2.r ex
    obtain ⟨ty', e1, e2⟩ := Option.bind_eq_some_iff.mp ek
    have := Tv.key_rep e2 (r2.rep (c.go s1 b1).w s2 e1)
    subst this
    obtain ⟨w, hw, rw'⟩ := (vT_rep hk hr).1 t ht
    exact ⟨d, w, rfl, by rw [← hw]; exact DGet.rd g, q _ _ _ q3 s12 b2 rw'⟩
  · exact q2.elim⟩
def pDGet2 (pd py pz : PX) : PX := fun ss Q => pd ss fun x => match x.dq with
  | some (ks, ts) => py ss fun y => pz ss fun z => match y.tv.bind Tv.key with
    | some k => (match vT ks ts k with | some t => Q (.v t) | none => (match z.tv with | some t => Q (.v t) | none => False))
    | none => False
  | none => False
def pDIn (neg : Bool) (py pd : PX) : PX := fun ss Q => py ss fun y => pd ss fun x => match x.dq, y.tv.bind Tv.key with
  | some (ks, ts), some k => ks.length = ts.length ∧ Q (.v (.bl (neg ^^ ks.any fun x => decide (x = k))))
  | _, _ => False
theorem valV_mem {us : List (Key × V)} {k : Key} : (valV us k).isSome = (us.map (·.1)).any fun x => decide (x = k) := by
  induction us with
  | nil => simp [valV]
  | cons p us ih =>
    by_cases h : p.1 = k
    · rw [valV_pos h]; simp [h]
    · rw [valV_neg h, ih]; simp [h]
theorem din_go {neg : Bool} {B : Bx} {O0 O : List Addr} {Hs Kb H : Hp} {ss : List Sl} {σ : L2.St} {Q : VK} {Qp : Sx → Prop} {td ty : TE} {pd py : PX} (a : LE fw td pd) (b : LE fw ty py) (c : Ct fw B O0 O Hs Kb H ss σ) (h : pDIn neg py pd ss Qp)
    (q : ∀ x H' v, Qp x → Stay B H H' → BxOk B H' → XR B O H H' ss σ x v → Q v H') : ty σ H fun y H1 => td σ H1 fun x H2 => ∃ a o, x = .ref a ∧ DGet H2 a y o ∧ Q (.bl (neg ^^ o.isSome)) H2 :=
  b.run c h fun y H1 u q1 s1 b1 r1 => a.run (c.go s1 b1) q1 fun x H2 v q2 s2 b2 r2 => by
  have c2 := (c.go s1 b1).go s2 b2
  have s12 := s1.trans s2
  split at q2
  · rename_i ks ts k ex ek
    obtain ⟨d, us, rfl, g, hk, hr⟩ := (r2.back b1 s1).dic c.w s12 c2.r ex
    obtain ⟨ty', e1, e2⟩ := Option.bind_eq_some_iff.mp ek
    have := Tv.key_rep e2 ((r1.go c.w s1 s2).rep c.w s12 e1)
    subst this
    refine ⟨d, _, rfl, DGet.rd g, ?_⟩
    rw [valV_mem, hk]
    exact q _ _ _ q2.2 s12 b2 rfl
  · exact q2.elim
instance lDIn {td ty : TE} {pd py : PX} [a : LE fw td pd] [b : LE fw ty py] : LE fw (tDIn ty td) (pDIn false py pd) := ⟨fun {B O0 O Hs Kb H ss σ Q Qp} c h q => by
  have z := din_go (Q := Q) a b c h q
  simp only [Bool.false_xor] at z
  exact z⟩
instance lDNotIn {td ty : TE} {pd py : PX} [a : LE fw td pd] [b : LE fw ty py] : LE fw (tDNotIn ty td) (pDIn true py pd) := ⟨fun {B O0 O Hs Kb H ss σ Q Qp} c h q => by
  have z := din_go (Q := Q) a b c h q
  simp only [Bool.true_xor] at z
  exact z⟩
instance lDGet2 {td ty tz : TE} {pd py pz : PX} [a : LE fw td pd] [b : LE fw ty py] [e : LE fw tz pz] : LE fw (tDGet2 td ty tz) (pDGet2 pd py pz) := ⟨fun {B O0 O Hs Kb H ss σ Q Qp} c h q => a.run c h fun x H1 v q1 s1 b1 r1 => by
  have c1 := c.go s1 b1
  split at q1
  · rename_i ks ts ex
    obtain ⟨d, us, rfl, g, hk, hr⟩ := r1.dic c.w s1 c1.r ex
    refine ⟨d, rfl, .inl ⟨us, g⟩, b.run c1 q1 fun y H2 u q2 s2 b2 r2 => e.run (c1.go s2 b2) q2 fun z H3 w q3 s3 b3 r3 => ?_⟩
    have c2 := c1.go s2 b2
    have c3 := c2.go s3 b3
    have s13 := (s1.trans s2).trans s3
    obtain ⟨d', us', e4, g, hk, hr⟩ := ((r1.go c.w s1 s2).go c.w (s1.trans s2) s3).dic c.w s13 c3.r ex
    cases e4
    split at q3
    · rename_i k ek
      obtain ⟨ty', e1, e2⟩ := Option.bind_eq_some_iff.mp ek
      have := Tv.key_rep e2 ((r2.go c1.w s2 s3).rep c1.w (s2.trans s3) e1)
      subst this
      obtain ⟨v1, v2⟩ := vT_rep (k := k) hk hr
      refine ⟨_, DGet.rd g, ?_⟩
      split at q3
      · rename_i t ht
        obtain ⟨w', hw, rw'⟩ := v1 t ht
        rw [hw]
        exact q _ _ _ q3 s13 b3 rw'
      · rename_i hn
        rw [v2 hn]
        split at q3
        · rename_i t ht
          exact q _ _ _ q3 s13 b3 (r3.rep c2.w s3 ht)
        · exact q3.elim
    · exact q3.elim
  · exact q1.elim⟩
end Pl

set_option Elab.async false
set_option linter.all false
set_option maxRecDepth 100000
set_option maxHeartbeats 4000000
/-! Short words for readings. -/
namespace Pl
open PySem L2
theorem at_same {H H' : Hp} {a : Addr} {o : HO} (s : Same H H') (h : H a = some o) : H' a = some o := s _ _ h
theorem sm2 {H H1 H2 : Hp} (b : Same H1 H2) (a : Same H H1) : Same H H2 := a.trans b
theorem nw1 {H K : Hp} {p : Addr} {o : HO} (e : upd H p o = K) (h : H p = none) : Same H K ∧ K p = some o := by subst e; exact ⟨same_upd h, upd_same⟩
theorem hu65 {k : Nat} {A : Around} (r : Room k A) : A.units + 65 < cLine := by have := r.un; omega
theorem dI_t {x y : Int} (h : x = y) : decide (V.int x = V.int y) = true := by subst h; exact decide_eq_true rfl
theorem dI_f {x y : Int} (h : ¬ x = y) : decide (V.int x = V.int y) = false := decide_eq_false fun z => h (V.int.inj z)
theorem dS_t {x y : Str} (h : x = y) : decide (V.str x = V.str y) = true := by subst h; exact decide_eq_true rfl
theorem dS_f {x y : Str} (h : ¬ x = y) : decide (V.str x = V.str y) = false := decide_eq_false fun z => h (V.str.inj z)
theorem nI_t {x y : Int} (h : x = y) : (!decide (V.int x = V.int y)) = false := by rw [dI_t h]; rfl
theorem nI_f {x y : Int} (h : ¬ x = y) : (!decide (V.int x = V.int y)) = true := by rw [dI_f h]; rfl
theorem nS_t {x y : Str} (h : x = y) : (!decide (V.str x = V.str y)) = false := by rw [dS_t h]; rfl
theorem nS_f {x y : Str} (h : ¬ x = y) : (!decide (V.str x = V.str y)) = true := by rw [dS_f h]; rfl
theorem nb_t {b : Bool} (h : b = false) : (!b) = true := by rw [h]; rfl
theorem nb_f {b : Bool} (h : b = true) : (!b) = false := by rw [h]; rfl
theorem q_none_int : tyB "NoneType" "int" = false := by unfold tyB; rw [kb_none_int]; rfl
theorem q_none_bool : tyB "NoneType" "bool" = false := by unfold tyB; rw [kb_none_bool]; rfl
theorem q_none_tuple : tyB "NoneType" "tuple" = false := by unfold tyB; rw [kb_none_tuple]; rfl
theorem q_none_list : tyB "NoneType" "list" = false := by unfold tyB; rw [kb_none_list]; rfl
theorem q_none_str : tyB "NoneType" "str" = false := by unfold tyB; rw [kb_none_str]; rfl
theorem q_bool_int : tyB "bool" "int" = true := by unfold tyB; rw [kb_bool_int]; rfl
theorem q_bool_bool : tyB "bool" "bool" = true := by unfold tyB; rw [kb_bool_bool]; rfl
theorem q_bool_tuple : tyB "bool" "tuple" = false := by unfold tyB; rw [kb_bool_tuple]; rfl
theorem q_bool_list : tyB "bool" "list" = false := by unfold tyB; rw [kb_bool_list]; rfl
theorem q_bool_str : tyB "bool" "str" = false := by unfold tyB; rw [kb_bool_str]; rfl
theorem q_int_int : tyB "int" "int" = true := by unfold tyB; rw [kb_int_int]; rfl
theorem q_int_bool : tyB "int" "bool" = false := by unfold tyB; rw [kb_int_bool]; rfl
theorem q_int_tuple : tyB "int" "tuple" = false := by unfold tyB; rw [kb_int_tuple]; rfl
theorem q_int_list : tyB "int" "list" = false := by unfold tyB; rw [kb_int_list]; rfl
theorem q_int_str : tyB "int" "str" = false := by unfold tyB; rw [kb_int_str]; rfl
theorem q_str_int : tyB "str" "int" = false := by unfold tyB; rw [kb_str_int]; rfl
theorem q_str_bool : tyB "str" "bool" = false := by unfold tyB; rw [kb_str_bool]; rfl
theorem q_str_tuple : tyB "str" "tuple" = false := by unfold tyB; rw [kb_str_tuple]; rfl
theorem q_str_list : tyB "str" "list" = false := by unfold tyB; rw [kb_str_list]; rfl
theorem q_str_str : tyB "str" "str" = true := by unfold tyB; rw [kb_str_str]; rfl
theorem q_list_int : tyB "list" "int" = false := by unfold tyB; rw [kb_list_int]; rfl
theorem q_list_bool : tyB "list" "bool" = false := by unfold tyB; rw [kb_list_bool]; rfl
theorem q_list_tuple : tyB "list" "tuple" = false := by unfold tyB; rw [kb_list_tuple]; rfl
theorem q_list_list : tyB "list" "list" = true := by unfold tyB; rw [kb_list_list]; rfl
theorem q_list_str : tyB "list" "str" = false := by unfold tyB; rw [kb_list_str]; rfl
theorem q_tuple_int : tyB "tuple" "int" = false := by unfold tyB; rw [kb_tuple_int]; rfl
theorem q_tuple_bool : tyB "tuple" "bool" = false := by unfold tyB; rw [kb_tuple_bool]; rfl
theorem q_tuple_tuple : tyB "tuple" "tuple" = true := by unfold tyB; rw [kb_tuple_tuple]; rfl
theorem q_tuple_list : tyB "tuple" "list" = false := by unfold tyB; rw [kb_tuple_list]; rfl
theorem q_tuple_str : tyB "tuple" "str" = false := by unfold tyB; rw [kb_tuple_str]; rfl
end Pl

set_option Elab.async false
set_option linter.all false
set_option maxRecDepth 100000
set_option maxHeartbeats 4000000
/-! The pure layer: lists, tuples, texts, tests of kinds. -/
namespace Pl
open PySem PySem.Spec PyProof.Rows L2
variable {fw : Bool}
theorem OpR.or {X : Cx} {f : Value → Value → PySem.Sem Value} {r r' : R2} (h : OpR X f r) (h' : OpR X f r') : OpR X f (fun x y H Q => r x y H Q ∨ r' x y H Q) := by
  intro pins s σ H x y v u Q I rx ry q
  rcases q with q | q
  · exact h pins s σ H x y v u Q I rx ry q
  · exact h' pins s σ H x y v u Q I rx ry q
theorem CallR.or {X : Cx} {f : Value} {r r' : List V → Hp → VK → Prop} (h : CallR X f r) (h' : CallR X f r') : CallR X f (fun xs H Q => r xs H Q ∨ r' xs H Q) := by
  intro pins s σ H xs us Q I rx q
  rcases q with q | q
  · exact h pins s σ H xs us Q I rx q
  · exact h' pins s σ H xs us Q I rx q
/-! ### + -/
def rAddS : R2 := fun x y H Q => ∃ i j, x = .str i ∧ y = .str j ∧ i.length + j.length ≤ sizeLine ∧ Q (.str (i ++ j)) H
def rAddG (K : PySem.W.Frag) : R2 := fun x y H Q => rI0 (fun i j => .int (i + j)) x y H Q ∨ rAddS x y H Q ∨ rCat x y H Q ∨ rCatA K x y H Q
theorem op_addG {X : Cx} : OpR X (binaryOp .Add) (rAddG X.K) := OpR.or op_add (OpR.or op_add_str (OpR.or op_cat op_catA))
def pAddG : Sx → Sx → (Sx → Prop) → Prop := fun x y Q => match x, y with
  | .v (.int i), .v (.int j) => Q (.v (.int (i + j)))
  | .v (.str i), .v (.str j) => i.length + j.length ≤ 100000 ∧ Q (.v (.str (i ++ j)))
  | .v (.tup xs), .v (.tup ys) => xs.length + ys.length ≤ 100000 ∧ Q (.v (.tup (xs ++ ys)))
  | x, y => match x.sq, y.sq with
    | some xs, some ys => xs.length + ys.length ≤ 100000 ∧ Q (.n (xs ++ ys))
    | _, _ => False
instance lAddG {K : PySem.W.Frag} : LR fw (rAddG K) pAddG := ⟨fun {B O0 O Hs Kb H0 H ss σ Q Qp x y v u} c0 c s rx ry h q => by
  unfold pAddG at h
  split at h
  · cases rx; cases ry
    exact .inl ⟨_, _, rfl, rfl, q.now c.w.bx h rfl⟩
  · cases rx; cases ry
    exact .inr (.inl ⟨_, _, rfl, rfl, sz h.1, q.now c.w.bx h.2 rfl⟩)
  · rename_i xs ys
    obtain ⟨a, us, rfl, g, r⟩ := XR.tpk (x := .v (.tup xs)) rfl rx
    obtain ⟨b, ws, rfl, g2, r2⟩ := XR.tpk (x := .v (.tup ys)) rfl ry
    refine .inr (.inr (.inr ⟨a, b, us, ws, rfl, rfl, SqT.of (kn_inv g).1, SqT.of (kn_inv g2).1, sz (by rw [r.len, r2.len]; exact h.1), fun e => ?_, fun e1 e2 => ?_, fun e1 e2 p hp => ?_⟩))
    · subst e
      have : xs = [] := List.eq_nil_of_length_eq_zero (by rw [← r.len]; rfl)
      subst this
      exact q.now c.w.bx h.2 ⟨b, ws, rfl, g2, r2⟩
    · subst e2
      have : ys = [] := List.eq_nil_of_length_eq_zero (by rw [← r2.len]; rfl)
      subst this
      rw [List.append_nil] at h
      exact q.now c.w.bx h.2 ⟨a, us, rfl, g, r⟩
    · exact q.tup c h.2 (r.app r2) hp
  · split at h
    · rename_i xs ys e1 e2
      obtain ⟨a, us, rfl, g, r⟩ := rx.seq c0.w s c.r e1
      obtain ⟨b, ws, rfl, g2, r2⟩ := ry.seq c0.w s c.r e2
      exact .inr (.inr (.inl ⟨a, b, us, ws, rfl, rfl, g, g2, sz (by rw [r.len, r2.len]; exact h.1), fun p hp => q.lst c h.2 (r.app r2) hp⟩))
    · exact h.elim⟩
/-! ### * -/
def rMulG : R2 := fun x y H Q => rI CMulW (fun i j => .int (i * j)) x y H Q ∨ rRep x y H Q
theorem op_mulG {X : Cx} : OpR X (binaryOp .Mult) rMulG := OpR.or op_mulW op_rep
def pMulG : Sx → Sx → (Sx → Prop) → Prop := fun x y Q => match x, y with
  | .v (.int i), .v (.int j) => CMulW i j ∧ Q (.v (.int (i * j)))
  | x, .v (.int k) => (match x.sq with
    | some xs => -(2 ^ 63) ≤ k ∧ k < 2 ^ 63 ∧ xs.length * k.toNat ≤ 100000 ∧ Q (.n (List.replicate k.toNat xs).flatten)
    | none => False)
  | _, _ => False
theorem RepL.flat {H : Hp} {xs : List Tv} {us : List V} (r : RepL H xs us) : ∀ n : Nat, RepL H (List.replicate n xs).flatten (List.replicate n us).flatten
  | 0 => rfl
  | n + 1 => by
    rw [List.replicate_succ, List.replicate_succ, List.flatten_cons, List.flatten_cons]
    exact r.app (r.flat n)
instance lMulG : LR fw rMulG pMulG := ⟨fun {B O0 O Hs Kb H0 H ss σ Q Qp x y v u} c0 c s rx ry h q => by
  unfold pMulG at h
  split at h
  · cases rx; cases ry
    exact .inl ⟨_, _, rfl, rfl, h.1, q.now c.w.bx h.2 rfl⟩
  · cases ry
    split at h
    · rename_i xs e1
      obtain ⟨a, us, rfl, g, r⟩ := rx.seq c0.w s c.r e1
      exact .inr ⟨a, _, us, rfl, rfl, g, h.1, h.2.1, sz (by rw [r.len]; exact h.2.2.1), fun p hp => q.lst c h.2.2.2 (r.flat _) hp⟩
    · exact h.elim
  · exact h.elim⟩
/-! ### len -/
def pLen : List Sx → (Sx → Prop) → Prop := fun xs Q => match xs with
  | [.v (.str z)] => z.length ≤ 100000 ∧ Q (.v (.int z.length))
  | [.v (.tup xs)] => Q (.v (.int xs.length))
  | [x] => (match x.sq with | some xs => Q (.v (.int xs.length)) | none => False)
  | _ => False
theorem len_inv {xs : List Sx} {Q : Sx → Prop} (h : pLen xs Q) : ∃ x, xs = [x] ∧ ((∃ z, x = .v (.str z) ∧ z.length ≤ 100000 ∧ Q (.v (.int z.length))) ∨ (∃ ys, x.tq = some ys ∧ Q (.v (.int ys.length))) ∨ ∃ ys, x.sq = some ys ∧ Q (.v (.int ys.length))) := by
  match xs, h with
  | [], h => exact h.elim
  | _ :: _ :: _, h => exact (by simp [pLen] at h)
  | [x], h =>
    refine ⟨x, rfl, ?_⟩
    cases x with
    | v t =>
      cases t with
      | str z => exact .inl ⟨z, rfl, h⟩
      | tup ys => exact .inr (.inl ⟨ys, rfl, h⟩)
      | lst ys => exact .inr (.inr ⟨ys, rfl, h⟩)
      | _ => exact h.elim
    | n ys => exact .inr (.inr ⟨ys, rfl, h⟩)
    | o i ys => exact .inr (.inr ⟨ys, rfl, h⟩)
    | _ => exact h.elim
instance lLen {K : PySem.W.Frag} : LC fw (fun xs H Q => ∃ x n, xs = [x] ∧ LenV K x H n ∧ Q (.int n) H) pLen := ⟨fun {B O0 O Hs Kb H0 H ss σ Q Qp xs vs} c0 c s r h q => by
  obtain ⟨x, rfl, h'⟩ := len_inv h
  obtain ⟨v, w, rfl, rx, rfl⟩ := r
  rcases h' with ⟨z, rfl, hl, h⟩ | ⟨ys, e, h⟩ | ⟨ys, e, h⟩
  · cases rx
    exact ⟨_, _, rfl, ⟨sz hl, rfl⟩, q.now c.w.bx h rfl⟩
  · obtain ⟨a, us, rfl, g, r⟩ := rx.tpk e
    refine ⟨_, us.length, rfl, .inr ⟨us, SqT.of (kn_inv g).1, rfl⟩, ?_⟩
    rw [r.len]
    exact q.now c.w.bx h rfl
  · obtain ⟨a, us, rfl, g, r⟩ := rx.seq c0.w s c.r e
    refine ⟨_, us.length, rfl, .inl ⟨us, SqL.of g, rfl⟩, ?_⟩
    rw [r.len]
    exact q.now c.w.bx h rfl⟩
/-! ### isinstance of built-in kinds -/
def tyOf : Sx → Option String
  | .v (.int _) => some "int"
  | .v (.str _) => some "str"
  | .v (.bl _) => some "bool"
  | .v .non => some "NoneType"
  | .v (.tup _) => some "tuple"
  | .v (.lst _) => some "list"
  | .n _ => some "list"
  | .o _ _ => some "list"
  | _ => none
theorem tyOf_ok {B : Bx} {O0 O : List Addr} {Hs Kb H0 H : Hp} {ss : List Sl} {σ : L2.St} {x : Sx} {v : V} {n : String} (c0 : Ct fw B O0 O Hs Kb H0 ss σ) (c : Ct fw B O0 O Hs Kb H ss σ) (s : Stay B H0 H) (h : tyOf x = some n) (rx : XR B O H0 H ss σ x v) : Ty H v n := by
  have lst : ∀ (xs : List Tv), x.sq = some xs → n = "list" → Ty H v n := fun xs e hn => by
    obtain ⟨a, us, rfl, g, r⟩ := rx.seq c0.w s c.r e
    rw [hn]
    exact .lst g
  cases x with
  | v t =>
    cases t with
    | int i => cases h; cases rx; exact .int _
    | str i => cases h; cases rx; exact .str _
    | bl i => cases h; cases rx; exact .bl _
    | non => cases h; cases rx; exact .non
    | tup xs =>
      obtain ⟨a, us, rfl, g, r⟩ := XR.tpk (x := .v (.tup xs)) rfl rx
      cases h
      exact .tup (kn_inv g).1
    | lst xs => exact lst xs rfl (by cases h; rfl)
    | _ => cases h
  | n xs => exact lst xs rfl (by cases h; rfl)
  | o i xs => exact lst xs rfl (by cases h; rfl)
  | _ => cases h
/-- isinstance by the names of both kinds -/
def kb (t n : String) : Option Bool := match n with
  | "int" => some (t == "int" || t == "bool")
  | "bool" => some (t == "bool")
  | "tuple" => some (t == "tuple")
  | "list" => some (t == "list")
  | "str" => some (t == "str")
  | _ => none
theorem kb_ok {K : PySem.W.Frag} {H : Hp} {v : V} {t n : String} {b : Bool} (h : Ty H v t) (e : kb t n = some b) : PySem.W.kitOne K (.type t) (.type n) = some b := by
  unfold kb at e
  split at e
  · cases e
    rw [isI_int h]
    cases h
    · rw [q_none_int]; rfl
    · rw [q_bool_int]; rfl
    · rw [q_int_int]; rfl
    · rw [q_str_int]; rfl
    · rw [q_list_int]; rfl
    · rw [q_tuple_int]; rfl
  · cases e
    rw [isI_bool h]
    cases h
    · rw [q_none_bool]; rfl
    · rw [q_bool_bool]; rfl
    · rw [q_int_bool]; rfl
    · rw [q_str_bool]; rfl
    · rw [q_list_bool]; rfl
    · rw [q_tuple_bool]; rfl
  · cases e
    rw [isI_tuple h]
    cases h
    · rw [q_none_tuple]; rfl
    · rw [q_bool_tuple]; rfl
    · rw [q_int_tuple]; rfl
    · rw [q_str_tuple]; rfl
    · rw [q_list_tuple]; rfl
    · rw [q_tuple_tuple]; rfl
  · cases e
    rw [isI_list h]
    cases h
    · rw [q_none_list]; rfl
    · rw [q_bool_list]; rfl
    · rw [q_int_list]; rfl
    · rw [q_str_list]; rfl
    · rw [q_list_list]; rfl
    · rw [q_tuple_list]; rfl
  · cases e
    rw [isI_str h]
    cases h
    · rw [q_none_str]; rfl
    · rw [q_bool_str]; rfl
    · rw [q_int_str]; rfl
    · rw [q_str_str]; rfl
    · rw [q_list_str]; rfl
    · rw [q_tuple_str]; rfl
  · cases e
def pIsi : List Sx → (Sx → Prop) → Prop := fun xs Q => match xs with
  | [x, .ty n] => (match tyOf x with
    | some t => (match kb t n with | some b => Q (.v (.bl b)) | none => False)
    | none => False)
  | _ => False
instance lIsi {K : PySem.W.Frag} : LC fw (rIsi K) pIsi := ⟨fun {B O0 O Hs Kb H0 H ss σ Q Qp xs vs} c0 c s r h q => by
  unfold pIsi at h
  split at h
  · rename_i x n
    obtain ⟨v, w, rfl, rx, v2, w2, rfl, rc, rfl⟩ := r
    cases rc
    split at h
    · rename_i t et
      have ty := tyOf_ok c0 c s et rx
      split at h
      · rename_i b eb
        exact ⟨v, .ty n, .type t, .type n, b, rfl, .ty n, ty.x, kb_ok ty eb, q.now c.w.bx h rfl⟩
      · exact h.elim
    · exact h.elim
  · exact h.elim⟩
/-! ### in -/
def intsT : List Tv → Option (List Int)
  | [] => some []
  | .int i :: r => (intsT r).map (i :: ·)
  | _ => none
def strsT : List Tv → Option (List Str)
  | [] => some []
  | .str i :: r => (strsT r).map (i :: ·)
  | _ => none
@[simp] theorem intsT_map : ∀ ns : List Int, intsT (ns.map Tv.int) = some ns
  | [] => rfl
  | n :: r => by rw [List.map_cons, intsT, intsT_map r]; rfl
@[simp] theorem strsT_map : ∀ ns : List Str, strsT (ns.map Tv.str) = some ns
  | [] => rfl
  | n :: r => by rw [List.map_cons, strsT, strsT_map r]; rfl
theorem intsT_eq : ∀ {ts : List Tv} {ns : List Int}, intsT ts = some ns → ts = ns.map Tv.int
  | [], ns, h => by cases h; rfl
  | t :: r, ns, h => by
    cases t with
    | int i =>
      unfold intsT at h
      cases e : intsT r with
      | none => rw [e] at h; cases h
      | some ms => rw [e] at h; cases h; rw [intsT_eq e]; rfl
    | _ => cases h
theorem strsT_eq : ∀ {ts : List Tv} {ns : List Str}, strsT ts = some ns → ts = ns.map Tv.str
  | [], ns, h => by cases h; rfl
  | t :: r, ns, h => by
    cases t with
    | str i =>
      unfold strsT at h
      cases e : strsT r with
      | none => rw [e] at h; cases h
      | some ms => rw [e] at h; cases h; rw [strsT_eq e]; rfl
    | _ => cases h
/-- the items of a list or a tuple -/
def Sx.it : Sx → Option (List Tv)
  | .v (.tup xs) => some xs
  | x => x.sq
theorem XR.its {B : Bx} {O0 O : List Addr} {Hs Kb H0 H : Hp} {ss : List Sl} {σ : L2.St} {x : Sx} {v : V} {xs : List Tv} {K : PySem.W.Frag} (W : Wl B O0 O Hs Kb H0) (s : Stay B H0 H) (R : Rels B O Hs H ss σ) (e : x.it = some xs) (h : XR B O H0 H ss σ x v) : ∃ a us, v = .ref a ∧ (SqL K H a us ∨ SqT K H a us) ∧ RepL (kn B O H) xs us := by
  have key : x.tq = some xs ∨ x.sq = some xs := by
    cases x with
    | v t => cases t <;> first | exact .inl e | exact .inr e
    | _ => exact .inr e
  rcases key with e | e
  · obtain ⟨a, us, rfl, g, r⟩ := h.tpk e
    exact ⟨a, us, rfl, .inr (SqT.of (kn_inv g).1), r⟩
  · obtain ⟨a, us, rfl, g, r⟩ := h.seq W s R e
    exact ⟨a, us, rfl, .inl (SqL.of g), r⟩
theorem inVi {i : Int} {ns : List Int} : inV (.int i) (ns.map V.int) = decide (i ∈ ns) := by
  unfold inV
  rw [List.any_map]
  induction ns with
  | nil => simp
  | cons n r ih =>
    rw [List.any_cons, ih]
    by_cases h : n = i
    · simp [eqV, h]
    · simp [eqV, h, Ne.symm h]
theorem inVs {i : Str} {ns : List Str} : inV (.str i) (ns.map V.str) = decide (i ∈ ns) := by
  unfold inV
  rw [List.any_map]
  induction ns with
  | nil => simp
  | cons n r ih =>
    rw [List.any_cons, ih]
    by_cases h : n = i
    · simp [eqV, h]
    · simp [eqV, h, Ne.symm h]
def pIn (neg : Bool) : Sx → Sx → (Sx → Prop) → Prop := fun x y Q => match y.it with
  | some ts => (match x with
    | .v (.int i) => (match intsT ts with | some ns => Q (.v (.bl (neg ^^ decide (i ∈ ns)))) | none => False)
    | .v (.str i) => (match strsT ts with | some ns => Q (.v (.bl (neg ^^ decide (i ∈ ns)))) | none => False)
    | _ => False)
  | none => False
theorem flatInts (ns : List Int) : (ns.map V.int).all flatV = true := List.all_eq_true.mpr fun v h => by obtain ⟨i, _, rfl⟩ := List.mem_map.mp h; rfl
theorem flatStrs (ns : List Str) : (ns.map V.str).all flatV = true := List.all_eq_true.mpr fun v h => by obtain ⟨i, _, rfl⟩ := List.mem_map.mp h; rfl
instance lIn {K : PySem.W.Frag} {neg : Bool} : LR fw (rIn K neg) (pIn neg) := ⟨fun {B O0 O Hs Kb H0 H ss σ Q Qp x y v u} c0 c s rx ry h q => by
  unfold pIn at h
  split at h
  · rename_i ts e
    obtain ⟨a, us, rfl, g, r⟩ := ry.its (K := K) c0.w s c.r e
    split at h
    · rename_i i
      cases rx
      split at h
      · rename_i ns en
        rw [intsT_eq en] at r
        have := r.ints
        subst this
        refine ⟨a, _, rfl, g, rfl, flatInts ns, ?_⟩
        rw [inVi]
        cases neg
        · exact q.now c.w.bx h (by simp [Rep])
        · exact q.now c.w.bx h (by simp [Rep])
      · exact h.elim
    · rename_i i
      cases rx
      split at h
      · rename_i ns en
        rw [strsT_eq en] at r
        have := r.strs
        subst this
        refine ⟨a, _, rfl, g, rfl, flatStrs ns, ?_⟩
        rw [inVs]
        cases neg
        · exact q.now c.w.bx h (by simp [Rep])
        · exact q.now c.w.bx h (by simp [Rep])
      · exact h.elim
    · exact h.elim
  · exact h.elim⟩
/-! ### slices -/
abbrev POx := List Sl → (Option Int → Prop) → Prop
class LO (fw : Bool) (to : TO) (po : outParam POx) : Prop where
  run : ∀ {B : Bx} {O0 O : List Addr} {Hs Kb H : Hp} {ss : List Sl} {σ : L2.St} {Q : Option Int → Hp → Prop} {Qp : Option Int → Prop}, Ct fw B O0 O Hs Kb H ss σ → po ss Qp → (∀ x H', Qp x → Stay B H H' → BxOk B H' → Q x H') → to σ H Q
def pNoPart : POx := fun _ Q => Q none
def pPart (pe : PX) : POx := fun ss Q => pe ss fun x => match x with | .v (.int i) => Q (some i) | _ => False
instance lNoPart : LO fw tNoPart pNoPart := ⟨fun c h q => q _ _ h (Stay.refl _ _) c.w.bx⟩
instance lPart {te : TE} {pe : PX} [k : LE fw te pe] : LO fw (tPart te) (pPart pe) := ⟨fun {B O0 O Hs Kb H ss σ Q Qp} c h q => k.run c h fun x H' v q1 s b r => by
  split at q1
  · exact ⟨_, r, q _ _ q1 s b⟩
  · exact q1.elim⟩
def rSlG (K : PySem.W.Frag) : V → Option Int → Option Int → Hp → VK → Prop := fun x lo hi H Q => rSlL K x lo hi H Q ∨ rSlA K x lo hi H Q ∨ rSlS x lo hi H Q
theorem sl_G {X : Cx} : SlR X (rSlG X.K) := SlR.or sl_list (SlR.or sl_tupA sl_str)
def cutT (xs : List Tv) (lo hi : Option Int) : List Tv := (xs.drop (HT.sIx xs.length 0 lo)).take (HT.sIx xs.length xs.length hi - HT.sIx xs.length 0 lo)
def pSl (pe : PX) (pl ph : POx) : PX := fun ss Q => pe ss fun x => pl ss fun l => ph ss fun h => match x with
  | .v (.str z) => z.length ≤ 100000 ∧ Q (.v (.str (cutS z l h)))
  | .v (.tup xs) => Q (.v (.tup (cutT xs l h)))
  | x => (match x.sq with | some xs => Q (.n (cutT xs l h)) | none => False)
theorem cut_rep {H : Hp} {xs : List Tv} {us : List V} (r : RepL H xs us) (lo hi : Option Int) : RepL H (cutT xs lo hi) (cutV us lo hi) := by
  unfold cutT cutV
  rw [r.len]
  exact (r.drop _).take _
theorem cutT_all {xs : List Tv} {lo hi : Option Int} (h1 : HT.sIx xs.length 0 lo = 0) (h2 : HT.sIx xs.length xs.length hi = xs.length) : cutT xs lo hi = xs := by
  unfold cutT
  rw [h1, h2, List.drop_zero, Nat.sub_zero, List.take_length]
instance lSl {K : PySem.W.Frag} {te : TE} {tl th : TO} {pe : PX} {pl ph : POx} [k : LE fw te pe] [k1 : LO fw tl pl] [k2 : LO fw th ph] : LE fw (tSl (rSlG K) te tl th) (pSl pe pl ph) := ⟨fun {B O0 O Hs Kb H ss σ Q Qp} c h q =>
  k.run c h fun x H1 v q1 s1 b1 r1 => k1.run (c.go s1 b1) q1 fun lo H2 q2 s2 b2 => k2.run ((c.go s1 b1).go s2 b2) q2 fun hi H3 q3 s3 b3 => by
  have s13 := (s1.trans s2).trans s3
  have c3 := ((c.go s1 b1).go s2 b2).go s3 b3
  have r3 := (r1.go c.w s1 s2).go c.w (s1.trans s2) s3
  have f : Fin B O H3 ss σ Q Qp := ⟨fun z H4 w q4 s4 b4 r4 => q _ _ _ q4 (s13.trans s4) b4 (r4.back b3 s13)⟩
  split at q3
  · cases r3
    exact .inr (.inr ⟨_, rfl, sz q3.1, f.now b3 q3.2 rfl⟩)
  · rename_i xs
    obtain ⟨a, us, rfl, g, r⟩ := XR.tpk (x := .v (.tup xs)) rfl r3
    refine .inr (.inl ⟨a, us, rfl, SqT.of (kn_inv g).1, fun e => ?_, fun _ p hp => f.tup c3 q3 (cut_rep r lo hi) hp⟩)
    rw [cutT_all (by rw [← r.len]; exact e.1) (by rw [← r.len]; exact e.2)] at q3
    exact f.now b3 q3 ⟨a, us, rfl, g, r⟩
  · split at q3
    · rename_i xs e
      obtain ⟨a, us, rfl, g, r⟩ := r3.seq c.w s13 c3.r e
      exact .inl ⟨a, us, rfl, SqL.of g, fun p hp => f.lst c3 q3 (cut_rep r lo hi) hp⟩
    · exact q3.elim⟩
def pRev (pe : PX) : PX := fun ss Q => pe ss fun x => match x.sq with | some xs => Q (.n xs.reverse) | none => False
instance lRev {K : PySem.W.Frag} {te : TE} {pe : PX} [k : LE fw te pe] : LE fw (tRevL K te) (pRev pe) := ⟨fun {B O0 O Hs Kb H ss σ Q Qp} c h q => k.run c h fun x H1 v q1 s1 b1 r1 => by
  split at q1
  · rename_i xs e
    obtain ⟨a, us, rfl, g, r⟩ := r1.seq c.w s1 (c.go s1 b1).r e
    have f : Fin B O H1 ss σ Q Qp := ⟨fun z H4 w q4 s4 b4 r4 => q _ _ _ q4 (s1.trans s4) b4 (r4.back b1 s1)⟩
    exact ⟨a, us, rfl, SqL.of g, fun p hp => f.lst (c.go s1 b1) q1 r.rev hp⟩
  · exact q1.elim⟩
end Pl

set_option Elab.async false
set_option linter.all false
set_option maxRecDepth 100000
set_option maxHeartbeats 4000000
/-! The pure layer: builtins. -/
namespace Pl
open PySem PySem.Spec PyProof.Rows L2
variable {fw : Bool}
def pAbs : List Sx → (Sx → Prop) → Prop := fun xs Q => match xs with | [.v (.int i)] => Q (.v (.int (if i < 0 then -i else i))) | _ => False
instance lAbs : LC fw (fun xs H Q => ∃ i, xs = [.int i] ∧ Q (.int (if i < 0 then -i else i)) H) pAbs := ⟨fun {B O0 O Hs Kb H0 H ss σ Q Qp xs vs} c0 c s r h q => by
  unfold pAbs at h
  split at h
  · obtain ⟨v, w, rfl, r1, rfl⟩ := r
    cases r1
    exact ⟨_, rfl, q.now c.w.bx h rfl⟩
  · exact h.elim⟩
def p2I (f : Int → Int → Int) : List Sx → (Sx → Prop) → Prop := fun xs Q => match xs with | [.v (.int i), .v (.int j)] => Q (.v (.int (f i j))) | _ => False
instance l2I {f : Int → Int → Int} : LC fw (fun xs H Q => ∃ i j, xs = [.int i, .int j] ∧ Q (.int (f i j)) H) (p2I f) := ⟨fun {B O0 O Hs Kb H0 H ss σ Q Qp xs vs} c0 c s r h q => by
  unfold p2I at h
  split at h
  · obtain ⟨v, w, rfl, r1, v2, w2, rfl, r2, rfl⟩ := r
    cases r1
    cases r2
    exact ⟨_, _, rfl, q.now c.w.bx h rfl⟩
  · exact h.elim⟩
def pInt1 : List Sx → (Sx → Prop) → Prop := fun xs Q => match xs with | [.v (.int i)] => Q (.v (.int i)) | [.v (.bl b)] => Q (.v (.int (if b then 1 else 0))) | _ => False
instance lInt1 : LC fw (fun xs H Q => (∃ i, xs = [.int i] ∧ Q (.int i) H) ∨ ∃ k, xs = [.bl k] ∧ Q (.int (if k then 1 else 0)) H) pInt1 := ⟨fun {B O0 O Hs Kb H0 H ss σ Q Qp xs vs} c0 c s r h q => by
  unfold pInt1 at h
  split at h
  · obtain ⟨v, w, rfl, r1, rfl⟩ := r
    cases r1
    exact .inl ⟨_, rfl, q.now c.w.bx h rfl⟩
  · obtain ⟨v, w, rfl, r1, rfl⟩ := r
    cases r1
    exact .inr ⟨_, rfl, q.now c.w.bx h rfl⟩
  · exact h.elim⟩
def pBool1 : List Sx → (Sx → Prop) → Prop := fun xs Q => match xs with | [.v (.int i)] => Q (.v (.bl (i != 0))) | [.v (.bl b)] => Q (.v (.bl b)) | _ => False
instance lBool1 : LC fw (fun xs H Q => (∃ i, xs = [.int i] ∧ Q (.bl (i != 0)) H) ∨ ∃ k, xs = [.bl k] ∧ Q (.bl k) H) pBool1 := ⟨fun {B O0 O Hs Kb H0 H ss σ Q Qp xs vs} c0 c s r h q => by
  unfold pBool1 at h
  split at h
  · obtain ⟨v, w, rfl, r1, rfl⟩ := r
    cases r1
    exact .inl ⟨_, rfl, q.now c.w.bx h rfl⟩
  · obtain ⟨v, w, rfl, r1, rfl⟩ := r
    cases r1
    exact .inr ⟨_, rfl, q.now c.w.bx h rfl⟩
  · exact h.elim⟩
def pStrI : List Sx → (Sx → Prop) → Prop := fun xs Q => match xs with | [.v (.int i)] => i.natAbs.log2 < 1920 ∧ Q (.v (.str (toString i))) | _ => False
instance lStrI : LC fw (fun xs H Q => ∃ i : Int, xs = [.int i] ∧ i.natAbs.log2 < 1920 ∧ Q (.str (toString i)) H) pStrI := ⟨fun {B O0 O Hs Kb H0 H ss σ Q Qp xs vs} c0 c s r h q => by
  unfold pStrI at h
  split at h
  · obtain ⟨v, w, rfl, r1, rfl⟩ := r
    cases r1
    exact ⟨_, rfl, h.1, q.now c.w.bx h.2 rfl⟩
  · exact h.elim⟩
/-- list(..), tuple(..) -/
def pListOf : List Sx → (Sx → Prop) → Prop := fun xs Q => match xs with | [x] => (match x.it with | some ts => Q (.n ts) | none => False) | _ => False
instance lListOf {K : PySem.W.Frag} : LC fw (fun xs H Q => ∃ p ys, xs = [.ref p] ∧ (SqL K H p ys ∨ SqT K H p ys) ∧ ∀ l, H l = none → Q (.ref l) (upd H l (.lst ys))) pListOf := ⟨fun {B O0 O Hs Kb H0 H ss σ Q Qp xs vs} c0 c s r h q => by
  unfold pListOf at h
  split at h
  · obtain ⟨v, w, rfl, r1, rfl⟩ := r
    split at h
    · rename_i ts e
      obtain ⟨a, us, rfl, g, rr⟩ := r1.its (K := K) c0.w s c.r e
      exact ⟨a, us, rfl, g, fun l hl => q.lst c h rr hl⟩
    · exact h.elim
  · exact h.elim⟩
def pTupleOf : List Sx → (Sx → Prop) → Prop := fun xs Q => match xs with
  | [.v (.tup ts)] => Q (.v (.tup ts))
  | [x] => (match x.sq with | some ts => Q (.v (.tup ts)) | none => False)
  | _ => False
instance lTupleOf {K : PySem.W.Frag} : LC fw (fun xs H Q => ∃ p ys, xs = [.ref p] ∧ ((SqL K H p ys ∧ ∀ l, H l = none → Q (.ref l) (upd H l (.tup ys))) ∨ (SqT K H p ys ∧ Q (.ref p) H))) pTupleOf := ⟨fun {B O0 O Hs Kb H0 H ss σ Q Qp xs vs} c0 c s r h q => by
  unfold pTupleOf at h
  split at h
  · rename_i ts
    obtain ⟨v, w, rfl, r1, rfl⟩ := r
    obtain ⟨a, us, rfl, g, rr⟩ := XR.tpk (x := .v (.tup ts)) rfl r1
    exact ⟨a, us, rfl, .inr ⟨SqT.of (kn_inv g).1, q.now c.w.bx h ⟨a, us, rfl, g, rr⟩⟩⟩
  · obtain ⟨v, w, rfl, r1, rfl⟩ := r
    split at h
    · rename_i ts e
      obtain ⟨a, us, rfl, g, rr⟩ := r1.seq c0.w s c.r e
      exact ⟨a, us, rfl, .inl ⟨SqL.of g, fun l hl => q.tup c h rr hl⟩⟩
    · exact h.elim
  · exact h.elim⟩
/-- sum, all, any, sorted, max, min of a list -/
def ints1 (xs : List Sx) : Option (List Int) := match xs with | [x] => (x.sq).bind intsT | _ => none
theorem ints1_ok {B : Bx} {O0 O : List Addr} {Hs Kb H0 H : Hp} {ss : List Sl} {σ : L2.St} {xs : List Sx} {vs : List V} {ns : List Int} (c0 : Ct fw B O0 O Hs Kb H0 ss σ) (c : Ct fw B O0 O Hs Kb H ss σ) (s : Stay B H0 H) (r : XRL B O H0 H ss σ xs vs) (e : ints1 xs = some ns) : ∃ a, vs = [.ref a] ∧ H a = some (.lst (ns.map V.int)) := by
  unfold ints1 at e
  split at e
  · obtain ⟨v, w, rfl, r1, rfl⟩ := r
    obtain ⟨ts, e1, e2⟩ := Option.bind_eq_some_iff.mp e
    obtain ⟨a, us, rfl, g, rr⟩ := r1.seq c0.w s c.r e1
    rw [intsT_eq e2] at rr
    rw [rr.ints] at g
    exact ⟨a, rfl, g⟩
  · cases e
def pSum : List Sx → (Sx → Prop) → Prop := fun xs Q => match ints1 xs with | some ns => Q (.v (.int ns.sum)) | none => False
instance lSum {K : PySem.W.Frag} : LC fw (rSum K) pSum := ⟨fun {B O0 O Hs Kb H0 H ss σ Q Qp xs vs} c0 c s r h q => by
  unfold pSum at h
  split at h
  · rename_i ns e
    obtain ⟨a, rfl, g⟩ := ints1_ok c0 c s r e
    exact ⟨a, ns, rfl, SqL.of g, q.now c.w.bx h rfl⟩
  · exact h.elim⟩
def pSortedI : List Sx → (Sx → Prop) → Prop := fun xs Q => match ints1 xs with | some ns => ∀ ns' : List Int, ns'.Perm ns → ns'.Pairwise (· ≤ ·) → Q (.n (ns'.map Tv.int)) | none => False
instance lSortedI {K : PySem.W.Frag} : LC fw (rSortedI K) pSortedI := ⟨fun {B O0 O Hs Kb H0 H ss σ Q Qp xs vs} c0 c s r h q => by
  unfold pSortedI at h
  split at h
  · rename_i ns e
    obtain ⟨a, rfl, g⟩ := ints1_ok c0 c s r e
    exact ⟨a, ns, rfl, SqL.of g, fun ns' p h1 h2 hp => q.lst c (h ns' h1 h2) (RepL.of_ints ns') hp⟩
  · exact h.elim⟩
def pMax : List Sx → (Sx → Prop) → Prop := fun xs Q => match ints1 xs with | some ns => 0 < ns.length ∧ ∀ m, m ∈ ns → (∀ y, y ∈ ns → y ≤ m) → Q (.v (.int m)) | none => False
instance lMax {K : PySem.W.Frag} : LC fw (rMax K) pMax := ⟨fun {B O0 O Hs Kb H0 H ss σ Q Qp xs vs} c0 c s r h q => by
  unfold pMax at h
  split at h
  · rename_i ns e
    obtain ⟨a, rfl, g⟩ := ints1_ok c0 c s r e
    exact ⟨a, ns, rfl, SqL.of g, h.1, fun m h1 h2 => q.now c.w.bx (h.2 m h1 h2) rfl⟩
  · exact h.elim⟩
def pMin : List Sx → (Sx → Prop) → Prop := fun xs Q => match ints1 xs with | some ns => 0 < ns.length ∧ ∀ m, m ∈ ns → (∀ y, y ∈ ns → m ≤ y) → Q (.v (.int m)) | none => False
instance lMin {K : PySem.W.Frag} : LC fw (rMin K) pMin := ⟨fun {B O0 O Hs Kb H0 H ss σ Q Qp xs vs} c0 c s r h q => by
  unfold pMin at h
  split at h
  · rename_i ns e
    obtain ⟨a, rfl, g⟩ := ints1_ok c0 c s r e
    exact ⟨a, ns, rfl, SqL.of g, h.1, fun m h1 h2 => q.now c.w.bx (h.2 m h1 h2) rfl⟩
  · exact h.elim⟩
def blsT : List Tv → Option (List Bool)
  | [] => some []
  | .bl i :: r => (blsT r).map (i :: ·)
  | _ => none
@[simp] theorem blsT_map : ∀ ns : List Bool, blsT (ns.map Tv.bl) = some ns
  | [] => rfl
  | n :: r => by rw [List.map_cons, blsT, blsT_map r]; rfl
theorem blsT_rep {H : Hp} : ∀ {ts : List Tv} {ns : List Bool} {us : List V}, blsT ts = some ns → RepL H ts us → us = ns.map V.bl
  | [], ns, us, h, r => by cases h; exact r
  | t :: ts, ns, us, h, r => by
    obtain ⟨v, w, rfl, r1, r2⟩ := r
    cases t with
    | bl i =>
      unfold blsT at h
      cases e : blsT ts with
      | none => rw [e] at h; cases h
      | some ms => rw [e] at h; cases h; rw [blsT_rep e r2]; cases r1; rfl
    | _ => cases h
def bls1 (xs : List Sx) : Option (List Bool) := match xs with | [x] => (x.sq).bind blsT | _ => none
theorem bls1_ok {B : Bx} {O0 O : List Addr} {Hs Kb H0 H : Hp} {ss : List Sl} {σ : L2.St} {xs : List Sx} {vs : List V} {ns : List Bool} (c0 : Ct fw B O0 O Hs Kb H0 ss σ) (c : Ct fw B O0 O Hs Kb H ss σ) (s : Stay B H0 H) (r : XRL B O H0 H ss σ xs vs) (e : bls1 xs = some ns) : ∃ a, vs = [.ref a] ∧ H a = some (.lst (ns.map V.bl)) := by
  unfold bls1 at e
  split at e
  · obtain ⟨v, w, rfl, r1, rfl⟩ := r
    obtain ⟨ts, e1, e2⟩ := Option.bind_eq_some_iff.mp e
    obtain ⟨a, us, rfl, g, rr⟩ := r1.seq c0.w s c.r e1
    rw [blsT_rep e2 rr] at g
    exact ⟨a, rfl, g⟩
  · cases e
def pAll : List Sx → (Sx → Prop) → Prop := fun xs Q => match bls1 xs with | some ns => Q (.v (.bl (ns.all id))) | none => False
def pAny : List Sx → (Sx → Prop) → Prop := fun xs Q => match bls1 xs with | some ns => Q (.v (.bl (ns.any id))) | none => False
instance lAll {K : PySem.W.Frag} : LC fw (rAll K) pAll := ⟨fun {B O0 O Hs Kb H0 H ss σ Q Qp xs vs} c0 c s r h q => by
  unfold pAll at h
  split at h
  · rename_i ns e
    obtain ⟨a, rfl, g⟩ := bls1_ok c0 c s r e
    exact ⟨a, ns, rfl, SqL.of g, q.now c.w.bx h rfl⟩
  · exact h.elim⟩
instance lAny {K : PySem.W.Frag} : LC fw (rAny K) pAny := ⟨fun {B O0 O Hs Kb H0 H ss σ Q Qp xs vs} c0 c s r h q => by
  unfold pAny at h
  split at h
  · rename_i ns e
    obtain ⟨a, rfl, g⟩ := bls1_ok c0 c s r e
    exact ⟨a, ns, rfl, SqL.of g, q.now c.w.bx h rfl⟩
  · exact h.elim⟩
/-! ### == at any depth -/
mutual
def Tv.pd : Tv → Option PyData
  | .int i => some (.int i)
  | .str s => some (.str s)
  | .bl b => some (.bool b)
  | .non => some .none
  | .tup xs => (pdL xs).map .tuple
  | .lst xs => (pdL xs).map .list
  | .dic _ _ _ => none
  | .ext _ => none
def pdL : List Tv → Option (List PyData)
  | [] => some []
  | x :: xs => match x.pd, pdL xs with
    | some d, some ds => some (d :: ds)
    | _, _ => none
end
mutual
theorem Rep.dp {K : PySem.W.Frag} {H : Hp} : ∀ {t : Tv} {v : V} {d : PyData}, t.pd = some d → Rep H t v → Dp K H v d
  | .int i, _, _, e, r => by cases e; cases r; exact .int _
  | .str i, _, _, e, r => by cases e; cases r; exact .str _
  | .bl i, _, _, e, r => by cases e; cases r; exact .bl _
  | .non, _, _, e, r => by cases e; cases r; exact .non
  | .tup xs, _, d, e, r => by
    obtain ⟨a, us, rfl, h, rl⟩ := r
    rw [Tv.pd] at e
    obtain ⟨ds, e1, rfl⟩ := Option.map_eq_some_iff.mp e
    exact .tup (SqT.of h) (RepL.dp e1 rl)
  | .lst xs, _, d, e, r => by
    obtain ⟨a, us, rfl, h, rl⟩ := r
    rw [Tv.pd] at e
    obtain ⟨ds, e1, rfl⟩ := Option.map_eq_some_iff.mp e
    exact .lst (SqL.of h) (RepL.dp e1 rl)
  | .dic _ _ _, _, _, e, _ => by rw [Tv.pd] at e; cases e
  | .ext _, _, _, e, _ => by rw [Tv.pd] at e; cases e
theorem RepL.dp {K : PySem.W.Frag} {H : Hp} : ∀ {ts : List Tv} {vs : List V} {ds : List PyData}, pdL ts = some ds → RepL H ts vs → DpAll K H vs ds
  | [], _, _, e, r => by rw [pdL] at e; cases e; rw [show _ = [] from r]; exact .nil
  | x :: xs, _, ds, e, r => by
    obtain ⟨u, w, rfl, h1, h2⟩ := r
    rw [pdL] at e
    split at e
    · rename_i d ds' e1 e2
      cases e
      exact .cons (Rep.dp e1 h1) (RepL.dp e2 h2)
    · cases e
end
def Sx.pd : Sx → Option PyData
  | .v t => t.pd
  | x => (x.sq).bind fun ts => (pdL ts).map .list
theorem XR.dp {B : Bx} {O0 O : List Addr} {Hs Kb H0 H : Hp} {ss : List Sl} {σ : L2.St} {x : Sx} {v : V} {d : PyData} {K : PySem.W.Frag} (W : Wl B O0 O Hs Kb H0) (s : Stay B H0 H) (R : Rels B O Hs H ss σ) (e : x.pd = some d) (h : XR B O H0 H ss σ x v) : Dp K H v d := by
  have key : (∃ t, x = .v t ∧ t.pd = some d) ∨ ∃ ts, x.sq = some ts ∧ (pdL ts).map .list = some d := by
    cases x with
    | v t => exact .inl ⟨t, rfl, e⟩
    | _ => exact .inr (Option.bind_eq_some_iff.mp e)
  rcases key with ⟨t, rfl, e⟩ | ⟨ts, e1, e2⟩
  · exact Rep.dp e (Rep.mono kn_all h)
  · obtain ⟨a, us, rfl, g, r⟩ := h.seq W s R e1
    obtain ⟨ds, e3, rfl⟩ := Option.map_eq_some_iff.mp e2
    exact .lst (SqL.of g) (RepL.dp e3 (r.mono kn_all))
def pEqD (neg : Bool) : Sx → Sx → (Sx → Prop) → Prop := fun x y Q => match x.pd, y.pd with
  | some d, some e => SeqAt.shaped d = true ∧ SeqAt.shaped e = true ∧ Q (.v (.bl (neg ^^ PyData.eqv d e)))
  | _, _ => False
instance lEqD {K : PySem.W.Frag} : LR fw (rEqD K) (pEqD false) := ⟨fun {B O0 O Hs Kb H0 H ss σ Q Qp x y v u} c0 c s rx ry h q => by
  unfold pEqD at h
  split at h
  · rename_i d e e1 e2
    refine ⟨d, e, rx.dp c0.w s c.r e1, ry.dp c0.w s c.r e2, h.1, h.2.1, q.now c.w.bx h.2.2 (by simp [Rep])⟩
  · exact h.elim⟩
instance lNeD {K : PySem.W.Frag} : LR fw (rNeD K) (pEqD true) := ⟨fun {B O0 O Hs Kb H0 H ss σ Q Qp x y v u} c0 c s rx ry h q => by
  unfold pEqD at h
  split at h
  · rename_i d e e1 e2
    refine ⟨d, e, rx.dp c0.w s c.r e1, ry.dp c0.w s c.r e2, h.1, h.2.1, q.now c.w.bx h.2.2 (by simp [Rep])⟩
  · exact h.elim⟩
def pInD (neg : Bool) : Sx → Sx → (Sx → Prop) → Prop := fun x y Q => match x.pd, (y.sq).bind pdL with
  | some d, some ds => SeqAt.shaped d = true ∧ SeqAt.shaped (.list ds) = true ∧ Q (.v (.bl (neg ^^ ds.any fun z => PyData.eqv z d)))
  | _, _ => False
theorem XR.dpl {B : Bx} {O0 O : List Addr} {Hs Kb H0 H : Hp} {ss : List Sl} {σ : L2.St} {x : Sx} {v : V} {ds : List PyData} {K : PySem.W.Frag} (W : Wl B O0 O Hs Kb H0) (s : Stay B H0 H) (R : Rels B O Hs H ss σ) (e : (x.sq).bind pdL = some ds) (h : XR B O H0 H ss σ x v) : Dp K H v (.list ds) := by
  obtain ⟨ts, e1, e2⟩ := Option.bind_eq_some_iff.mp e
  obtain ⟨a, us, rfl, g, r⟩ := h.seq W s R e1
  exact .lst (SqL.of g) (RepL.dp e2 (r.mono kn_all))
instance lInD {K : PySem.W.Frag} : LR fw (rInD K) (pInD false) := ⟨fun {B O0 O Hs Kb H0 H ss σ Q Qp x y v u} c0 c s rx ry h q => by
  unfold pInD at h
  split at h
  · rename_i d ds e1 e2
    exact ⟨d, ds, rx.dp c0.w s c.r e1, ry.dpl c0.w s c.r e2, h.1, h.2.1, q.now c.w.bx h.2.2 (by simp [Rep])⟩
  · exact h.elim⟩
instance lNotInD {K : PySem.W.Frag} : LR fw (rNotInD K) (pInD true) := ⟨fun {B O0 O Hs Kb H0 H ss σ Q Qp x y v u} c0 c s rx ry h q => by
  unfold pInD at h
  split at h
  · rename_i d ds e1 e2
    exact ⟨d, ds, rx.dp c0.w s c.r e1, ry.dpl c0.w s c.r e2, h.1, h.2.1, q.now c.w.bx h.2.2 (by simp [Rep])⟩
  · exact h.elim⟩
/-- flat items or data -/
def rInG (K : PySem.W.Frag) : R2 := fun x y H Q => rIn K false x y H Q ∨ rInD K x y H Q
def rNotInG (K : PySem.W.Frag) : R2 := fun x y H Q => rIn K true x y H Q ∨ rNotInD K x y H Q
theorem op_inG {X : Cx} (hu : X.A.units + 65 < cLine) : OpR X (compareOp .In) (rInG X.K) := OpR.or op_in_seq (op_inD hu)
theorem op_notInG {X : Cx} (hu : X.A.units + 65 < cLine) : OpR X (compareOp .NotIn) (rNotInG X.K) := OpR.or op_notIn_seq (op_notInD hu)
def pInG (neg : Bool) : Sx → Sx → (Sx → Prop) → Prop := fun x y Q => match x with
  | .v (.int _) => pIn neg x y Q
  | .v (.str _) => pIn neg x y Q
  | _ => pInD neg x y Q
instance lInG {K : PySem.W.Frag} : LR fw (rInG K) (pInG false) := ⟨fun {B O0 O Hs Kb H0 H ss σ Q Qp x y v u} c0 c s rx ry h q => by
  unfold pInG at h
  split at h
  · exact .inl (lIn.run c0 c s rx ry h q)
  · exact .inl (lIn.run c0 c s rx ry h q)
  · exact .inr (lInD.run c0 c s rx ry h q)⟩
instance lNotInG {K : PySem.W.Frag} : LR fw (rNotInG K) (pInG true) := ⟨fun {B O0 O Hs Kb H0 H ss σ Q Qp x y v u} c0 c s rx ry h q => by
  unfold pInG at h
  split at h
  · exact .inl (lIn.run c0 c s rx ry h q)
  · exact .inl (lIn.run c0 c s rx ry h q)
  · exact .inr (lNotInD.run c0 c s rx ry h q)⟩
/-- == : scalars or data -/
def rEqG (K : PySem.W.Frag) : R2 := fun x y H Q => rEq x y H Q ∨ rEqD K x y H Q
def rNeG (K : PySem.W.Frag) : R2 := fun x y H Q => rNe x y H Q ∨ rNeD K x y H Q
theorem op_eqG {X : Cx} (hu : X.A.units + 64 < cLine) : OpR X (compareOp .Eq) (rEqG X.K) := OpR.or op_eq (op_eqD hu)
theorem op_neG {X : Cx} (hu : X.A.units + 64 < cLine) : OpR X (compareOp .NotEq) (rNeG X.K) := OpR.or op_ne (op_neD hu)
def pEqG (neg : Bool) : Sx → Sx → (Sx → Prop) → Prop := fun x y Q => match eqS x y with
  | some b => Q (.v (.bl (neg ^^ b)))
  | none => pEqD neg x y Q
instance lEqG {K : PySem.W.Frag} : LR fw (rEqG K) (pEqG false) := ⟨fun {B O0 O Hs Kb H0 H ss σ Q Qp x y v u} c0 c s rx ry h q => by
  unfold pEqG at h
  split at h
  · rename_i b e
    exact .inl (lEq.run (x := x) (y := y) c0 c s rx ry (by unfold pEq; rw [e]; exact h) q)
  · exact .inr (lEqD.run c0 c s rx ry h q)⟩
instance lNeG {K : PySem.W.Frag} : LR fw (rNeG K) (pEqG true) := ⟨fun {B O0 O Hs Kb H0 H ss σ Q Qp x y v u} c0 c s rx ry h q => by
  unfold pEqG at h
  split at h
  · rename_i b e
    exact .inl (lNe.run (x := x) (y := y) c0 c s rx ry (by unfold pEq; rw [e]; exact h) q)
  · exact .inr (lNeD.run c0 c s rx ry h q)⟩
/-- sep.join(texts) -/
def pJoin : Sx → Sx → (Sx → Prop) → Prop := fun x y Q => match x, (y.it).bind strsT with
  | .v (.str a), some ys => (ys.map (·.length)).sum + ys.length * a.length ≤ 16777216 ∧ Q (.v (.str (Txt.join a ys)))
  | _, _ => False
instance lJoin {K : PySem.W.Frag} {to te : TE} {po pe : PX} [k : LE fw to po] [m : LE fw te pe] : LE fw (tM1 (fun x xs H Q => ∃ a p, ∃ ys : List Str, x = .str a ∧ xs = [.ref p] ∧ (SqL K H p (ys.map V.str) ∨ SqT K H p (ys.map V.str)) ∧
      (ys.map (·.length)).sum + ys.length * a.length ≤ 16777216 ∧ Q (.str (Txt.join a ys)) H) to te) (fun ss Q => po ss fun x => match x with | .v (.str a) => pe ss fun y => pJoin (.v (.str a)) y Q | _ => False) := ⟨fun {B O0 O Hs Kb H ss σ Q Qp} c h q => k.run c h fun x H1 v q1 s1 b1 r1 => by
  split at q1
  · cases r1
    refine ⟨⟨_, rfl⟩, m.run (c.go s1 b1) q1 fun y H2 u q2 s2 b2 r2 => ?_⟩
    unfold pJoin at q2
    split at q2
    · rename_i a ys ea e
      obtain ⟨ts, e1, e2⟩ := Option.bind_eq_some_iff.mp e
      obtain ⟨d, us, rfl, g, rr⟩ := r2.its (K := K) (c.go s1 b1).w s2 ((c.go s1 b1).go s2 b2).r e1
      rw [strsT_eq e2] at rr
      rw [rr.strs] at g
      cases ea
      exact ⟨_, d, ys, rfl, rfl, g, q2.1, q _ _ _ q2.2 (s1.trans s2) b2 rfl⟩
    · exact q2.elim
  · exact q1.elim⟩
end Pl

set_option Elab.async false
set_option linter.all false
set_option maxRecDepth 100000
set_option maxHeartbeats 4000000
/-! The pure layer: names for readings, augmented assignment, drawing. -/
namespace Pl
open PySem PySem.Spec PyProof.Rows L2
variable {fw tp : Bool}
def rLenG (K : PySem.W.Frag) : List V → Hp → VK → Prop := fun xs H Q => ∃ x n, xs = [x] ∧ LenV K x H n ∧ Q (.int n) H
theorem call_lenG {X : Cx} : CallR X (.builtin "len") (rLenG X.K) := call_len
instance lLenG {K : PySem.W.Frag} : LC fw (rLenG K) pLen := ⟨fun c0 c s r h q => (lLen (K := K)).run c0 c s r h q⟩
def rListG (K : PySem.W.Frag) : List V → Hp → VK → Prop := fun xs H Q => ∃ p ys, xs = [.ref p] ∧ (SqL K H p ys ∨ SqT K H p ys) ∧ ∀ l, H l = none → Q (.ref l) (upd H l (.lst ys))
theorem call_listG {X : Cx} : CallR X (.type "list") (rListG X.K) := call_list_of
instance lListG {K : PySem.W.Frag} : LC fw (rListG K) pListOf := ⟨fun c0 c s r h q => (lListOf (K := K)).run c0 c s r h q⟩
def rTupleG (K : PySem.W.Frag) : List V → Hp → VK → Prop := fun xs H Q => ∃ p ys, xs = [.ref p] ∧ ((SqL K H p ys ∧ ∀ l, H l = none → Q (.ref l) (upd H l (.tup ys))) ∨ (SqT K H p ys ∧ Q (.ref p) H))
theorem call_tupleG {X : Cx} : CallR X (.type "tuple") (rTupleG X.K) := call_tuple_of
instance lTupleG {K : PySem.W.Frag} : LC fw (rTupleG K) pTupleOf := ⟨fun c0 c s r h q => (lTupleOf (K := K)).run c0 c s r h q⟩
/-- x += e -/
def rAugG : TIp := fun x y H Q => ipI (fun i j => i + j) x y H Q ∨ rExt2 x y H Q
theorem ip_addG {X : Cx} : PIp X .Add rAugG := by
  intro pins s σ H x y v u Q I rx ry q
  rcases q with q | q
  · exact ip_add pins s σ H x y v u Q I rx ry q
  · exact iop_ext pins s σ H x y v u Q I rx ry q
theorem s_augG {i : Nat} {te : TE} {pe : PX} [k : LE false te pe] {Dp : PEnds} {ss : List Sl} {a : Int} (e : ss[i]? = some (.val (.int a)))
    (h : pe ss fun x => match x with | .v (.int b) => Dp.nx (ss.set i (.val (.int (a + b)))) | _ => False) : Sim tp (tAug i te rAugG) Dp ss := fun B O0 O Hs Kb H σ D htp c l => by
  obtain ⟨o, e1, v, e2, r⟩ := c.r.at_ i _ e
  subst e2
  cases r
  refine ⟨_, e1, k.run c h fun x H1 v q1 s b rx => ?_⟩
  split at q1
  · cases rx
    obtain ⟨O', c'⟩ := c.put (x := .v (.int _)) (sl := .val (.int _)) s b (show XR B O H H1 ss σ (.v (.int (a + _))) (.int (a + _)) from rfl) rfl i
    exact .inl ⟨_, _, rfl, rfl, l.nx _ _ _ _ q1 c'⟩
  · exact q1.elim
theorem s_extG {i : Nat} {te : TE} {pe : PX} [k : LE false te pe] {Dp : PEnds} {ss : List Sl} {xs : List Tv} (e : ss[i]? = some (.own xs))
    (h : pe ss fun x => match x.sq with | some ys => xs.length + ys.length ≤ 100000 ∧ Dp.nx (ss.set i (.own (xs ++ ys))) | none => False) : Sim tp (tAug i te rAugG) Dp ss := fun B O0 O Hs Kb H σ D htp c l => by
  obtain ⟨a, us, e1, m, n, q, r⟩ := c.ownAt e
  refine ⟨.ref a, e1, k.run c h fun x H1 v q1 s b rx => ?_⟩
  split at q1
  · rename_i ys et
    have c1 := c.go s b
    have h1 : H1 a = some (.lst us) := s a _ q (c.w.ob a m)
    have r1 := r.mono (kn_sm (O := O) (O' := O) s fun _ h => .inl h)
    obtain ⟨b2, ws, rfl, h2, r2⟩ := rx.seq c.w s c1.r et
    refine .inr ⟨a, b2, us, ws, rfl, rfl, h1, h2, sz (by rw [r.len, r2.len]; exact q1.1), ?_⟩
    have hs : σ.set i (some (.ref a)) = σ := by
      apply List.ext_getElem?
      intro j
      by_cases hj : i = j
      · subst hj
        rw [List.getElem?_set_self (List.getElem?_eq_some_iff.mp e1).1, e1]
      · rw [List.getElem?_set_ne hj]
    show D.nx (σ.set i (some (.ref a))) _
    rw [hs]
    exact l.nx _ _ _ _ q1.2 (c1.ownList e e1 m n (r1.app r2))
  · exact q1.elim
theorem at0 {α : Type} {x : α} {r : List α} : atI (x :: r) 0 = some x := at_ix2 (by decide) rfl
theorem at1 {α : Type} {x y : α} {r : List α} : atI (x :: y :: r) 1 = some y := at_ix2 (by decide) rfl
theorem at2 {α : Type} {x y z : α} {r : List α} : atI (x :: y :: z :: r) 2 = some z := at_ix2 (by decide) rfl
theorem at3 {α : Type} {x y z u : α} {r : List α} : atI (x :: y :: z :: u :: r) 3 = some u := at_ix2 (by decide) rfl
theorem at4 {α : Type} {x y z u v : α} {r : List α} : atI (x :: y :: z :: u :: v :: r) 4 = some v := at_ix2 (by decide) rfl
/-! ### the box of numbers: promises made over a box of one's own -/
/-- from a context with a box: all that stands, the box apart -/
theorem Ct.wd {B : Bx} {O0 O : List Addr} {Hs Kb H : Hp} {ss : List Sl} {σ : L2.St} (c : Ct fw B O0 O Hs Kb H ss σ) {b k : Addr} (e : B = some (b, k)) : Wd b k (mn [b, k] H) H :=
  ⟨c.w.bx b k e, mn_same, mn_in (by simp), mn_in (by simp)⟩
theorem wd_stp {B : Bx} {b k : Addr} (e : B = some (b, k)) {H H' : Hp} (W : Wd b k (mn [b, k] H) H') : Stay B H H' ∧ BxOk B H' :=
  ⟨fun a o h n => W.gh a o (by rw [mn_at (by rw [e] at n; exact n)]; exact h), fun b' k' e' => by rw [e] at e'; cases e'; exact W.box⟩
/-- _law_pick -/
def pPick : List Sx → (Sx → Prop) → Prop := fun xs Q => match xs with
  | [.b, .v (.int m)] => 0 < m ∧ m < 1073741824 ∧ ∀ i : Int, 0 ≤ i → i < m → Q (.v (.int i))
  | _ => False
/-- a def that draws a number -/
theorem lDraw {n : Nat} {sp : Sp} {P : Int → Prop} (hs : ∀ (b k : Addr) (G H : Hp) (Q : VK) (E : XK), Wd b k G H → (∀ (i : Int) (H' : Hp), Wd b k G H' → P i → Q (.int i) H') → sp [.ref b] H Q E) : LSp fw sp (fun xs Q => match xs with | [.b] => ∀ i : Int, P i → Q (.v (.int i)) | _ => False) := ⟨fun {B O0 O Hs Kb H0 H ss σ Q E Qp xs vs} c0 c s r h f => by
  split at h
  · obtain ⟨v, w, rfl, ⟨b, k, eB, rfl⟩, rfl⟩ := r
    refine hs b k _ H Q E (c.wd eB) fun i H' W p => ?_
    obtain ⟨s1, b1⟩ := wd_stp eB W
    exact f.run _ _ _ (h i p) s1 b1 rfl
  · exact h.elim⟩
theorem zip_maps {ks : List Key} {ts : List Tv} (h : ks.length = ts.length) : (ks.zip ts).map (·.1) = ks ∧ (ks.zip ts).map (·.2) = ts :=
  ⟨List.map_fst_zip (by omega), List.map_snd_zip (by omega)⟩
/-- d[k] = e, the key is new -/
theorem s_setDn {i : Nat} {te ti : TE} {pe pi : PX} [k : LE false te pe] [m : LE false ti pi] {Dp : PEnds} {ss : List Sl} {ks : List Key} {ts : List Tv} (e : ss[i]? = some (.owd ks ts)) (hlt : ks.length = ts.length) (hl : ks.length < 100000)
    (h : pe ss fun x => pi ss fun y => match x.tv, y.tv.bind Tv.key with | some t, some j => j ∉ ks ∧ Dp.nx (ss.set i (.owd (ks ++ [j]) (ts ++ [t]))) | _, _ => False) : Sim tp (tAsg te (gSub (tVar i) ti rSetD)) Dp ss := fun B O0 O Hs Kb H σ D htp c l => by
  obtain ⟨o, e1, a, us, e2, ma, n, q, kk, r⟩ := c.r.at_ i _ e
  subst e2
  obtain ⟨z1, z2⟩ := zip_maps hlt
  refine k.run c h fun x H1 v q1 s b rx => ?_
  refine ⟨.ref a, e1, ?_⟩
  have c1 := c.go s b
  refine m.run c1 q1 fun y H2 w q2 s2 b2 ry => ?_
  have s12 := s.trans s2
  have c2 := c1.go s2 b2
  split at q2
  · rename_i t j et ej
    obtain ⟨hnew, q2⟩ := q2
    obtain ⟨ty, ety, ekey⟩ := Option.bind_eq_some_iff.mp ej
    have rw' := Tv.key_rep ekey (ry.rep c1.w s2 ety)
    subst rw'
    have h2 : H2 a = some (.dK us) := s12 a _ q (c.w.ob a ma)
    have r2 := r.mono (kn_sm (O := O) (O' := O) s12 fun _ h => .inl h)
    have hul : us.length = ks.length := by have := congrArg List.length kk; simpa using this
    obtain ⟨p1, p2⟩ := put_rep (kvs := ks.zip ts) (k := j) ((rx.go c.w s s2).rep c.w s12 et) (by rw [z1]; exact kk) (by rw [z2]; exact r2)
    rw [putT_new (by rw [z1]; exact hnew), List.map_append, z1] at p1
    rw [putT_new (by rw [z1]; exact hnew), List.map_append, z2] at p2
    refine ⟨a, _, rfl, DPut.k h2 (szl (by rw [hul]; exact hl)), ?_⟩
    refine l.nx _ _ _ _ q2 (c2.wr (s' := .owd _ _) e rfl e1 ma n rfl ⟨a, _, rfl, ma, n, upd_same, p1, ?_⟩)
    rw [kn_mut ma]
    exact p2
  · exact q2.elim
theorem zip_set : ∀ {ks : List Key} {ts : List Tv} {n : Nat} {j : Key} {t : Tv}, ks.length = ts.length → ks.Nodup → ks[n]? = some j → ((ks.zip ts).map fun kv => if kv.1 = j then (kv.1, t) else kv) = ks.zip (ts.set n t)
  | [], _, n, j, t, _, _, h => by simp at h
  | k :: ks, [], n, j, t, hl, _, _ => by cases hl
  | k :: ks, u :: ts, 0, j, t, hl, nd, h => by
    cases h
    rw [List.zip_cons_cons, List.map_cons, List.set_cons_zero, List.zip_cons_cons, if_pos rfl]
    have : ((ks.zip ts).map fun kv => if kv.1 = k then (kv.1, t) else kv) = ks.zip ts := by
      refine (List.map_congr_left (g := id) fun kv hkv => ?_).trans (List.map_id _)
      refine if_neg fun e => (List.nodup_cons.mp nd).1 ?_
      have h1 := (List.of_mem_zip (a := kv.1) (b := kv.2) hkv).1
      rw [e] at h1
      exact h1
    rw [this]
  | k :: ks, u :: ts, n + 1, j, t, hl, nd, h => by
    have h' : ks[n]? = some j := h
    rw [List.zip_cons_cons, List.map_cons, List.set_cons_succ, List.zip_cons_cons, zip_set (Nat.succ.inj hl) (List.nodup_cons.mp nd).2 h', if_neg (show ¬ k = j from fun e => (List.nodup_cons.mp nd).1 (by rw [e]; exact List.mem_of_getElem? h'))]
/-- d[k] = e, the key is there -/
theorem s_setDo {i : Nat} {te ti : TE} {pe pi : PX} [k : LE false te pe] [m : LE false ti pi] {Dp : PEnds} {ss : List Sl} {ks : List Key} {ts : List Tv} (e : ss[i]? = some (.owd ks ts)) (hlt : ks.length = ts.length) (hnd : ks.Nodup) (hl : ks.length < 100000)
    (h : pe ss fun x => pi ss fun y => match x.tv, y.tv.bind Tv.key with | some t, some j => ∃ n, ks[n]? = some j ∧ Dp.nx (ss.set i (.owd ks (ts.set n t))) | _, _ => False) : Sim tp (tAsg te (gSub (tVar i) ti rSetD)) Dp ss := fun B O0 O Hs Kb H σ D htp c l => by
  obtain ⟨o, e1, a, us, e2, ma, n, q, kk, r⟩ := c.r.at_ i _ e
  subst e2
  obtain ⟨z1, z2⟩ := zip_maps hlt
  refine k.run c h fun x H1 v q1 s b rx => ?_
  refine ⟨.ref a, e1, ?_⟩
  have c1 := c.go s b
  refine m.run c1 q1 fun y H2 w q2 s2 b2 ry => ?_
  have s12 := s.trans s2
  have c2 := c1.go s2 b2
  split at q2
  · rename_i t j et ej
    obtain ⟨nn, hnn, q2⟩ := q2
    obtain ⟨ty, ety, ekey⟩ := Option.bind_eq_some_iff.mp ej
    have rw' := Tv.key_rep ekey (ry.rep c1.w s2 ety)
    subst rw'
    have h2 : H2 a = some (.dK us) := s12 a _ q (c.w.ob a ma)
    have r2 := r.mono (kn_sm (O := O) (O' := O) s12 fun _ h => .inl h)
    have hul : us.length = ks.length := by have := congrArg List.length kk; simpa using this
    obtain ⟨p1, p2⟩ := put_rep (kvs := ks.zip ts) (k := j) ((rx.go c.w s s2).rep c.w s12 et) (by rw [z1]; exact kk) (by rw [z2]; exact r2)
    have z3 := zip_maps (ks := ks) (ts := ts.set nn t) (by rw [List.length_set]; exact hlt)
    rw [putT_old (by rw [z1]; exact List.mem_of_getElem? hnn), zip_set hlt hnd hnn, z3.1] at p1
    rw [putT_old (by rw [z1]; exact List.mem_of_getElem? hnn), zip_set hlt hnd hnn, z3.2] at p2
    refine ⟨a, _, rfl, DPut.k h2 (szl (by rw [hul]; exact hl)), ?_⟩
    refine l.nx _ _ _ _ q2 (c2.wr (s' := .owd _ _) e rfl e1 ma n rfl ⟨a, _, rfl, ma, n, upd_same, p1, ?_⟩)
    rw [kn_mut ma]
    exact p2
  · exact q2.elim
end Pl

set_option Elab.async false
set_option linter.all false
set_option maxRecDepth 100000
set_option maxHeartbeats 4000000
/-! The pure layer: dicts written out. -/
namespace Pl
open PySem PySem.Spec PyProof.Rows L2
variable {fw tp : Bool}
def XRP (B : Bx) (O : List Addr) (H0 H : Hp) (ss : List Sl) (σ : L2.St) : List (Sx × Sx) → List (V × V) → Prop
  | [], vs => vs = []
  | x :: xs, vs => ∃ v u r, vs = (v, u) :: r ∧ XR B O H0 H ss σ x.1 v ∧ XR B O H0 H ss σ x.2 u ∧ XRP B O H0 H ss σ xs r
theorem XRP.back {B : Bx} {O : List Addr} {H0 H1 H2 : Hp} {ss : List Sl} {σ : L2.St} (b : BxOk B H1) (s : Stay B H0 H1) : ∀ {xs : List (Sx × Sx)} {vs : List (V × V)}, XRP B O H1 H2 ss σ xs vs → XRP B O H0 H2 ss σ xs vs
  | [], _, h => h
  | x :: xs, _, h => by
    obtain ⟨v, u, r, e, h1, h2, h3⟩ := h
    exact ⟨v, u, r, e, h1.back b s, h2.back b s, h3.back b s⟩
class LDs (trs : List (TE × TE)) (pd : outParam (List Sl → (List (Sx × Sx) → Prop) → Prop)) : Prop where
  run : ∀ {B : Bx} {O0 O : List Addr} {Hs Kb H : Hp} {ss : List Sl} {σ : L2.St} {Q : List (V × V) → Hp → Prop} {Qp : List (Sx × Sx) → Prop}, Ct false B O0 O Hs Kb H ss σ → pd ss Qp → (∀ xs H' vs, Qp xs → Stay B H H' → BxOk B H' → XRP B O H H' ss σ xs vs → Q vs H') → tPairs trs σ H Q
def pDs0 : List Sl → (List (Sx × Sx) → Prop) → Prop := fun _ Q => Q []
def pDs1 (pk pv : PX) (pr : List Sl → (List (Sx × Sx) → Prop) → Prop) : List Sl → (List (Sx × Sx) → Prop) → Prop := fun ss Q => pk ss fun x => pv ss fun y => pr ss fun r => Q ((x, y) :: r)
instance lDs0 : LDs [] pDs0 := ⟨fun {B O0 O Hs Kb H ss σ Q Qp} c h q => q _ _ _ h (Stay.refl _ _) c.w.bx rfl⟩
instance lDs1 {tk tv : TE} {tr : List (TE × TE)} {pk pv : PX} {pr : List Sl → (List (Sx × Sx) → Prop) → Prop} [a : LE false tk pk] [b : LE false tv pv] [r : LDs tr pr] : LDs ((tk, tv) :: tr) (pDs1 pk pv pr) := ⟨fun {B O0 O Hs Kb H ss σ Q Qp} c h q =>
  a.run c h fun x H1 v q1 s1 b1 r1 => b.run (c.go s1 b1) q1 fun y H2 u q2 s2 b2 r2 => r.run ((c.go s1 b1).go s2 b2) q2 fun zs H3 vs q3 s3 b3 r3 =>
    q _ _ _ q3 ((s1.trans s2).trans s3) b3 ⟨v, u, vs, rfl, (r1.go c.w s1 s2).go c.w (s1.trans s2) s3, (r2.go (c.go s1 b1).w s2 s3).back b1 s1, (r3.back b2 s2).back b1 s1⟩⟩
def kvT : List (Sx × Sx) → Option (List (Key × Tv))
  | [] => some []
  | (x, y) :: r => match x.tv.bind Tv.key, y.tv, kvT r with
    | some k, some t, some z => some ((k, t) :: z)
    | _, _, _ => none
theorem kvT_rep {B : Bx} {O0 O : List Addr} {Hs Kb H0 H : Hp} {ss : List Sl} {σ : L2.St} (W : Wl B O0 O Hs Kb H0) (s : Stay B H0 H) : ∀ {xs : List (Sx × Sx)} {vs : List (V × V)} {kts : List (Key × Tv)}, kvT xs = some kts → XRP B O H0 H ss σ xs vs → ∃ us : List (Key × V), vs = us.map (fun kv => (kV kv.1, kv.2)) ∧ us.map (·.1) = kts.map (·.1) ∧ RepL (kn B O H) (kts.map (·.2)) (us.map (·.2))
  | [], _, _, e, h => by cases e; cases h; exact ⟨[], rfl, rfl, rfl⟩
  | (x, y) :: xs, _, kts, e, h => by
    obtain ⟨v, u, r, rfl, h1, h2, h3⟩ := h
    unfold kvT at e
    split at e
    · rename_i k t z e1 e2 e3
      cases e
      obtain ⟨us, rfl, g1, g2⟩ := kvT_rep W s e3 h3
      obtain ⟨tx, etx, ek⟩ := Option.bind_eq_some_iff.mp e1
      have := Tv.key_rep ek (h1.rep W s etx)
      subst this
      exact ⟨(k, u) :: us, rfl, by rw [List.map_cons, List.map_cons, g1], ⟨_, _, rfl, h2.rep W s e2, g2⟩⟩
    · cases e
theorem putK_nw {acc : List (Key × V)} {k : Key} {v : V} (h : ∀ p ∈ acc, p.1 ≠ k) : putK acc k v = acc ++ [(k, v)] := by
  unfold putK
  rw [if_neg (fun z => by obtain ⟨p, hp, e⟩ := List.any_eq_true.mp z; exact h p hp (of_decide_eq_true e))]
theorem mergeK_nd : ∀ {us acc : List (Key × V)}, ((acc ++ us).map (·.1)).Nodup → mergeK acc us = acc ++ us
  | [], acc, _ => by rw [List.append_nil]; rfl
  | kv :: us, acc, h => by
    have hn : ∀ p ∈ acc, p.1 ≠ kv.1 := fun p hp e => by
      rw [List.map_append, List.nodup_append] at h
      exact h.2.2 p.1 (List.mem_map.mpr ⟨p, hp, rfl⟩) kv.1 (by rw [List.map_cons]; exact List.mem_cons_self) e
    have : mergeK acc (kv :: us) = mergeK (putK acc kv.1 kv.2) us := rfl
    rw [this, putK_nw hn, mergeK_nd (by rw [List.append_assoc]; exact h), List.append_assoc]
    rfl
/-- a dict written out: different keys -/
def pDisp (pd : List Sl → (List (Sx × Sx) → Prop) → Prop) : PX := fun ss Q => pd ss fun ps => match kvT ps with
  | some kts => (kts.map (·.1)).Nodup ∧ kts.length ≤ 15 ∧ Q (.nd (kts.map (·.1)) (kts.map (·.2)))
  | none => False
instance lDisp {trs : List (TE × TE)} {pd : List Sl → (List (Sx × Sx) → Prop) → Prop} [k : LDs trs pd] : LE fw (tDisp trs) (pDisp pd) := ⟨fun {B O0 O Hs Kb H ss σ Q Qp} c h q p hp => by
  have s0 : Stay B H (upd H p (.dK [])) := Stay.of (same_upd hp)
  have b0 := c.w.bx.same (same_upd (o := .dK []) hp)
  obtain ⟨w, R, hs, nd⟩ := c.own s0 b0 hp upd_same
  have c0 : Ct false B O0 (p :: O) Hs Kb (upd H p (.dK [])) ss σ := ⟨w, R, fun h => nomatch h⟩
  refine k.run c0 h fun xs H2 vs q2 s2 b2 r2 => ?_
  split at q2
  · rename_i kts e
    obtain ⟨us, rfl, g1, g2⟩ := kvT_rep w s2 e r2
    have hp2 : H2 p = some (.dK []) := s2 _ _ upd_same (w.ob p List.mem_cons_self)
    have hl : us.length = kts.length := by have := congrArg List.length g1; simpa using this
    refine ⟨hp2, us, rfl, by rw [hl]; exact q2.2.1, ?_⟩
    rw [mergeK_nd (acc := []) (by rw [List.nil_append, g1]; exact q2.1), List.nil_append]
    refine q _ _ _ q2.2.2 (fun a o h n => ?_) ?_ ⟨p, us, rfl, hp, upd_same, g1, ?_⟩
    · rw [upd_ne (ne_of_none h hp)]
      exact s2 _ _ (s0 _ _ h n) n
    · intro b' k' e'
      have hb := b2 b' k' e'
      have W2 : Wd b' k' (fun _ => none) H2 := ⟨hb, (fun _ _ h => nomatch h), rfl, rfl⟩
      have nb : p ≠ b' ∧ p ≠ k' := by
        have := w.ob p List.mem_cons_self
        rw [e'] at this
        simpa [bxs] using this
      exact (W2.mut rfl nb.1 nb.2).box
    · rw [kn_mut List.mem_cons_self]
      exact g2
  · exact q2.elim⟩
end Pl

set_option Elab.async false
set_option linter.all false
set_option maxRecDepth 100000
set_option maxHeartbeats 4000000
/-! x in o and len(o), o of an own class. -/
namespace Pl
open PySem PySem.Spec PyProof.Rows L2 NdefX ClX
section
variable {X : Cx} {CX : CXT} {k : Nat} {sp : Sp} {E : XK}
def rInO (X : Cx) (f : Addr) (sp : Sp) (E : XK) (neg : Bool) : R2 := fun x y H Q => ∃ a C dx fs, y = .ref a ∧ H a = some (.ins C dx fs) ∧ Meth X.K C "__contains__" f ∧ sp [y, x] H (fun v H' => ∃ b, v = .bl b ∧ Q (.bl (xor neg b)) H') E
theorem op_inO {f : Addr} (F : FnR X.prog X.w X.K X.mg X.base CX k f sp) (hr : Room k X.A) (hx : Passes CX X E) : OpR X (compareOp .In) (rInO X f sp E false) := by
  intro pins s σ H x y v u Q I rx ry h
  obtain ⟨a, C, dx, fs, rfl, ha, B, q⟩ := h
  cases (show u = Value.ref a from ry)
  obtain ⟨mA, O, _⟩ := ins_get I.hok ha
  obtain ⟨odx, J, _⟩ := O.look
  obtain ⟨m, hF⟩ := I.fr
  refine PySem.W.in_K hF I.ok.mod.kin J B.at_ B.fn ?_
  refine wpAny_mono (wpAny_call (run_fnR (us := [.ref a, v]) (vs := [.ref a, x]) F hr hx I (.cons rfl (.cons rx .nil)) q)) (fun w s' z => ?_) fun _ _ x => x
  obtain ⟨z', H', I', rz, b, ez, qz⟩ := z
  subst ez
  obtain rfl : w = Value.bool b := rz
  refine wpAny_truthy_bool ⟨.bl b, H', I', rfl, ?_⟩
  rw [Bool.false_xor] at qz
  exact qz
theorem op_ninO {f : Addr} (F : FnR X.prog X.w X.K X.mg X.base CX k f sp) (hr : Room k X.A) (hx : Passes CX X E) : OpR X (compareOp .NotIn) (rInO X f sp E true) := by
  intro pins s σ H x y v u Q I rx ry h
  obtain ⟨a, C, dx, fs, rfl, ha, B, q⟩ := h
  cases (show u = Value.ref a from ry)
  obtain ⟨mA, O, _⟩ := ins_get I.hok ha
  obtain ⟨odx, J, _⟩ := O.look
  obtain ⟨m, hF⟩ := I.fr
  refine PySem.W.notIn_K hF I.ok.mod.kin J B.at_ B.fn ?_
  refine wpAny_mono (wpAny_call (run_fnR (us := [.ref a, v]) (vs := [.ref a, x]) F hr hx I (.cons rfl (.cons rx .nil)) q)) (fun w s' z => ?_) fun _ _ x => x
  obtain ⟨z', H', I', rz, b, ez, qz⟩ := z
  subst ez
  obtain rfl : w = Value.bool b := rz
  refine wpAny_truthy_bool ⟨.bl (!b), H', I', rfl, ?_⟩
  rw [Bool.true_xor] at qz
  exact qz
/-- len(o) -/
theorem call_lenO {f : Addr} (F : FnR X.prog X.w X.K X.mg X.base CX k f sp) (hr : Room (k + 1) X.A) (hx : Passes CX X E) :
    CallR X (.builtin "len") (fun xs H Q => ∃ a C dx fs, xs = [.ref a] ∧ H a = some (.ins C dx fs) ∧ Meth X.K C "__len__" f ∧ sp [.ref a] H (fun v H' => ∃ n : Nat, v = .int n ∧ n < 2 ^ 62 ∧ Q (.int n) H') E) := by
  intro pins s σ H xs us Q I r h
  obtain ⟨a, C, dx, fs, rfl, ha, B, q⟩ := h
  obtain ⟨mA, O, _⟩ := ins_get I.hok ha
  obtain ⟨odx, J, _⟩ := O.look
  obtain ⟨m, hF⟩ := I.fr
  cases r with | cons h1 h2 => ?_
  cases h2
  rename_i u
  cases (show u = Value.ref a from h1)
  refine PySem.W.len_K hF I.ok.mod.kin J B.at_ B.fn ?_
  refine wpAny_mono (wpAny_call (run_fnR1 (us := [.ref a]) (vs := [.ref a]) F hr hx I (.cons rfl .nil) q)) (fun w s' z => ?_) fun _ _ x => x
  obtain ⟨z', H', I', rz, n, ez, hn, qz⟩ := z
  subst ez
  obtain ⟨t, rfl⟩ : ∃ t, w = Value.int n t := rz
  refine ⟨⟨by omega, by omega⟩, ⟨.int n, H', ?_, ⟨_, rfl⟩, qz⟩⟩
  exact I'.kept (t' := s'.toks + 1) (fun b o e => e)
end
end Pl

set_option Elab.async false
set_option linter.all false
set_option maxRecDepth 100000
set_option maxHeartbeats 4000000
/-! The pure layer: an own dict of own lists. -/
namespace Pl
open PySem PySem.Spec PyProof.Rows L2
variable {fw tp : Bool}
theorem s_toDl (i : Nat) {ts : TS} {Dp : PEnds} {ss : List Sl} (e : ss[i]? = some (.owd [] [])) (h : Sim tp ts Dp (ss.set i (.odl [] [] []))) : Sim tp ts Dp ss := fun B O0 O Hs Kb H σ D htp c l => by
  have hi := (List.getElem?_eq_some_iff.mp e).1
  refine h B O0 O Hs Kb H σ D htp ⟨c.w, c.r.sub (by rw [List.length_set]; exact c.r.len) (fun j t ej => ?_) (fun j t ej oj => ?_), fun h => nomatch h⟩ l
  · by_cases hj : i = j
    · subst hj
      rw [List.getElem?_set_self hi] at ej
      cases ej
      obtain ⟨o, e1, a, us, e2, m, n, q, k, r⟩ := c.r.at_ i _ e
      refine ⟨o, e1, a, us, e2, m, n, q, k, ?_, List.nodup_nil, rfl, fun _ _ _ h => by simp at h⟩
      rw [List.map_eq_nil_iff.mp k]
      rfl
    · rw [List.getElem?_set_ne hj] at ej
      exact c.r.at_ j t ej
  · by_cases hj : i = j
    · subst hj
      rw [List.getElem?_set_self hi] at ej
      cases ej
      exact ⟨_, e, rfl, fun _ h => (List.not_mem_nil h).elim, rfl⟩
    · rw [List.getElem?_set_ne hj] at ej
      exact ⟨t, ej, oj, fun _ h => h, rfl⟩
/-- an address of an own slot's inner list is written -/
theorem Ct.wrA {B : Bx} {O0 O : List Addr} {Hs Kb H : Hp} {ss : List Sl} {σ : L2.St} (c : Ct fw B O0 O Hs Kb H ss σ) {i : Nat} {b : Addr} {s s' : Sl} {o : HO} {v : Option V} (e : ss[i]? = some s) (hb : b ∈ s.ads) (e1 : σ[i]? = some v) (ha : b ∈ O) (hs : Hs b = none)
    (k : SlOk B O Hs (upd H b o) s' v) (ad : ∀ x ∈ s'.ads, x ∈ s.ads) (hl : LD o := by first | exact .inl ⟨_, rfl⟩ | exact .inr ⟨_, rfl⟩) : Ct fw B O0 O Hs Kb (upd H b o) (ss.set i s') σ := by
  have hi := (List.getElem?_eq_some_iff.mp e).1
  refine ⟨c.w.mut ha hs hl, c.r.sub (by rw [List.length_set]; exact c.r.len) (fun j t ej => ?_) (fun j t e1' o1 => ?_), c.fl⟩
  · by_cases hj : i = j
    · subst hj
      rw [List.getElem?_set_self hi] at ej
      cases ej
      exact ⟨_, e1, k⟩
    · rw [List.getElem?_set_ne hj] at ej
      obtain ⟨v, e2, q⟩ := c.r.at_ j t ej
      obtain ⟨d1, d2⟩ := c.r.din i j s t b hj e ej hb
      exact ⟨v, e2, q.mut ha (fun h z => d1 h (by rw [e2, z])) d2⟩
  · by_cases hz : i = j
    · subst hz
      rw [List.getElem?_set_self hi] at e1'
      cases e1'
      exact ⟨s, e, Sl.ads_own hb, ad, rfl⟩
    · rw [List.getElem?_set_ne hz] at e1'
      exact ⟨t, e1', o1, fun _ h => h, rfl⟩
/-- slot i's own thing is written and gets one more inner list -/
theorem Ct.wrN {B : Bx} {O0 O : List Addr} {Hs Kb H : Hp} {ss : List Sl} {σ : L2.St} (c : Ct fw B O0 O Hs Kb H ss σ) {i : Nat} {a p : Addr} {s s' : Sl} {o : HO} (e : ss[i]? = some s) (io : s.isOwn = true) (e1 : σ[i]? = some (some (.ref a))) (ha : a ∈ O) (hs : Hs a = none)
    (io' : s'.isOwn = true) (k : SlOk B O Hs (upd H a o) s' (some (.ref a))) (ad : ∀ x ∈ s'.ads, x ∈ s.ads ∨ x = p) (nd : ∀ (j : Nat) t, ss[j]? = some t → (t.isOwn = true → σ[j]? ≠ some (some (.ref p))) ∧ p ∉ t.ads) (hl : LD o := by first | exact .inl ⟨_, rfl⟩ | exact .inr ⟨_, rfl⟩) : Ct fw B O0 O Hs Kb (upd H a o) (ss.set i s') σ := by
  have hi := (List.getElem?_eq_some_iff.mp e).1
  have f : ∀ (j : Nat) t, (ss.set i s')[j]? = some t → t.isOwn = true → ∃ u, ss[j]? = some u ∧ u.isOwn = true ∧ (∀ x ∈ t.ads, x ∈ u.ads ∨ (x = p ∧ j = i)) := fun j t ej oj => by
    by_cases hz : i = j
    · subst hz
      rw [List.getElem?_set_self hi] at ej
      cases ej
      exact ⟨s, e, io, fun x hx => (ad x hx).imp id fun h => ⟨h, rfl⟩⟩
    · rw [List.getElem?_set_ne hz] at ej
      exact ⟨t, ej, oj, fun x hx => .inl hx⟩
  refine ⟨c.w.mut ha hs hl, ⟨by rw [List.length_set]; exact c.r.len, fun j t ej => ?_, fun j m t u b hne x1 x2 o1 o2 h1 h2 => ?_, fun j m t u b hne x1 x2 hm => ?_⟩, c.fl⟩
  · by_cases hj : i = j
    · subst hj
      rw [List.getElem?_set_self hi] at ej
      cases ej
      exact ⟨_, e1, k⟩
    · rw [List.getElem?_set_ne hj] at ej
      obtain ⟨v, e2, q⟩ := c.r.at_ j t ej
      exact ⟨v, e2, q.mut ha (fun h z => c.r.dis i j s t a hj e ej io h e1 (by rw [e2, z])) fun hm => (c.r.din j i t s a (Ne.symm hj) ej e hm).1 io e1⟩
  · obtain ⟨t', f1, f2, _⟩ := f j t x1 o1
    obtain ⟨u', g1, g2, _⟩ := f m u x2 o2
    exact c.r.dis j m t' u' b hne f1 g1 f2 g2 h1 h2
  · obtain ⟨t', f1, f2, f3⟩ := f j t x1 (Sl.ads_own hm)
    rcases f3 b hm with hb | ⟨rfl, rfl⟩
    · refine ⟨fun ou => ?_, fun hu => ?_⟩
      · obtain ⟨u', g1, g2, _⟩ := f m u x2 ou
        exact (c.r.din j m t' u' b hne f1 g1 hb).1 g2
      · obtain ⟨u', g1, g2, g3⟩ := f m u x2 (Sl.ads_own hu)
        rcases g3 b hu with z | ⟨rfl, rfl⟩
        · exact (c.r.din j m t' u' b hne f1 g1 hb).2 z
        · exact (nd j t' f1).2 hb
    · refine ⟨fun ou => ?_, fun hu => ?_⟩
      · obtain ⟨u', g1, g2, _⟩ := f m u x2 ou
        exact (nd m u' g1).1 g2
      · obtain ⟨u', g1, g2, g3⟩ := f m u x2 (Sl.ads_own hu)
        rcases g3 b hu with z | ⟨_, z⟩
        · exact (nd m u' g1).2 z
        · exact hne z.symm
/-- d[k] = a new list, the key is new -/
theorem s_setDl {i : Nat} {te ti : TE} {pe pi : PX} [k : LE false te pe] [m : LE false ti pi] {Dp : PEnds} {ss : List Sl} {as : List Addr} {ks : List Key} {xss : List (List Tv)} (e : ss[i]? = some (.odl as ks xss)) (hl : ks.length < 100000)
    (h : pe ss fun x => pi ss fun y => match x, y.tv.bind Tv.key with | .n xs, some j => j ∉ ks ∧ ∀ p, Dp.nx (ss.set i (.odl (as ++ [p]) (ks ++ [j]) (xss ++ [xs]))) | _, _ => False) : Sim tp (tAsg te (gSub (tVar i) ti rSetD)) Dp ss := fun B O0 O Hs Kb H σ D htp c l => by
  obtain ⟨o, e1, a, us, e2, ma, n, q, kk, k2, w⟩ := c.r.at_ i _ e
  subst e2
  refine k.run c h fun x H1 v q1 s b rx => ?_
  refine ⟨.ref a, e1, ?_⟩
  cases x with
  | n xs =>
    obtain ⟨p, ws, rfl, hp, hp1, rp⟩ := rx
    obtain ⟨w1, r1, hsp, nd⟩ := c.own s b hp hp1
    have c1 : Ct false B O0 (p :: O) Hs Kb H1 ss σ := ⟨w1, r1, fun h => nomatch h⟩
    refine m.run c1 q1 fun y H2 w' q2 s2 b2 ry => ?_
    have c2 := c1.go s2 b2
    split at q2
    · rename_i _ _ xs' j ex ej
      cases ex
      obtain ⟨hnew, q2⟩ := q2
      obtain ⟨ty, ety, ekey⟩ := Option.bind_eq_some_iff.mp ej
      have rw' := Tv.key_rep ekey (ry.rep c1.w s2 ety)
      subst rw'
      have s12 := s.trans s2
      have h2 : H2 a = some (.dK us) := s12 a _ q (c.w.ob a ma)
      have hul : us.length = ks.length := by have := congrArg List.length kk; simpa using this
      refine ⟨a, _, rfl, DPut.k h2 (szl (by rw [hul]; exact hl)), ?_⟩
      have epk : putK us j (.ref p) = us ++ [(j, .ref p)] := putK_nw fun kv hkv z => hnew (by rw [← kk, ← z]; exact List.mem_map.mpr ⟨kv, hkv, rfl⟩)
      have ma' : a ∈ p :: O := List.mem_cons_of_mem _ ma
      have npa : p ≠ a := fun z => by rw [z, q] at hp; cases hp
      have rp2 := rp.mono (kn_sm (O := p :: O) (O' := p :: O) s2 fun _ h => .inl h)
      refine l.nx _ _ _ _ (q2 p) (c2.wrN (p := p) (s' := .odl _ _ _) e rfl e1 ma' n rfl ⟨a, _, rfl, ma', n, upd_same, ?_, ?_, ?_, ?_, fun x b xs' ex1 ex2 => ?_⟩ (fun x hx => (List.mem_append.mp hx).imp id List.mem_singleton.mp) nd)
      · rw [epk, List.map_append, kk]; rfl
      · rw [epk, List.map_append, List.map_append, k2]; rfl
      · refine List.nodup_append.mpr ⟨w.1, by simp, fun x hx y hy z => ?_⟩
        cases List.mem_singleton.mp hy
        subst z
        exact (nd i _ e).2 hx
      · rw [List.length_append, List.length_append, w.2.1]; rfl
      · by_cases hx : x < as.length
        · rw [List.getElem?_append_left hx] at ex1
          rw [List.getElem?_append_left (by rw [← w.2.1]; exact hx)] at ex2
          obtain ⟨z1, z2, ws', z3, z4⟩ := w.2.2 x b xs' ex1 ex2
          have nb : b ≠ a := fun z => by rw [z, q] at z3; cases z3
          refine ⟨List.mem_cons_of_mem _ z1, z2, ws', ?_, ?_⟩
          · rw [upd_ne nb]
            exact s12 b _ z3 (c.w.ob b z1)
          · rw [kn_mut ma']
            exact z4.mono (kn_sm s12 fun x hx => by
              rcases List.mem_cons.mp hx with rfl | hx
              · exact .inr hp
              · exact .inl hx)
        · have hx1 : x < (as ++ [p]).length := (List.getElem?_eq_some_iff.mp ex1).1
          rw [List.length_append, List.length_singleton] at hx1
          have : x = as.length := by omega
          subst this
          rw [List.getElem?_append_right (Nat.le_refl _), Nat.sub_self] at ex1
          rw [List.getElem?_append_right (by rw [w.2.1]; exact Nat.le_refl _), w.2.1, Nat.sub_self] at ex2
          cases ex1
          cases ex2
          refine ⟨List.mem_cons_self, hsp, ws, ?_, ?_⟩
          · rw [upd_ne npa]
            exact s2 p _ hp1 (c1.w.ob p List.mem_cons_self)
          · rw [kn_mut ma']
            exact rp2
    · exact q2.elim
  | _ =>
    refine m.run (c.go s b) q1 fun y H2 w' q2 s2 b2 ry => ?_
    split at q2
    · rename_i _ _ xs' j ex ej
      cases ex
    · exact q2.elim
theorem val_nd {us : List (Key × V)} {ks : List Key} {vs : List V} (h1 : us.map (·.1) = ks) (h2 : us.map (·.2) = vs) (hn : ks.Nodup) {n : Nat} {j : Key} {v : V} (e1 : ks[n]? = some j) (e2 : vs[n]? = some v) : valV us j = some v := by
  induction us generalizing ks vs n with
  | nil => subst h1; simp at e1
  | cons p us ih =>
    subst h1 h2
    cases n with
    | zero =>
      cases e1
      cases e2
      exact valV_pos rfl
    | succ n =>
      rw [List.map_cons, List.getElem?_cons_succ] at e1 e2
      rw [List.map_cons, List.nodup_cons] at hn
      rw [valV_neg (fun z => hn.1 (by rw [z]; exact List.mem_of_getElem? e1))]
      exact ih rfl rfl hn.2 e1 e2
/-- d[k].append(e) -/
theorem s_appD {K : PySem.W.Frag} {i : Nat} {tk te : TE} {pk pe : PX} [m : LE false tk pk] [k : LE false te pe] {Dp : PEnds} {ss : List Sl} {as : List Addr} {ks : List Key} {xss : List (List Tv)} (e : ss[i]? = some (.odl as ks xss)) (hnd : ks.Nodup) (hll : ∀ xs ∈ xss, xs.length < 100000)
    (h : pk ss fun y => match y.tv.bind Tv.key with
      | some j => ∃ n xs, ks[n]? = some j ∧ xss[n]? = some xs ∧ pe ss fun x => match x.tv with | some t => Dp.nx (ss.set i (.odl as ks (xss.set n (xs ++ [t])))) | none => False
      | none => False) : Sim tp (tDrop (tBM K "list" rAppend (tDGet (tVar i) tk) (tCons te tNil))) Dp ss := fun B O0 O Hs Kb H σ D htp c l => by
  obtain ⟨o, e1, a, us, e2, ma, n0, q, kk, k2, w⟩ := c.r.at_ i _ e
  subst e2
  refine ⟨.ref a, e1, m.run c h fun y H1 u q1 s b ry => ?_⟩
  have c1 := c.go s b
  split at q1
  · rename_i j ej
    obtain ⟨n, xs, hn1, hn2, q1⟩ := q1
    obtain ⟨ty, ety, ekey⟩ := Option.bind_eq_some_iff.mp ej
    have rw' := Tv.key_rep ekey (ry.rep c.w s ety)
    subst rw'
    have h1 : H1 a = some (.dK us) := s a _ q (c.w.ob a ma)
    have hna : n < as.length := by rw [w.2.1]; exact (List.getElem?_eq_some_iff.mp hn2).1
    obtain ⟨bb, hb⟩ : ∃ bb, as[n]? = some bb := ⟨_, List.getElem?_eq_getElem hna⟩
    obtain ⟨z1, z2, ws, z3, z4⟩ := w.2.2 n bb xs hb hn2
    have hv : valV us j = some (.ref bb) := val_nd kk k2 hnd hn1 (by rw [List.getElem?_map, hb]; rfl)
    have hb1 : H1 bb = some (.lst ws) := s bb _ z3 (c.w.ob bb z1)
    refine ⟨a, .ref bb, rfl, by rw [← hv]; exact DGet.rd (.inl h1), .inl ⟨rfl, ws, SqL.of hb1⟩, k.run c1 q1 fun x H2 v q2 s2 b2 rx => ?_⟩
    split at q2
    · rename_i t et
      have s12 := s.trans s2
      have c2 := c1.go s2 b2
      have hb2 : H2 bb = some (.lst ws) := s2 bb _ hb1 (c.w.ob bb z1)
      refine ⟨bb, ws, v, rfl, rfl, hb2, szl (by rw [z4.len]; exact hll xs (List.mem_of_getElem? hn2)), ?_⟩
      have h2 : H2 a = some (.dK us) := s12 a _ q (c.w.ob a ma)
      have nab : a ≠ bb := fun z => by rw [z, z3] at q; cases q
      have kk2 := kn_sm (O := O) (O' := O) s12 fun _ h => .inl h
      refine l.nx _ _ _ _ q2 (c2.wrA (v := some (.ref a)) e (List.mem_of_getElem? hb) e1 z1 z2 ⟨a, us, rfl, ma, n0, by rw [upd_ne nab]; exact h2, kk, k2, w.1, by rw [List.length_set]; exact w.2.1, fun x b' xs' ex1 ex2 => ?_⟩ fun _ h => h)
      by_cases hx : n = x
      · subst hx
        rw [hb] at ex1
        cases ex1
        rw [List.getElem?_set_self (List.getElem?_eq_some_iff.mp hn2).1] at ex2
        cases ex2
        refine ⟨z1, z2, _, upd_same, ?_⟩
        rw [kn_mut z1]
        exact (z4.mono kk2).app (RepL.one (rx.rep c1.w s2 et))
      · rw [List.getElem?_set_ne hx] at ex2
        obtain ⟨y1, y2, ws', y3, y4⟩ := w.2.2 x b' xs' ex1 ex2
        have nbb : b' ≠ bb := fun z => by
          subst z
          obtain ⟨l1, l2⟩ := List.getElem?_eq_some_iff.mp ex1
          obtain ⟨l3, l4⟩ := List.getElem?_eq_some_iff.mp hb
          exact hx ((List.getElem_inj w.1).mp (by rw [l4, l2]))
        refine ⟨y1, y2, ws', ?_, ?_⟩
        · rw [upd_ne nbb]
          exact s12 b' _ y3 (c.w.ob b' y1)
        · rw [kn_mut z1]
          exact y4.mono kk2
    · exact q2.elim
  · exact q1.elim
/-- a test that looks into an own dict of own lists -/
theorem s_ifPk (i : Nat) {c : TT} {t u : TS} {pt : PTx} [k : LT false c pt] {Dp : PEnds} {ss : List Sl} {as : List Addr} {ks : List Key} {xss : List (List Tv)} (e : ss[i]? = some (.odl as ks xss))
    (h : pt (ss.set i (.val (.dic false ks (xss.map Tv.lst)))) fun b => if b = true then Sim tp t Dp ss else Sim tp u Dp ss) : Sim tp (tIfS c t u) Dp ss := fun B O0 O Hs Kb H σ D htp ct l => by
  obtain ⟨O', c'⟩ := ct.fzl e
  refine k.run c' h fun b H' q s b1 => ?_
  split at q
  · rename_i e
    rw [if_pos e]
    exact q B O0 O Hs Kb H' σ D htp (ct.go s b1) l
  · rename_i e
    rw [if_neg e]
    exact q B O0 O Hs Kb H' σ D htp (ct.go s b1) l
/-- what is no list and no dict is not hidden -/
theorem Wl.other {B : Bx} {O0 O : List Addr} {Hs Kb H : Hp} (w : Wl B O0 O Hs Kb H) {a : Addr} {o : HO} (h : H a = some o) (n : ¬ LD o) (nt' : NT o := by exact fun _ z => nomatch z) : kn B O H a = some o := by
  refine kn_at (fun hm => n (w.ld a hm o h)) (fun hm => ?_) h nt'
  · match B, hm, w.bx with
    | some (x, y), hm, bx =>
      obtain ⟨_, _, _, b1, b2, _⟩ := bx x y rfl
      rcases List.mem_cons.mp hm with rfl | hm
      · rw [h] at b1; cases b1; exact n (.inl ⟨_, rfl⟩)
      · cases List.mem_singleton.mp hm
        rw [h] at b2; cases b2; exact n (.inl ⟨_, rfl⟩)
theorem nLD_tup {us : List V} : ¬ LD (.tup us) := fun h => by rcases h with ⟨_, h⟩ | ⟨_, h⟩ <;> cases h
theorem nLD_ins {C d : Addr} {fs : List (Str × V)} : ¬ LD (.ins C d fs) := fun h => by rcases h with ⟨_, h⟩ | ⟨_, h⟩ <;> cases h
/-- d[k] = e in an own dict that is not read again -/
theorem s_setDx {i : Nat} {te ti : TE} {pe pi : PX} [k : LE false te pe] [m : LE false ti pi] {Dp : PEnds} {ss : List Sl} {s : Sl} {n : Nat} (e : ss[i]? = some s) (hs : (∃ ks ts, s = .owd ks ts ∧ ks.length = n) ∨ ∃ as ks xss, s = .odl as ks xss ∧ ks.length = n) (hl : n < 100000)
    (h : pe ss fun x => pi ss fun y => match y.tv.bind Tv.key with | some j => Dp.nx (ss.set i .any) | none => False) : Sim tp (tAsg te (gSub (tVar i) ti rSetD)) Dp ss := fun B O0 O Hs Kb H σ D htp c l => by
  obtain ⟨o, e1, q0⟩ := c.r.at_ i _ e
  obtain ⟨a, us, e2, ma, n0, q, hul⟩ : ∃ a us, o = some (.ref a) ∧ a ∈ O ∧ Hs a = none ∧ H a = some (.dK us) ∧ us.length = n := by
    rcases hs with ⟨ks, ts, rfl, rfl⟩ | ⟨as, ks, xss, rfl, rfl⟩
    · obtain ⟨a, us, e2, ma, n0, q, k, _⟩ := q0
      exact ⟨a, us, e2, ma, n0, q, by rw [← k, List.length_map]⟩
    · obtain ⟨a, us, e2, ma, n0, q, k, _⟩ := q0
      exact ⟨a, us, e2, ma, n0, q, by rw [← k, List.length_map]⟩
  have so : s.isOwn = true := by rcases hs with ⟨_, _, rfl, _⟩ | ⟨_, _, _, rfl, _⟩ <;> rfl
  subst e2
  have hi := (List.getElem?_eq_some_iff.mp e).1
  refine k.run c h fun x H1 v q1 s1 b1 rx => ?_
  refine ⟨.ref a, e1, ?_⟩
  have c1 := c.go s1 b1
  refine m.run c1 q1 fun y H2 w q2 s2 b2 ry => ?_
  have s12 := s1.trans s2
  have c2 := c1.go s2 b2
  split at q2
  · rename_i j ej
    obtain ⟨ty, ety, ekey⟩ := Option.bind_eq_some_iff.mp ej
    have rw' := Tv.key_rep ekey (ry.rep c1.w s2 ety)
    subst rw'
    have h2 : H2 a = some (.dK us) := s12 a _ q (c.w.ob a ma)
    refine ⟨a, _, rfl, DPut.k h2 (szl (by rw [hul]; exact hl)), ?_⟩
    have R3 : Rels B O Hs H2 (ss.set i .any) σ := c2.r.sub (by rw [List.length_set]; exact c2.r.len) (fun j t ej => by
      by_cases hj : i = j
      · subst hj
        rw [List.getElem?_set_self hi] at ej
        cases ej
        exact ⟨_, e1, trivial⟩
      · rw [List.getElem?_set_ne hj] at ej
        exact c2.r.at_ j t ej) fun j t ej oj => by
      by_cases hj : i = j
      · subst hj
        rw [List.getElem?_set_self hi] at ej
        cases ej
        cases oj
      · rw [List.getElem?_set_ne hj] at ej
        exact ⟨t, ej, oj, fun _ h => h, rfl⟩
    have c3 : Ct false B O0 O Hs Kb H2 (ss.set i .any) σ := ⟨c2.w, R3, fun h => nomatch h⟩
    refine l.nx _ _ _ _ q2 (c3.mut ma n0 fun j t ej => ?_)
    by_cases hj : i = j
    · subst hj
      rw [List.getElem?_set_self hi] at ej
      cases ej
      exact ⟨fun z => (by cases z), List.not_mem_nil⟩
    · rw [List.getElem?_set_ne hj] at ej
      exact ⟨fun ot z => c.r.dis i j s t a hj e ej so ot e1 z, fun hm => (c.r.din j i t s a (Ne.symm hj) ej e hm).1 so e1⟩
  · exact q2.elim
theorem rising_pw : ∀ (p : Str) (l : List Str), risingS p l = true → (p :: l).Pairwise fun x y => x.cps.toList ≤ y.cps.toList
  | p, [], _ => by simp
  | p, x :: r, h => by
    have h' : (!ltCps x.cps.toList p.cps.toList && risingS x r) = true := h
    rw [Bool.and_eq_true] at h'
    have ih := rising_pw x r h'.2
    have hx : p.cps.toList ≤ x.cps.toList := by
      have := h'.1
      rw [ltCps_eq] at this
      exact List.not_lt.mp (by simpa using this)
    refine List.pairwise_cons.mpr ⟨fun y hy => ?_, ih⟩
    rcases List.mem_cons.mp hy with rfl | hy
    · exact hx
    · exact List.le_trans hx ((List.pairwise_cons.mp ih).1 y hy)
theorem sortedS_pw {l : List Str} (h : sortedS l = true) : l.Pairwise fun x y => x.cps.toList ≤ y.cps.toList := by
  cases l with
  | nil => exact List.Pairwise.nil
  | cons p l => exact rising_pw p l h
def keyStrs : List Key → Option (List Str)
  | [] => some []
  | .inr z :: r => (keyStrs r).map (z :: ·)
  | _ => none
@[simp] theorem keyStrs_map : ∀ zs : List Str, keyStrs (zs.map Sum.inr) = some zs
  | [] => rfl
  | z :: r => by rw [List.map_cons, keyStrs, keyStrs_map r]; rfl
theorem keyStrs_eq : ∀ {ks : List Key} {zs : List Str}, keyStrs ks = some zs → ks = zs.map Sum.inr
  | [], zs, h => by cases h; rfl
  | .inl _ :: r, zs, h => by cases h
  | .inr z :: r, zs, h => by
    unfold keyStrs at h
    cases e : keyStrs r with
    | none => rw [e] at h; cases h
    | some ms => rw [e] at h; cases h; rw [keyStrs_eq e]; rfl
/-- sorted(a dict of texts) -/
def pSortD : List Sx → (Sx → Prop) → Prop := fun xs Q => match xs with
  | [x] => (match x.dq with
    | some (ks, _) => (match keyStrs ks with | some zs => zs.length < 64 ∧ ∀ ys : List Str, ys.Perm zs → ys.Pairwise (fun x y => x.cps.toList ≤ y.cps.toList) → Q (.n (ys.map Tv.str)) | none => False)
    | none => False)
  | _ => False
instance lSortD : LC fw (fun xs H Q => ∃ (a : Addr) (kvs : List (Key × V)) (ks : List Str), xs = [.ref a] ∧ Rd H a (.dK kvs) ∧ kvs.map (·.1) = ks.map Sum.inr ∧ ks.length < 64 ∧
    ∀ ys p, ys.Perm ks → sortedS ys = true → H p = none → Q (.ref p) (upd H p (.lst (ys.map V.str)))) pSortD := ⟨fun {B O0 O Hs Kb H0 H ss σ Q Qp xs vs} c0 c s r h q => by
  unfold pSortD at h
  split at h
  · rename_i x
    obtain ⟨v, w, rfl, rx, rfl⟩ := r
    split at h
    · rename_i ks ts e
      obtain ⟨a, us, rfl, g, k, _⟩ := rx.dic c0.w s c.r e
      split at h
      · rename_i zs ez
        exact ⟨a, us, zs, rfl, g, by rw [k]; exact keyStrs_eq ez, h.1, fun ys p hp hs hn => q.lst c (h.2 ys hp (sortedS_pw hs)) (RepL.of_strs ys) hn⟩
      · exact h.elim
    · exact h.elim
  · exact h.elim⟩
end Pl

namespace Pl
open PySem L2
local macro_rules | `(tactic| bv_omega) => `(tactic| try simp only [pVar, pC, pTy, pCl, pNil, pCons, pOp, pUn, pCB, pI, pIC, pIB, pNeg, eqS, pEq, isNonS, pIsN, pIx, tvs, pTup, pLst, pTest, pAnd, pOr, pNot, pAndV, pOrV, pNotV, pIf, pChain, Sx.sl, Sx.tv, Sx.sq, Sx.dq, Sx.tq, Sx.rt, Sx.sqv, Sx.it, Sx.ar, Option.map_some, Option.bind_some, pgName, pgNil, pgCons, pgTup, piList, piTup, piSeq, piRange1, piRange2, piKeys, piItems, ars, pSp, pLen, tyOf, kb, pIsi, intsT, strsT, intsT_map, strsT_map, blsT_map, pIn, pInG, pNoPart, pPart, pSl, pRev, pAddG, pMulG, pAbs, p2I, pInt1, pBool1, pStrI, pListOf, pTupleOf, ints1, pSum, pSortedI, pMax, pMin, bls1, pAll, pAny, pEqG, pJoin, pDNew, pDGet, pDGet2, pDIn, Tv.key, pPick, pYes, kT, at0, at1, at2, at3, at4, exists_eq_left', Option.some.injEq, List.getElem?_cons_zero, List.getElem?_cons_succ, List.set_cons_zero, List.set_cons_succ, stS, Ar.sl, List.map_cons, List.map_nil, List.length_cons, List.length_nil, List.replicate_succ, List.replicate_zero, List.nil_append, List.cons_append, Nat.reduceSub, Nat.reduceAdd, wipeS, Bool.false_xor, Bool.true_xor, Bool.false_eq_true, if_true, if_false, decide_eq_true_eq, and_true, true_and, Bool.not_true, Bool.not_false, Bool.not_eq_true', decide_eq_false_iff_not, Nat.zero_le, Nat.reduceLeDiff, Int.reduceLT, Int.reduceLE, Int.reduceEq, Int.reduceNeg, Int.reducePow, Int.reduceAdd, Int.reduceSub, Nat.reduceMul, rgT_len, String.reduceBEq, beq_self_eq_true, Bool.or_false, Bool.false_or, Bool.true_or, Bool.or_true, Bool.or_self, ite_true, ite_false, ite_self, Int.zero_add, Bool.true_eq_false, reduceCtorEq, Function.comp_apply, unS, unSl_lkd, unSl_pvd, unSl_val, unSl_own, unSl_owd, unSl_box, unSl_any, pDisp, pDs0, pDs1, kvT, unSl_odl, pSortD, keyStrs_map])
local macro_rules | `(tactic| injections) => `(tactic| first
  | with_reducible refine s_seq ?_
  | with_reducible refine s_set ?_
  | with_reducible refine s_asg ?_
  | with_reducible refine s_if ?_
  | with_reducible refine s_ret ?_
  | with_reducible refine s_retN ?_
  | with_reducible refine s_next ?_
  | with_reducible refine s_for ?_
  | with_reducible refine s_break ?_
  | with_reducible refine s_cont ?_
  | with_reducible refine s_append (by first | with_unfolding_all rfl | assumption) (by with_unfolding_all first | omega | (simp only [List.length_map, List.length_append, List.length_cons, List.length_nil]; omega)) ?_
  | with_reducible refine s_drop ?_
  | with_reducible refine s_setF (by with_unfolding_all rfl) ?_
  | with_reducible refine s_asgF (by with_unfolding_all rfl) ?_
  | with_reducible refine s_ifF (by with_unfolding_all rfl) ?_
  | with_reducible refine s_retF (by with_unfolding_all rfl) ?_)
local macro_rules | `(tactic| subst_vars) => `(tactic| ((try simp only [pVar, pC, pTy, pCl, pNil, pCons, pOp, pUn, pCB, pI, pIC, pIB, pNeg, eqS, pEq, isNonS, pIsN, pIx, tvs, pTup, pLst, pTest, pAnd, pOr, pNot, pAndV, pOrV, pNotV, pIf, pChain, Sx.sl, Sx.tv, Sx.sq, Sx.dq, Sx.tq, Sx.rt, Sx.sqv, Sx.it, Sx.ar, Option.map_some, Option.bind_some, pgName, pgNil, pgCons, pgTup, piList, piTup, piSeq, piRange1, piRange2, piKeys, piItems, ars, pSp, pLen, tyOf, kb, pIsi, intsT, strsT, intsT_map, strsT_map, blsT_map, pIn, pInG, pNoPart, pPart, pSl, pRev, pAddG, pMulG, pAbs, p2I, pInt1, pBool1, pStrI, pListOf, pTupleOf, ints1, pSum, pSortedI, pMax, pMin, bls1, pAll, pAny, pEqG, pJoin, pDNew, pDGet, pDGet2, pDIn, Tv.key, pPick, pYes, kT, at0, at1, at2, at3, at4, exists_eq_left', Option.some.injEq, List.getElem?_cons_zero, List.getElem?_cons_succ, List.set_cons_zero, List.set_cons_succ, stS, Ar.sl, List.map_cons, List.map_nil, List.length_cons, List.length_nil, List.replicate_succ, List.replicate_zero, List.nil_append, List.cons_append, Nat.reduceSub, Nat.reduceAdd, wipeS, Bool.false_xor, Bool.true_xor, Bool.false_eq_true, if_true, if_false, decide_eq_true_eq, and_true, true_and, Bool.not_true, Bool.not_false, Bool.not_eq_true', decide_eq_false_iff_not, Nat.zero_le, Nat.reduceLeDiff, Int.reduceLT, Int.reduceLE, Int.reduceEq, Int.reduceNeg, Int.reducePow, Int.reduceAdd, Int.reduceSub, Nat.reduceMul, rgT_len, String.reduceBEq, beq_self_eq_true, Bool.or_false, Bool.false_or, Bool.true_or, Bool.or_true, Bool.or_self, ite_true, ite_false, ite_self, Int.zero_add, Bool.true_eq_false, reduceCtorEq, Function.comp_apply, unS, unSl_lkd, unSl_pvd, unSl_val, unSl_own, unSl_owd, unSl_box, unSl_any, pDisp, pDs0, pDs1, kvT, unSl_odl, pSortD, keyStrs_map]) <;> repeat ((first
  | with_reducible refine s_seq ?_
  | with_reducible refine s_set ?_
  | with_reducible refine s_asg ?_
  | with_reducible refine s_if ?_
  | with_reducible refine s_ret ?_
  | with_reducible refine s_retN ?_
  | with_reducible refine s_next ?_
  | with_reducible refine s_break ?_
  | with_reducible refine s_cont ?_
  | with_reducible refine s_append (by first | with_unfolding_all rfl | assumption) (by with_unfolding_all first | omega | (simp only [List.length_map, List.length_append, List.length_cons, List.length_nil]; omega)) ?_
  | with_reducible refine s_drop ?_
  | with_reducible refine s_setF (by with_unfolding_all rfl) ?_
  | with_reducible refine s_asgF (by with_unfolding_all rfl) ?_
  | with_reducible refine s_ifF (by with_unfolding_all rfl) ?_
  | with_reducible refine s_retF (by with_unfolding_all rfl) ?_) <;> try simp only [pVar, pC, pTy, pCl, pNil, pCons, pOp, pUn, pCB, pI, pIC, pIB, pNeg, eqS, pEq, isNonS, pIsN, pIx, tvs, pTup, pLst, pTest, pAnd, pOr, pNot, pAndV, pOrV, pNotV, pIf, pChain, Sx.sl, Sx.tv, Sx.sq, Sx.dq, Sx.tq, Sx.rt, Sx.sqv, Sx.it, Sx.ar, Option.map_some, Option.bind_some, pgName, pgNil, pgCons, pgTup, piList, piTup, piSeq, piRange1, piRange2, piKeys, piItems, ars, pSp, pLen, tyOf, kb, pIsi, intsT, strsT, intsT_map, strsT_map, blsT_map, pIn, pInG, pNoPart, pPart, pSl, pRev, pAddG, pMulG, pAbs, p2I, pInt1, pBool1, pStrI, pListOf, pTupleOf, ints1, pSum, pSortedI, pMax, pMin, bls1, pAll, pAny, pEqG, pJoin, pDNew, pDGet, pDGet2, pDIn, Tv.key, pPick, pYes, kT, at0, at1, at2, at3, at4, exists_eq_left', Option.some.injEq, List.getElem?_cons_zero, List.getElem?_cons_succ, List.set_cons_zero, List.set_cons_succ, stS, Ar.sl, List.map_cons, List.map_nil, List.length_cons, List.length_nil, List.replicate_succ, List.replicate_zero, List.nil_append, List.cons_append, Nat.reduceSub, Nat.reduceAdd, wipeS, Bool.false_xor, Bool.true_xor, Bool.false_eq_true, if_true, if_false, decide_eq_true_eq, and_true, true_and, Bool.not_true, Bool.not_false, Bool.not_eq_true', decide_eq_false_iff_not, Nat.zero_le, Nat.reduceLeDiff, Int.reduceLT, Int.reduceLE, Int.reduceEq, Int.reduceNeg, Int.reducePow, Int.reduceAdd, Int.reduceSub, Nat.reduceMul, rgT_len, String.reduceBEq, beq_self_eq_true, Bool.or_false, Bool.false_or, Bool.true_or, Bool.or_true, Bool.or_self, ite_true, ite_false, ite_self, Int.zero_add, Bool.true_eq_false, reduceCtorEq, Function.comp_apply, unS, unSl_lkd, unSl_pvd, unSl_val, unSl_own, unSl_owd, unSl_box, unSl_any, pDisp, pDs0, pDs1, kvT, unSl_odl, pSortD, keyStrs_map])))
-- USE PL
section
variable {fw : Bool} {P : Program} {w : World} {K : PySem.W.Frag} {mg : Str → Option Value} {base : Heap}
instance lPick : LSp fw spPick pPick := ⟨fun {B O0 O Hs Kb H0 H ss σ Q E Qp xs vs} c0 c s r h f => by
  unfold pPick at h
  split at h
  · obtain ⟨v, u, rfl, ⟨b, k, eB, rfl⟩, v2, u2, rfl, r2, rfl⟩ := r
    cases r2
    refine ⟨b, k, _, _, rfl, c.wd eB, h.1, h.2.1, fun i H' W i0 i1 => ?_⟩
    obtain ⟨s1, b1⟩ := wd_stp eB W
    exact f.run _ _ _ (h.2.2 i i0 i1) s1 b1 rfl
  · exact h.elim⟩
def pNumber : List Sx → (Sx → Prop) → Prop := fun xs Q => match xs with
  | [.b] => ∀ i : Int, -100000000 * 10 ^ 32 ≤ i → i ≤ 100000001 * 10 ^ 32 → Q (.v (.int i))
  | _ => False
instance lNumber : LSp fw spNumber pNumber := ⟨fun {B O0 O Hs Kb H0 H ss σ Q E Qp xs vs} c0 c s r h f => by
  unfold pNumber at h
  split at h
  · obtain ⟨v, u, rfl, ⟨b, k, eB, rfl⟩, rfl⟩ := r
    refine ⟨b, k, _, rfl, c.wd eB, fun i H' W i0 i1 => ?_⟩
    obtain ⟨s1, b1⟩ := wd_stp eB W
    exact f.run _ _ _ (h i i0 i1) s1 b1 rfl
  · exact h.elim⟩
/-- _law_names -/
def qNames : PSp := fun xs Q => ∃ n : Nat, xs = [.b, .tv (.int (n : Nat))] ∧ n ≤ 4 ∧ ∀ zs : List Str, zs.Nodup → zs.length = n → (∀ z ∈ zs, goodName z) → Q (.lst (zs.map Tv.str))
theorem pok_law_names (T : Txt P K mg) {k : Nat} : FnOk P w K mg base CX0 (k + 2) T.law_names.f T.law_names.fd ["_law_box", "_law_many"] (spP 2 qNames) := by
  have G_law_pick : FnOk P w K mg base CX0 (k + 1) T.law_pick.f T.law_pick.fd ["_law_box", "_law_many"] spPick := ok_law_pick T
  refine okPu T.law_names.F sc_law_names fun xs Qp hl hp cdv A outer s H E hr => ⟨_, (pss_cons (ps_set (i := 2) sc_law_names.nd rfl (.inr rfl) pe_str)
  (pss_cons (ps_set (i := 3) sc_law_names.nd rfl (.inr rfl) (pe_lst pa_nil))
  (pss_cons (ps_for PassesOwn.never rfl (pi_range1 (by rfl) T.n_range (pa_cons (pv 1) pa_nil)) (pg_name (i := 4) sc_law_names.nd rfl (.inl rfl))
   (pss_cons (ps_set (i := 5) sc_law_names.nd rfl (.inl rfl) (pe_ix ix_seq (pv 2) (pe_call G_law_pick (hr.mono (by omega)) (by rfl) T.law_pick.g T.law_pick.F.kp T.law_pick.b .nil pass0 (pa_cons (pv 0) (pa_cons pe_int pa_nil))) (fun _ _ => rfl)))
  (Evl.pss_cut (ps_if (pt_cmpR (op_eqG hr.units) (pe_call G_law_pick (hr.mono (by omega)) (by rfl) T.law_pick.g T.law_pick.F.kp T.law_pick.b .nil pass0 (pa_cons (pv 0) (pa_cons pe_int pa_nil))) pe_int (nomark _)) (pss_one (ps_set (i := 5) sc_law_names.nd rfl (.inl rfl) (pe_join pe_str (pe_lc (own := [("_law_j", 6)]) (g := gName 6) (tt := tYes) (te := (tOp (rIx K) (tVar 2) (tCall _ _ _ (tCons (tVar 0) (tCons (tC _) tNil))))) rfl sc_law_names.nd (pi_range1 (by rfl) T.n_range (pa_cons (pe_op op_addG pe_int (pe_call G_law_pick (hr.mono (by omega)) (by rfl) T.law_pick.g T.law_pick.F.kp T.law_pick.b .nil pass0 (pa_cons (pv 0) (pa_cons pe_int pa_nil)))) pa_nil)) (blkOk_by (own := [("_law_j", 6)]) (N := N_law_names) (sc := defScope s_law_names) (by decide +kernel)) (fun _ _ _ _ _ => (pg_name (i := 6) sc_law_names.nd rfl (.inl rfl))) (fun _ _ _ _ _ => pts_nil) (fun _ _ _ _ _ => (pe_ix ix_seq (pv 2) (pe_call G_law_pick (hr.mono (by omega)) (by rfl) T.law_pick.g T.law_pick.F.kp T.law_pick.b .nil pass0 (pa_cons (pv 0) (pa_cons pe_int pa_nil))) (fun _ _ => rfl))))))) pss_nil)
  (Evl.pss_cut (ps_if (pt_cmpR (op_inG (hu65 hr)) (pv 5) (pv 3) (by with_unfolding_all rfl)) (pss_one (ps_set (i := 5) sc_law_names.nd rfl (.inl rfl) (pe_ix ix_seq (pe_lc (own := [("_law_word", 7)]) (g := gName 7) (tt := (tTest (tOp (rNotInG K) (tVar 7) (tVar 3)))) (te := (tVar 7)) rfl sc_law_names.nd (pi_seq (pe_lst (pa_cons pe_str (pa_cons pe_str (pa_cons pe_str (pa_cons pe_str pa_nil)))))) (blkOk_by (own := [("_law_word", 7)]) (N := N_law_names) (sc := defScope s_law_names) (by decide +kernel)) (fun _ _ _ _ _ => (pg_name (i := 7) sc_law_names.nd rfl (.inl rfl))) (fun _ _ _ _ _ => (pts_one (pt_cmpR (op_notInG (hu65 hr)) (pv 7) (pv 3) (by with_unfolding_all rfl)))) (fun _ _ _ _ _ => (pv 7))) pe_int (fun _ _ => rfl)))) pss_nil)
  (pss_one (ps_expr (pe_bm PySem.F.plainAttrs_list PySem.F.slot_list_append PySem.F.type_list_append mt_append (pv 3) (pa_cons (pv 5) pa_nil))))))))
  (pss_one (ps_ret (pv 3)))))), ?_⟩
  obtain ⟨n, rfl, hn, q⟩ := hp
  bv_omega
  injections
  injections
  bv_omega
  injections
  injections
  bv_omega
  injections
  injections
  bv_omega
  refine ⟨by omega, by omega, fun i s => ∃ (zs : List Str) (y4 y5 : Sl), s = [.box, .val (.int (n : Nat)), .val (.str letters), .own (zs.map Tv.str), y4, y5, .any, .any] ∧ zs.Nodup ∧ zs.length = i ∧ ∀ z ∈ zs, goodName z, ⟨[], _, _, rfl, List.nodup_nil, rfl, fun z h => nomatch h⟩, fun i t s ht hI => ?_, fun s hI => ?_⟩
  · obtain ⟨zs, y4, y5, rfl, nd, hl, hg⟩ := hI
    obtain ⟨rfl, hi⟩ := rgT_at ht
    bv_omega
    injections
    injections
    bv_omega
    intro i i0 i1
    obtain ⟨ch, hch, hin⟩ := let_at i0 (by omega)
    refine ⟨by decide +kernel, ch, hch, ?_⟩
    refine s_cut (fun s => ∃ (z : Str) (y4 : Sl), goodName z ∧ s = [.box, .val (.int (n : Nat)), .val (.str letters), .own (zs.map Tv.str), y4, .val (.str z), .any, .any]) ?_ ?_
    · injections
      bv_omega
      intro j j0 j1
      refine ite2 (fun _ => ?_) (fun _ => ?_)
      · injections
        bv_omega
        unfold pLc
        bv_omega
        intro m m0 m1
        refine ⟨by omega, by omega, rfl, fun r acc => ∃ cs : List Nat, acc = (cs.map fun c => (⟨#[c]⟩ : Str)).map Tv.str ∧ cs.length = r ∧ ∀ c ∈ cs, c ∈ letters.cps.toList, ⟨[], rfl, rfl, fun c h => nomatch h⟩, fun r t acc ht hI => ?_, fun acc hI => ?_⟩
        · obtain ⟨cs, rfl, hc, hcs⟩ := hI
          obtain ⟨rfl, hr'⟩ := rgT_at ht
          refine ⟨by simp only [List.length_map]; omega, ?_⟩
          bv_omega
          intro u u0 u1
          obtain ⟨d, hd, hdin⟩ := let_at u0 u1
          refine ⟨by decide +kernel, d, hd, cs ++ [d], by rw [List.map_append, List.map_append]; rfl, by rw [List.length_append, hc]; rfl, fun x hx => ?_⟩
          rcases List.mem_append.mp hx with h | h
          · exact hcs x h
          · cases List.mem_singleton.mp h
            exact hdin
        · obtain ⟨cs, rfl, hc, hcs⟩ := hI
          bv_omega
          refine ⟨?_, _, _, join_good (by omega) (by omega) hcs, rfl⟩
          rw [show (("" : Str)).length = 0 from rfl, Nat.mul_zero, Nat.add_zero, List.map_map]
          have : (cs.map ((fun x : Str => x.length) ∘ fun c => (⟨#[c]⟩ : Str))).sum = cs.length := by
            clear hcs hc
            induction cs with
            | nil => rfl
            | cons x xs ih =>
              rw [List.map_cons, List.sum_cons, ih, List.length_cons]
              show 1 + xs.length = xs.length + 1
              omega
          rw [this]
          omega
      · injections
        exact ⟨_, _, one_good hin, rfl⟩
    · rintro s ⟨z, y4, gz, rfl⟩
      refine s_cut (fun s => ∃ (z : Str) (y4 : Sl), goodName z ∧ z ∉ zs ∧ s = [.box, .val (.int (n : Nat)), .val (.str letters), .own (zs.map Tv.str), y4, .val (.str z), .any, .any]) ?_ ?_
      · injections
        bv_omega
        refine ite2 (fun hz => ?_) (fun hz => ?_)
        · injections
          bv_omega
          unfold pLc
          bv_omega
          refine ⟨rfl, fun i acc => acc = ((abcd.take i).filter (fun w => !decide (w ∈ zs))).map Tv.str, rfl, fun i t acc ht hI => ?_, fun acc hI => ?_⟩
          · subst hI
            have ht : (abcd.map Tv.str)[i]? = some t := ht
            rw [List.getElem?_map] at ht
            obtain ⟨r, hr', rfl⟩ := Option.map_eq_some_iff.mp ht
            refine ⟨by simp only [List.length_map]; have := List.length_filter_le (fun w => !decide (w ∈ zs)) (abcd.take i); have h2 : (abcd.take i).length ≤ 4 := List.length_take_le' i abcd
                       omega, ?_⟩
            bv_omega
            rw [List.take_add_one, hr']
            refine ite2 (fun hx => ?_) (fun hx => ?_)
            · simp [hx]
            · simp [hx]
          · obtain ⟨z2, r2, e2, m2, n2⟩ := spare (zs := zs) (by omega)
            have e3 : acc = Tv.str z2 :: r2.map Tv.str := by rw [hI, show (4 : Nat) = abcd.length from rfl, List.take_length, e2]; rfl
            subst e3
            bv_omega
            exact ⟨_, _, abcd_good m2, n2, rfl⟩
        · injections
          exact ⟨_, _, gz, hz, rfl⟩
      · rintro s ⟨z, y4, gz, hz, rfl⟩
        injections
        bv_omega
        refine ⟨zs ++ [z], _, _, by rw [List.map_append]; rfl, List.nodup_append.mpr ⟨nd, by simp, fun a ha b hb => by cases List.mem_singleton.mp hb; exact fun y => hz (by rw [← y]; exact ha)⟩, by rw [List.length_append, hl]; rfl, fun y hy => ?_⟩
        rcases List.mem_append.mp hy with h | h
        · exact hg y h
        · cases List.mem_singleton.mp h
          exact gz
  · obtain ⟨zs, y4, y5, rfl, nd, hl, hg⟩ := hI
    injections
    bv_omega
    exact q zs nd (by omega) hg
end
end Pl

namespace Pl
open PySem L2
local macro_rules | `(tactic| bv_omega) => `(tactic| try simp only [pVar, pC, pTy, pCl, pNil, pCons, pOp, pUn, pCB, pI, pIC, pIB, pNeg, eqS, pEq, isNonS, pIsN, pIx, tvs, pTup, pLst, pTest, pAnd, pOr, pNot, pAndV, pOrV, pNotV, pIf, pChain, Sx.sl, Sx.tv, Sx.sq, Sx.dq, Sx.tq, Sx.rt, Sx.sqv, Sx.it, Sx.ar, Option.map_some, Option.bind_some, pgName, pgNil, pgCons, pgTup, piList, piTup, piSeq, piRange1, piRange2, piKeys, piItems, ars, pSp, pLen, tyOf, kb, pIsi, intsT, strsT, intsT_map, strsT_map, blsT_map, pIn, pInG, pNoPart, pPart, pSl, pRev, pAddG, pMulG, pAbs, p2I, pInt1, pBool1, pStrI, pListOf, pTupleOf, ints1, pSum, pSortedI, pMax, pMin, bls1, pAll, pAny, pEqG, pJoin, pDNew, pDGet, pDGet2, pDIn, Tv.key, pPick, pYes, kT, at0, at1, at2, at3, at4, exists_eq_left', Option.some.injEq, List.getElem?_cons_zero, List.getElem?_cons_succ, List.set_cons_zero, List.set_cons_succ, stS, Ar.sl, List.map_cons, List.map_nil, List.length_cons, List.length_nil, List.replicate_succ, List.replicate_zero, List.nil_append, List.cons_append, Nat.reduceSub, Nat.reduceAdd, wipeS, Bool.false_xor, Bool.true_xor, Bool.false_eq_true, if_true, if_false, decide_eq_true_eq, and_true, true_and, Bool.not_true, Bool.not_false, Bool.not_eq_true', decide_eq_false_iff_not, Nat.zero_le, Nat.reduceLeDiff, Int.reduceLT, Int.reduceLE, Int.reduceEq, Int.reduceNeg, Int.reducePow, Int.reduceAdd, Int.reduceSub, Nat.reduceMul, rgT_len, String.reduceBEq, beq_self_eq_true, Bool.or_false, Bool.false_or, Bool.true_or, Bool.or_true, Bool.or_self, ite_true, ite_false, ite_self, Int.zero_add, Bool.true_eq_false, reduceCtorEq, Function.comp_apply, unS, unSl_lkd, unSl_pvd, unSl_val, unSl_own, unSl_owd, unSl_box, unSl_any, pDisp, pDs0, pDs1, kvT, unSl_odl, pSortD, keyStrs_map])
local macro_rules | `(tactic| injections) => `(tactic| first
  | with_reducible refine s_seq ?_
  | with_reducible refine s_set ?_
  | with_reducible refine s_asg ?_
  | with_reducible refine s_if ?_
  | with_reducible refine s_ret ?_
  | with_reducible refine s_retN ?_
  | with_reducible refine s_next ?_
  | with_reducible refine s_for ?_
  | with_reducible refine s_break ?_
  | with_reducible refine s_cont ?_
  | with_reducible refine s_append (by first | with_unfolding_all rfl | assumption) (by with_unfolding_all first | omega | (simp only [List.length_map, List.length_append, List.length_cons, List.length_nil]; omega)) ?_
  | with_reducible refine s_drop ?_
  | with_reducible refine s_setF (by with_unfolding_all rfl) ?_
  | with_reducible refine s_asgF (by with_unfolding_all rfl) ?_
  | with_reducible refine s_ifF (by with_unfolding_all rfl) ?_
  | with_reducible refine s_retF (by with_unfolding_all rfl) ?_)
local macro_rules | `(tactic| subst_vars) => `(tactic| ((try simp only [pVar, pC, pTy, pCl, pNil, pCons, pOp, pUn, pCB, pI, pIC, pIB, pNeg, eqS, pEq, isNonS, pIsN, pIx, tvs, pTup, pLst, pTest, pAnd, pOr, pNot, pAndV, pOrV, pNotV, pIf, pChain, Sx.sl, Sx.tv, Sx.sq, Sx.dq, Sx.tq, Sx.rt, Sx.sqv, Sx.it, Sx.ar, Option.map_some, Option.bind_some, pgName, pgNil, pgCons, pgTup, piList, piTup, piSeq, piRange1, piRange2, piKeys, piItems, ars, pSp, pLen, tyOf, kb, pIsi, intsT, strsT, intsT_map, strsT_map, blsT_map, pIn, pInG, pNoPart, pPart, pSl, pRev, pAddG, pMulG, pAbs, p2I, pInt1, pBool1, pStrI, pListOf, pTupleOf, ints1, pSum, pSortedI, pMax, pMin, bls1, pAll, pAny, pEqG, pJoin, pDNew, pDGet, pDGet2, pDIn, Tv.key, pPick, pYes, kT, at0, at1, at2, at3, at4, exists_eq_left', Option.some.injEq, List.getElem?_cons_zero, List.getElem?_cons_succ, List.set_cons_zero, List.set_cons_succ, stS, Ar.sl, List.map_cons, List.map_nil, List.length_cons, List.length_nil, List.replicate_succ, List.replicate_zero, List.nil_append, List.cons_append, Nat.reduceSub, Nat.reduceAdd, wipeS, Bool.false_xor, Bool.true_xor, Bool.false_eq_true, if_true, if_false, decide_eq_true_eq, and_true, true_and, Bool.not_true, Bool.not_false, Bool.not_eq_true', decide_eq_false_iff_not, Nat.zero_le, Nat.reduceLeDiff, Int.reduceLT, Int.reduceLE, Int.reduceEq, Int.reduceNeg, Int.reducePow, Int.reduceAdd, Int.reduceSub, Nat.reduceMul, rgT_len, String.reduceBEq, beq_self_eq_true, Bool.or_false, Bool.false_or, Bool.true_or, Bool.or_true, Bool.or_self, ite_true, ite_false, ite_self, Int.zero_add, Bool.true_eq_false, reduceCtorEq, Function.comp_apply, unS, unSl_lkd, unSl_pvd, unSl_val, unSl_own, unSl_owd, unSl_box, unSl_any, pDisp, pDs0, pDs1, kvT, unSl_odl, pSortD, keyStrs_map]) <;> repeat ((first
  | with_reducible refine s_seq ?_
  | with_reducible refine s_set ?_
  | with_reducible refine s_asg ?_
  | with_reducible refine s_if ?_
  | with_reducible refine s_ret ?_
  | with_reducible refine s_retN ?_
  | with_reducible refine s_next ?_
  | with_reducible refine s_break ?_
  | with_reducible refine s_cont ?_
  | with_reducible refine s_append (by first | with_unfolding_all rfl | assumption) (by with_unfolding_all first | omega | (simp only [List.length_map, List.length_append, List.length_cons, List.length_nil]; omega)) ?_
  | with_reducible refine s_drop ?_
  | with_reducible refine s_setF (by with_unfolding_all rfl) ?_
  | with_reducible refine s_asgF (by with_unfolding_all rfl) ?_
  | with_reducible refine s_ifF (by with_unfolding_all rfl) ?_
  | with_reducible refine s_retF (by with_unfolding_all rfl) ?_) <;> try simp only [pVar, pC, pTy, pCl, pNil, pCons, pOp, pUn, pCB, pI, pIC, pIB, pNeg, eqS, pEq, isNonS, pIsN, pIx, tvs, pTup, pLst, pTest, pAnd, pOr, pNot, pAndV, pOrV, pNotV, pIf, pChain, Sx.sl, Sx.tv, Sx.sq, Sx.dq, Sx.tq, Sx.rt, Sx.sqv, Sx.it, Sx.ar, Option.map_some, Option.bind_some, pgName, pgNil, pgCons, pgTup, piList, piTup, piSeq, piRange1, piRange2, piKeys, piItems, ars, pSp, pLen, tyOf, kb, pIsi, intsT, strsT, intsT_map, strsT_map, blsT_map, pIn, pInG, pNoPart, pPart, pSl, pRev, pAddG, pMulG, pAbs, p2I, pInt1, pBool1, pStrI, pListOf, pTupleOf, ints1, pSum, pSortedI, pMax, pMin, bls1, pAll, pAny, pEqG, pJoin, pDNew, pDGet, pDGet2, pDIn, Tv.key, pPick, pYes, kT, at0, at1, at2, at3, at4, exists_eq_left', Option.some.injEq, List.getElem?_cons_zero, List.getElem?_cons_succ, List.set_cons_zero, List.set_cons_succ, stS, Ar.sl, List.map_cons, List.map_nil, List.length_cons, List.length_nil, List.replicate_succ, List.replicate_zero, List.nil_append, List.cons_append, Nat.reduceSub, Nat.reduceAdd, wipeS, Bool.false_xor, Bool.true_xor, Bool.false_eq_true, if_true, if_false, decide_eq_true_eq, and_true, true_and, Bool.not_true, Bool.not_false, Bool.not_eq_true', decide_eq_false_iff_not, Nat.zero_le, Nat.reduceLeDiff, Int.reduceLT, Int.reduceLE, Int.reduceEq, Int.reduceNeg, Int.reducePow, Int.reduceAdd, Int.reduceSub, Nat.reduceMul, rgT_len, String.reduceBEq, beq_self_eq_true, Bool.or_false, Bool.false_or, Bool.true_or, Bool.or_true, Bool.or_self, ite_true, ite_false, ite_self, Int.zero_add, Bool.true_eq_false, reduceCtorEq, Function.comp_apply, unS, unSl_lkd, unSl_pvd, unSl_val, unSl_own, unSl_owd, unSl_box, unSl_any, pDisp, pDs0, pDs1, kvT, unSl_odl, pSortD, keyStrs_map])))
-- USE PL
section
variable {P : Program} {w : World} {K : PySem.W.Frag} {mg : Str → Option Value} {base : Heap}
mutual
/-- what _law_equal answers -/
def teq : Tv → Tv → Bool
  | .tup xs, y => match y with | .tup ys => teqL xs ys | _ => false
  | .lst xs, y => match y with | .lst ys => teqL xs ys | _ => false
  | .non, y => match y with | .non => true | _ => false
  | .bl a, y => match y with | .bl b => decide (a = b) | _ => false
  | .int a, y => match y with | .int b => decide (a = b) | _ => false
  | .str a, y => match y with | .str b => decide (a = b) | _ => false
  | .dic _ _ _, _ => false
  | .ext _, _ => false
def teqL : List Tv → List Tv → Bool
  | [], ys => match ys with | [] => true | _ => false
  | x :: xs, ys => match ys with | y :: ys => teq x y && teqL xs ys | _ => false
end
mutual
def Tv.dp : Tv → Nat
  | .tup xs => dpL xs + 1
  | .lst xs => dpL xs + 1
  | _ => 0
def dpL : List Tv → Nat
  | [] => 0
  | x :: xs => max x.dp (dpL xs)
end
mutual
/-- plain data, no list too long -/
def Tv.sm : Tv → Prop
  | .tup xs => xs.length ≤ 100000 ∧ smL xs
  | .lst xs => xs.length ≤ 100000 ∧ smL xs
  | .dic _ _ _ => False
  | .ext _ => False
  | _ => True
def smL : List Tv → Prop
  | [] => True
  | x :: xs => x.sm ∧ smL xs
end
theorem dpL_at : ∀ {xs : List Tv} {i : Nat} {x : Tv}, xs[i]? = some x → x.dp ≤ dpL xs
  | y :: ys, 0, x, h => by cases h; rw [dpL]; omega
  | y :: ys, i + 1, x, h => by have := dpL_at (xs := ys) (i := i) h; rw [dpL]; omega
theorem smL_at : ∀ {xs : List Tv} {i : Nat} {x : Tv}, smL xs → xs[i]? = some x → x.sm
  | y :: ys, 0, x, s, h => by cases h; rw [smL] at s; exact s.1
  | y :: ys, i + 1, x, s, h => by rw [smL] at s; exact smL_at s.2 (i := i) h
theorem teqL_at : ∀ {xs ys : List Tv}, xs.length = ys.length → (∀ (i : Nat) x y, xs[i]? = some x → ys[i]? = some y → teq x y = true) → teqL xs ys = true
  | [], [], _, _ => by rw [teqL]
  | x :: xs, y :: ys, hl, h => by
    rw [teqL]
    simp only [Bool.and_eq_true]
    exact ⟨h 0 x y rfl rfl, teqL_at (Nat.succ.inj hl) fun i a b ha hb => h (i + 1) a b ha hb⟩
  | [], _ :: _, hl, _ => by cases hl
  | _ :: _, [], hl, _ => by cases hl
theorem teqL_len : ∀ {xs ys : List Tv}, xs.length ≠ ys.length → teqL xs ys = false
  | [], [], h => absurd rfl h
  | x :: xs, y :: ys, h => by
    rw [teqL, teqL_len (xs := xs) (ys := ys) (fun e => h (by rw [List.length_cons, List.length_cons, e])), Bool.and_false]
  | [], _ :: _, _ => by simp [teqL]
  | _ :: _, [], _ => by simp [teqL]
theorem teqL_no : ∀ {xs ys : List Tv} {i : Nat} {x y : Tv}, xs[i]? = some x → ys[i]? = some y → teq x y = false → teqL xs ys = false
  | a :: xs, b :: ys, 0, x, y, h1, h2, h => by cases h1; cases h2; rw [teqL]; simp only [h, Bool.false_and]
  | a :: xs, b :: ys, i + 1, x, y, h1, h2, h => by rw [teqL]; simp only [teqL_no (xs := xs) (ys := ys) (i := i) h1 h2 h, Bool.and_false]
theorem atI_nat' {α : Type} {xs : List α} {j : Nat} {v : α} (h : xs[j]? = some v) : atI xs ((j : Nat) : Int) = some v := at_ix2 (by omega) (by rw [Int.toNat_natCast]; exact h)
def qEqual (n : Nat) : PSp := fun xs Q => ∃ a b, xs = [.tv a, .tv b] ∧ a.dp < n ∧ b.dp < n ∧ a.sm ∧ b.sm ∧ Q (.bl (teq a b))
theorem pok_law_equal (T : Txt P K mg) {k : Nat} : ∀ n, FnOk P w K mg base CX0 (k + n + 1) T.law_equal.f T.law_equal.fd ["_law_one", "_law_other"] (spP 2 (qEqual n))
  | 0 => okPu T.law_equal.F sc_law_equal fun xs Qp hl hp => by obtain ⟨a, b, _, h, _⟩ := hp; cases h
  | n + 1 => by
    have G_law_equal : FnOk P w K mg base CX0 (k + n + 1) T.law_equal.f T.law_equal.fd ["_law_one", "_law_other"] (spP 2 (qEqual n)) := pok_law_equal T n
    refine okPu T.law_equal.F sc_law_equal fun xs Qp hl hp cdv A outer s H E hr => ⟨_, (pss_cons (ps_set (i := 2) sc_law_equal.nd rfl (.inl rfl) (pe_and (pe_callB call_isi (by rfl) T.n_isinstance (by decide +kernel) (pa_cons (pv 0) (pa_cons (pe_bltn (v := .ty "tuple") (by rfl) T.n_tuple (by decide +kernel) rfl) pa_nil))) (pe_one (pe_callB call_isi (by rfl) T.n_isinstance (by decide +kernel) (pa_cons (pv 1) (pa_cons (pe_bltn (v := .ty "tuple") (by rfl) T.n_tuple (by decide +kernel) rfl) pa_nil))))))
  (pss_cons (ps_if (PW.pt (pw_or (pt_val (pv 2)) (pw_or1 (PW.pt (pw_and (pt_val (pe_callB call_isi (by rfl) T.n_isinstance (by decide +kernel) (pa_cons (pv 0) (pa_cons (pe_bltn (v := .ty "list") (by rfl) T.n_list (by decide +kernel) rfl) pa_nil)))) (pw_and1 (pt_val (pe_callB call_isi (by rfl) T.n_isinstance (by decide +kernel) (pa_cons (pv 1) (pa_cons (pe_bltn (v := .ty "list") (by rfl) T.n_list (by decide +kernel) rfl) pa_nil)))))))))) (pss_cons (ps_if (pt_cmpR (op_neG hr.units) (pe_callB call_lenG (by rfl) T.n_len PySem.boot_len (pa_cons (pv 0) pa_nil)) (pe_callB call_lenG (by rfl) T.n_len PySem.boot_len (pa_cons (pv 1) pa_nil)) (nomark _)) (pss_one (ps_ret pe_bl)) pss_nil)
  (pss_cons (ps_for PassesOwn.never rfl (pi_range1 (by rfl) T.n_range (pa_cons (pe_callB call_lenG (by rfl) T.n_len PySem.boot_len (pa_cons (pv 0) pa_nil)) pa_nil)) (pg_name (i := 3) sc_law_equal.nd rfl (.inl rfl))
   (pss_one (ps_if (pt_not (pt_val (pe_call G_law_equal (hr.mono (by omega)) (by rfl) T.law_equal.g T.law_equal.F.kp T.law_equal.b .nil pass0 (pa_cons (pe_ix ix_seq (pv 0) (pv 3) (fun _ _ => rfl)) (pa_cons (pe_ix ix_seq (pv 1) (pv 3) (fun _ _ => rfl)) pa_nil))))) (pss_one (ps_ret pe_bl)) pss_nil)))
  (pss_one (ps_ret pe_bl)))) pss_nil)
  (pss_cons (ps_if (PW.pt (pw_or (pt_cmpR op_isN (pv 0) pe_non (nomark _)) (pw_or1 (pt_cmpR op_isN (pv 1) pe_non (nomark _))))) (pss_one (ps_ret (pe_and (pe_cmpR op_isN (pv 0) pe_non (nomark _)) (pe_one (pe_cmpR op_isN (pv 1) pe_non (nomark _)))))) pss_nil)
  (pss_cons (ps_if (PW.pt (pw_or (pt_val (pe_callB call_isi (by rfl) T.n_isinstance (by decide +kernel) (pa_cons (pv 0) (pa_cons (pe_bltn (v := .ty "bool") (by rfl) T.n_bool (by decide +kernel) rfl) pa_nil)))) (pw_or1 (pt_val (pe_callB call_isi (by rfl) T.n_isinstance (by decide +kernel) (pa_cons (pv 1) (pa_cons (pe_bltn (v := .ty "bool") (by rfl) T.n_bool (by decide +kernel) rfl) pa_nil))))))) (pss_one (ps_ret (pe_and (pe_callB call_isi (by rfl) T.n_isinstance (by decide +kernel) (pa_cons (pv 0) (pa_cons (pe_bltn (v := .ty "bool") (by rfl) T.n_bool (by decide +kernel) rfl) pa_nil))) (pe_and (pe_callB call_isi (by rfl) T.n_isinstance (by decide +kernel) (pa_cons (pv 1) (pa_cons (pe_bltn (v := .ty "bool") (by rfl) T.n_bool (by decide +kernel) rfl) pa_nil))) (pe_one (pe_cmpR (op_eqG hr.units) (pv 0) (pv 1) (nomark _))))))) pss_nil)
  (pss_cons (ps_if (PW.pt (pw_or (PW.pt (pw_and (pt_val (pe_callB call_isi (by rfl) T.n_isinstance (by decide +kernel) (pa_cons (pv 0) (pa_cons (pe_bltn (v := .ty "int") (by rfl) T.n_int (by decide +kernel) rfl) pa_nil)))) (pw_and1 (pt_val (pe_callB call_isi (by rfl) T.n_isinstance (by decide +kernel) (pa_cons (pv 1) (pa_cons (pe_bltn (v := .ty "int") (by rfl) T.n_int (by decide +kernel) rfl) pa_nil))))))) (pw_or1 (PW.pt (pw_and (pt_val (pe_callB call_isi (by rfl) T.n_isinstance (by decide +kernel) (pa_cons (pv 0) (pa_cons (pe_bltn (v := .ty "str") (by rfl) T.n_str (by decide +kernel) rfl) pa_nil)))) (pw_and1 (pt_val (pe_callB call_isi (by rfl) T.n_isinstance (by decide +kernel) (pa_cons (pv 1) (pa_cons (pe_bltn (v := .ty "str") (by rfl) T.n_str (by decide +kernel) rfl) pa_nil)))))))))) (pss_one (ps_ret (pe_cmpR (op_eqG hr.units) (pv 0) (pv 1) (nomark _)))) pss_nil)
  (pss_one (ps_ret pe_bl))))))), ?_⟩
    obtain ⟨a, b, rfl, da, db, sa, sb, q⟩ := hp
    bv_omega
    injections
    injections
    cases a with
    | dic => exact (show False from sa).elim
    | ext => exact (show False from sa).elim
    | tup as =>
      cases b with
      | dic => exact (show False from sb).elim
      | ext => exact (show False from sb).elim
      | tup bs =>
        obtain ⟨za, sa⟩ := sa
        obtain ⟨zb, sb⟩ := sb
        have tq : teq (.tup as) (.tup bs) = teqL as bs := by rw [teq]
        rw [tq] at q
        rw [Tv.dp] at da db
        subst_vars
        refine ite2 (fun hne => ?_) (fun he => ?_)
        · rw [teqL_len (fun z => hne (by rw [z]))] at q
          subst_vars <;> exact q
        · have hl : as.length = bs.length := by omega
          subst_vars
          injections
          bv_omega
          refine ⟨by omega, by omega, fun i s => ∃ y3, s = [.val (.tup as), .val (.tup bs), .val (.bl true), y3] ∧ ∀ (j : Nat) x y, j < i → as[j]? = some x → bs[j]? = some y → teq x y = true, ⟨_, rfl, fun j x y h => by omega⟩, fun i t s ht hI => ?_, fun s hI => ?_⟩
          · obtain ⟨y3, rfl, hI⟩ := hI
            obtain ⟨rfl, hi⟩ := rgT_at ht
            have ha : as[i]? = some (as[i]'(by omega)) := List.getElem?_eq_getElem _
            have hb : bs[i]? = some (bs[i]'(by omega)) := List.getElem?_eq_getElem _
            generalize (as[i]'(by omega)) = x at ha
            generalize (bs[i]'(by omega)) = y at hb
            have d1 := dpL_at ha
            have d2 := dpL_at hb
            bv_omega
            injections
            bv_omega
            refine ⟨x, atI_nat' ha, y, atI_nat' hb, ?_⟩
            refine ⟨x, y, rfl, by omega, by omega, smL_at sa ha, smL_at sb hb, ?_⟩
            cases hxy : teq x y with
            | false =>
              rw [teqL_no ha hb hxy] at q
              subst_vars
              exact q
            | true =>
              subst_vars
              refine ⟨_, rfl, fun j x' y' hj h1 h2 => ?_⟩
              by_cases e : j = i
              · subst e
                rw [ha] at h1
                rw [hb] at h2
                cases h1
                cases h2
                exact hxy
              · exact hI j x' y' (by omega) h1 h2
          · obtain ⟨y3, rfl, hI⟩ := hI
            rw [teqL_at hl fun j x y h1 h2 => hI j x y (by
              have := (List.getElem?_eq_some_iff.mp h1).1
              omega) h1 h2] at q
            subst_vars
            exact q
      | _ => subst_vars <;> exact q
    | lst as =>
      cases b with
      | dic => exact (show False from sb).elim
      | ext => exact (show False from sb).elim
      | lst bs =>
        obtain ⟨za, sa⟩ := sa
        obtain ⟨zb, sb⟩ := sb
        have tq : teq (.lst as) (.lst bs) = teqL as bs := by rw [teq]
        rw [tq] at q
        rw [Tv.dp] at da db
        subst_vars
        refine ite2 (fun hne => ?_) (fun he => ?_)
        · rw [teqL_len (fun z => hne (by rw [z]))] at q
          subst_vars <;> exact q
        · have hl : as.length = bs.length := by omega
          subst_vars
          injections
          bv_omega
          refine ⟨by omega, by omega, fun i s => ∃ y3, s = [.val (.lst as), .val (.lst bs), .val (.bl false), y3] ∧ ∀ (j : Nat) x y, j < i → as[j]? = some x → bs[j]? = some y → teq x y = true, ⟨_, rfl, fun j x y h => by omega⟩, fun i t s ht hI => ?_, fun s hI => ?_⟩
          · obtain ⟨y3, rfl, hI⟩ := hI
            obtain ⟨rfl, hi⟩ := rgT_at ht
            have ha : as[i]? = some (as[i]'(by omega)) := List.getElem?_eq_getElem _
            have hb : bs[i]? = some (bs[i]'(by omega)) := List.getElem?_eq_getElem _
            generalize (as[i]'(by omega)) = x at ha
            generalize (bs[i]'(by omega)) = y at hb
            have d1 := dpL_at ha
            have d2 := dpL_at hb
            bv_omega
            injections
            bv_omega
            refine ⟨x, atI_nat' ha, y, atI_nat' hb, ?_⟩
            refine ⟨x, y, rfl, by omega, by omega, smL_at sa ha, smL_at sb hb, ?_⟩
            cases hxy : teq x y with
            | false =>
              rw [teqL_no ha hb hxy] at q
              subst_vars
              exact q
            | true =>
              subst_vars
              refine ⟨_, rfl, fun j x' y' hj h1 h2 => ?_⟩
              by_cases e : j = i
              · subst e
                rw [ha] at h1
                rw [hb] at h2
                cases h1
                cases h2
                exact hxy
              · exact hI j x' y' (by omega) h1 h2
          · obtain ⟨y3, rfl, hI⟩ := hI
            rw [teqL_at hl fun j x y h1 h2 => hI j x y (by
              have := (List.getElem?_eq_some_iff.mp h1).1
              omega) h1 h2] at q
            subst_vars
            exact q
      | _ => subst_vars <;> exact q
    | _ =>
      cases b with
      | dic => exact (show False from sb).elim
      | ext => exact (show False from sb).elim
      | _ => subst_vars <;> exact q
end
end Pl

namespace Pl
open PySem L2
section
variable {P : Program} {w : World} {K : PySem.W.Frag} {mg : Str → Option Value} {base : Heap}
theorem putK_new {kvs : List (Key × V)} {k : Key} {v : V} (h : ∀ kv ∈ kvs, kv.1 ≠ k) : putK kvs k v = kvs ++ [(k, v)] := by
  unfold putK
  rw [if_neg]
  intro e
  obtain ⟨kv, h1, h2⟩ := List.any_eq_true.mp e
  exact h kv h1 (of_decide_eq_true h2)
theorem EntsAt.snoc {H : Hp} {kvs : List (Key × V)} {rs : Rws} {z : Str} {ns : List Int} {a : Addr} (h : EntsAt H kvs rs) (ha : H a = some (.lst (ns.map V.int))) : EntsAt H (kvs ++ [(.inr z, .ref a)]) (rs ++ [(z, ns)]) := by
  refine ⟨by rw [List.length_append, List.length_append, h.1]; rfl, fun i kv r h1 h2 => ?_⟩
  rw [List.getElem?_append] at h1 h2
  by_cases hl : i < kvs.length
  · rw [if_pos hl] at h1
    rw [if_pos (by rw [← h.1]; exact hl)] at h2
    exact h.2 i kv r h1 h2
  · rw [if_neg hl] at h1
    rw [if_neg (by rw [← h.1]; exact hl), ← h.1] at h2
    cases e : i - kvs.length with
    | zero =>
      rw [e] at h1 h2
      cases h1
      cases h2
      exact ⟨rfl, a, rfl, ha⟩
    | succ j =>
      rw [e] at h1
      simp at h1
theorem EntsAt.keys {H : Hp} {kvs : List (Key × V)} {rs : Rws} (h : EntsAt H kvs rs) : ∀ kv ∈ kvs, ∃ r ∈ rs, kv.1 = .inr r.1 := fun kv hk => by
  obtain ⟨i, hi⟩ := List.mem_iff_getElem?.mp hk
  have hl : i < rs.length := by rw [← h.1]; exact (List.getElem?_eq_some_iff.mp hi).1
  obtain ⟨e, _⟩ := h.2 i kv rs[i] hi (List.getElem?_eq_getElem hl)
  exact ⟨_, List.getElem_mem hl, e⟩
end
end Pl

namespace Pl
open PySem L2
section
variable {P : Program} {w : World} {K : PySem.W.Frag} {mg : Str → Option Value} {base : Heap}
theorem valV_at {H : Hp} : ∀ {kvs : List (Key × V)} {rs : Rws} (i : Nat) (kv : Key × V), kvs[i]? = some kv → (kvs.map (·.1)).Nodup → valV kvs kv.1 = some kv.2
  | [], _, i, kv, h, _ => by simp at h
  | x :: kvs, rs, 0, kv, h, _ => by
    cases h
    exact valV_pos rfl
  | x :: kvs, rs, i + 1, kv, h, nd => by
    have h' : kvs[i]? = some kv := h
    rw [List.map_cons, List.nodup_cons] at nd
    have hne : x.1 ≠ kv.1 := fun e => nd.1 (e ▸ List.mem_map.mpr ⟨kv, List.mem_of_getElem? h', rfl⟩)
    have := valV_at (H := H) (rs := rs) i kv h' nd.2
    simp only [valV, List.find?_cons] at this ⊢
    rw [show decide (x.1 = kv.1) = false from decide_eq_false hne]
    exact this
/-- _law_copy -/
def spCopy : Sp := fun vs H Q _ => ∃ (d : Addr) (kvs : List (Key × V)) (rs : Rws), vs = [.ref d] ∧ H d = some (.dK kvs) ∧ EntsAt H kvs rs ∧ (rs.map (·.1)).Nodup ∧ rs.length ≤ 10 ∧ (∀ r ∈ rs, r.2.length ≤ 300) ∧
  ∀ (e : Addr) (H' : Hp) (kvs' : List (Key × V)), Same H H' → H e = none → H' e = some (.dK kvs') → EntsAt H' kvs' rs → (∀ kv ∈ kvs', ∃ a, kv.2 = .ref a ∧ H a = none) → Q (.ref e) H'
theorem ok_law_copy (T : Txt P K mg) {k : Nat} : FnOk P w K mg base CX0 (k + 1) T.law_copy.f T.law_copy.fd ["_law_rows_here"] spCopy := by
  refine T.law_copy.F.ok (k := k) sc_law_copy (fun vs H Q E h => ?_) (fun cdv A outer s H vs Q E hr h => ?_)
  · obtain ⟨d, kvs, rs, rfl, _⟩ := h
    rfl
  · obtain ⟨d, kvs, rs, rfl, hd, he, hnd, hz, hl, q⟩ := h
    refine ⟨_, (pss_cons (ps_set (i := 1) sc_law_copy.nd rfl (.inl rfl) pe_dnewK)
  (pss_cons (ps_lock (ps_for PassesOwn.never rfl (pi_keys (pv 0)) (pg_name (i := 2) sc_law_copy.nd rfl (.inl rfl))
   (pss_one (ps_asg (pe_callTy call_list_of (by rfl) T.n_list (by decide +kernel) (pa_cons (pe_dget (hu_of hr) (pv 0) (pv 2) (fun _ _ => rfl)) pa_nil)) (pg_sub (pv 1) (pv 2) (set_dict (hu_of hr)))))))
  (pss_one (ps_ret (pv 1))))), ?_⟩
    intro e he0
    have nde : d ≠ e := ne_of_none hd he0
    have hd1 : upd H e (.dK []) d = some (.dK kvs) := by rw [upd_ne nde]; exact hd
    have knd : (kvs.map (·.1)).Nodup := by
      have ek : kvs.map (·.1) = (rs.map (·.1)).map Sum.inr := by
        refine List.ext_getElem? fun i => ?_
        rw [List.getElem?_map, List.getElem?_map, List.getElem?_map]
        by_cases hi : i < kvs.length
        · have h1 : kvs[i]? = some kvs[i] := List.getElem?_eq_getElem hi
          have h2 : rs[i]? = some (rs[i]'(by rw [← he.1]; exact hi)) := List.getElem?_eq_getElem _
          rw [h1, h2]
          obtain ⟨e1, _⟩ := he.2 i _ _ h1 h2
          show some (kvs[i].1) = some (Sum.inr _)
          rw [e1]
        · rw [List.getElem?_eq_none (by omega), List.getElem?_eq_none (by rw [← he.1]; omega)]
          rfl
      rw [ek]
      exact List.Pairwise.map _ (fun a b h z => h (Sum.inr.inj z)) hnd
    refine ⟨d, _, hd1, trivial, fun od => ?_⟩
    refine ⟨.ref d, rfl, d, od, rfl, .inl ⟨kvs, upd_same, ?_⟩⟩
    refine for_it (walk_keys (d := d) (o := od) (kvs := kvs)) (fun i σ H' => ∃ (kvs' : List (Key × V)) (y2 : Option V), σ = [some (.ref d), some (.ref e), y2] ∧ (∀ b o, b ≠ d → H b = some o → H' b = some o) ∧ H' d = some (.frz od (.dK kvs)) ∧
      H' e = some (.dK kvs') ∧ EntsAt H' kvs' (rs.take i) ∧ ∀ kv ∈ kvs', ∃ a, kv.2 = .ref a ∧ H a = none) ?_ (fun i σ H' _ pp => ?_) (fun i x σ H1 H2 hi pp y => ?_) (fun σ H' pp => ?_)
    · exact ⟨[], none, rfl, fun b o nb h => by rw [upd_ne nb, upd_ne (ne_of_none h he0)]; exact h, upd_same, by rw [upd_ne nde.symm, upd_same], ⟨by simp, fun i kv r h => by simp at h⟩, fun kv h => nomatch h⟩
    · obtain ⟨kvs', y2, _, _, h3, _⟩ := pp
      exact h3
    · obtain ⟨kvs', y2, rfl, hb, hdf, hee, hen, hfr⟩ := pp
      obtain ⟨rfl, k0, v0, hk, rfl⟩ := y
      obtain ⟨r, hr0⟩ : ∃ r, rs[i]? = some r := ⟨_, List.getElem?_eq_getElem (by rw [← he.1]; exact hi)⟩
      obtain ⟨k1, a, k2, ha⟩ := he.2 i (k0, v0) r hk hr0
      dsimp only at k1 k2
      subst k1 k2
      have nad : a ≠ d := fun z => by rw [z, hd] at ha; cases ha
      have ha1 : H2 a = some (.lst (r.2.map V.int)) := hb a _ nad ha
      refine ⟨.ref d, rfl, .str r.1, rfl, d, .ref a, rfl, .inl ⟨kvs, .inr r.1, .inr ⟨od, hdf⟩, rfl, (valV_at (H := H) (rs := rs) i _ hk knd).symm⟩, a, _, rfl, .inl (SqL.of ha1), fun p hp => ?_⟩
      have npe : e ≠ p := ne_of_none hee hp
      have npd : d ≠ p := ne_of_none hdf hp
      have hee1 : upd H2 p (.lst (r.2.map V.int)) e = some (.dK kvs') := by rw [upd_ne npe]; exact hee
      have hlk : kvs'.length ≤ 10 := by
        have := hen.1
        rw [List.length_take] at this
        omega
      refine ⟨.ref e, rfl, .str r.1, rfl, e, _, rfl, DPut.k (k := .inr r.1) hee1 (szl (by omega)), ?_⟩
      have hnew : ∀ kv ∈ kvs', kv.1 ≠ .inr r.1 := fun kv hkv z => by
        obtain ⟨r', hr', e2⟩ := hen.keys kv hkv
        rw [e2] at z
        have e3 : r'.1 = r.1 := Sum.inr.inj z
        obtain ⟨j, hj⟩ := List.mem_iff_getElem?.mp hr'
        have hji : j < i := by
          have := (List.getElem?_eq_some_iff.mp hj).1
          rw [List.length_take] at this
          omega
        rw [List.getElem?_take_of_lt hji] at hj
        have a1 : (rs.map (·.1))[j]? = some r'.1 := by rw [List.getElem?_map, hj]; rfl
        have a2 : (rs.map (·.1))[i]? = some r.1 := by rw [List.getElem?_map, hr0]; rfl
        have hl1 := (List.getElem?_eq_some_iff.mp a1)
        have hl2 := (List.getElem?_eq_some_iff.mp a2)
        exact List.pairwise_iff_getElem.mp hnd j i hl1.1 hl2.1 hji (hl1.2.trans (e3.trans hl2.2.symm))
      rw [putK_new hnew]
      have s1 : Same H2 (upd H2 p (.lst (r.2.map V.int))) := same_upd hp
      refine ⟨_, _, rfl, fun b o nb h => ?_, ?_, upd_same, ?_, fun kv hkv => ?_⟩
      · rw [upd_ne (ne_of_none h he0)]
        exact s1 _ _ (hb b o nb h)
      · rw [upd_ne nde]
        exact s1 _ _ hdf
      · rw [List.take_add_one, hr0]
        have hs := (hen.same s1).snoc (z := r.1) (ns := r.2) (a := p) upd_same
        refine ⟨hs.1, fun j kv r' h1 h2 => ?_⟩
        obtain ⟨x1, b', x2, x3⟩ := hs.2 j kv r' h1 h2
        refine ⟨x1, b', x2, ?_⟩
        rw [upd_ne (fun z => by rw [z, hee1] at x3; cases x3)]
        exact x3
      · rcases List.mem_append.mp hkv with h | h
        · exact hfr kv h
        · cases List.mem_singleton.mp h
          refine ⟨p, rfl, ?_⟩
          cases hpo : H p with
          | none => rfl
          | some o =>
            by_cases pd : p = d
            · rw [pd, hdf] at hp; cases hp
            · rw [hb p o pd hpo] at hp; cases hp
    · obtain ⟨kvs', y2, rfl, hb, hdf, hee, hen, hfr⟩ := pp
      rw [he.1, List.take_of_length_le (Nat.le_refl _)] at hen
      refine ⟨hdf, ?_⟩
      have sH : Same H (upd H' d (.dK kvs)) := fun b o h => by
        by_cases nb : b = d
        · subst nb
          rw [upd_same, ← hd, h]
        · rw [upd_ne nb]
          exact hb b o nb h
      refine ⟨.ref e, rfl, q e _ kvs' sH he0 (by rw [upd_ne nde.symm]; exact hee) ⟨hen.1, fun j kv r' h1 h2 => ?_⟩ hfr⟩
      obtain ⟨x1, b', x2, x3⟩ := hen.2 j kv r' h1 h2
      refine ⟨x1, b', x2, ?_⟩
      rw [upd_ne (fun z => by rw [z, hdf] at x3; cases x3)]
      exact x3
/-- _law_world -/
def spWorldL (T : Txt P K mg) : Sp := fun vs H Q _ => ∃ (d : Addr) (kvs : List (Key × V)) (rs : Rws), vs = [.ref d] ∧ H d = some (.dK kvs) ∧ EntsAt H kvs rs ∧ (rs.map (·.1)).Nodup ∧ rs.length ≤ 10 ∧ goodRows rs ∧
  ∀ (x l : Addr) (H' : Hp), Same H H' → H l = none → WoA T H' x l (wRows rs) → Q (.ref x) H'
theorem ok_law_world (T : Txt P K mg) {k : Nat} : FnOk P w K mg base CX0 (k + 6) T.law_world.f T.law_world.fd ["_law_rows_here"] (spWorldL T) := by
  have G_law_copy : FnOk P w K mg base CX0 (k + 1) T.law_copy.f T.law_copy.fd ["_law_rows_here"] spCopy := ok_law_copy T
  have G_World_init : FnR P w K mg base CX0 (k + 4) T.World_init.f (spWInit T) := ok_world_init T
  refine T.law_world.F.ok (k := k + 5) sc_law_world (fun vs H Q E h => ?_) (fun cdv A outer s H vs Q E hr h => ?_)
  · obtain ⟨d, kvs, rs, rfl, _⟩ := h
    rfl
  · obtain ⟨d, kvs, rs, rfl, hd, he, hnd, hz, hg, q⟩ := h
    refine ⟨_, (pss_one (ps_ret (StX.pe_makeR T.mk_World G_World_init (hr.mono (by omega)) (by rfl) T.g_World pass0 (pa_cons (pe_call G_law_copy (hr.mono (by omega)) (by rfl) T.law_copy.g T.law_copy.F.kp T.law_copy.b .nil pass0 (pa_cons (pv 0) pa_nil)) pa_nil)))), ?_⟩
    refine ⟨.ref d, rfl, d, kvs, rs, rfl, hd, he, hnd, hz, fun r hr0 => (hg.1 r hr0).2.2, fun e H1 kvs' s1 _ h1 h2 _ => ?_⟩
    intro x dx hx hdx hne
    have s2 : Same H1 (upd (upd H1 dx (.own x)) x (.ins T.c_World dx [])) := fun c o h => by
      rw [upd_ne (ne_of_none h hx), upd_ne (ne_of_none h hdx)]
      exact h
    exact ⟨H1, x, e, dx, kvs', rs, rfl, s2, hx, upd_same, s2 _ _ h1, h2.same s2, hg, fun H' l s' hl w' => ⟨rfl, q x l H' (s1.trans s') (s1.free (s2.free hl)) w'⟩⟩
end
end Pl

namespace Pl
open PySem L2
section
variable {P : Program} {w : World} {K : PySem.W.Frag} {mg : Str → Option Value} {base : Heap}
/-- _law_pairs: the ordered pairs of rows -/
def spPairsL : Sp := fun vs H Q _ => ∃ (d : Addr) (kvs : List (Key × V)) (rs : Rws), vs = [.ref d] ∧ H d = some (.dK kvs) ∧ EntsAt H kvs rs ∧ (rs.map (·.1)).Nodup ∧ (rs.map fun r => r.2.length).sum ≤ 300 ∧
  ∀ (r : Addr) (H' : Hp) (us : List V), Same H H' → H r = none → H' r = some (.lst us) → PrsAt H' us (wRows rs) → Q (.ref r) H'
theorem keys_nd {H : Hp} {kvs : List (Key × V)} {rs : Rws} (he : EntsAt H kvs rs) (hnd : (rs.map (·.1)).Nodup) : (kvs.map (·.1)).Nodup := by
  have ek : kvs.map (·.1) = (rs.map (·.1)).map Sum.inr := by
    refine List.ext_getElem? fun i => ?_
    rw [List.getElem?_map, List.getElem?_map, List.getElem?_map]
    by_cases hi : i < kvs.length
    · have h1 : kvs[i]? = some kvs[i] := List.getElem?_eq_getElem hi
      have h2 : rs[i]? = some (rs[i]'(by rw [← he.1]; exact hi)) := List.getElem?_eq_getElem _
      rw [h1, h2]
      obtain ⟨e1, _⟩ := he.2 i _ _ h1 h2
      show some (kvs[i].1) = some (Sum.inr _)
      rw [e1]
    · rw [List.getElem?_eq_none (by omega), List.getElem?_eq_none (by rw [← he.1]; omega)]
      rfl
  rw [ek]
  exact List.Pairwise.map _ (fun a b h z => h (Sum.inr.inj z)) hnd
theorem ok_law_pairs (T : Txt P K mg) {k : Nat} : FnOk P w K mg base CX0 (k + 1) T.law_pairs.f T.law_pairs.fd ["_law_rows_here"] spPairsL := by
  refine T.law_pairs.F.ok (k := k) sc_law_pairs (fun vs H Q E h => ?_) (fun cdv A outer s H vs Q E hr h => ?_)
  · obtain ⟨d, kvs, rs, rfl, _⟩ := h
    rfl
  · obtain ⟨d, kvs, rs, rfl, hd, he, hnd, hz, q⟩ := h
    refine ⟨_, (pss_cons (ps_set (i := 1) sc_law_pairs.nd rfl (.inl rfl) (pe_lst pa_nil))
  (pss_cons (ps_lock (ps_for PassesOwn.never rfl (pi_keys (pv 0)) (pg_name (i := 2) sc_law_pairs.nd rfl (.inl rfl))
   (pss_one (ps_for PassesOwn.never rfl (pi_list (pe_dget (hu_of hr) (pv 0) (pv 2) (fun _ _ => rfl))) (pg_name (i := 3) sc_law_pairs.nd rfl (.inl rfl))
   (pss_one (ps_expr (pe_bm PySem.F.plainAttrs_list PySem.F.slot_list_append PySem.F.type_list_append mt_append (pv 1) (pa_cons (pe_tup (pa_cons (pv 2) (pa_cons (pv 3) pa_nil))) pa_nil))))))))
  (pss_one (ps_ret (pe_callB (cr_sortD (enc := encP) hr.units) (by rfl) T.n_sorted (by decide +kernel) (pa_cons (pv 1) pa_nil)))))), ?_⟩
    have knd := keys_nd he hnd
    refine ⟨sz (by show 0 ≤ 100000; decide), fun l hl => ?_⟩
    have hd1 : upd H l (.lst []) d = some (.dK kvs) := by rw [upd_ne (ne_of_none hd hl)]; exact hd
    refine ⟨d, _, hd1, trivial, fun od => ?_⟩
    refine ⟨.ref d, rfl, d, od, rfl, .inl ⟨kvs, upd_same, ?_⟩⟩
    refine for_it (walk_keys (d := d) (o := od) (kvs := kvs)) (fun i σ H' => ∃ (us : List V) (y2 y3 : Option V), σ = [some (.ref d), some (.ref l), y2, y3] ∧ (∀ b o, b ≠ d → H b = some o → H' b = some o) ∧ H' d = some (.frz od (.dK kvs)) ∧
      H' l = some (.lst us) ∧ PrsAt H' us ((rs.take i).flatMap prsOf)) ?_ (fun i σ H' _ pp => ?_) (fun i x σ H1 H2 hi pp y => ?_) (fun σ H' pp => ?_)
    · exact ⟨[], none, none, rfl, fun b o nb e => by rw [upd_ne nb, upd_ne (ne_of_none e hl)]; exact e, upd_same, by rw [upd_ne (ne_of_none hd hl).symm, upd_same], rfl, fun i p e => by simp at e⟩
    · obtain ⟨us, y2, y3, _, _, h3, _⟩ := pp
      exact h3
    · obtain ⟨us, y2, y3, rfl, hb, hdf, hlu, hpr⟩ := pp
      obtain ⟨rfl, k0, v0, hk, rfl⟩ := y
      obtain ⟨r, hr0⟩ : ∃ r, rs[i]? = some r := ⟨_, List.getElem?_eq_getElem (by rw [← he.1]; exact hi)⟩
      obtain ⟨k1, a, k2, ha⟩ := he.2 i (k0, v0) r hk hr0
      dsimp only at k1 k2
      subst k1 k2
      have nad : a ≠ d := fun z => by rw [z, hd] at ha; cases ha
      have ha1 : H2 a = some (.lst (r.2.map V.int)) := hb a _ nad ha
      refine ⟨.ref d, rfl, .str r.1, rfl, d, .ref a, rfl, .inl ⟨kvs, .inr r.1, .inr ⟨od, hdf⟩, rfl, (valV_at (H := H) (rs := rs) i _ hk knd).symm⟩, a, rfl, ⟨_, SqL.of ha1⟩, ?_⟩
      have nal : a ≠ l := fun z => by rw [z, hl] at ha; cases ha
      have hlen := prs_len i r hr0
      refine for_list (K := K) (a := a) (xs := r.2.map V.int) (fun j σ H3 => ∃ (vs : List V) (z3 : Option V), σ = [some (.ref d), some (.ref l), some (.str r.1), z3] ∧ (∀ b o, b ≠ d → H b = some o → H3 b = some o) ∧ H3 d = some (.frz od (.dK kvs)) ∧ H3 l = some (.lst vs) ∧ PrsAt H3 vs ((rs.take i).flatMap prsOf ++ (prsOf r).take j)) ?_ (fun j σ H3 _ pp => ?_) (fun j x σ H3 hx pp => ?_) (fun σ H3 pp => ?_)
      · exact ⟨us, _, rfl, hb, hdf, hlu, by rw [List.take_zero, List.append_nil]; exact hpr⟩
      · obtain ⟨vs, z3, _, hb3, _⟩ := pp
        exact SqL.of (hb3 a _ nad ha)
      · obtain ⟨vs, z3, rfl, hb3, hdf3, hl3, hp3⟩ := pp
        obtain ⟨m, hm, rfl⟩ : ∃ m, r.2[j]? = some m ∧ x = V.int m := by
          rw [List.getElem?_map] at hx
          cases e : r.2[j]? with
          | none => rw [e] at hx; cases hx
          | some m => rw [e] at hx; exact ⟨m, rfl, (Option.some.inj hx).symm⟩
        have hj : j < r.2.length := (List.getElem?_eq_some_iff.mp hm).1
        refine ⟨.ref l, rfl, .inl ⟨rfl, _, SqL.of hl3⟩, _, rfl, _, rfl, sz (by show 2 ≤ 100000; decide), fun p hp => ?_⟩
        have s4 := same_upd (o := .tup [.str r.1, .int m]) hp
        have hl4 := s4 _ _ hl3
        have epr : (prsOf r).length = r.2.length := by simp [prsOf]
        have hvl : vs.length ≤ 300 := by
          have := hp3.1
          rw [List.length_append, List.length_take] at this
          omega
        refine ⟨l, vs, _, rfl, rfl, hl4, szl (by omega), vs ++ [.ref p], _, rfl, fun b o nb e => ?_, ?_, upd_same, ?_⟩
        · rw [upd_ne (ne_of_none e hl)]
          exact s4 _ _ (hb3 b o nb e)
        · rw [upd_ne (ne_of_none hd hl)]
          exact s4 _ _ hdf3
        · have hpm : (prsOf r)[j]? = some (r.1, m) := by
            unfold prsOf
            rw [List.getElem?_map, hm]
            rfl
          rw [List.take_add_one, hpm, ← List.append_assoc]
          refine PrsAt.put hl4 ((hp3.same s4).app ⟨rfl, fun i q e => ?_⟩)
          cases i with
          | zero => cases e; exact ⟨p, rfl, upd_same⟩
          | succ i => simp at e
      · obtain ⟨vs, z3, rfl, hb3, hdf3, hl3, hp3⟩ := pp
        have epr : (prsOf r).length = r.2.length := by simp [prsOf]
        rw [List.length_map, ← epr, List.take_length] at hp3
        refine ⟨vs, _, _, rfl, hb3, hdf3, hl3, ?_⟩
        rw [List.take_add_one, hr0, show (rs.take i ++ (some r).toList) = rs.take i ++ [r] from rfl, List.flatMap_append, List.flatMap_cons, List.flatMap_nil, List.append_nil]
        exact hp3
    · obtain ⟨us, y2, y3, rfl, hb, hdf, hlu, hpr⟩ := pp
      rw [he.1, List.take_of_length_le (Nat.le_refl _)] at hpr
      refine ⟨hdf, ?_⟩
      have hl5 : upd H' d (.dK kvs) l = some (.lst us) := by rw [upd_ne (ne_of_none hd hl).symm]; exact hlu
      have sH : Same H (upd H' d (.dK kvs)) := fun b o e => by
        by_cases nb : b = d
        · subst nb
          rw [upd_same, ← hd, e]
        · rw [upd_ne nb]
          exact hb b o nb e
      have hpr5 : PrsAt (upd H' d (.dK kvs)) us (rs.flatMap prsOf) := ⟨hpr.1, fun i p e => by
        obtain ⟨t, t1, t2⟩ := hpr.2 i p e
        refine ⟨t, t1, ?_⟩
        rw [upd_ne (fun z => by rw [z, hdf] at t2; cases t2)]
        exact t2⟩
      have hlen : us.length ≤ 300 := by rw [hpr.1, prs_all]; exact hz
      generalize upd H' d (.dK kvs) = H5 at hl5 sH hpr5 ⊢
      have hz1 : (us.zip (rs.flatMap prsOf)).map (·.1) = us := List.map_fst_zip (by rw [hpr5.1]; exact Nat.le_refl _)
      refine ⟨.ref l, rfl, l, us.zip (rs.flatMap prsOf), rfl, by rw [hz1]; exact SqL.of hl5, by rw [List.length_zip]; omega, fun p hp => ?_, PySem.W.AllAlike.of fun b b' => rfl, PySem.W.Sortable.tuples fun b => ⟨_, _, rfl⟩, fun p hp => ?_, fun z hz => ?_⟩
      · obtain ⟨i, hi⟩ := List.mem_iff_getElem?.mp hp
        obtain ⟨v, q'⟩ := p
        rw [List.getElem?_zip_eq_some] at hi
        obtain ⟨t, t1, t2⟩ := hpr5.2 i q' hi.2
        rw [hi.1] at t1
        cases t1
        exact .tup (SqT.of t2) (.cons (.str _) (.cons (.int _) .nil))
      · show PyData.depth (.tuple [.str p.2.1, .int p.2.2]) ≤ 10
        simp [PyData.depth, PyData.depthAll]
      · exact q z _ _ (sH.trans (same_upd hz)) (sH.free hz) upd_same ((prs_sort hpr5).same (same_upd hz))
/-- world.rows() -/
def spRowsM (T : Txt P K mg) : Sp := fun vs H Q _ => ∃ (a l : Addr) (ps : List (Str × Int)), vs = [.ref a] ∧ WoA T H a l ps ∧ ∀ r H' us, Same H H' → H r = none → H' r = some (.lst us) → PrsAt H' us ps → Q (.ref r) H'
theorem ok_world_rows (T : Txt P K mg) {k : Nat} : FnR P w K mg base CX0 (k + 1) T.World_rows.f (spRowsM T) := by
  refine toR (T.World_rows.F.ok (k := k) sc_World_rows (fun vs H Q E h => ?_) (fun cdv A outer s H vs Q E hr h => ?_)) T.World_rows.b
  · obtain ⟨a, l, ps, rfl, _⟩ := h
    rfl
  · obtain ⟨a, l, ps, rfl, ⟨dx, vs, h1, h2, h3⟩, q⟩ := h
    refine ⟨_, (pss_one (ps_ret (pe_callTy call_list_of (by rfl) T.n_list (by decide +kernel) (pa_cons (pe_fld (pv 0) rfl) pa_nil)))), ?_⟩
    refine ⟨_, rfl, a, _, dx, _, _, rfl, h1, T.o_World.cl, T.n_World_pairs, rfl, l, _, rfl, .inl (SqL.of h2), fun p hp => ?_⟩
    exact q p _ vs (same_upd hp) hp upd_same (h3.same (same_upd hp))
end
end Pl

namespace Pl
open PySem L2
local macro_rules | `(tactic| bv_omega) => `(tactic| try simp only [pVar, pC, pTy, pCl, pNil, pCons, pOp, pUn, pCB, pI, pIC, pIB, pNeg, eqS, pEq, isNonS, pIsN, pIx, tvs, pTup, pLst, pTest, pAnd, pOr, pNot, pAndV, pOrV, pNotV, pIf, pChain, Sx.sl, Sx.tv, Sx.sq, Sx.dq, Sx.tq, Sx.rt, Sx.sqv, Sx.it, Sx.ar, Option.map_some, Option.bind_some, pgName, pgNil, pgCons, pgTup, piList, piTup, piSeq, piRange1, piRange2, piKeys, piItems, ars, pSp, pLen, tyOf, kb, pIsi, intsT, strsT, intsT_map, strsT_map, blsT_map, pIn, pInG, pNoPart, pPart, pSl, pRev, pAddG, pMulG, pAbs, p2I, pInt1, pBool1, pStrI, pListOf, pTupleOf, ints1, pSum, pSortedI, pMax, pMin, bls1, pAll, pAny, pEqG, pJoin, pDNew, pDGet, pDGet2, pDIn, Tv.key, pPick, pYes, kT, at0, at1, at2, at3, at4, exists_eq_left', Option.some.injEq, List.getElem?_cons_zero, List.getElem?_cons_succ, List.set_cons_zero, List.set_cons_succ, stS, Ar.sl, List.map_cons, List.map_nil, List.length_cons, List.length_nil, List.replicate_succ, List.replicate_zero, List.nil_append, List.cons_append, Nat.reduceSub, Nat.reduceAdd, wipeS, Bool.false_xor, Bool.true_xor, Bool.false_eq_true, if_true, if_false, decide_eq_true_eq, and_true, true_and, Bool.not_true, Bool.not_false, Bool.not_eq_true', decide_eq_false_iff_not, Nat.zero_le, Nat.reduceLeDiff, Int.reduceLT, Int.reduceLE, Int.reduceEq, Int.reduceNeg, Int.reducePow, Int.reduceAdd, Int.reduceSub, Nat.reduceMul, rgT_len, String.reduceBEq, beq_self_eq_true, Bool.or_false, Bool.false_or, Bool.true_or, Bool.or_true, Bool.or_self, ite_true, ite_false, ite_self, Int.zero_add, Bool.true_eq_false, reduceCtorEq, Function.comp_apply, unS, unSl_lkd, unSl_pvd, unSl_val, unSl_own, unSl_owd, unSl_box, unSl_any, pDisp, pDs0, pDs1, kvT, unSl_odl, pSortD, keyStrs_map])
local macro_rules | `(tactic| injections) => `(tactic| first
  | with_reducible refine s_seq ?_
  | with_reducible refine s_set ?_
  | with_reducible refine s_asg ?_
  | with_reducible refine s_if ?_
  | with_reducible refine s_ret ?_
  | with_reducible refine s_retN ?_
  | with_reducible refine s_next ?_
  | with_reducible refine s_for ?_
  | with_reducible refine s_break ?_
  | with_reducible refine s_cont ?_
  | with_reducible refine s_append (by first | with_unfolding_all rfl | assumption) (by with_unfolding_all first | omega | (simp only [List.length_map, List.length_append, List.length_cons, List.length_nil]; omega)) ?_
  | with_reducible refine s_drop ?_
  | with_reducible refine s_setF (by with_unfolding_all rfl) ?_
  | with_reducible refine s_asgF (by with_unfolding_all rfl) ?_
  | with_reducible refine s_ifF (by with_unfolding_all rfl) ?_
  | with_reducible refine s_retF (by with_unfolding_all rfl) ?_)
local macro_rules | `(tactic| subst_vars) => `(tactic| ((try simp only [pVar, pC, pTy, pCl, pNil, pCons, pOp, pUn, pCB, pI, pIC, pIB, pNeg, eqS, pEq, isNonS, pIsN, pIx, tvs, pTup, pLst, pTest, pAnd, pOr, pNot, pAndV, pOrV, pNotV, pIf, pChain, Sx.sl, Sx.tv, Sx.sq, Sx.dq, Sx.tq, Sx.rt, Sx.sqv, Sx.it, Sx.ar, Option.map_some, Option.bind_some, pgName, pgNil, pgCons, pgTup, piList, piTup, piSeq, piRange1, piRange2, piKeys, piItems, ars, pSp, pLen, tyOf, kb, pIsi, intsT, strsT, intsT_map, strsT_map, blsT_map, pIn, pInG, pNoPart, pPart, pSl, pRev, pAddG, pMulG, pAbs, p2I, pInt1, pBool1, pStrI, pListOf, pTupleOf, ints1, pSum, pSortedI, pMax, pMin, bls1, pAll, pAny, pEqG, pJoin, pDNew, pDGet, pDGet2, pDIn, Tv.key, pPick, pYes, kT, at0, at1, at2, at3, at4, exists_eq_left', Option.some.injEq, List.getElem?_cons_zero, List.getElem?_cons_succ, List.set_cons_zero, List.set_cons_succ, stS, Ar.sl, List.map_cons, List.map_nil, List.length_cons, List.length_nil, List.replicate_succ, List.replicate_zero, List.nil_append, List.cons_append, Nat.reduceSub, Nat.reduceAdd, wipeS, Bool.false_xor, Bool.true_xor, Bool.false_eq_true, if_true, if_false, decide_eq_true_eq, and_true, true_and, Bool.not_true, Bool.not_false, Bool.not_eq_true', decide_eq_false_iff_not, Nat.zero_le, Nat.reduceLeDiff, Int.reduceLT, Int.reduceLE, Int.reduceEq, Int.reduceNeg, Int.reducePow, Int.reduceAdd, Int.reduceSub, Nat.reduceMul, rgT_len, String.reduceBEq, beq_self_eq_true, Bool.or_false, Bool.false_or, Bool.true_or, Bool.or_true, Bool.or_self, ite_true, ite_false, ite_self, Int.zero_add, Bool.true_eq_false, reduceCtorEq, Function.comp_apply, unS, unSl_lkd, unSl_pvd, unSl_val, unSl_own, unSl_owd, unSl_box, unSl_any, pDisp, pDs0, pDs1, kvT, unSl_odl, pSortD, keyStrs_map]) <;> repeat ((first
  | with_reducible refine s_seq ?_
  | with_reducible refine s_set ?_
  | with_reducible refine s_asg ?_
  | with_reducible refine s_if ?_
  | with_reducible refine s_ret ?_
  | with_reducible refine s_retN ?_
  | with_reducible refine s_next ?_
  | with_reducible refine s_break ?_
  | with_reducible refine s_cont ?_
  | with_reducible refine s_append (by first | with_unfolding_all rfl | assumption) (by with_unfolding_all first | omega | (simp only [List.length_map, List.length_append, List.length_cons, List.length_nil]; omega)) ?_
  | with_reducible refine s_drop ?_
  | with_reducible refine s_setF (by with_unfolding_all rfl) ?_
  | with_reducible refine s_asgF (by with_unfolding_all rfl) ?_
  | with_reducible refine s_ifF (by with_unfolding_all rfl) ?_
  | with_reducible refine s_retF (by with_unfolding_all rfl) ?_) <;> try simp only [pVar, pC, pTy, pCl, pNil, pCons, pOp, pUn, pCB, pI, pIC, pIB, pNeg, eqS, pEq, isNonS, pIsN, pIx, tvs, pTup, pLst, pTest, pAnd, pOr, pNot, pAndV, pOrV, pNotV, pIf, pChain, Sx.sl, Sx.tv, Sx.sq, Sx.dq, Sx.tq, Sx.rt, Sx.sqv, Sx.it, Sx.ar, Option.map_some, Option.bind_some, pgName, pgNil, pgCons, pgTup, piList, piTup, piSeq, piRange1, piRange2, piKeys, piItems, ars, pSp, pLen, tyOf, kb, pIsi, intsT, strsT, intsT_map, strsT_map, blsT_map, pIn, pInG, pNoPart, pPart, pSl, pRev, pAddG, pMulG, pAbs, p2I, pInt1, pBool1, pStrI, pListOf, pTupleOf, ints1, pSum, pSortedI, pMax, pMin, bls1, pAll, pAny, pEqG, pJoin, pDNew, pDGet, pDGet2, pDIn, Tv.key, pPick, pYes, kT, at0, at1, at2, at3, at4, exists_eq_left', Option.some.injEq, List.getElem?_cons_zero, List.getElem?_cons_succ, List.set_cons_zero, List.set_cons_succ, stS, Ar.sl, List.map_cons, List.map_nil, List.length_cons, List.length_nil, List.replicate_succ, List.replicate_zero, List.nil_append, List.cons_append, Nat.reduceSub, Nat.reduceAdd, wipeS, Bool.false_xor, Bool.true_xor, Bool.false_eq_true, if_true, if_false, decide_eq_true_eq, and_true, true_and, Bool.not_true, Bool.not_false, Bool.not_eq_true', decide_eq_false_iff_not, Nat.zero_le, Nat.reduceLeDiff, Int.reduceLT, Int.reduceLE, Int.reduceEq, Int.reduceNeg, Int.reducePow, Int.reduceAdd, Int.reduceSub, Nat.reduceMul, rgT_len, String.reduceBEq, beq_self_eq_true, Bool.or_false, Bool.false_or, Bool.true_or, Bool.or_true, Bool.or_self, ite_true, ite_false, ite_self, Int.zero_add, Bool.true_eq_false, reduceCtorEq, Function.comp_apply, unS, unSl_lkd, unSl_pvd, unSl_val, unSl_own, unSl_owd, unSl_box, unSl_any, pDisp, pDs0, pDs1, kvT, unSl_odl, pSortD, keyStrs_map])))
-- USE PL
section
variable {fw : Bool} {P : Program} {w : World} {K : PySem.W.Frag} {mg : Str → Option Value} {base : Heap}
def pairT (p : Str × Int) : Tv := .tup [.str p.1, .int p.2]
def rowsT (rs : Rws) : Tv := .dic false (rs.map fun r => .inr r.1) (rs.map fun r => .lst (r.2.map Tv.int))
theorem ents_of {G H : Hp} : ∀ {kvs : List (Key × V)} {rs : Rws}, kvs.map (·.1) = rs.map (fun r => Sum.inr r.1) → RepL G (rs.map fun r => .lst (r.2.map Tv.int)) (kvs.map (·.2)) → Same G H → EntsAt H kvs rs
  | [], [], _, _, _ => ⟨rfl, fun i kv r h => by simp at h⟩
  | kv :: kvs, r :: rs, h1, h2, s => by
    obtain ⟨v, w, e, ⟨a, us, rfl, ha, ru⟩, r2⟩ := h2
    rw [List.map_cons] at e
    obtain ⟨e1, e2⟩ := List.cons.inj e
    subst e2
    rw [List.map_cons, List.map_cons] at h1
    obtain ⟨h3, h4⟩ := List.cons.inj h1
    have ih := ents_of h4 r2 s
    refine ⟨by rw [List.length_cons, List.length_cons, ih.1], fun i kv' r' g1 g2 => ?_⟩
    cases i with
    | zero =>
      cases g1; cases g2
      rw [ru.ints] at ha
      exact ⟨h3, a, e1, s _ _ ha⟩
    | succ i => exact ih.2 i kv' r' g1 g2
  | [], r :: rs, h1, _, _ => by cases h1
  | kv :: kvs, [], h1, _, _ => by cases h1
theorem ents_to {G : Hp} : ∀ {kvs : List (Key × V)} {rs : Rws}, EntsAt G kvs rs → kvs.map (·.1) = rs.map (fun r => Sum.inr r.1) ∧ RepL G (rs.map fun r => .lst (r.2.map Tv.int)) (kvs.map (·.2))
  | [], [], _ => ⟨rfl, rfl⟩
  | kv :: kvs, r :: rs, h => by
    obtain ⟨e1, a, e2, ha⟩ := h.2 0 kv r rfl rfl
    obtain ⟨h1, h2⟩ := ents_to (kvs := kvs) (rs := rs) ⟨Nat.succ.inj h.1, fun i kv' r' g1 g2 => h.2 (i + 1) kv' r' g1 g2⟩
    refine ⟨by rw [List.map_cons, List.map_cons, e1, h1], ?_⟩
    rw [List.map_cons, List.map_cons]
    exact ⟨_, _, rfl, ⟨a, _, e2, ha, RepL.of_ints _⟩, h2⟩
  | [], r :: rs, h => by cases h.1
  | kv :: kvs, [], h => by cases h.1
theorem rows_at {G H : Hp} {rs : Rws} {v : V} (s : Same G H) (h : Rep G (rowsT rs) v) : ∃ d kvs, v = .ref d ∧ G d = some (.dK kvs) ∧ EntsAt H kvs rs := by
  obtain ⟨d, us, rfl, h1, h2, h3⟩ := h
  exact ⟨d, us, rfl, h1, ents_of h2 h3 s⟩
theorem rows_to {G : Hp} {rs : Rws} {d : Addr} {kvs : List (Key × V)} (h : G d = some (.dK kvs)) (he : EntsAt G kvs rs) : Rep G (rowsT rs) (.ref d) := by
  obtain ⟨h1, h2⟩ := ents_to he
  exact ⟨d, kvs, rfl, h, h1, h2⟩
theorem prs_to {H : Hp} : ∀ {vs : List V} {ps : List (Str × Int)}, PrsAt H vs ps → RepL H (ps.map pairT) vs
  | [], [], _ => rfl
  | v :: vs, p :: ps, h => by
    obtain ⟨t, e1, e2⟩ := h.2 0 p rfl
    cases e1
    have ih := prs_to (vs := vs) (ps := ps) ⟨Nat.succ.inj h.1, fun i q e => h.2 (i + 1) q e⟩
    exact ⟨_, _, rfl, ⟨t, _, rfl, e2, _, _, rfl, rfl, _, _, rfl, rfl, rfl⟩, ih⟩
  | [], p :: ps, h => by cases h.1
  | v :: vs, [], h => by cases h.1
theorem prs_of {G : Hp} : ∀ {vs : List V} {ps : List (Str × Int)}, RepL G (ps.map pairT) vs → PrsAt G vs ps
  | [], [], _ => ⟨rfl, fun i p e => by simp at e⟩
  | v :: vs, p :: ps, h => by
    obtain ⟨u, r, e, ⟨t, us, rfl, h1, x, y, rfl, rfl, x2, y2, rfl, rfl, h3⟩, h2⟩ := h
    cases h3
    cases e
    have ih := prs_of h2
    refine ⟨by rw [List.length_cons, List.length_cons, ih.1], fun i q e => ?_⟩
    cases i with
    | zero => cases e; exact ⟨t, rfl, h1⟩
    | succ i => exact ih.2 i q e
  | [], p :: ps, h => by obtain ⟨u, r, e, _⟩ := h; cases e
  | v :: vs, [], h => by cases h
theorem PrsAt.sm {H H' : Hp} {vs : List V} {ps : List (Str × Int)} (s : Sm H H') (h : PrsAt H vs ps) : PrsAt H' vs ps := ⟨h.1, fun i p e => by
  obtain ⟨t, e1, e2⟩ := h.2 i p e
  exact ⟨t, e1, s.tup e2⟩⟩
/-- a world -/
def semWo (T : Txt P K mg) (ps : List (Str × Int)) : TvSem := ⟨fun H v => ∃ a l, v = .ref a ∧ WoA T H a l ps, fun s h => by
  obtain ⟨a, l, rfl, dx, vs, h1, h2, h3⟩ := h
  exact ⟨a, l, rfl, dx, vs, s.ins h1, s.lst h2, h3.sm s⟩, fun h => by
  obtain ⟨a, l, rfl, dx, vs, h1, h2, h3⟩ := h
  refine ⟨a, l, rfl, dx, vs, kt_at h1 (fun _ z => nomatch z), kt_at h2 (fun _ z => nomatch z), h3.1, fun i p e => ?_⟩
  obtain ⟨t, e1, e2⟩ := h3.2 i p e
  exact ⟨t, e1, kt_at e2 fun _ z => nomatch z⟩⟩
def woT (T : Txt P K mg) (ps : List (Str × Int)) : Tv := .ext (semWo T ps)
theorem mn_of {b c : Addr} {G H : Hp} (W : Wd b c G H) : Same G (mn [b, c] H) := W.allS
theorem kn_nil {b k : Addr} {B : Bx} (e : B = some (b, k)) {H : Hp} : kn B [] H = kt (mn [b, k] H) := by subst e; rfl
theorem kn_wd {b k : Addr} {B : Bx} (e : B = some (b, k)) {H : Hp} {a : Addr} {o : HO} (h : kn B [] H a = some o) : mn [b, k] H a = some o := by
  rw [kn_nil e] at h
  exact (kt_sub h).1
/-- the copy of rows -/
def pCopyR : List Sx → (Sx → Prop) → Prop := fun xs Q => match xs with
  | [x] => ∃ rs : Rws, x.tv = some (rowsT rs) ∧ (rs.map (·.1)).Nodup ∧ rs.length ≤ 10 ∧ (∀ r ∈ rs, r.2.length ≤ 300) ∧ Q (.v (rowsT rs))
  | _ => False
theorem kn_lists {H H' : Hp} {kvs : List (Key × V)} {rs : Rws} {B : Bx} (b1 : BxOk B H) (h : EntsAt H' kvs rs) (n : ∀ kv ∈ kvs, ∃ a, kv.2 = .ref a ∧ H a = none) : EntsAt (kn B [] H') kvs rs := ⟨h.1, fun i kv r h1 h2 => by
  obtain ⟨e1, a, e2, ha⟩ := h.2 i kv r h1 h2
  obtain ⟨a', e3, hn⟩ := n kv (List.mem_of_getElem? h1)
  rw [e2] at e3
  cases e3
  refine ⟨e1, a, e2, ?_⟩
  exact kn_at List.not_mem_nil (b1.nin hn) ha⟩
instance lCopyR : LSp true spCopy pCopyR := ⟨fun {B O0 O Hs Kb H0 H ss σ Q E Qp xs vs} c0 c s r h f => by
  obtain ⟨g1, g2⟩ := c.fl rfl
  subst g1 g2
  unfold pCopyR at h
  split at h
  · rename_i x
    obtain ⟨v, u, rfl, r1, rfl⟩ := r
    obtain ⟨rs, ex, nd, hl, hz, q⟩ := h
    obtain ⟨d, kvs, rfl, hd, he⟩ := rows_at kn_all (r1.rep c0.w s ex)
    refine ⟨d, kvs, rs, rfl, kn_all _ _ hd, he, nd, hl, hz, fun e H' kvs' s1 hn h1 h2 h3 => ?_⟩
    have b1 := c.w.bx.same s1
    refine f.run _ _ _ q (Stay.of s1) b1 ?_
    refine rows_to ?_ (kn_lists c.w.bx h2 h3)
    exact kn_at List.not_mem_nil (c.w.bx.nin hn) h1
  · exact h.elim⟩
theorem kn_tup {B : Bx} {H : Hp} {a : Addr} {us : List V} (b : BxOk B H) (h : H a = some (.tup us)) : kn B [] H a = some (.tup us) := by
  refine kn_at List.not_mem_nil (fun hm => ?_) h
  · match B, hm with
    | some (x, y), hm =>
      obtain ⟨_, _, _, b1, b2, _⟩ := b x y rfl
      rcases List.mem_cons.mp hm with rfl | hm
      · rw [h] at b1; cases b1
      · cases List.mem_singleton.mp hm
        rw [h] at b2; cases b2
theorem prs_kn {B : Bx} {H : Hp} {vs : List V} {ps : List (Str × Int)} (b : BxOk B H) (h : PrsAt H vs ps) : PrsAt (kn B [] H) vs ps := ⟨h.1, fun i p e => by
  obtain ⟨t, e1, e2⟩ := h.2 i p e
  exact ⟨t, e1, kn_tup b e2⟩⟩
theorem kn_ins {B : Bx} {H : Hp} {a C d : Addr} {fs : List (Str × V)} (b : BxOk B H) (h : H a = some (.ins C d fs)) : kn B [] H a = some (.ins C d fs) := by
  refine kn_at List.not_mem_nil (fun hm => ?_) h
  · match B, hm with
    | some (x, y), hm =>
      obtain ⟨_, _, _, b1, b2, _⟩ := b x y rfl
      rcases List.mem_cons.mp hm with rfl | hm
      · rw [h] at b1; cases b1
      · cases List.mem_singleton.mp hm
        rw [h] at b2; cases b2
/-- a world made -/
def pWorldL (T : Txt P K mg) : List Sx → (Sx → Prop) → Prop := fun xs Q => match xs with
  | [x] => ∃ rs : Rws, x.tv = some (rowsT rs) ∧ (rs.map (·.1)).Nodup ∧ rs.length ≤ 10 ∧ goodRows rs ∧ Q (.v (woT T (wRows rs)))
  | _ => False
instance lWorldL {T : Txt P K mg} : LSp true (spWorldL T) (pWorldL T) := ⟨fun {B O0 O Hs Kb H0 H ss σ Q E Qp xs vs} c0 c s r h f => by
  obtain ⟨g1, g2⟩ := c.fl rfl
  subst g1 g2
  unfold pWorldL at h
  split at h
  · rename_i x
    obtain ⟨v, u, rfl, r1, rfl⟩ := r
    obtain ⟨rs, ex, nd, hl, hz, q⟩ := h
    obtain ⟨d, kvs, rfl, hd, he⟩ := rows_at kn_all (r1.rep c0.w s ex)
    refine ⟨d, kvs, rs, rfl, kn_all _ _ hd, he, nd, hl, hz, fun a l H' s1 hn wo => ?_⟩
    have b1 := c.w.bx.same s1
    refine f.run _ _ _ q (Stay.of s1) b1 ⟨a, l, rfl, ?_⟩
    obtain ⟨dx, vs, h1, h2, h3⟩ := wo
    exact ⟨dx, vs, kn_ins b1 h1, kn_at List.not_mem_nil (c.w.bx.nin hn) h2, prs_kn b1 h3⟩
  · exact h.elim⟩
/-- the ordered pairs -/
def pPairsL : List Sx → (Sx → Prop) → Prop := fun xs Q => match xs with
  | [x] => ∃ rs : Rws, x.tv = some (rowsT rs) ∧ (rs.map (·.1)).Nodup ∧ (rs.map fun r => r.2.length).sum ≤ 300 ∧ Q (.v (.lst ((wRows rs).map pairT)))
  | _ => False
instance lPairsL : LSp true spPairsL pPairsL := ⟨fun {B O0 O Hs Kb H0 H ss σ Q E Qp xs vs} c0 c s r h f => by
  obtain ⟨g1, g2⟩ := c.fl rfl
  subst g1 g2
  unfold pPairsL at h
  split at h
  · rename_i x
    obtain ⟨v, u, rfl, r1, rfl⟩ := r
    obtain ⟨rs, ex, nd, hl, q⟩ := h
    obtain ⟨d, kvs, rfl, hd, he⟩ := rows_at kn_all (r1.rep c0.w s ex)
    refine ⟨d, kvs, rs, rfl, kn_all _ _ hd, he, nd, hl, fun r H' us s1 hn h1 h2 => ?_⟩
    have b1 := c.w.bx.same s1
    refine f.run _ _ _ q (Stay.of s1) b1 ⟨r, us, rfl, ?_, prs_to (prs_kn b1 h2)⟩
    exact kn_at List.not_mem_nil (c.w.bx.nin hn) h1
  · exact h.elim⟩
end
end Pl

namespace Pl
open PySem L2
local macro_rules | `(tactic| bv_omega) => `(tactic| try simp only [pVar, pC, pTy, pCl, pNil, pCons, pOp, pUn, pCB, pI, pIC, pIB, pNeg, eqS, pEq, isNonS, pIsN, pIx, tvs, pTup, pLst, pTest, pAnd, pOr, pNot, pAndV, pOrV, pNotV, pIf, pChain, Sx.sl, Sx.tv, Sx.sq, Sx.dq, Sx.tq, Sx.rt, Sx.sqv, Sx.it, Sx.ar, Option.map_some, Option.bind_some, pgName, pgNil, pgCons, pgTup, piList, piTup, piSeq, piRange1, piRange2, piKeys, piItems, ars, pSp, pLen, tyOf, kb, pIsi, intsT, strsT, intsT_map, strsT_map, blsT_map, pIn, pInG, pNoPart, pPart, pSl, pRev, pAddG, pMulG, pAbs, p2I, pInt1, pBool1, pStrI, pListOf, pTupleOf, ints1, pSum, pSortedI, pMax, pMin, bls1, pAll, pAny, pEqG, pJoin, pDNew, pDGet, pDGet2, pDIn, Tv.key, pPick, pYes, kT, at0, at1, at2, at3, at4, exists_eq_left', Option.some.injEq, List.getElem?_cons_zero, List.getElem?_cons_succ, List.set_cons_zero, List.set_cons_succ, stS, Ar.sl, List.map_cons, List.map_nil, List.length_cons, List.length_nil, List.replicate_succ, List.replicate_zero, List.nil_append, List.cons_append, Nat.reduceSub, Nat.reduceAdd, wipeS, Bool.false_xor, Bool.true_xor, Bool.false_eq_true, if_true, if_false, decide_eq_true_eq, and_true, true_and, Bool.not_true, Bool.not_false, Bool.not_eq_true', decide_eq_false_iff_not, Nat.zero_le, Nat.reduceLeDiff, Int.reduceLT, Int.reduceLE, Int.reduceEq, Int.reduceNeg, Int.reducePow, Int.reduceAdd, Int.reduceSub, Nat.reduceMul, rgT_len, String.reduceBEq, beq_self_eq_true, Bool.or_false, Bool.false_or, Bool.true_or, Bool.or_true, Bool.or_self, ite_true, ite_false, ite_self, Int.zero_add, Bool.true_eq_false, reduceCtorEq, Function.comp_apply, unS, unSl_lkd, unSl_pvd, unSl_val, unSl_own, unSl_owd, unSl_box, unSl_any, pDisp, pDs0, pDs1, kvT, unSl_odl, pSortD, keyStrs_map])
local macro_rules | `(tactic| injections) => `(tactic| first
  | with_reducible refine s_seq ?_
  | with_reducible refine s_set ?_
  | with_reducible refine s_asg ?_
  | with_reducible refine s_if ?_
  | with_reducible refine s_ret ?_
  | with_reducible refine s_retN ?_
  | with_reducible refine s_next ?_
  | with_reducible refine s_for ?_
  | with_reducible refine s_break ?_
  | with_reducible refine s_cont ?_
  | with_reducible refine s_append (by first | with_unfolding_all rfl | assumption) (by with_unfolding_all first | omega | (simp only [List.length_map, List.length_append, List.length_cons, List.length_nil]; omega)) ?_
  | with_reducible refine s_drop ?_
  | with_reducible refine s_setF (by with_unfolding_all rfl) ?_
  | with_reducible refine s_asgF (by with_unfolding_all rfl) ?_
  | with_reducible refine s_ifF (by with_unfolding_all rfl) ?_
  | with_reducible refine s_retF (by with_unfolding_all rfl) ?_)
local macro_rules | `(tactic| subst_vars) => `(tactic| ((try simp only [pVar, pC, pTy, pCl, pNil, pCons, pOp, pUn, pCB, pI, pIC, pIB, pNeg, eqS, pEq, isNonS, pIsN, pIx, tvs, pTup, pLst, pTest, pAnd, pOr, pNot, pAndV, pOrV, pNotV, pIf, pChain, Sx.sl, Sx.tv, Sx.sq, Sx.dq, Sx.tq, Sx.rt, Sx.sqv, Sx.it, Sx.ar, Option.map_some, Option.bind_some, pgName, pgNil, pgCons, pgTup, piList, piTup, piSeq, piRange1, piRange2, piKeys, piItems, ars, pSp, pLen, tyOf, kb, pIsi, intsT, strsT, intsT_map, strsT_map, blsT_map, pIn, pInG, pNoPart, pPart, pSl, pRev, pAddG, pMulG, pAbs, p2I, pInt1, pBool1, pStrI, pListOf, pTupleOf, ints1, pSum, pSortedI, pMax, pMin, bls1, pAll, pAny, pEqG, pJoin, pDNew, pDGet, pDGet2, pDIn, Tv.key, pPick, pYes, kT, at0, at1, at2, at3, at4, exists_eq_left', Option.some.injEq, List.getElem?_cons_zero, List.getElem?_cons_succ, List.set_cons_zero, List.set_cons_succ, stS, Ar.sl, List.map_cons, List.map_nil, List.length_cons, List.length_nil, List.replicate_succ, List.replicate_zero, List.nil_append, List.cons_append, Nat.reduceSub, Nat.reduceAdd, wipeS, Bool.false_xor, Bool.true_xor, Bool.false_eq_true, if_true, if_false, decide_eq_true_eq, and_true, true_and, Bool.not_true, Bool.not_false, Bool.not_eq_true', decide_eq_false_iff_not, Nat.zero_le, Nat.reduceLeDiff, Int.reduceLT, Int.reduceLE, Int.reduceEq, Int.reduceNeg, Int.reducePow, Int.reduceAdd, Int.reduceSub, Nat.reduceMul, rgT_len, String.reduceBEq, beq_self_eq_true, Bool.or_false, Bool.false_or, Bool.true_or, Bool.or_true, Bool.or_self, ite_true, ite_false, ite_self, Int.zero_add, Bool.true_eq_false, reduceCtorEq, Function.comp_apply, unS, unSl_lkd, unSl_pvd, unSl_val, unSl_own, unSl_owd, unSl_box, unSl_any, pDisp, pDs0, pDs1, kvT, unSl_odl, pSortD, keyStrs_map]) <;> repeat ((first
  | with_reducible refine s_seq ?_
  | with_reducible refine s_set ?_
  | with_reducible refine s_asg ?_
  | with_reducible refine s_if ?_
  | with_reducible refine s_ret ?_
  | with_reducible refine s_retN ?_
  | with_reducible refine s_next ?_
  | with_reducible refine s_break ?_
  | with_reducible refine s_cont ?_
  | with_reducible refine s_append (by first | with_unfolding_all rfl | assumption) (by with_unfolding_all first | omega | (simp only [List.length_map, List.length_append, List.length_cons, List.length_nil]; omega)) ?_
  | with_reducible refine s_drop ?_
  | with_reducible refine s_setF (by with_unfolding_all rfl) ?_
  | with_reducible refine s_asgF (by with_unfolding_all rfl) ?_
  | with_reducible refine s_ifF (by with_unfolding_all rfl) ?_
  | with_reducible refine s_retF (by with_unfolding_all rfl) ?_) <;> try simp only [pVar, pC, pTy, pCl, pNil, pCons, pOp, pUn, pCB, pI, pIC, pIB, pNeg, eqS, pEq, isNonS, pIsN, pIx, tvs, pTup, pLst, pTest, pAnd, pOr, pNot, pAndV, pOrV, pNotV, pIf, pChain, Sx.sl, Sx.tv, Sx.sq, Sx.dq, Sx.tq, Sx.rt, Sx.sqv, Sx.it, Sx.ar, Option.map_some, Option.bind_some, pgName, pgNil, pgCons, pgTup, piList, piTup, piSeq, piRange1, piRange2, piKeys, piItems, ars, pSp, pLen, tyOf, kb, pIsi, intsT, strsT, intsT_map, strsT_map, blsT_map, pIn, pInG, pNoPart, pPart, pSl, pRev, pAddG, pMulG, pAbs, p2I, pInt1, pBool1, pStrI, pListOf, pTupleOf, ints1, pSum, pSortedI, pMax, pMin, bls1, pAll, pAny, pEqG, pJoin, pDNew, pDGet, pDGet2, pDIn, Tv.key, pPick, pYes, kT, at0, at1, at2, at3, at4, exists_eq_left', Option.some.injEq, List.getElem?_cons_zero, List.getElem?_cons_succ, List.set_cons_zero, List.set_cons_succ, stS, Ar.sl, List.map_cons, List.map_nil, List.length_cons, List.length_nil, List.replicate_succ, List.replicate_zero, List.nil_append, List.cons_append, Nat.reduceSub, Nat.reduceAdd, wipeS, Bool.false_xor, Bool.true_xor, Bool.false_eq_true, if_true, if_false, decide_eq_true_eq, and_true, true_and, Bool.not_true, Bool.not_false, Bool.not_eq_true', decide_eq_false_iff_not, Nat.zero_le, Nat.reduceLeDiff, Int.reduceLT, Int.reduceLE, Int.reduceEq, Int.reduceNeg, Int.reducePow, Int.reduceAdd, Int.reduceSub, Nat.reduceMul, rgT_len, String.reduceBEq, beq_self_eq_true, Bool.or_false, Bool.false_or, Bool.true_or, Bool.or_true, Bool.or_self, ite_true, ite_false, ite_self, Int.zero_add, Bool.true_eq_false, reduceCtorEq, Function.comp_apply, unS, unSl_lkd, unSl_pvd, unSl_val, unSl_own, unSl_owd, unSl_box, unSl_any, pDisp, pDs0, pDs1, kvT, unSl_odl, pSortD, keyStrs_map])))
-- USE PL
section
theorem fzL_ints : ∀ ns : List Int, fzL (ns.map Tv.int) = ns.map Tv.int
  | [] => rfl
  | n :: ns => by rw [List.map_cons, fzL, Tv.fz, fzL_ints ns]
theorem fzL_rows : ∀ rs : Rws, fzL (rs.map fun r => .lst (r.2.map Tv.int)) = rs.map fun r => .lst (r.2.map Tv.int)
  | [] => rfl
  | r :: rs => by rw [List.map_cons, fzL, Tv.fz, fzL_ints, fzL_rows rs]
theorem vT_rows (z : Str) : ∀ rs : Rws, vT (rs.map fun r => .inr r.1) (rs.map fun r => .lst (r.2.map Tv.int)) (.inr z) = (rs.find? fun r => decide (r.1 = z)).map fun r => .lst (r.2.map Tv.int)
  | [] => rfl
  | r :: rs => by
    unfold vT at *
    rw [List.map_cons, List.map_cons, List.zip_cons_cons, List.find?_cons, List.find?_cons]
    by_cases h : r.1 = z
    · simp [h]
    · have := vT_rows z rs
      unfold vT at this
      simp [h, this]
theorem find_rows {rs : Rws} {r : Str × List Int} (nd : (rs.map (·.1)).Nodup) (h : r ∈ rs) : rs.find? (fun x => decide (x.1 = r.1)) = some r := by
  induction rs with
  | nil => cases h
  | cons a rs ih =>
    rw [List.map_cons, List.nodup_cons] at nd
    rw [List.find?_cons]
    rcases List.mem_cons.mp h with rfl | h
    · simp
    · have : ¬ a.1 = r.1 := fun e => nd.1 (e ▸ List.mem_map.mpr ⟨r, h, rfl⟩)
      rw [decide_eq_false this]
      exact ih nd.2 h
theorem vT_row {rs : Rws} {r : Str × List Int} (nd : (rs.map (·.1)).Nodup) (h : r ∈ rs) : vT (rs.map fun r => .inr r.1) (rs.map fun r => .lst (r.2.map Tv.int)) (.inr r.1) = some (.lst (r.2.map Tv.int)) := by
  rw [vT_rows, find_rows nd h]
  rfl
/-- d.get(z, []) of rows -/
theorem get_rows {rs : Rws} {z : Str} {Q : Tv → Prop} (h : Q (.lst ((getR rs z).map Tv.int))) : (match vT (rs.map fun r => .inr r.1) (rs.map fun r => .lst (r.2.map Tv.int)) (.inr z) with | some t => Q t | none => Q (.lst [])) := by
  rw [vT_rows]
  unfold getR at h
  cases e : rs.find? fun r => decide (r.1 = z) with
  | none => rw [e] at h; exact h
  | some r => rw [e] at h; exact h
theorem fz_rows (rs : Rws) : (rowsT rs).fz = .dic true (rs.map fun r => .inr r.1) (rs.map fun r => .lst (r.2.map Tv.int)) := by rw [rowsT, Tv.fz, fzL_rows]
end
end Pl

namespace Pl
open PySem L2
local macro_rules | `(tactic| bv_omega) => `(tactic| try simp only [pVar, pC, pTy, pCl, pNil, pCons, pOp, pUn, pCB, pI, pIC, pIB, pNeg, eqS, pEq, isNonS, pIsN, pIx, tvs, pTup, pLst, pTest, pAnd, pOr, pNot, pAndV, pOrV, pNotV, pIf, pChain, Sx.sl, Sx.tv, Sx.sq, Sx.dq, Sx.tq, Sx.rt, Sx.sqv, Sx.it, Sx.ar, Option.map_some, Option.bind_some, pgName, pgNil, pgCons, pgTup, piList, piTup, piSeq, piRange1, piRange2, piKeys, piItems, ars, pSp, pLen, tyOf, kb, pIsi, intsT, strsT, intsT_map, strsT_map, blsT_map, pIn, pInG, pNoPart, pPart, pSl, pRev, pAddG, pMulG, pAbs, p2I, pInt1, pBool1, pStrI, pListOf, pTupleOf, ints1, pSum, pSortedI, pMax, pMin, bls1, pAll, pAny, pEqG, pJoin, pDNew, pDGet, pDGet2, pDIn, Tv.key, pPick, pYes, kT, at0, at1, at2, at3, at4, exists_eq_left', Option.some.injEq, List.getElem?_cons_zero, List.getElem?_cons_succ, List.set_cons_zero, List.set_cons_succ, stS, Ar.sl, List.map_cons, List.map_nil, List.length_cons, List.length_nil, List.replicate_succ, List.replicate_zero, List.nil_append, List.cons_append, Nat.reduceSub, Nat.reduceAdd, wipeS, Bool.false_xor, Bool.true_xor, Bool.false_eq_true, if_true, if_false, decide_eq_true_eq, and_true, true_and, Bool.not_true, Bool.not_false, Bool.not_eq_true', decide_eq_false_iff_not, Nat.zero_le, Nat.reduceLeDiff, Int.reduceLT, Int.reduceLE, Int.reduceEq, Int.reduceNeg, Int.reducePow, Int.reduceAdd, Int.reduceSub, Nat.reduceMul, rgT_len, String.reduceBEq, beq_self_eq_true, Bool.or_false, Bool.false_or, Bool.true_or, Bool.or_true, Bool.or_self, ite_true, ite_false, ite_self, Int.zero_add, Bool.true_eq_false, reduceCtorEq, Function.comp_apply, unS, unSl_lkd, unSl_pvd, unSl_val, unSl_own, unSl_owd, unSl_box, unSl_any, pDisp, pDs0, pDs1, kvT, unSl_odl, pSortD, keyStrs_map])
local macro_rules | `(tactic| injections) => `(tactic| first
  | with_reducible refine s_seq ?_
  | with_reducible refine s_set ?_
  | with_reducible refine s_asg ?_
  | with_reducible refine s_if ?_
  | with_reducible refine s_ret ?_
  | with_reducible refine s_retN ?_
  | with_reducible refine s_next ?_
  | with_reducible refine s_for ?_
  | with_reducible refine s_break ?_
  | with_reducible refine s_cont ?_
  | with_reducible refine s_append (by first | with_unfolding_all rfl | assumption) (by with_unfolding_all first | omega | (simp only [List.length_map, List.length_append, List.length_cons, List.length_nil]; omega)) ?_
  | with_reducible refine s_drop ?_
  | with_reducible refine s_setF (by with_unfolding_all rfl) ?_
  | with_reducible refine s_asgF (by with_unfolding_all rfl) ?_
  | with_reducible refine s_ifF (by with_unfolding_all rfl) ?_
  | with_reducible refine s_retF (by with_unfolding_all rfl) ?_)
local macro_rules | `(tactic| subst_vars) => `(tactic| ((try simp only [pVar, pC, pTy, pCl, pNil, pCons, pOp, pUn, pCB, pI, pIC, pIB, pNeg, eqS, pEq, isNonS, pIsN, pIx, tvs, pTup, pLst, pTest, pAnd, pOr, pNot, pAndV, pOrV, pNotV, pIf, pChain, Sx.sl, Sx.tv, Sx.sq, Sx.dq, Sx.tq, Sx.rt, Sx.sqv, Sx.it, Sx.ar, Option.map_some, Option.bind_some, pgName, pgNil, pgCons, pgTup, piList, piTup, piSeq, piRange1, piRange2, piKeys, piItems, ars, pSp, pLen, tyOf, kb, pIsi, intsT, strsT, intsT_map, strsT_map, blsT_map, pIn, pInG, pNoPart, pPart, pSl, pRev, pAddG, pMulG, pAbs, p2I, pInt1, pBool1, pStrI, pListOf, pTupleOf, ints1, pSum, pSortedI, pMax, pMin, bls1, pAll, pAny, pEqG, pJoin, pDNew, pDGet, pDGet2, pDIn, Tv.key, pPick, pYes, kT, at0, at1, at2, at3, at4, exists_eq_left', Option.some.injEq, List.getElem?_cons_zero, List.getElem?_cons_succ, List.set_cons_zero, List.set_cons_succ, stS, Ar.sl, List.map_cons, List.map_nil, List.length_cons, List.length_nil, List.replicate_succ, List.replicate_zero, List.nil_append, List.cons_append, Nat.reduceSub, Nat.reduceAdd, wipeS, Bool.false_xor, Bool.true_xor, Bool.false_eq_true, if_true, if_false, decide_eq_true_eq, and_true, true_and, Bool.not_true, Bool.not_false, Bool.not_eq_true', decide_eq_false_iff_not, Nat.zero_le, Nat.reduceLeDiff, Int.reduceLT, Int.reduceLE, Int.reduceEq, Int.reduceNeg, Int.reducePow, Int.reduceAdd, Int.reduceSub, Nat.reduceMul, rgT_len, String.reduceBEq, beq_self_eq_true, Bool.or_false, Bool.false_or, Bool.true_or, Bool.or_true, Bool.or_self, ite_true, ite_false, ite_self, Int.zero_add, Bool.true_eq_false, reduceCtorEq, Function.comp_apply, unS, unSl_lkd, unSl_pvd, unSl_val, unSl_own, unSl_owd, unSl_box, unSl_any, pDisp, pDs0, pDs1, kvT, unSl_odl, pSortD, keyStrs_map]) <;> repeat ((first
  | with_reducible refine s_seq ?_
  | with_reducible refine s_set ?_
  | with_reducible refine s_asg ?_
  | with_reducible refine s_if ?_
  | with_reducible refine s_ret ?_
  | with_reducible refine s_retN ?_
  | with_reducible refine s_next ?_
  | with_reducible refine s_break ?_
  | with_reducible refine s_cont ?_
  | with_reducible refine s_append (by first | with_unfolding_all rfl | assumption) (by with_unfolding_all first | omega | (simp only [List.length_map, List.length_append, List.length_cons, List.length_nil]; omega)) ?_
  | with_reducible refine s_drop ?_
  | with_reducible refine s_setF (by with_unfolding_all rfl) ?_
  | with_reducible refine s_asgF (by with_unfolding_all rfl) ?_
  | with_reducible refine s_ifF (by with_unfolding_all rfl) ?_
  | with_reducible refine s_retF (by with_unfolding_all rfl) ?_) <;> try simp only [pVar, pC, pTy, pCl, pNil, pCons, pOp, pUn, pCB, pI, pIC, pIB, pNeg, eqS, pEq, isNonS, pIsN, pIx, tvs, pTup, pLst, pTest, pAnd, pOr, pNot, pAndV, pOrV, pNotV, pIf, pChain, Sx.sl, Sx.tv, Sx.sq, Sx.dq, Sx.tq, Sx.rt, Sx.sqv, Sx.it, Sx.ar, Option.map_some, Option.bind_some, pgName, pgNil, pgCons, pgTup, piList, piTup, piSeq, piRange1, piRange2, piKeys, piItems, ars, pSp, pLen, tyOf, kb, pIsi, intsT, strsT, intsT_map, strsT_map, blsT_map, pIn, pInG, pNoPart, pPart, pSl, pRev, pAddG, pMulG, pAbs, p2I, pInt1, pBool1, pStrI, pListOf, pTupleOf, ints1, pSum, pSortedI, pMax, pMin, bls1, pAll, pAny, pEqG, pJoin, pDNew, pDGet, pDGet2, pDIn, Tv.key, pPick, pYes, kT, at0, at1, at2, at3, at4, exists_eq_left', Option.some.injEq, List.getElem?_cons_zero, List.getElem?_cons_succ, List.set_cons_zero, List.set_cons_succ, stS, Ar.sl, List.map_cons, List.map_nil, List.length_cons, List.length_nil, List.replicate_succ, List.replicate_zero, List.nil_append, List.cons_append, Nat.reduceSub, Nat.reduceAdd, wipeS, Bool.false_xor, Bool.true_xor, Bool.false_eq_true, if_true, if_false, decide_eq_true_eq, and_true, true_and, Bool.not_true, Bool.not_false, Bool.not_eq_true', decide_eq_false_iff_not, Nat.zero_le, Nat.reduceLeDiff, Int.reduceLT, Int.reduceLE, Int.reduceEq, Int.reduceNeg, Int.reducePow, Int.reduceAdd, Int.reduceSub, Nat.reduceMul, rgT_len, String.reduceBEq, beq_self_eq_true, Bool.or_false, Bool.false_or, Bool.true_or, Bool.or_true, Bool.or_self, ite_true, ite_false, ite_self, Int.zero_add, Bool.true_eq_false, reduceCtorEq, Function.comp_apply, unS, unSl_lkd, unSl_pvd, unSl_val, unSl_own, unSl_owd, unSl_box, unSl_any, pDisp, pDs0, pDs1, kvT, unSl_odl, pSortD, keyStrs_map])))
-- USE PL
section
theorem sub_len : ∀ {ws zs : List Str}, ws.Nodup → (∀ w ∈ ws, w ∈ zs) → ws.length ≤ zs.length
  | [], zs, _, _ => Nat.zero_le _
  | w :: ws, zs, nd, h => by
    rw [List.nodup_cons] at nd
    have hw := h w List.mem_cons_self
    have ih := sub_len (ws := ws) (zs := zs.erase w) nd.2 fun x hx => (List.mem_erase_of_ne (show x ≠ w from fun e => nd.1 (by rw [← e]; exact hx))).mpr (h x (List.mem_cons_of_mem _ hx))
    have := List.length_erase_of_mem hw
    have hp := List.length_pos_of_mem hw
    rw [List.length_cons]
    omega
theorem spare_w {ws zs : List Str} (nd : ws.Nodup) (h : zs.length < ws.length) : ∃ z r, ws.filter (fun w => !decide (w ∈ zs)) = z :: r ∧ z ∈ ws ∧ z ∉ zs := by
  cases e : ws.filter (fun w => !decide (w ∈ zs)) with
  | cons z r =>
    have : z ∈ ws.filter (fun w => !decide (w ∈ zs)) := by rw [e]; simp
    obtain ⟨m1, m2⟩ := List.mem_filter.mp this
    exact ⟨z, r, rfl, m1, by simpa using m2⟩
  | nil =>
    have := sub_len nd fun w hw => by
      have := List.filter_eq_nil_iff.mp e w hw
      simpa using this
    omega
mutual
theorem teq_refl : ∀ {t : Tv}, t.sm → teq t t = true
  | .tup xs, h => by rw [teq]; exact teqL_refl h.2
  | .lst xs, h => by rw [teq]; exact teqL_refl h.2
  | .non, _ => by rw [teq]
  | .bl a, _ => by simp [teq]
  | .int a, _ => by simp [teq]
  | .str a, _ => by simp [teq]
theorem teqL_refl : ∀ {ts : List Tv}, smL ts → teqL ts ts = true
  | [], _ => by rw [teqL]
  | t :: ts, h => by
    rw [smL] at h
    rw [teqL, teq_refl h.1, teqL_refl h.2]
    rfl
end
theorem smL_all : ∀ {ts : List Tv}, (∀ t ∈ ts, t.sm) → smL ts
  | [], _ => by rw [smL]; trivial
  | t :: ts, h => by
    rw [smL]
    exact ⟨h t List.mem_cons_self, smL_all fun x hx => h x (List.mem_cons_of_mem _ hx)⟩
theorem dpL_all {n : Nat} : ∀ {ts : List Tv}, (∀ t ∈ ts, t.dp ≤ n) → dpL ts ≤ n
  | [], _ => by rw [dpL]; omega
  | t :: ts, h => by
    rw [dpL]
    have h1 := h t List.mem_cons_self
    have h2 := dpL_all fun x hx => h x (List.mem_cons_of_mem _ hx)
    omega
theorem mem_row {rs : Rws} {r : Str × List Int} (nd : (rs.map (·.1)).Nodup) (h : r ∈ rs) : getR rs r.1 = r.2 := by
  unfold getR
  rw [find_rows nd h]
theorem mem_wR {rs : Rws} (nd : (rs.map (·.1)).Nodup) {z : Str} {x : Int} : (z, x) ∈ wRows rs ↔ x ∈ getR rs z := by
  rw [← mem_world nd]
  exact mem_rowsOf.symm
theorem getR_row {rs : Rws} {z : Str} {x : Int} (h : x ∈ getR rs z) : ∃ r ∈ rs, r.1 = z ∧ x ∈ r.2 := by
  unfold getR at h
  cases e : rs.find? (fun r => decide (r.1 = z)) with
  | none => rw [e] at h; cases h
  | some r =>
    rw [e] at h
    exact ⟨r, List.mem_of_find?_eq_some e, by simpa using List.find?_some e, h⟩
theorem vT_ix : ∀ {ns : List Str} {ts : List Tv} {i : Nat} {x : Str} {u : Tv}, ns.Nodup → ns[i]? = some x → ts[i]? = some u → vT (ns.map .inr) ts (.inr x) = some u
  | [], _, _, _, _, _, h, _ => by simp at h
  | n :: ns, [], _, _, _, _, _, h => by simp at h
  | n :: ns, t :: ts, 0, x, u, _, h1, h2 => by
    cases h1; cases h2
    simp [vT]
  | n :: ns, t :: ts, i + 1, x, u, nd, h1, h2 => by
    rw [List.nodup_cons] at nd
    have h1' : ns[i]? = some x := h1
    have ne : ¬ n = x := fun e => nd.1 (by rw [e]; exact List.mem_of_getElem? h1')
    have ih := vT_ix (ns := ns) (ts := ts) nd.2 h1' h2
    unfold vT at *
    simpa [ne] using ih
/-- [(k, d[k]) for k in d] -/
def keptT (ns : List Str) (ts : List Tv) : List Tv := (ns.zip ts).map fun p => .tup [.str p.1, p.2]
theorem kept_at {ns : List Str} {ts : List Tv} (nd : ns.Nodup) (hl : ns.length = ts.length) {i : Nat} {t : Tv} (h : (ns.map Tv.str)[i]? = some t) : ∃ x u, t = .str x ∧ vT (ns.map .inr) ts (.inr x) = some u ∧ (keptT ns ts).take i ++ [.tup [.str x, u]] = (keptT ns ts).take (i + 1) ∧ i < ns.length := by
  rw [List.getElem?_map] at h
  obtain ⟨x, hx, rfl⟩ := Option.map_eq_some_iff.mp h
  have hi := (List.getElem?_eq_some_iff.mp hx).1
  have hu : ts[i]? = some (ts[i]'(by omega)) := List.getElem?_eq_getElem _
  refine ⟨x, _, rfl, vT_ix nd hx hu, ?_, hi⟩
  have hz : (ns.zip ts)[i]? = some (x, ts[i]'(by omega)) := List.getElem?_zip_eq_some.mpr ⟨hx, hu⟩
  rw [List.take_add_one]
  unfold keptT
  rw [List.getElem?_map, hz]
  rfl
theorem kept_len {ns : List Str} {ts : List Tv} (hl : ns.length = ts.length) : (keptT ns ts).length = ns.length := by
  unfold keptT
  rw [List.length_map, List.length_zip, ← hl, Nat.min_self]
theorem kept_sm {ns : List Str} {ts : List Tv} (hl : ns.length = ts.length) (hz : ns.length ≤ 100000) (h : ∀ t ∈ ts, t.sm ∧ t.dp = 0) : (Tv.lst (keptT ns ts)).sm ∧ (Tv.lst (keptT ns ts)).dp ≤ 2 := by
  have key : ∀ t ∈ keptT ns ts, t.sm ∧ t.dp ≤ 1 := fun t ht => by
    obtain ⟨p, hp, rfl⟩ := List.mem_map.mp ht
    obtain ⟨h1, h2⟩ := h p.2 (List.of_mem_zip (a := p.1) (b := p.2) hp).2
    refine ⟨⟨by show 2 ≤ 100000; decide, ?_⟩, ?_⟩
    · simp [smL, Tv.sm, h1]
    · simp [Tv.dp, dpL, h2]
  refine ⟨⟨by rw [kept_len hl]; exact hz, smL_all fun t ht => (key t ht).1⟩, ?_⟩
  rw [Tv.dp]
  have := dpL_all fun t ht => (key t ht).2
  omega
theorem prs_sm {ps : List (Str × Int)} (hz : ps.length ≤ 100000) : (Tv.lst (ps.map pairT)).sm ∧ (Tv.lst (ps.map pairT)).dp ≤ 2 := by
  have key : ∀ t ∈ ps.map pairT, t.sm ∧ t.dp ≤ 1 := fun t ht => by
    obtain ⟨p, hp, rfl⟩ := List.mem_map.mp ht
    refine ⟨⟨by show 2 ≤ 100000; decide, by simp [smL, Tv.sm]⟩, by simp [pairT, Tv.dp, dpL]⟩
  refine ⟨⟨by rw [List.length_map]; exact hz, smL_all fun t ht => (key t ht).1⟩, ?_⟩
  rw [Tv.dp]
  have := dpL_all fun t ht => (key t ht).2
  omega
theorem fzL_all : ∀ {ts : List Tv}, (∀ t ∈ ts, t.fz = t) → fzL ts = ts
  | [], _ => rfl
  | t :: ts, h => by rw [fzL, h t List.mem_cons_self, fzL_all fun x hx => h x (List.mem_cons_of_mem _ hx)]
theorem kept_fz {ns : List Str} {ts : List Tv} (h : ∀ t ∈ ts, t.fz = t) : (Tv.lst (keptT ns ts)).fz = .lst (keptT ns ts) := by
  rw [Tv.fz, fzL_all fun t ht => ?_]
  obtain ⟨p, hp, rfl⟩ := List.mem_map.mp ht
  have := h p.2 (List.of_mem_zip (a := p.1) (b := p.2) hp).2
  simp [Tv.fz, fzL, this]
end
end Pl

namespace Pl
open PySem L2
local macro_rules | `(tactic| bv_omega) => `(tactic| try simp only [pVar, pC, pTy, pCl, pNil, pCons, pOp, pUn, pCB, pI, pIC, pIB, pNeg, eqS, pEq, isNonS, pIsN, pIx, tvs, pTup, pLst, pTest, pAnd, pOr, pNot, pAndV, pOrV, pNotV, pIf, pChain, Sx.sl, Sx.tv, Sx.sq, Sx.dq, Sx.tq, Sx.rt, Sx.sqv, Sx.it, Sx.ar, Option.map_some, Option.bind_some, pgName, pgNil, pgCons, pgTup, piList, piTup, piSeq, piRange1, piRange2, piKeys, piItems, ars, pSp, pLen, tyOf, kb, pIsi, intsT, strsT, intsT_map, strsT_map, blsT_map, pIn, pInG, pNoPart, pPart, pSl, pRev, pAddG, pMulG, pAbs, p2I, pInt1, pBool1, pStrI, pListOf, pTupleOf, ints1, pSum, pSortedI, pMax, pMin, bls1, pAll, pAny, pEqG, pJoin, pDNew, pDGet, pDGet2, pDIn, Tv.key, pPick, pYes, kT, at0, at1, at2, at3, at4, exists_eq_left', Option.some.injEq, List.getElem?_cons_zero, List.getElem?_cons_succ, List.set_cons_zero, List.set_cons_succ, stS, Ar.sl, List.map_cons, List.map_nil, List.length_cons, List.length_nil, List.replicate_succ, List.replicate_zero, List.nil_append, List.cons_append, Nat.reduceSub, Nat.reduceAdd, wipeS, Bool.false_xor, Bool.true_xor, Bool.false_eq_true, if_true, if_false, decide_eq_true_eq, and_true, true_and, Bool.not_true, Bool.not_false, Bool.not_eq_true', decide_eq_false_iff_not, Nat.zero_le, Nat.reduceLeDiff, Int.reduceLT, Int.reduceLE, Int.reduceEq, Int.reduceNeg, Int.reducePow, Int.reduceAdd, Int.reduceSub, Nat.reduceMul, rgT_len, String.reduceBEq, beq_self_eq_true, Bool.or_false, Bool.false_or, Bool.true_or, Bool.or_true, Bool.or_self, ite_true, ite_false, ite_self, Int.zero_add, Bool.true_eq_false, reduceCtorEq, Function.comp_apply, unS, unSl_lkd, unSl_pvd, unSl_val, unSl_own, unSl_owd, unSl_box, unSl_any, pDisp, pDs0, pDs1, kvT, unSl_odl, pSortD, keyStrs_map])
local macro_rules | `(tactic| injections) => `(tactic| first
  | with_reducible refine s_seq ?_
  | with_reducible refine s_set ?_
  | with_reducible refine s_asg ?_
  | with_reducible refine s_if ?_
  | with_reducible refine s_ret ?_
  | with_reducible refine s_retN ?_
  | with_reducible refine s_next ?_
  | with_reducible refine s_for ?_
  | with_reducible refine s_break ?_
  | with_reducible refine s_cont ?_
  | with_reducible refine s_append (by first | with_unfolding_all rfl | assumption) (by with_unfolding_all first | omega | (simp only [List.length_map, List.length_append, List.length_cons, List.length_nil]; omega)) ?_
  | with_reducible refine s_drop ?_
  | with_reducible refine s_setF (by with_unfolding_all rfl) ?_
  | with_reducible refine s_asgF (by with_unfolding_all rfl) ?_
  | with_reducible refine s_ifF (by with_unfolding_all rfl) ?_
  | with_reducible refine s_retF (by with_unfolding_all rfl) ?_)
local macro_rules | `(tactic| subst_vars) => `(tactic| ((try simp only [pVar, pC, pTy, pCl, pNil, pCons, pOp, pUn, pCB, pI, pIC, pIB, pNeg, eqS, pEq, isNonS, pIsN, pIx, tvs, pTup, pLst, pTest, pAnd, pOr, pNot, pAndV, pOrV, pNotV, pIf, pChain, Sx.sl, Sx.tv, Sx.sq, Sx.dq, Sx.tq, Sx.rt, Sx.sqv, Sx.it, Sx.ar, Option.map_some, Option.bind_some, pgName, pgNil, pgCons, pgTup, piList, piTup, piSeq, piRange1, piRange2, piKeys, piItems, ars, pSp, pLen, tyOf, kb, pIsi, intsT, strsT, intsT_map, strsT_map, blsT_map, pIn, pInG, pNoPart, pPart, pSl, pRev, pAddG, pMulG, pAbs, p2I, pInt1, pBool1, pStrI, pListOf, pTupleOf, ints1, pSum, pSortedI, pMax, pMin, bls1, pAll, pAny, pEqG, pJoin, pDNew, pDGet, pDGet2, pDIn, Tv.key, pPick, pYes, kT, at0, at1, at2, at3, at4, exists_eq_left', Option.some.injEq, List.getElem?_cons_zero, List.getElem?_cons_succ, List.set_cons_zero, List.set_cons_succ, stS, Ar.sl, List.map_cons, List.map_nil, List.length_cons, List.length_nil, List.replicate_succ, List.replicate_zero, List.nil_append, List.cons_append, Nat.reduceSub, Nat.reduceAdd, wipeS, Bool.false_xor, Bool.true_xor, Bool.false_eq_true, if_true, if_false, decide_eq_true_eq, and_true, true_and, Bool.not_true, Bool.not_false, Bool.not_eq_true', decide_eq_false_iff_not, Nat.zero_le, Nat.reduceLeDiff, Int.reduceLT, Int.reduceLE, Int.reduceEq, Int.reduceNeg, Int.reducePow, Int.reduceAdd, Int.reduceSub, Nat.reduceMul, rgT_len, String.reduceBEq, beq_self_eq_true, Bool.or_false, Bool.false_or, Bool.true_or, Bool.or_true, Bool.or_self, ite_true, ite_false, ite_self, Int.zero_add, Bool.true_eq_false, reduceCtorEq, Function.comp_apply, unS, unSl_lkd, unSl_pvd, unSl_val, unSl_own, unSl_owd, unSl_box, unSl_any, pDisp, pDs0, pDs1, kvT, unSl_odl, pSortD, keyStrs_map]) <;> repeat ((first
  | with_reducible refine s_seq ?_
  | with_reducible refine s_set ?_
  | with_reducible refine s_asg ?_
  | with_reducible refine s_if ?_
  | with_reducible refine s_ret ?_
  | with_reducible refine s_retN ?_
  | with_reducible refine s_next ?_
  | with_reducible refine s_break ?_
  | with_reducible refine s_cont ?_
  | with_reducible refine s_append (by first | with_unfolding_all rfl | assumption) (by with_unfolding_all first | omega | (simp only [List.length_map, List.length_append, List.length_cons, List.length_nil]; omega)) ?_
  | with_reducible refine s_drop ?_
  | with_reducible refine s_setF (by with_unfolding_all rfl) ?_
  | with_reducible refine s_asgF (by with_unfolding_all rfl) ?_
  | with_reducible refine s_ifF (by with_unfolding_all rfl) ?_
  | with_reducible refine s_retF (by with_unfolding_all rfl) ?_) <;> try simp only [pVar, pC, pTy, pCl, pNil, pCons, pOp, pUn, pCB, pI, pIC, pIB, pNeg, eqS, pEq, isNonS, pIsN, pIx, tvs, pTup, pLst, pTest, pAnd, pOr, pNot, pAndV, pOrV, pNotV, pIf, pChain, Sx.sl, Sx.tv, Sx.sq, Sx.dq, Sx.tq, Sx.rt, Sx.sqv, Sx.it, Sx.ar, Option.map_some, Option.bind_some, pgName, pgNil, pgCons, pgTup, piList, piTup, piSeq, piRange1, piRange2, piKeys, piItems, ars, pSp, pLen, tyOf, kb, pIsi, intsT, strsT, intsT_map, strsT_map, blsT_map, pIn, pInG, pNoPart, pPart, pSl, pRev, pAddG, pMulG, pAbs, p2I, pInt1, pBool1, pStrI, pListOf, pTupleOf, ints1, pSum, pSortedI, pMax, pMin, bls1, pAll, pAny, pEqG, pJoin, pDNew, pDGet, pDGet2, pDIn, Tv.key, pPick, pYes, kT, at0, at1, at2, at3, at4, exists_eq_left', Option.some.injEq, List.getElem?_cons_zero, List.getElem?_cons_succ, List.set_cons_zero, List.set_cons_succ, stS, Ar.sl, List.map_cons, List.map_nil, List.length_cons, List.length_nil, List.replicate_succ, List.replicate_zero, List.nil_append, List.cons_append, Nat.reduceSub, Nat.reduceAdd, wipeS, Bool.false_xor, Bool.true_xor, Bool.false_eq_true, if_true, if_false, decide_eq_true_eq, and_true, true_and, Bool.not_true, Bool.not_false, Bool.not_eq_true', decide_eq_false_iff_not, Nat.zero_le, Nat.reduceLeDiff, Int.reduceLT, Int.reduceLE, Int.reduceEq, Int.reduceNeg, Int.reducePow, Int.reduceAdd, Int.reduceSub, Nat.reduceMul, rgT_len, String.reduceBEq, beq_self_eq_true, Bool.or_false, Bool.false_or, Bool.true_or, Bool.or_true, Bool.or_self, ite_true, ite_false, ite_self, Int.zero_add, Bool.true_eq_false, reduceCtorEq, Function.comp_apply, unS, unSl_lkd, unSl_pvd, unSl_val, unSl_own, unSl_owd, unSl_box, unSl_any, pDisp, pDs0, pDs1, kvT, unSl_odl, pSortD, keyStrs_map])))
-- USE PL
section
theorem ints_srt : ∀ {l l' : List Int}, l.Perm l' → l.Pairwise (· ≤ ·) → l'.Pairwise (· ≤ ·) → l = l'
  | [], l', h, _, _ => (List.nil_perm.mp h).symm ▸ rfl
  | x :: l, [], h, _, _ => by have := h.length_eq; simp at this
  | x :: l, y :: l', h, h1, h2 => by
    obtain ⟨a1, a2⟩ := List.pairwise_cons.mp h1
    obtain ⟨b1, b2⟩ := List.pairwise_cons.mp h2
    have e : x = y := by
      rcases List.mem_cons.mp (h.mem_iff.mp List.mem_cons_self) with e | e
      · exact e
      · rcases List.mem_cons.mp (h.mem_iff.mpr List.mem_cons_self) with e2 | e2
        · exact e2.symm
        · have := a1 y e2
          have := b1 x e
          omega
    subst e
    rw [ints_srt (List.Perm.cons_inv h) a2 b2]
theorem strs_srt : ∀ {l l' : List Str}, l.Pairwise (fun x y => x.cps.toList ≤ y.cps.toList) → l'.Pairwise (fun x y => x.cps.toList ≤ y.cps.toList) → l.Nodup → l'.Nodup → (∀ z, z ∈ l ↔ z ∈ l') → l = l'
  | [], [], _, _, _, _, _ => rfl
  | [], y :: l', _, _, _, _, h => absurd ((h y).mpr List.mem_cons_self) (by simp)
  | x :: l, [], _, _, _, _, h => absurd ((h x).mp List.mem_cons_self) (by simp)
  | x :: l, y :: l', h1, h2, n1, n2, h => by
    obtain ⟨a1, a2⟩ := List.pairwise_cons.mp h1
    obtain ⟨b1, b2⟩ := List.pairwise_cons.mp h2
    obtain ⟨c1, c2⟩ := List.nodup_cons.mp n1
    obtain ⟨d1, d2⟩ := List.nodup_cons.mp n2
    have e : x = y := by
      rcases List.mem_cons.mp ((h x).mp List.mem_cons_self) with e | e
      · exact e
      · rcases List.mem_cons.mp ((h y).mpr List.mem_cons_self) with e2 | e2
        · exact e2.symm
        · exact str_ext (List.le_antisymm (a1 y e2) (b1 x e))
    subst e
    rw [strs_srt a2 b2 c2 d2 fun z => ?_]
    constructor
    · intro hz
      rcases List.mem_cons.mp ((h z).mp (List.mem_cons_of_mem _ hz)) with e | e
      · exact absurd (e ▸ hz) c1
      · exact e
    · intro hz
      rcases List.mem_cons.mp ((h z).mpr (List.mem_cons_of_mem _ hz)) with e | e
      · exact absurd (e ▸ hz) d1
      · exact e
theorem rowsOf_prs (r : Str × List Int) (z : Str) : rowsOf (prsOf r) z = if r.1 = z then r.2 else [] := by
  unfold rowsOf prsOf
  rw [List.filter_map, List.map_map]
  by_cases h : r.1 = z
  · rw [if_pos h]
    simp [Function.comp_def, h]
  · rw [if_neg h]
    simp [Function.comp_def, h]
theorem rowsOf_flat : ∀ {rs : Rws} (z : Str), (rs.map (·.1)).Nodup → rowsOf (rs.flatMap prsOf) z = getR rs z
  | [], z, _ => rfl
  | r :: rs, z, nd => by
    rw [List.map_cons, List.nodup_cons] at nd
    have ih := rowsOf_flat (rs := rs) z nd.2
    have e1 : rowsOf ((r :: rs).flatMap prsOf) z = rowsOf (prsOf r) z ++ rowsOf (rs.flatMap prsOf) z := by
      rw [List.flatMap_cons]
      unfold rowsOf
      rw [List.filter_append, List.map_append]
    rw [e1, rowsOf_prs, ih]
    unfold getR
    rw [List.find?_cons]
    by_cases h : r.1 = z
    · rw [if_pos h, decide_eq_true h]
      have : rs.find? (fun r => decide (r.1 = z)) = none := List.find?_eq_none.mpr fun q hq => by
        intro e
        exact nd.1 (by rw [h, ← of_decide_eq_true e]; exact List.mem_map.mpr ⟨q, hq, rfl⟩)
      rw [this]
      simp
    · rw [if_neg h, decide_eq_false h]
      rfl
theorem item_eq {rs : Rws} (nd : (rs.map (·.1)).Nodup) (z : Str) {ns : List Int} (h : ns.Perm (getR rs z)) (hs : ns.Pairwise (· ≤ ·)) : rowsOf (wRows rs) z = ns := by
  refine ints_srt (List.Perm.trans ?_ h.symm) (world_sorted rs z) hs
  rw [← rowsOf_flat z nd]
  exact rowsOf_perm (sortP_perm _) z
theorem mem_nm {rs : Rws} (nd : (rs.map (·.1)).Nodup) (z : Str) : z ∈ (wRows rs).map (·.1) ↔ 0 < (getR rs z).length := by
  constructor
  · intro h
    obtain ⟨⟨a, x⟩, h1, h2⟩ := List.mem_map.mp h
    cases h2
    exact List.length_pos_of_mem ((mem_wR nd).mp h1)
  · intro h
    obtain ⟨x, hx⟩ := List.exists_mem_of_length_pos h
    exact List.mem_map.mpr ⟨(z, x), (mem_wR nd).mpr hx, rfl⟩
theorem given_eq {rs : Rws} (nd : (rs.map (·.1)).Nodup) {ys zs : List Str} (h1 : ys.Pairwise (fun x y => x.cps.toList ≤ y.cps.toList)) (h2 : ys.Nodup) (h3 : ∀ z, z ∈ ys ↔ z ∈ (wRows rs).map (·.1)) (p : zs.Perm (rs.map (·.1))) (h4 : zs.Pairwise (fun x y => x.cps.toList ≤ y.cps.toList)) :
    ys = zs.filter fun z => decide (0 < (getR rs z).length) := by
  refine strs_srt h1 (h4.filter _) h2 ((p.nodup_iff.mpr nd).filter _) fun z => ?_
  rw [h3, mem_nm nd, List.mem_filter]
  constructor
  · intro h
    refine ⟨p.mem_iff.mpr ?_, decide_eq_true h⟩
    obtain ⟨x, hx⟩ := List.exists_mem_of_length_pos h
    obtain ⟨r, hr, e, _⟩ := getR_row hx
    exact List.mem_map.mpr ⟨r, hr, e⟩
  · intro h
    exact of_decide_eq_true h.2
theorem strs_sm {ns : List Str} (h : ns.length ≤ 100000) : (Tv.lst (ns.map Tv.str)).sm ∧ (Tv.lst (ns.map Tv.str)).dp ≤ 1 := by
  constructor
  · refine ⟨by rw [List.length_map]; exact h, smL_all fun t ht => ?_⟩
    obtain ⟨n, _, rfl⟩ := List.mem_map.mp ht
    exact trivial
  · have : dpL (ns.map Tv.str) ≤ 0 := dpL_all fun t ht => by
      obtain ⟨n, _, rfl⟩ := List.mem_map.mp ht
      exact Nat.le_refl 0
    rw [Tv.dp]
    omega
theorem ints_sm {ns : List Int} (h : ns.length ≤ 100000) : (Tv.lst (ns.map Tv.int)).sm ∧ (Tv.lst (ns.map Tv.int)).dp ≤ 1 := by
  constructor
  · refine ⟨by rw [List.length_map]; exact h, smL_all fun t ht => ?_⟩
    obtain ⟨n, _, rfl⟩ := List.mem_map.mp ht
    exact trivial
  · have : dpL (ns.map Tv.int) ≤ 0 := dpL_all fun t ht => by
      obtain ⟨n, _, rfl⟩ := List.mem_map.mp ht
      exact Nat.le_refl 0
    rw [Tv.dp]
    omega
end
end Pl

namespace Pl
open PySem L2
local macro_rules | `(tactic| bv_omega) => `(tactic| try simp only [pVar, pC, pTy, pCl, pNil, pCons, pOp, pUn, pCB, pI, pIC, pIB, pNeg, eqS, pEq, isNonS, pIsN, pIx, tvs, pTup, pLst, pTest, pAnd, pOr, pNot, pAndV, pOrV, pNotV, pIf, pChain, Sx.sl, Sx.tv, Sx.sq, Sx.dq, Sx.tq, Sx.rt, Sx.sqv, Sx.it, Sx.ar, Option.map_some, Option.bind_some, pgName, pgNil, pgCons, pgTup, piList, piTup, piSeq, piRange1, piRange2, piKeys, piItems, ars, pSp, pLen, tyOf, kb, pIsi, intsT, strsT, intsT_map, strsT_map, blsT_map, pIn, pInG, pNoPart, pPart, pSl, pRev, pAddG, pMulG, pAbs, p2I, pInt1, pBool1, pStrI, pListOf, pTupleOf, ints1, pSum, pSortedI, pMax, pMin, bls1, pAll, pAny, pEqG, pJoin, pDNew, pDGet, pDGet2, pDIn, Tv.key, pPick, pYes, kT, at0, at1, at2, at3, at4, exists_eq_left', Option.some.injEq, List.getElem?_cons_zero, List.getElem?_cons_succ, List.set_cons_zero, List.set_cons_succ, stS, Ar.sl, List.map_cons, List.map_nil, List.length_cons, List.length_nil, List.replicate_succ, List.replicate_zero, List.nil_append, List.cons_append, Nat.reduceSub, Nat.reduceAdd, wipeS, Bool.false_xor, Bool.true_xor, Bool.false_eq_true, if_true, if_false, decide_eq_true_eq, and_true, true_and, Bool.not_true, Bool.not_false, Bool.not_eq_true', decide_eq_false_iff_not, Nat.zero_le, Nat.reduceLeDiff, Int.reduceLT, Int.reduceLE, Int.reduceEq, Int.reduceNeg, Int.reducePow, Int.reduceAdd, Int.reduceSub, Nat.reduceMul, rgT_len, String.reduceBEq, beq_self_eq_true, Bool.or_false, Bool.false_or, Bool.true_or, Bool.or_true, Bool.or_self, ite_true, ite_false, ite_self, Int.zero_add, Bool.true_eq_false, reduceCtorEq, Function.comp_apply, unS, unSl_lkd, unSl_pvd, unSl_val, unSl_own, unSl_owd, unSl_box, unSl_any, pDisp, pDs0, pDs1, kvT, unSl_odl, pSortD, keyStrs_map])
local macro_rules | `(tactic| injections) => `(tactic| first
  | with_reducible refine s_seq ?_
  | with_reducible refine s_set ?_
  | with_reducible refine s_asg ?_
  | with_reducible refine s_if ?_
  | with_reducible refine s_ret ?_
  | with_reducible refine s_retN ?_
  | with_reducible refine s_next ?_
  | with_reducible refine s_for ?_
  | with_reducible refine s_break ?_
  | with_reducible refine s_cont ?_
  | with_reducible refine s_append (by first | with_unfolding_all rfl | assumption) (by with_unfolding_all first | omega | (simp only [List.length_map, List.length_append, List.length_cons, List.length_nil]; omega)) ?_
  | with_reducible refine s_drop ?_
  | with_reducible refine s_setF (by with_unfolding_all rfl) ?_
  | with_reducible refine s_asgF (by with_unfolding_all rfl) ?_
  | with_reducible refine s_ifF (by with_unfolding_all rfl) ?_
  | with_reducible refine s_retF (by with_unfolding_all rfl) ?_)
local macro_rules | `(tactic| subst_vars) => `(tactic| ((try simp only [pVar, pC, pTy, pCl, pNil, pCons, pOp, pUn, pCB, pI, pIC, pIB, pNeg, eqS, pEq, isNonS, pIsN, pIx, tvs, pTup, pLst, pTest, pAnd, pOr, pNot, pAndV, pOrV, pNotV, pIf, pChain, Sx.sl, Sx.tv, Sx.sq, Sx.dq, Sx.tq, Sx.rt, Sx.sqv, Sx.it, Sx.ar, Option.map_some, Option.bind_some, pgName, pgNil, pgCons, pgTup, piList, piTup, piSeq, piRange1, piRange2, piKeys, piItems, ars, pSp, pLen, tyOf, kb, pIsi, intsT, strsT, intsT_map, strsT_map, blsT_map, pIn, pInG, pNoPart, pPart, pSl, pRev, pAddG, pMulG, pAbs, p2I, pInt1, pBool1, pStrI, pListOf, pTupleOf, ints1, pSum, pSortedI, pMax, pMin, bls1, pAll, pAny, pEqG, pJoin, pDNew, pDGet, pDGet2, pDIn, Tv.key, pPick, pYes, kT, at0, at1, at2, at3, at4, exists_eq_left', Option.some.injEq, List.getElem?_cons_zero, List.getElem?_cons_succ, List.set_cons_zero, List.set_cons_succ, stS, Ar.sl, List.map_cons, List.map_nil, List.length_cons, List.length_nil, List.replicate_succ, List.replicate_zero, List.nil_append, List.cons_append, Nat.reduceSub, Nat.reduceAdd, wipeS, Bool.false_xor, Bool.true_xor, Bool.false_eq_true, if_true, if_false, decide_eq_true_eq, and_true, true_and, Bool.not_true, Bool.not_false, Bool.not_eq_true', decide_eq_false_iff_not, Nat.zero_le, Nat.reduceLeDiff, Int.reduceLT, Int.reduceLE, Int.reduceEq, Int.reduceNeg, Int.reducePow, Int.reduceAdd, Int.reduceSub, Nat.reduceMul, rgT_len, String.reduceBEq, beq_self_eq_true, Bool.or_false, Bool.false_or, Bool.true_or, Bool.or_true, Bool.or_self, ite_true, ite_false, ite_self, Int.zero_add, Bool.true_eq_false, reduceCtorEq, Function.comp_apply, unS, unSl_lkd, unSl_pvd, unSl_val, unSl_own, unSl_owd, unSl_box, unSl_any, pDisp, pDs0, pDs1, kvT, unSl_odl, pSortD, keyStrs_map]) <;> repeat ((first
  | with_reducible refine s_seq ?_
  | with_reducible refine s_set ?_
  | with_reducible refine s_asg ?_
  | with_reducible refine s_if ?_
  | with_reducible refine s_ret ?_
  | with_reducible refine s_retN ?_
  | with_reducible refine s_next ?_
  | with_reducible refine s_break ?_
  | with_reducible refine s_cont ?_
  | with_reducible refine s_append (by first | with_unfolding_all rfl | assumption) (by with_unfolding_all first | omega | (simp only [List.length_map, List.length_append, List.length_cons, List.length_nil]; omega)) ?_
  | with_reducible refine s_drop ?_
  | with_reducible refine s_setF (by with_unfolding_all rfl) ?_
  | with_reducible refine s_asgF (by with_unfolding_all rfl) ?_
  | with_reducible refine s_ifF (by with_unfolding_all rfl) ?_
  | with_reducible refine s_retF (by with_unfolding_all rfl) ?_) <;> try simp only [pVar, pC, pTy, pCl, pNil, pCons, pOp, pUn, pCB, pI, pIC, pIB, pNeg, eqS, pEq, isNonS, pIsN, pIx, tvs, pTup, pLst, pTest, pAnd, pOr, pNot, pAndV, pOrV, pNotV, pIf, pChain, Sx.sl, Sx.tv, Sx.sq, Sx.dq, Sx.tq, Sx.rt, Sx.sqv, Sx.it, Sx.ar, Option.map_some, Option.bind_some, pgName, pgNil, pgCons, pgTup, piList, piTup, piSeq, piRange1, piRange2, piKeys, piItems, ars, pSp, pLen, tyOf, kb, pIsi, intsT, strsT, intsT_map, strsT_map, blsT_map, pIn, pInG, pNoPart, pPart, pSl, pRev, pAddG, pMulG, pAbs, p2I, pInt1, pBool1, pStrI, pListOf, pTupleOf, ints1, pSum, pSortedI, pMax, pMin, bls1, pAll, pAny, pEqG, pJoin, pDNew, pDGet, pDGet2, pDIn, Tv.key, pPick, pYes, kT, at0, at1, at2, at3, at4, exists_eq_left', Option.some.injEq, List.getElem?_cons_zero, List.getElem?_cons_succ, List.set_cons_zero, List.set_cons_succ, stS, Ar.sl, List.map_cons, List.map_nil, List.length_cons, List.length_nil, List.replicate_succ, List.replicate_zero, List.nil_append, List.cons_append, Nat.reduceSub, Nat.reduceAdd, wipeS, Bool.false_xor, Bool.true_xor, Bool.false_eq_true, if_true, if_false, decide_eq_true_eq, and_true, true_and, Bool.not_true, Bool.not_false, Bool.not_eq_true', decide_eq_false_iff_not, Nat.zero_le, Nat.reduceLeDiff, Int.reduceLT, Int.reduceLE, Int.reduceEq, Int.reduceNeg, Int.reducePow, Int.reduceAdd, Int.reduceSub, Nat.reduceMul, rgT_len, String.reduceBEq, beq_self_eq_true, Bool.or_false, Bool.false_or, Bool.true_or, Bool.or_true, Bool.or_self, ite_true, ite_false, ite_self, Int.zero_add, Bool.true_eq_false, reduceCtorEq, Function.comp_apply, unS, unSl_lkd, unSl_pvd, unSl_val, unSl_own, unSl_owd, unSl_box, unSl_any, pDisp, pDs0, pDs1, kvT, unSl_odl, pSortD, keyStrs_map])))
-- USE PL
section
variable {fw : Bool} {P : Program} {w : World} {K : PySem.W.Frag} {mg : Str → Option Value} {base : Heap}
class IsK (K' K : PySem.W.Frag) : Prop where
  eq : K' = K
instance isK0 : IsK K K := ⟨rfl⟩
instance isK1 {CX : CXT} {N : List Str} {qual : Str} {sc : Scope} {f : Addr} {cdv : Value} {A : Around} {outer : List Env} {s : Shared} {H : Hp} {E : XK} : IsK (cxOf CX P w K mg base N qual sc f cdv A outer s H E).K K := ⟨rfl⟩
instance isK2 {CX : CXT} {N : List Str} {qual : Str} {sc : Scope} {f : Addr} {cdv : Value} {A : Around} {outer : List Env} {s : Shared} {H : Hp} {E : XK} : IsK (cxOf CX P w K mg base N qual sc f cdv A outer s H E).nox.K K := ⟨rfl⟩
/-- world.rows() -/
def pRowsM (T : Txt P K mg) (pe : PX) : PX := fun ss Q => pe ss fun x => ∃ ps, x = .v (woT T ps) ∧ Q (.v (.lst (ps.map pairT)))
instance lRowsM {K' : PySem.W.Frag} {T : Txt P K mg} {E : XK} {te : TE} {pe : PX} [k : LE true te pe] [hK : IsK K' K] : LE true (tMethV K' (fun _ : Unit => T.World_rows.f) "rows" (fun _ => spRowsM T) E te tNil) (pRowsM T pe) := ⟨fun {B O0 O Hs Kb H ss σ Q Qp} c h q => by
  cases hK.eq
  obtain ⟨g1, g2⟩ := c.fl rfl
  subst g1 g2
  refine k.run c h fun x H1 v q1 s1 b1 r1 => ?_
  obtain ⟨ps, rfl, q2⟩ := q1
  obtain ⟨a, l, rfl, wo⟩ : ∃ a l, v = .ref a ∧ WoA T (kn B [] H1) a l ps := r1
  have wo1 := wo.same kn_all
  obtain ⟨dx, vs, h1, _⟩ := id wo1
  refine ⟨a, _, dx, _, (), rfl, h1, rfl, T.o_World.cl, T.m_World_rows, a, l, ps, rfl, wo1, fun r H' us s' hn hr hp => ?_⟩
  have b2 := b1.same s'
  refine q _ _ _ q2 (s1.trans (Stay.of s')) b2 ⟨r, us, rfl, ?_, prs_to (prs_kn b2 hp)⟩
  exact kn_at List.not_mem_nil (b1.nin hn) hr⟩
/-- the law's run in the pure layer: behind the box -/
theorem sim_law {a b c : Addr} {n : Nat} {H : Hp} {t : TS} {D : Ends} (bx : BoxAt b c H) (h : Sim true t ⟨fun _ => False, fun u => u = .bl true, fun _ => False, fun _ => False⟩ (.any :: .box :: List.replicate n .any)) (q : ∀ H', D.rt (.bl true) H') : t D (some (.ref a) :: some (.ref b) :: List.replicate n none) H := by
  have bo : BxOk (some (b, c)) H := by
    intro b' c' e
    cases e
    exact bx
  refine h (some (b, c)) [] [] H (kn (some (b, c)) [] H) H _ D (fun _ => rfl) ⟨⟨Same.refl _, Stay.refl _ _, bo, bo, fun _ h => h, fun a h => (List.not_mem_nil h).elim, fun a h => (List.not_mem_nil h).elim, fun a h => (List.not_mem_nil h).elim, fun a h => (List.not_mem_nil h).elim, fun a h => (List.not_mem_nil h).elim⟩, ⟨?_, fun i s e => ?_, fun i j s t a _ e1 e2 o1 => ?_, fun i j s t a _ e1 e2 hm => ?_⟩, fun h => nomatch h⟩ ⟨fun _ _ _ _ h => h.elim, fun _ _ _ _ h => h.elim, fun _ _ _ _ h => h.elim, fun O' H' t v e w' r' => ?_⟩
  · simp
  · cases i with
    | zero => cases e; exact ⟨_, rfl, trivial⟩
    | succ i =>
      cases i with
      | zero => cases e; exact ⟨_, rfl, b, c, rfl, rfl⟩
      | succ i =>
        simp only [List.getElem?_cons_succ, List.getElem?_replicate] at e ⊢
        split at e
        · rename_i hi
          cases e
          exact ⟨_, if_pos hi, trivial⟩
        · cases e
  · cases i with
    | zero => cases e1; cases o1
    | succ i =>
      cases i with
      | zero => cases e1; cases o1
      | succ i =>
        simp only [List.getElem?_cons_succ, List.getElem?_replicate] at e1
        split at e1
        · cases e1; cases o1
        · cases e1
  · have o1 := Sl.ads_own hm
    cases i with
    | zero => cases e1; cases o1
    | succ i =>
      cases i with
      | zero => cases e1; cases o1
      | succ i =>
        simp only [List.getElem?_cons_succ, List.getElem?_replicate] at e1
        split at e1
        · cases e1; cases o1
        · cases e1
  · subst e
    cases r'
    exact q H'
theorem law_begin {rest : TS} {N : List Str} {sa : Addr} {sns : List Int} {E : XK} {H : Hp} {Q : VK} {n : Nat} (hN : N.length = n + 2) (hS : SqL K H sa (sns.map V.int)) (hl : sns.length ≤ 63) (q : ∀ H', Q (.bl true) H') (h : Sim true rest ⟨fun _ => False, fun u => u = .bl true, fun _ => False, fun _ => False⟩ (.any :: .box :: List.replicate n .any)) :
    tSeq (tAsg (tCall (spOpen K) [] E (tCons (tVar 0) tNil)) (gName 1)) rest { nx := fun _ H' => Q V.non H', rt := Q } (L2.start N [.ref sa]) H := by
  have e : L2.start N [.ref sa] = some (V.ref sa) :: none :: List.replicate n none := by
    unfold L2.start
    rw [hN]
    rfl
  rw [e]
  refine ⟨_, rfl, sa, sns, rfl, hS, hl, fun b c H1 _ _ s1 bx => ?_⟩
  exact sim_law (t := rest) bx h q
end
end Pl

namespace Pl
open PySem L2
local macro_rules | `(tactic| infer_instance) => `(tactic| first
  | with_reducible assumption
  | with_reducible exact Same.refl _
  | exact Wd.gh (by with_reducible assumption)
  | exact sm2 (by with_reducible assumption) (by infer_instance)
  | exact sm2 (same_upd (by with_reducible assumption)) (by infer_instance)
  | exact sm2 (Wd.gh (by with_reducible assumption)) (by infer_instance))
local macro_rules | `(tactic| trivial) => `(tactic| first
  | with_reducible assumption
  | with_reducible exact upd_same
  | exact at_same (by with_reducible assumption) (by trivial)
  | exact at_same (same_upd (by with_reducible assumption)) (by trivial)
  | exact at_same (Wd.gh (by with_reducible assumption)) (by trivial))
local macro_rules | `(tactic| ac_rfl) => `(tactic| first
  | exact Ty.int _
  | exact Ty.str _
  | exact Ty.non
  | exact Ty.bl _
  | exact Ty.tup (by trivial)
  | exact Ty.lst (by trivial))
local macro_rules | `(tactic| contradiction) => `(tactic| first
  | exact rfl
  | exact decide_eq_true (by first | assumption | omega)
  | exact decide_eq_false (by first | assumption | omega)
  | exact dI_t (by first | assumption | omega)
  | exact dI_f (by first | assumption | omega)
  | exact dS_t (by first | assumption | decide)
  | exact dS_f (by first | assumption | decide)
  | exact nI_t (by first | assumption | omega)
  | exact nI_f (by first | assumption | omega)
  | exact nS_t (by first | assumption | decide)
  | exact nS_f (by first | assumption | decide)
  | assumption
  | exact q_none_int | exact q_none_bool | exact q_none_tuple | exact q_none_list | exact q_none_str | exact q_bool_int | exact q_bool_bool | exact q_bool_tuple | exact q_bool_list | exact q_bool_str | exact q_int_int | exact q_int_bool | exact q_int_tuple | exact q_int_list | exact q_int_str | exact q_str_int | exact q_str_bool | exact q_str_tuple | exact q_str_list | exact q_str_str | exact q_list_int | exact q_list_bool | exact q_list_tuple | exact q_list_list | exact q_list_str | exact q_tuple_int | exact q_tuple_bool | exact q_tuple_tuple | exact q_tuple_list | exact q_tuple_str
  | exact nb_t (by contradiction)
  | exact nb_f (by contradiction))
local macro_rules | `(tactic| and_intros) => `(tactic| repeat (first
  | refine ⟨_, rfl, ?_⟩
  | refine ⟨_, _, rfl, rfl, ?_⟩
  | refine ⟨rfl, ?_⟩
  | refine ⟨_, _, _, _, rfl, rfl, SqT.of (by trivial), at_ix (by decide) rfl, ?_⟩
  | refine ⟨_, _, _, _, rfl, rfl, SqL.of (by trivial), at_ix (by decide) rfl, ?_⟩
  | refine ⟨_, _, rfl, Or.inl (SqL.of (by trivial)), ?_⟩
  | refine ⟨_, _, rfl, Or.inr (SqT.of (by trivial)), ?_⟩
  | refine ⟨_, _, _, _, _, rfl, (by trivial), (by trivial), (by trivial), rfl, ?_⟩
  | refine ⟨_, _, _, _, _, rfl, ClsV.ty _, Ty.x (by ac_rfl), isI_tuple (by ac_rfl), ?_⟩
  | refine ⟨_, _, _, _, _, rfl, ClsV.ty _, Ty.x (by ac_rfl), isI_list (by ac_rfl), ?_⟩
  | refine ⟨_, _, _, _, _, rfl, ClsV.ty _, Ty.x (by ac_rfl), isI_int (by ac_rfl), ?_⟩
  | refine ⟨_, _, _, _, _, rfl, ClsV.ty _, Ty.x (by ac_rfl), isI_bool (by ac_rfl), ?_⟩
  | refine ⟨_, _, _, _, _, rfl, ClsV.ty _, Ty.x (by ac_rfl), isI_str (by ac_rfl), ?_⟩
  | refine ⟨sz (Nat.le_of_ble_eq_true rfl), ?_⟩
  | refine ⟨Or.inl ⟨rfl, _, SqL.of (by trivial)⟩, ?_⟩
  | refine ⟨_, _, rfl, SqT.of (by trivial), rfl, _, _, rfl, _, _, rfl, _, _, rfl, _, _, rfl, rfl, ?_⟩
  | refine ⟨_, _, rfl, SqT.of (by trivial), rfl, _, _, rfl, _, _, rfl, _, _, rfl, rfl, ?_⟩
  | refine ⟨_, _, rfl, SqT.of (by trivial), rfl, _, _, rfl, _, _, rfl, rfl, ?_⟩
  | refine ⟨_, _, _, _, rfl, (by with_reducible assumption : Wd _ _ _ _), (by first | decide | omega), (by first | decide | omega), ?_⟩
  | refine ⟨_, _, _, rfl, (by with_reducible assumption : Wd _ _ _ _), ?_⟩
  | refine iT (by contradiction) ?_
  | refine iF (by contradiction) ?_))
-- USE RD
section
variable {P : Program} {w : World} {K : PySem.W.Frag} {mg : Str → Option Value} {base : Heap}
/-- len(world) -/
def spLenW (T : Txt P K mg) : Sp := fun vs H Q _ => ∃ (a l : Addr) (ps : List (Str × Int)), vs = [.ref a] ∧ WoA T H a l ps ∧ Q (.int ps.length) H
theorem ok_world_len (T : Txt P K mg) {k : Nat} : FnR P w K mg base CX0 (k + 1) T.World_len.f (spLenW T) := by
  refine toR (T.World_len.F.ok (k := k) sc_World_len (fun vs H Q E h => ?_) (fun cdv A outer s H vs Q E hr h => ?_)) T.World_len.b
  · obtain ⟨a, l, ps, rfl, _⟩ := h
    rfl
  · obtain ⟨a, l, ps, rfl, ⟨dx, us, h1, h2, h3⟩, q⟩ := h
    refine ⟨_, (pss_one (ps_ret (pe_callB call_len_seq (by rfl) T.n_len PySem.boot_len (pa_cons (pe_fld (pv 0) rfl) pa_nil)))), ?_⟩
    refine ⟨.ref a, rfl, a, _, dx, _, _, rfl, h1, T.o_World.cl, T.n_World_pairs, rfl, _, us, rfl, .inl (SqL.of h2), ?_⟩
    rw [h3.1]
    exact q
end
end Pl

namespace Pl
open PySem L2
section
variable {P : Program} {w : World} {K : PySem.W.Frag} {mg : Str → Option Value} {base : Heap}
theorem dstr {a b : Str} : decide (V.str a = V.str b) = decide (a = b) := by
  by_cases h : a = b
  · subst h; simp
  · have : ¬ V.str a = V.str b := fun z => h (V.str.inj z)
    simp [h, this]
def rowF (H : Hp) (z : Str) : V → Option V
  | .ref t => match H t with
    | some (.tup [.str s, .int m]) => if s = z then some (.int m) else none
    | _ => none
  | _ => none
theorem rowF_all {H : Hp} {z : Str} : ∀ {vs : List V} {ps : List (Str × Int)}, PrsAt H vs ps → vs.filterMap (rowF H z) = (rowsOf ps z).map V.int
  | [], [], _ => rfl
  | v :: vs, p :: ps, h => by
    obtain ⟨t, e1, e2⟩ := h.2 0 p rfl
    cases e1
    have ih := rowF_all (z := z) (vs := vs) (ps := ps) ⟨Nat.succ.inj h.1, fun i q e => h.2 (i + 1) q e⟩
    unfold rowsOf at ih ⊢
    rw [List.filterMap_cons, List.filter_cons]
    have e3 : rowF H z (.ref t) = if p.1 = z then some (.int p.2) else none := by
      simp only [rowF, e2]
    rw [e3]
    by_cases hz : p.1 = z
    · rw [if_pos hz, if_pos (decide_eq_true hz), List.map_cons, List.map_cons, ih]
    · rw [if_neg hz, if_neg (by simp [hz]), ih]
  | [], _ :: _, h => nomatch h.1
  | _ :: _, [], h => nomatch h.1
/-- world[name] -/
def spGetItem (T : Txt P K mg) : Sp := fun vs H Q _ => ∃ (a l : Addr) (z : Str) (ps : List (Str × Int)), vs = [.ref a, .str z] ∧ WoA T H a l ps ∧ goodName z ∧ ps.length ≤ 1000 ∧ ∀ r H', Same H H' → H r = none → H' r = some (.lst ((rowsOf ps z).map V.int)) → Q (.ref r) H'
theorem ok_getitem (T : Txt P K mg) {k : Nat} : FnR P w K mg base CX0 (k + 3) T.World_getitem.f (spGetItem T) := by
  have G_check_name : FnOk P w K mg base CX0 (k + 2) T.check_name.f T.check_name.fd ["name"] spCkName := ok_check_name T
  refine toR (T.World_getitem.F.ok (k := k + 2) sc_World_getitem (fun vs H Q E h => ?_) (fun cdv A outer s H vs Q E hr h => ?_)) T.World_getitem.b
  · obtain ⟨a, l, z, ps, rfl, _⟩ := h
    rfl
  · obtain ⟨a, l, z, ps, rfl, hw, hz, hl, q⟩ := h
    refine ⟨_, (pss_cons (ps_expr (pe_call G_check_name (hr.mono (by omega)) (by rfl) T.check_name.g T.check_name.F.kp T.check_name.b .nil pass0 (pa_cons (pv 1) pa_nil)))
  (pss_one (ps_ret (pe_lc (own := [("stream", 2), ("moment", 3)]) (g := gTup K 2 (gCons (gName 2) (gCons (gName 3) gNil))) (tt := (tTest (tOp _ (tVar 2) (tVar 1)))) (te := (tVar 3)) rfl sc_World_getitem.nd (pi_list (pe_fld (pv 0) rfl)) (blkOk_by (own := [("stream", 2), ("moment", 3)]) (N := N_World_getitem) (sc := defScope s_World_getitem) (by decide +kernel)) (fun _ _ _ _ _ => (pg_tup rfl (pgs_cons (pg_name (i := 2) sc_World_getitem.nd rfl (.inl rfl)) (pgs_cons (pg_name (i := 3) sc_World_getitem.nd rfl (.inl rfl)) pgs_nil)))) (fun _ _ _ _ _ => (pts_one (pt_cmpR op_eq (pv 2) (pv 1) (nomark _)))) (fun _ _ _ _ _ => (pv 3)))))), ?_⟩
    refine ⟨.str z, rfl, z, rfl, hz, fun H1 s1 => ?_⟩
    obtain ⟨dx, vs, h1, h2, h3⟩ := hw.same s1
    refine ⟨.ref a, rfl, a, _, dx, _, _, rfl, h1, T.o_World.cl, T.n_World_pairs, rfl, l, rfl, ⟨_, SqL.of h2⟩, fun D hD => ?_⟩
    refine lc_pure (K := K) (a := l) (xs := vs) (rowF H1 z) (SqL.of h2) hD (by rw [h3.1]; omega) (fun x H2 N N' hx s2 n1 n2 => ?_) (fun H2 s2 hD2 => ?_)
    · obtain ⟨i, hi⟩ := List.mem_iff_getElem?.mp hx
      have hip : i < ps.length := by rw [← h3.1]; exact (List.getElem?_eq_some_iff.mp hi).1
      obtain ⟨t, e1, e2⟩ := h3.2 i ps[i] (List.getElem?_eq_getElem hip)
      rw [hi] at e1
      cases e1
      refine ⟨t, _, rfl, SqT.of (s2 _ _ e2), rfl, ?_⟩
      refine ⟨_, _, rfl, _, _, rfl, ?_⟩
      refine ⟨rfl, rfl, ?_⟩
      refine ⟨_, rfl, _, rfl, rfl, _, rfl, ?_⟩
      have e3 : rowF H1 z (.ref t) = if ps[i].1 = z then some (.int ps[i].2) else none := by simp only [rowF, e2]
      rw [dstr]
      by_cases hz : ps[i].1 = z
      · rw [if_pos hz] at e3
        exact iT (decide_eq_true hz) ⟨_, rfl, n1 _ _ (Same.refl _) e3⟩
      · rw [if_neg hz] at e3
        exact iF (decide_eq_false hz) (n2 _ (Same.refl _) e3)
    · rw [rowF_all h3] at hD2
      exact q D H2 (s1.trans s2) (s1.free hD) hD2
end
end Pl

namespace Pl
open PySem L2
local macro_rules | `(tactic| infer_instance) => `(tactic| first
  | with_reducible assumption
  | with_reducible exact Same.refl _
  | exact Wd.gh (by with_reducible assumption)
  | exact sm2 (by with_reducible assumption) (by infer_instance)
  | exact sm2 (same_upd (by with_reducible assumption)) (by infer_instance)
  | exact sm2 (Wd.gh (by with_reducible assumption)) (by infer_instance))
local macro_rules | `(tactic| trivial) => `(tactic| first
  | with_reducible assumption
  | with_reducible exact upd_same
  | exact at_same (by with_reducible assumption) (by trivial)
  | exact at_same (same_upd (by with_reducible assumption)) (by trivial)
  | exact at_same (Wd.gh (by with_reducible assumption)) (by trivial))
local macro_rules | `(tactic| ac_rfl) => `(tactic| first
  | exact Ty.int _
  | exact Ty.str _
  | exact Ty.non
  | exact Ty.bl _
  | exact Ty.tup (by trivial)
  | exact Ty.lst (by trivial))
local macro_rules | `(tactic| contradiction) => `(tactic| first
  | exact rfl
  | exact decide_eq_true (by first | assumption | omega)
  | exact decide_eq_false (by first | assumption | omega)
  | exact dI_t (by first | assumption | omega)
  | exact dI_f (by first | assumption | omega)
  | exact dS_t (by first | assumption | decide)
  | exact dS_f (by first | assumption | decide)
  | exact nI_t (by first | assumption | omega)
  | exact nI_f (by first | assumption | omega)
  | exact nS_t (by first | assumption | decide)
  | exact nS_f (by first | assumption | decide)
  | assumption
  | exact q_none_int | exact q_none_bool | exact q_none_tuple | exact q_none_list | exact q_none_str | exact q_bool_int | exact q_bool_bool | exact q_bool_tuple | exact q_bool_list | exact q_bool_str | exact q_int_int | exact q_int_bool | exact q_int_tuple | exact q_int_list | exact q_int_str | exact q_str_int | exact q_str_bool | exact q_str_tuple | exact q_str_list | exact q_str_str | exact q_list_int | exact q_list_bool | exact q_list_tuple | exact q_list_list | exact q_list_str | exact q_tuple_int | exact q_tuple_bool | exact q_tuple_tuple | exact q_tuple_list | exact q_tuple_str
  | exact nb_t (by contradiction)
  | exact nb_f (by contradiction))
local macro_rules | `(tactic| and_intros) => `(tactic| repeat (first
  | refine ⟨_, rfl, ?_⟩
  | refine ⟨_, _, rfl, rfl, ?_⟩
  | refine ⟨rfl, ?_⟩
  | refine ⟨_, _, _, _, rfl, rfl, SqT.of (by trivial), at_ix (by decide) rfl, ?_⟩
  | refine ⟨_, _, _, _, rfl, rfl, SqL.of (by trivial), at_ix (by decide) rfl, ?_⟩
  | refine ⟨_, _, rfl, Or.inl (SqL.of (by trivial)), ?_⟩
  | refine ⟨_, _, rfl, Or.inr (SqT.of (by trivial)), ?_⟩
  | refine ⟨_, _, _, _, _, rfl, (by trivial), (by trivial), (by trivial), rfl, ?_⟩
  | refine ⟨_, _, _, _, _, rfl, ClsV.ty _, Ty.x (by ac_rfl), isI_tuple (by ac_rfl), ?_⟩
  | refine ⟨_, _, _, _, _, rfl, ClsV.ty _, Ty.x (by ac_rfl), isI_list (by ac_rfl), ?_⟩
  | refine ⟨_, _, _, _, _, rfl, ClsV.ty _, Ty.x (by ac_rfl), isI_int (by ac_rfl), ?_⟩
  | refine ⟨_, _, _, _, _, rfl, ClsV.ty _, Ty.x (by ac_rfl), isI_bool (by ac_rfl), ?_⟩
  | refine ⟨_, _, _, _, _, rfl, ClsV.ty _, Ty.x (by ac_rfl), isI_str (by ac_rfl), ?_⟩
  | refine ⟨sz (Nat.le_of_ble_eq_true rfl), ?_⟩
  | refine ⟨Or.inl ⟨rfl, _, SqL.of (by trivial)⟩, ?_⟩
  | refine ⟨_, _, rfl, SqT.of (by trivial), rfl, _, _, rfl, _, _, rfl, _, _, rfl, _, _, rfl, rfl, ?_⟩
  | refine ⟨_, _, rfl, SqT.of (by trivial), rfl, _, _, rfl, _, _, rfl, _, _, rfl, rfl, ?_⟩
  | refine ⟨_, _, rfl, SqT.of (by trivial), rfl, _, _, rfl, _, _, rfl, rfl, ?_⟩
  | refine ⟨_, _, _, _, rfl, (by with_reducible assumption : Wd _ _ _ _), (by first | decide | omega), (by first | decide | omega), ?_⟩
  | refine ⟨_, _, _, rfl, (by with_reducible assumption : Wd _ _ _ _), ?_⟩
  | refine iT (by contradiction) ?_
  | refine iF (by contradiction) ?_))
-- USE RD
section
variable {P : Program} {w : World} {K : PySem.W.Frag} {mg : Str → Option Value} {base : Heap}
def pairD (p : Str × Int) : PyData := .tuple [.str p.1, .int p.2]
theorem dp_pair {H : Hp} {t : Addr} {p : Str × Int} (h : H t = some (.tup [.str p.1, .int p.2])) : Dp K H (.ref t) (pairD p) := .tup (SqT.of h) (.cons (.str _) (.cons (.int _) .nil))
theorem dp_pairs {H : Hp} : ∀ {us : List V} {ps : List (Str × Int)}, PrsAt H us ps → DpAll K H us (ps.map pairD)
  | [], [], _ => .nil
  | u :: us, p :: ps, h => by
    obtain ⟨t, e1, e2⟩ := h.2 0 p rfl
    cases e1
    exact .cons (dp_pair e2) (dp_pairs ⟨Nat.succ.inj h.1, fun i q e => h.2 (i + 1) q e⟩)
  | [], _ :: _, h => nomatch h.1
  | _ :: _, [], h => nomatch h.1
theorem pair_eqv (p q : Str × Int) : PyData.eqv (pairD p) (pairD q) = decide (p = q) := by
  obtain ⟨a, b⟩ := p
  obtain ⟨c, d⟩ := q
  simp only [pairD, PyData.eqv, PyData.eqvAll, Bool.and_true]
  by_cases h1 : a = c
  · subst h1
    by_cases h2 : b = d
    · subst h2; simp
    · simp [h2]
  · simp [h1]
theorem name_ok {z : Str} (h : goodName z) : PyData.strOk z = true := by
  unfold PyData.strOk
  rw [Array.all_eq_true]
  intro i hi
  have hm : z.cps[i] ∈ letters.cps.toList := h.2.2 _ (Array.mem_toList_iff.mpr (Array.getElem_mem hi))
  have hall : ∀ c ∈ letters.cps.toList, decide (c < 0x110000) = true := by decide +kernel
  exact hall _ hm
theorem pairs_lay {ps : List (Str × Int)} (h : ∀ p ∈ ps, goodName p.1) : PyData.canLayAll0 (ps.map pairD) = true ∧ PyData.depthAll (ps.map pairD) ≤ 1 := by
  induction ps with
  | nil => simp [PyData.canLayAll0, PyData.depthAll]
  | cons p ps ih =>
    obtain ⟨i1, i2⟩ := ih fun q hq => h q (List.mem_cons_of_mem _ hq)
    have e := name_ok (h p List.mem_cons_self)
    constructor
    · simp [pairD, PyData.canLayAll0, PyData.canLay0, e, i1]
    · have e1 : (pairD p).depth = 1 := by simp [pairD, PyData.depth, PyData.depthAll]
      rw [List.map_cons, PyData.depthAll, e1]
      omega
theorem pair_shaped {p : Str × Int} (h : goodName p.1) : SeqAt.shaped (pairD p) = true := by
  have e := name_ok h
  simp [SeqAt.shaped, pairD, PyData.canLay0, PyData.canLayAll0, e, PyData.depth, PyData.depthAll]
theorem pairs_shaped {ps : List (Str × Int)} (h : ∀ p ∈ ps, goodName p.1) : SeqAt.shaped (.list (ps.map pairD)) = true := by
  obtain ⟨i1, i2⟩ := pairs_lay h
  simp only [SeqAt.shaped, PyData.canLay0, i1, PyData.depth, Bool.true_and, decide_eq_true_eq]
  refine decide_eq_true ?_
  omega
theorem any_pair (p : Str × Int) (ps : List (Str × Int)) : ((ps.map pairD).any fun z => PyData.eqv z (pairD p)) = decide (p ∈ ps) := by
  induction ps with
  | nil => simp
  | cons q ps ih =>
    rw [List.map_cons, List.any_cons, ih, pair_eqv]
    by_cases h : q = p
    · subst h; simp
    · have h' : ¬ p = q := fun e => h e.symm
      simp [h, h', List.mem_cons]
theorem rowsOf_nd {ps : List (Str × Int)} (h : ps.Nodup) {m : Nat} (hl : ps.length ≤ m) (z : Str) : (rowsOf ps z).Nodup ∧ (rowsOf ps z).length ≤ m := by
  constructor
  · unfold rowsOf
    rw [List.nodup_iff_pairwise_ne, List.pairwise_map]
    refine (List.Pairwise.and_mem.mp (h.filter _)).imp ?_
    rintro a b ⟨ha, hb, hab⟩ e
    have e1 : a.1 = z := of_decide_eq_true (List.mem_filter.mp ha).2
    have e2 : b.1 = z := of_decide_eq_true (List.mem_filter.mp hb).2
    exact hab (Prod.ext (e1.trans e2.symm) e)
  · unfold rowsOf
    rw [List.length_map]
    exact Nat.le_trans (List.length_filter_le _ _) hl
theorem str_mem {zs : List Str} {i : Int} (h0 : 0 ≤ i) (h1 : i < zs.length) : ∃ z ∈ zs, atI (zs.map V.str) i = some (.str z) := by
  have hl : i.toNat < zs.length := by omega
  exact ⟨zs[i.toNat], List.getElem_mem hl, at_ix h0 (by rw [List.getElem?_map, List.getElem?_eq_getElem hl]; rfl)⟩
theorem PrsAt.snoc {H : Hp} {vs : List V} {ps : List (Str × Int)} {t : Addr} {p : Str × Int} (h : PrsAt H vs ps) (ht : H t = some (.tup [.str p.1, .int p.2])) : PrsAt H (vs ++ [.ref t]) (ps ++ [p]) :=
  h.app ⟨rfl, fun i q e => by
    cases i with
    | zero => cases e; exact ⟨t, rfl, ht⟩
    | succ i => simp at e⟩
end
end Pl

set_option Elab.async false
set_option linter.all false
set_option maxRecDepth 100000
set_option maxHeartbeats 4000000
/-! set(xs) of a list, for any kind of members; sets of texts, sorted. -/
namespace Pl
open PySem PySem.Spec PyProof.Rows L2
section
variable {P : Program} {w : World} {A : Around} {E : Value → Shared → Prop} {s : Shared}
/-- the fresh set -/
abbrev freshSet (w : World) : Obj := { cls := .type "set", dict := none, data := .set #[] 0 (.fresh 0 0 (!w.params.followText "set-order")) }
/-- a set that is being filled at S, J i: what holds behind i members; h0 stays -/
structure Fills (P : Program) (w : World) (S : Addr) (h0 : Heap) (n : Nat) (Pv : Nat → Value → Prop) (A : Around) (J : Nat → Heap → Prop) : Prop where
  fr : ∀ i h h', J i h → (∀ o, h.get? S = some o → h'.get? S = some o) → (∀ b o, h0.get? b = some o → h'.get? b = some o) → J i h'
  add : ∀ (i : Nat) (v : Value) (s : Shared) (Q : Bool → Shared → Prop) (E : Value → Shared → Prop), i < n → Pv i v → J i s.heap → (∀ b o, h0.get? b = some o → s.heap.get? b = some o) →
    (∀ b h' tk, s.toks ≤ tk → Heap.SameBut S s.heap h' → J (i + 1) h' → Q b { s with heap := h', toks := tk }) → wpAny (model P w) A (setAdd S v) Q E s
theorem set_loop {I : Addr} {fp wr : List Addr} {G : Array GenState → Array GenState → Prop} {n : Nat} {Pv : Nat → Value → Prop} {St : Nat → Shared → Prop} {R : Result → Shared → Prop} {J : Nat → Heap → Prop} {S : Addr} {h0 : Heap}
    (W : WalksS P w A.in1 I fp wr G n Pv St) (FI : Fills P w S h0 n Pv A.in1 J) (hSf : S ∉ fp) (hS0 : h0.get? S = none) (hw0 : ∀ b ∈ wr, h0.get? b = none) :
    ∀ (k i : Nat) (s : Shared), n - i = k → i ≤ n → St i s → (∀ b o, h0.get? b = some o → s.heap.get? b = some o) → J i s.heap →
      (∀ s', Moved (S :: wr) G s s' → J n s'.heap → (∀ b o, h0.get? b = some o → s'.heap.get? b = some o) → R (.ok (.ret .none)) s') →
      codeAny (model P w) A (.builtin "set.update.loop" ⟨[.ref S, .ref I], []⟩) R s := by
  have nS : S ∉ wr := fun h => hSf (W.sub _ h)
  have inc : ∀ b ∈ wr, b ∈ S :: wr := fun b hb => List.mem_cons_of_mem _ hb
  have stay : ∀ {s s' : Shared}, Moved wr G s s' → (∀ b o, h0.get? b = some o → s.heap.get? b = some o) → ∀ b o, h0.get? b = some o → s'.heap.get? b = some o := fun m kp b o e =>
    m.heap b o (fun hb => by rw [hw0 b hb] at e; cases e) (kp b o e)
  intro k
  induction k with
  | zero =>
    intro i s hk hi hst kp j hR
    obtain rfl : i = n := by omega
    refine codeAny_builtin PyProof.Rows.F.entry_set_update_loop ?_
    rw [Around.under_plainId PyProof.Rows.F.plain_set_update_loop _]
    show wpAny _ A.in1 (pyNext (.ref I) >>= _) _ _ s
    refine wpAny_bind (W.done s _ _ hst fun s' m => ?_)
    show wpAny _ A.in1 (ret Value.none) _ _ s'
    have kp' := stay m kp
    exact wpAny_pure (hR s' (m.mono inc) (FI.fr _ _ _ j (fun o e => m.heap S o nS e) kp') kp')
  | succ k ih =>
    intro i s hk hi hst kp j hR
    have hlt : i < n := by omega
    refine codeAny_builtin PyProof.Rows.F.entry_set_update_loop ?_
    rw [Around.under_plainId PyProof.Rows.F.plain_set_update_loop _]
    show wpAny _ A.in1 (pyNext (.ref I) >>= _) _ _ s
    refine wpAny_bind (W.item i s _ _ hlt hst fun v s' hP hst' m => ?_)
    have kp' := stay m kp
    have j' : J i s'.heap := FI.fr _ _ _ j (fun o e => m.heap S o nS e) kp'
    show wpAny _ A.in1 (holding [v] (setAdd S v) >>= _) _ _ s'
    refine wpAny_bind (wpAny_holding ?_)
    refine FI.add i v s' _ _ hlt hP j' kp' fun b h' tk htk sb j2 => ?_
    have kp2 : ∀ b o, h0.get? b = some o → h'.get? b = some o := fun b o e => (sb.2 b (fun z => by rw [z, hS0] at e; cases e)).trans (kp' b o e)
    refine wpAny_pure ⟨plainId_quiet PyProof.Rows.F.plain_set_update_loop _, ih (i + 1) _ (by omega) hlt (W.frame _ s' _ _ hst' htk fun b hb o e => ?_) kp2 j2 fun s'' m'' jn kp'' => ?_⟩
    · rw [sb.2 b (fun h : b = S => hSf (by rw [← h]; exact hb))]
      exact e
    · refine hR s'' (Moved.trans W.gtrans ((m.mono inc).then_heap htk fun b o hb e => ?_) m'') jn kp''
      rw [sb.2 b (fun h : b = S => hb (by rw [h]; exact List.mem_cons_self))]
      exact e
/-- set(xs) -/
theorem set_of_list {l : Addr} {items : Array Value} {J : Nat → Heap → Prop} {Q : Value → Shared → Prop} (hh : A.handled = none) (hl : s.heap.IsList l items)
    (FI : ∀ A' : Around, A'.handled = none → A'.units ≤ A.units + 3 → Fills P w s.heap.objs.size s.heap items.size (fun i v => items[i]? = some v) A' J) (J0 : ∀ h, h.get? s.heap.objs.size = some (freshSet w) → (∀ b o, s.heap.get? b = some o → h.get? b = some o) → J 0 h)
    (h : ∀ (h' : Heap) (tk : Nat), J items.size h' → (∀ b o, s.heap.get? b = some o → h'.get? b = some o) → Q (.ref s.heap.objs.size) { s with heap := h', toks := tk }) :
    wpAny (model P w) A (call (.type "set") [.ref l]) Q E s := by
  obtain ⟨c, tl, hmro⟩ := PySem.F.called_set.mro
  have hmade := PySem.F.called_set.made
  have hsub := PySem.F.called_set.sub
  refine wpAny_call (codeAny_of_tree ?_)
  show wpAny _ _ (callAny (.type "set") _) _ _ _
  refine wpAny_pure ⟨Code.quiet_builtin _ (by decide +kernel), codeAny_builtin PySem.F.entry_type_call ?_⟩
  rw [Around.under_plain (weight_type_call_type "set" [.ref l] []) rfl]
  have h1 := PySem.F.called_set.notType
  have h2 := PySem.F.called_set.canCreate
  have hct := PySem.F.typeCall_set_1 (.ref l)
  repeat (any_goals (first | assumption | wp_step))
  refine codeAny_mono (code_set_led1 (.ref l) (E := E) (Q₁ := fun obj s₁ => obj = .ref s.heap.objs.size ∧ s₁ = { s with heap := s.heap.push (freshSet w) }) ⟨rfl, rfl⟩) fun r s₁ hr => ?_
  cases r with
  | error e => exact hr
  | ok fl =>
    cases fl with
    | ret obj =>
      obtain ⟨rfl, rfl⟩ := hr
      have hS : (s.heap.push (freshSet w)).get? s.heap.objs.size = some (freshSet w) := Heap.get?_push_size _ rfl
      have hT : Shared.TypeIs { s with heap := s.heap.push (freshSet w) } (.ref s.heap.objs.size) "set" := ⟨_, hS, rfl⟩
      have hli := PySem.F.called_set.init.lookup
      have hbi := PySem.F.called_set.init.bind (.ref s.heap.objs.size)
      repeat (any_goals (first | assumption | wp_step))
      refine codeAny_mono (codeAny_call_builtin (R := wants (fun r s₂ => r = .none ∧ ∃ h' tk, s₂ = { s with heap := h', toks := tk } ∧ J items.size h' ∧ (∀ b o, s.heap.get? b = some o → h'.get? b = some o)) E) PySem.F.called_set.init.plain PySem.F.entry_set_init (check_set_init_1 hT ?_)) fun r₂ s₂ hr₂ => ?_
      · obtain ⟨ol, hol, hcl, nl, hdl⟩ := hl
        obtain ⟨ocls, odict, odata, oslots⟩ := ol
        simp only at hcl hdl
        subst hcl; subst hdl
        have hol' : (s.heap.push (freshSet w)).get? l = some { cls := .type "list", dict := odict, data := .seq items nl, slots := oslots } := Heap.get?_push_of_some _ hol
        have hsls := PySem.F.sub_list_set
        have hslf := PySem.F.sub_list_frozenset
        have hne : (Value.type "list" == Value.type "dict") = false := by decide
        have hl1 : (s.heap.push (freshSet w)).IsList l items := ⟨_, hol', rfl, nl, rfl⟩
        unfold Builtin.«set.__init__» noKeywords Builtin.Frozenset.updateFrom
        generalize hPI : pyIter = PI
        wp_walk
        subst hPI
        refine wpAny_pyIter_list hl1 ?_
        refine wpAny_bind (wpAny_runValue ?_)
        have hlS : l < s.heap.objs.size := Heap.lt_size hol
        have hh3 : A.in1.in1.in1.handled = none := by simp [hh]
        have hneI : l ≠ (s.heap.push (freshSet w)).objs.size := by
          rw [Heap.size_push]
          exact Nat.ne_of_lt (Nat.lt_succ_of_lt hlS)
        have hSf : s.heap.objs.size ∉ [(s.heap.push (freshSet w)).objs.size, l] := by
          rw [Heap.size_push]
          simp only [List.mem_cons, List.mem_singleton, List.not_mem_nil, or_false, not_or]
          exact ⟨Nat.ne_of_lt (Nat.lt_succ_self _), Nat.ne_of_gt hlS⟩
        have none_of : ∀ b, s.heap.objs.size ≤ b → s.heap.get? b = none := fun b hb => by
          cases q : s.heap.get? b with
          | none => rfl
          | some o => exact absurd (Nat.lt_of_lt_of_le (Heap.lt_size q) hb) (Nat.lt_irrefl _)
        refine set_loop ((Walks.list hh3 _ l hneI items).toS) (FI _ hh3 (by first | exact Nat.le_refl _ | (simp [Around.in1]; done) | exact Nat.le_refl (A.units + 3))) hSf (none_of _ (Nat.le_refl _)) (fun b hb => none_of b (by
            rw [List.mem_singleton.mp hb, Heap.size_push]
            exact Nat.le_succ _)) (items.size - 0) 0 _ (by omega) (Nat.zero_le _)
          ⟨⟨_, Heap.get?_push_size _ rfl, rfl, rfl⟩, (hl1.push _)⟩ (fun b o e => Heap.get?_push_of_some _ (Heap.get?_push_of_some _ e)) (J0 _ (Heap.get?_push_of_some _ hS) fun b o e => Heap.get?_push_of_some _ (Heap.get?_push_of_some _ e)) fun s' m jn kp => ?_
        obtain ⟨h', g2, d', tk', os'⟩ := s'
        have eg : g2 = s.gens := m.gens
        have ed : d' = s.drawn := m.drawn
        have eo : os' = s.os := m.os
        subst eg; subst ed; subst eo
        show wpAny _ _ _ _ _ _
        refine wpAny_pure ?_
        show wpAny _ _ (ret Value.none) _ _ _
        exact wpAny_pure ⟨rfl, h', tk', rfl, jn, kp⟩
      · cases r₂ with
        | error e => exact hr₂
        | ok fl₂ =>
          cases fl₂ with
          | ret r =>
            obtain ⟨rfl, h', tk, rfl, jn, kp⟩ := hr₂
            repeat (any_goals (first | assumption | wp_step))
            exact h _ _ jn kp
          | _ => exact hr₂.elim
    | _ => exact hr.elim
end
end Pl

set_option Elab.async false
set_option linter.all false
set_option maxRecDepth 100000
set_option maxHeartbeats 4000000
/-! sets of texts: filled from a list, sorted -/
namespace Pl
open PySem PySem.Spec PyProof.Rows L2
section
variable {P : Program} {w : World} {A : Around} {E : Value → Shared → Prop} {s : Shared} {a : Addr}
/-- the table can be walked -/
def LedOk (w : World) (t : SetTable) : Prop := w.params.followText "set-order" = true ∨ t.led = true
/-- a set's object: its rows, its table -/
structure SetSt (w : World) (h : Heap) (a : Addr) (es : Array (Int × Value)) : Prop where
  ex : ∃ o ep t, h.get? a = some o ∧ o.ExactSet ∧ o.data = .set es ep t ∧ t.fits es.size = true ∧ Ris t.place.toList ∧ LedOk w t
theorem SetSt.at {h h' : Heap} {es : Array (Int × Value)} (R : SetSt w h a es) (k : ∀ o, h.get? a = some o → h'.get? a = some o) : SetSt w h' a es := by
  obtain ⟨o, ep, t, ho, r⟩ := R
  exact ⟨o, ep, t, k o ho, r⟩
theorem setSt_fresh {h : Heap} (ho : h.get? a = some (freshSet w)) : SetSt w h a #[] := ⟨_, 0, _, ho, ⟨rfl, rfl, rfl⟩, rfl, rfl, List.Pairwise.nil, by
    show _ ∨ (!w.params.followText "set-order") = true
    cases w.params.followText "set-order"
    · exact .inr rfl
    · exact .inl rfl⟩
theorem store_tail {g : Bool → Sem Unit} (hg : ∀ (b : Bool) (s₁ : Shared) (Q' : Unit → Shared → Prop), Q' () s₁ → wpAny (model P w) A (g b) Q' E s₁)
    {o : Obj} {es : Array (Int × Value)} {ep : Nat} {t : SetTable} (ho : s.heap.get? a = some o) (hex : o.ExactSet) (hd : o.data = .set es ep t)
    {es1 : Array (Int × Value)} {t2 : SetTable} (hb1 : es1.size < scanBound) (hf2 : t2.fits es1.size = true) (hr : Ris t2.place.toList) (hl : LedOk w t2) {wasDummy : Bool} {R : Option Bool → Shared → Prop}
    (hR : ∀ h' es', Heap.SameBut a s.heap h' → SetSt w h' a es' → es'.toList.Perm es1.toList → R (some true) { s with heap := h' }) :
    wpAny (model P w) A (do
        storeSet a es1 t2
        if (!wasDummy && t2.tooFull) = true then do
            g (relayAll t2 es1 (SetTable.grown es1.size)).2.2
            storeSet a (relayAll t2 es1 (SetTable.grown es1.size)).1 (relayAll t2 es1 (SetTable.grown es1.size)).2.1
            pure (some true)
          else pure (some true)) R E s := by
  refine wpAny_bind (wpAny_storeSet_of ho hd ?_ (fits_of_scanBound hb1))
  have ho1 := store_at (es' := es1) (t' := t2) ho hd
  have sb1 := Heap.SameBut.update s.heap a (Obj.putSet es1 t2)
  split
  · have pm := relayAll_perm t2 es1 (SetTable.grown es1.size)
    have q1 := relayAll_fits t2 es1 (SetTable.grown es1.size)
    have q2 := relayAll_ris t2 es1 (SetTable.grown es1.size)
    have q3 := relayAll_led t2 es1 (SetTable.grown es1.size)
    generalize relayAll t2 es1 (SetTable.grown es1.size) = Z at pm q1 q2 q3 ⊢
    obtain ⟨es2, t3, gave⟩ := Z
    dsimp only at pm q1 q2 q3 ⊢
    have hb2 : es2.size < scanBound := by rw [← Array.length_toList, pm.length_eq, Array.length_toList]; exact hb1
    refine wpAny_bind (hg _ _ _ (wpAny_bind (wpAny_storeSet_of ho1 rfl ?_ (fits_of_scanBound hb2))))
    have ho2 := store_at (es' := es2) (t' := t3) ho1 rfl
    exact wpAny_pure (hR _ es2 (sb1.trans (Heap.SameBut.update _ a _)) ⟨_, _, t3, ho2, hex, rfl, q1, q2, hl.imp id fun z => by rw [q3]; exact z⟩ pm)
  · exact wpAny_pure (hR _ es1 sb1 ⟨_, _, t2, ho1, hex, rfl, hf2, hr, hl⟩ (List.Perm.refl _))
/-- a member is added: it was there, or is new -/
theorem scan_add {K : Type} [DecidableEq K] [BEq K] [LawfulBEq K] {knd : KeyKind P w K} {k : K} {x : Value} {es : Array (Int × Value)} {Q : Bool → Shared → Prop} (hkey : knd.is k x = true) (hsc : x.scannable = true) (R : SetSt w s.heap a es) (hel : ElemsOf knd es.toList) (hb : es.size + 1 < scanBound)
    (hQ : ∀ b h' es', Heap.SameBut a s.heap h' → SetSt w h' a es' → ((∃ e ∈ es.toList, knd.is k e.2 = true) ∧ es' = es ∨ (∀ e ∈ es.toList, knd.is k e.2 = false) ∧ es'.toList.Perm ((knd.hash k, x) :: es.toList)) → Q b { s with heap := h' }) :
    wpAny (model P w) A (setAddHashed a x (knd.hash k)) Q E s := by
  obtain ⟨o, ep, t, ho, hex, hd, hf, hr, hl⟩ := R
  unfold setAddHashed setAddHashedIn
  refine wpAny_holding (wpAny_bind (wpAny_setState_of ho hd hf ?_))
  dsimp only
  rw [byScan_of hsc (by omega) hel]
  simp only [↓reduceIte]
  unfold setAddByScan
  refine wpAny_bind ?_
  refine wpAny_bind (wpAny_rule ?_)
  refine wpAny_bind (wpAny_setScan_of hkey ho hd hf hel ?_)
  cases hfi : List.findIdx? (fun e => knd.is k e.2) es.toList with
  | some j =>
    dsimp only
    obtain ⟨hj, pj, _⟩ := List.findIdx?_eq_some_iff_getElem.mp hfi
    refine wpAny_pure (wpAny_pure ?_)
    exact hQ _ s.heap es (Heap.SameBut.refl a s.heap) ⟨o, ep, t, ho, hex, hd, hf, hr, hl⟩ (.inl ⟨⟨_, List.getElem_mem hj, pj⟩, rfl⟩)
  | none =>
    dsimp only
    have hno := List.findIdx?_eq_none_iff.mp hfi
    have hgw : ∀ (b : Bool) {s₁ : Shared} {Q' : Unit → Shared → Prop}, Q' () s₁ → wpAny (model P w) A (match b with | true => rule "set.scan.the-table-gave-way" | false => pure ()) Q' E s₁ :=
      fun b s₁ Q' q => by cases b <;> first | exact wpAny_pure q | exact wpAny_rule q
    have pm := layNew_perm t es (knd.hash k) x
    have q1 := layNew_fits t es (knd.hash k) x
    have q2 := layNew_ris t es (knd.hash k) x hr
    have q3 := layNew_led t es (knd.hash k) x
    generalize layNew t es (knd.hash k) x = Z at pm q1 q2 q3 ⊢
    obtain ⟨es1, t1, wasDummy, gave⟩ := Z
    dsimp only at pm q1 q2 q3 ⊢
    rw [Array.toList_push] at pm
    have pc : es1.toList.Perm ((knd.hash k, x) :: es.toList) := pm.trans (List.perm_append_singleton _ _)
    have hb1 : es1.size < scanBound := by rw [← Array.length_toList, pc.length_eq, List.length_cons, Array.length_toList]; exact hb
    have hled : LedOk w t1 := hl.imp id fun z => by rw [q3]; exact z
    have fin : ∀ b h' es', Heap.SameBut a s.heap h' → SetSt w h' a es' → es'.toList.Perm es1.toList → Q b { s with heap := h' } := fun b h' es' sb r p => hQ b h' es' sb r (.inr ⟨fun e he => by
      have := hno e he
      simpa using this, p.trans pc⟩)
    refine wpAny_bind (hgw _ ?_)
    split
    · refine wpAny_bind ?_
      rw [hashByValue_scannable 8 hsc]
      refine wpAny_pure ?_
      refine store_tail ?_ ho hex hd hb1 ?_ ?_ ?_ ?_
      · intro b s₁ Q' q; cases b <;> first | exact wpAny_pure q | exact wpAny_rule q
      · first | (split <;> first | exact q1 | exact SetTable.fits_plain_off q1) | exact q1
      · first | (split <;> exact q2) | exact q2
      · first | (split <;> exact hled) | exact hled
      · intro h' es' sb r p; dsimp only; exact wpAny_pure (fin _ h' es' sb r p)
    · refine wpAny_bind (wpAny_pure ?_)
      simp only [↓reduceIte]
      refine store_tail ?_ ho hex hd hb1 q1 q2 hled ?_
      · intro b s₁ Q' q; cases b <;> first | exact wpAny_pure q | exact wpAny_rule q
      · intro h' es' sb r p; dsimp only; exact wpAny_pure (fin _ h' es' sb r p)
/-! ### texts -/
def skey (e : Int × Value) : Str := match e.2 with
  | .str z _ => z
  | _ => Str.empty
def GoodS (w : World) (e : Int × Value) : Prop := ∃ z tk, e.2 = Value.str z tk ∧ e.1 = hashStr w z
structure SetZ (w : World) (h : Heap) (a : Addr) (zs : List Str) (es : Array (Int × Value)) : Prop where
  st : SetSt w h a es
  gd : ∀ e ∈ es.toList, GoodS w e
  nd : (es.toList.map skey).Nodup
  mem : ∀ z, z ∈ es.toList.map skey ↔ z ∈ zs
  len : es.size ≤ zs.length
theorem goodS_elems {l : List (Int × Value)} (g : ∀ e ∈ l, GoodS w e) : ElemsOf (PySem.strKind P w) l := fun e he => by
  obtain ⟨k, tk, h1, h2⟩ := g e he
  exact ⟨⟨k, by rw [h1]; exact strKind_is P w k tk, h2⟩, by rw [h1] <;> rfl⟩
theorem goodS_is {e : Int × Value} (g : GoodS w e) (k : Str) : (PySem.strKind P w).is k e.2 = true ↔ skey e = k := by
  obtain ⟨k0, tk, h1, _⟩ := g
  unfold skey
  rw [h1]
  constructor
  · intro h
    exact (PySem.strKind P w).inj _ k0 k (strKind_is P w k0 tk) h
  · intro h
    subst h
    exact strKind_is P w k0 tk
theorem setZ_add {z : Str} {tk : Tok} {zs : List Str} {es : Array (Int × Value)} {Q : Bool → Shared → Prop} {E : Value → Shared → Prop} (R : SetZ w s.heap a zs es) (hb : zs.length + 1 < scanBound)
    (hQ : ∀ b h' tk' es', s.toks ≤ tk' → Heap.SameBut a s.heap h' → SetZ w h' a (zs ++ [z]) es' → Q b { s with heap := h', toks := tk' }) :
    wpAny (model P w) A (setAdd a (.str z tk)) Q E s := by
  unfold setAdd
  refine wpAny_holding ?_
  refine wpAny_bind ((PySem.strKind P w).pyHash (k := z) (strKind_is _ _ _ _) ?_)
  refine scan_add (s := { s with toks := s.toks + 1 }) (knd := PySem.strKind P w) (strKind_is _ _ _ _) rfl R.st (goodS_elems R.gd) (by have := R.len; omega) fun b h' es' sb st c => ?_
  refine hQ b h' _ es' (Nat.le_succ _) sb ?_
  have hl := R.len
  rcases c with ⟨⟨e, he, hi⟩, rfl⟩ | ⟨hno, pm⟩
  · have hz : z ∈ zs := (R.mem z).mp (List.mem_map.mpr ⟨e, he, (goodS_is (R.gd e he) z).mp hi⟩)
    refine ⟨st, R.gd, R.nd, fun y => ?_, by rw [List.length_append]; exact Nat.le_trans hl (Nat.le_add_right _ _)⟩
    rw [R.mem y, List.mem_append, List.mem_singleton]
    exact ⟨.inl, fun h => h.elim id fun h => h ▸ hz⟩
  · have pk : (es'.toList.map skey).Perm (z :: es.toList.map skey) := pm.map skey
    have hnz : z ∉ es.toList.map skey := fun h => by
      obtain ⟨e, he, hk⟩ := List.mem_map.mp h
      have := hno e he
      rw [(goodS_is (R.gd e he) z).mpr hk] at this
      cases this
    refine ⟨st, fun e he => ?_, pk.nodup_iff.mpr (List.nodup_cons.mpr ⟨hnz, R.nd⟩), fun y => ?_, ?_⟩
    · rcases List.mem_cons.mp (pm.mem_iff.mp he) with h | h
      · rw [h]; exact ⟨z, tk, rfl, rfl⟩
      · exact R.gd e h
    · rw [pk.mem_iff, List.mem_cons, List.mem_append, List.mem_singleton, R.mem y]
      exact Or.comm
    · have := pm.length_eq
      rw [List.length_cons, Array.length_toList, Array.length_toList] at this
      rw [List.length_append, List.length_singleton]
      omega
theorem setZ_fills {S : Addr} {h0 : Heap} {items : Array Value} {zs : List Str} (hz : StrsAre items.toList zs) (hb : zs.length < 4000) : Fills P w S h0 items.size (fun i v => items[i]? = some v) A (fun i h => ∃ es, SetZ w h S (zs.take i) es) where
  fr := fun i h h' ⟨es, R⟩ k _ => ⟨es, R.st.at k, R.gd, R.nd, R.mem, R.len⟩
  add := fun i v s Q E hi hv ⟨es, R⟩ _ hQ => by
    have hl : zs.length = items.size := by rw [← StrsAre.len_eq hz, Array.length_toList]
    obtain ⟨t, rfl⟩ := SS.strs_at hz i v (by rw [Array.getElem?_toList]; exact hv)
    have e : zs.take (i + 1) = zs.take i ++ [zs.getD i Str.empty] := by
      have hi' : i < zs.length := by omega
      rw [List.take_add_one, List.getElem?_eq_getElem hi']
      simp [List.getD, List.getElem?_eq_getElem hi']
    refine setZ_add R (by rw [List.length_take]; unfold scanBound; omega) fun b h' tk' es' h1 h2 h3 => hQ b h' tk' h1 h2 ⟨es', ?_⟩
    rw [e]
    exact h3
theorem nd_len {α : Type} [DecidableEq α] : ∀ (l D : List α), l.Nodup → (∀ x ∈ l, x ∈ D) → l.length ≤ D.length
  | [], _, _, _ => Nat.zero_le _
  | x :: l, D, hn, hs => by
    obtain ⟨h1, h2⟩ := List.nodup_cons.mp hn
    have hx : x ∈ D := hs x List.mem_cons_self
    have ih := nd_len l (D.erase x) h2 fun y hy => by
      have hne : y ≠ x := fun e => h1 (by rw [← e]; exact hy)
      exact (List.mem_erase_of_ne hne).2 (hs y (List.mem_cons_of_mem _ hy))
    have e := List.length_erase_of_mem hx
    have hp : 0 < D.length := List.length_pos_of_mem hx
    rw [List.length_cons]
    omega
def sv : Value → Str
  | .str z _ => z
  | _ => Str.empty
theorem each_sv : ∀ {vs : List Value}, (∀ v ∈ vs, ∃ z t, v = Value.str z t) → PySem.W.EachIs (fun v z => ∃ t, v = Value.str z t) vs (vs.map sv)
  | [], _ => .nil
  | v :: vs, h => by
    obtain ⟨z, t, rfl⟩ := h v List.mem_cons_self
    exact .cons ⟨t, rfl⟩ (each_sv fun u hu => h u (List.mem_cons_of_mem _ hu))
theorem strs_of_each : ∀ {vs : List Value} {zs : List Str}, PySem.W.EachIs (fun v z => ∃ t, v = Value.str z t) vs zs → Vals (zs.map V.str) vs
  | _, _, .nil => .nil
  | _, _, .cons ⟨t, e⟩ r => by
    subst e
    exact .cons ⟨t, rfl⟩ (strs_of_each r)
/-- sorted(found) -/
theorem sorted_setZ {zs : List Str} {es : Array (Int × Value)} {Q : Value → Shared → Prop} (R : SetZ w s.heap a zs es) (hh : A.handled = none) (hb : zs.length < 4000) (hu : A.units + 10 < cLine)
    (hQ : ∀ s' p (out : List Value) (c : Nat) (ys : List Str), (∀ b o, s.heap.get? b = some o → s'.heap.get? b = some o) → s'.gens = s.gens → s'.os = s.os → s.heap.objs.size ≤ p → s'.heap.get? p = some (seqObj "list" out.toArray c) →
      Vals (ys.map V.str) out → ys.Pairwise (fun x y => x.cps.toList ≤ y.cps.toList) → ys.Nodup → (∀ z, z ∈ ys ↔ z ∈ zs) → Q (.ref p) s') :
    wpAny (model P w) A (call (.builtin "sorted") [.ref a]) Q E s := by
  have hl0 := R.len
  obtain ⟨o, ep, t, ho, hex, hd, hf, hr, hl⟩ := R.st
  refine Calls.call_function_entry kind_sorted plain_sorted entry_sorted (args_sorted1 _) ?_
  unfold Builtin.«sorted»
  refine wpAny_bind (m := checkCount "sorted" 1 1 _) (wpAny_pure ?_)
  refine wpAny_bind (collect_set (A := A.in1) hh ⟨o, ho, hex.1, hd⟩ hf (by unfold scanBound; omega) hr hl fun s1 vs k1 hz g1 o1 pm => ?_)
  have hvl : vs.length = es.size := by rw [pm.length_eq, List.length_map, Array.length_toList]
  have hst : ∀ v ∈ vs, ∃ z t, v = Value.str z t := fun v hv => by
    obtain ⟨e, he, q⟩ := List.mem_map.mp (pm.mem_iff.mp hv)
    obtain ⟨z, tk, h1, _⟩ := R.gd e he
    exact ⟨z, tk, by rw [← q]; exact h1⟩
  have pk : (vs.map sv).Perm (es.toList.map skey) := by
    have q := pm.map sv
    rw [List.map_map] at q
    refine q.trans (List.Perm.of_eq (List.map_congr_left fun e he => ?_))
    obtain ⟨z, tk, h1, _⟩ := R.gd e he
    show sv e.2 = skey e
    unfold skey
    rw [h1]
    rfl
  refine wpAny_bind (wpAny_newList ?_ (by rw [hvl, sizeLine_eq]; omega))
  have hoL : (s1.heap.push (seqObj "list" vs.toArray 0)).get? s1.heap.objs.size = some (seqObj "list" vs.toArray 0) := Heap.get?_push_size _ rfl
  have eS := each_sv hst
  refine wpAny_bind (wpAny_holding (PySem.W.list_sort_data (s := { s1 with heap := s1.heap.push (seqObj "list" vs.toArray 0) }) (bs := vs.map sv) (enc := fun z => PyData.str z) hoL eS (eS.mono fun v z ⟨t, e⟩ => ⟨[], by rw [e]; exact .str _ _, by simp⟩) (PySem.W.AllAlike.of fun b b' => rfl) (PySem.W.Sortable.others fun b => ⟨nofun, nofun⟩) (by rw [List.length_map, hvl, sizeLine_eq]; omega) (fun b _ => ?_) fun out h1 h2 => ?_))
  · show A.in1.units + 1 + 0 < cLine
    have : A.in1.units = A.units + 1 := rfl
    omega
  · obtain ⟨c, hc⟩ := sortedHeap_at (vs := vs) (out := out.toArray) hoL
    have pn : ((vs.map sv).mergeSort (PySem.W.dataLe false fun z => PyData.str z)).Perm (es.toList.map skey) := (List.mergeSort_perm _ _).trans pk
    refine wpAny_pure ⟨_, rfl, hQ _ s1.heap.objs.size out c _ (fun b u e => ?_) g1 o1 hz hc (strs_of_each h2) ?_ (pn.nodup_iff.mpr R.nd) (fun z => by rw [pn.mem_iff, R.mem z])⟩
    · have q := k1 b u e
      have hlt := Heap.lt_size q
      show (sortedHeap (s1.heap.push (seqObj "list" vs.toArray 0)) s1.heap.objs.size vs out.toArray).get? b = some u
      rw [sortedHeap_old (Nat.ne_of_lt hlt) (by rw [size_push']; exact Nat.lt_succ_of_lt hlt)]
      exact Heap.get?_push_of_some _ q
    · have hle := PySem.W.dataLe_str (fun z : Str => z)
      have h3 := List.pairwise_mergeSort (le := PySem.W.dataLe false fun z : Str => PyData.str z) (fun x y z h1 h2 => by
        rw [hle] at h1 h2 ⊢
        exact decide_eq_true (List.le_trans (of_decide_eq_true h1) (of_decide_eq_true h2))) (fun x y => by
        rw [hle, Bool.or_eq_true]
        rcases List.le_total x.cps.toList y.cps.toList with h | h
        · exact .inl (decide_eq_true h)
        · exact .inr (decide_eq_true h)) (vs.map sv)
      exact h3.imp fun h => by
        rw [hle] at h
        exact of_decide_eq_true h
end
section
variable {X : Cx}
/-- sorted(set(xs)): a list of texts -/
def tSortSet (K : PySem.W.Frag) (ta : TE) : TE := fun σ H Q => ta σ H fun x H1 => ∃ (l : Addr) (zs : List Str), x = .ref l ∧ SqL K H1 l (zs.map V.str) ∧ zs.length < 4000 ∧
  ∀ (p : Addr) (ys : List Str), H1 p = none → ys.Pairwise (fun x y => x.cps.toList ≤ y.cps.toList) → ys.Nodup → (∀ z, z ∈ ys ↔ z ∈ zs) → Q (.ref p) (upd H1 p (.lst (ys.map V.str)))
theorem pe_sortSet {a : Expr} {ta : TE} {p p2 q pos : Pos} {k : Nat} (hc : X.calm = true) (hr : Room k X.A) (hg : Gl X "sorted") (hm : X.mg "sorted" = none) (hg2 : Gl X "set") (hm2 : X.mg "set" = none) (ha : PE X a ta)
    (na : starEach [a] X.env = (false, eval a X.env) :: starEach [] X.env := by rfl) : PE X (.Call (.Name "sorted" p) [.Call (.Name "set" p2) [a] [] q] [] pos) (tSortSet X.K ta) := by
  refine ⟨fun pins s σ H Q I h => ?_⟩
  have bso : bootBuiltins ("sorted" : Str) = some (.builtin "sorted") := by decide +kernel
  refine Call_ (ld_blt I hg hm bso ?_)
  refine PyProof.Rows.callWith_builtin1 (PyProof.Rows.args_cons ?_ rfl) rfl rfl
  refine Call_ (ld_blt I hg2 hm2 boot_set ?_)
  refine PyProof.Rows.callWith_type1 (PyProof.Rows.args_cons (thn (ha.run pins s σ H _ I h) fun v s1 ⟨x, H1, I1, r1, q1⟩ => PyProof.Rows.args_nil ?_) na) na rfl
  obtain ⟨l, zs, rfl, hq, hz, q1⟩ := q1
  cases r1
  obtain ⟨its, r, pl, _⟩ := I1.list hq
  have hS : StrsAre its.toArray.toList zs := by simpa using strsAre_of r
  have hlz : zs.length = its.toArray.size := by rw [List.size_toArray, ← r.length, List.length_map]
  have hd := I1.ok.hd hc
  refine set_of_list (J := fun i h => ∃ es, SetZ X.w h s1.heap.objs.size (zs.take i) es) hd pl.isList (fun A' _ _ => setZ_fills hS hz) (fun h hf _ => ⟨#[], setSt_fresh hf, fun e he => by simp at he, by simp, fun z => by simp, Nat.zero_le _⟩) fun h' tk ⟨es, R⟩ kp => ?_
  rw [← hlz, List.take_length] at R
  have I2 : Inv X pins σ H1 { s1 with heap := h', toks := tk } := I1.kept fun b o e => kp b o e
  refine PyProof.Rows.args_nil ?_
  have hun := hr.un
  refine sorted_setZ (s := { s1 with heap := h', toks := tk }) R hd hz (by omega) fun s' p out c ys k g o hp hg' hv hs hn hm' => ?_
  have hlen : (ys.map V.str).length ≤ sizeLine := by
    have h1 : ys.length ≤ zs.length := by
      exact nd_len ys zs hn fun z hz' => (hm' z).mp hz'
    rw [List.length_map, sizeLine_eq]
    omega
  have hfr : H1 p = none := I2.hok.fresh hp
  have J : Inv X pins σ (upd H1 p (.lst (ys.map V.str))) { ({ s1 with heap := h', toks := tk } : Shared) with heap := s'.heap, gens := s'.gens, drawn := s'.drawn, toks := s'.toks } :=
    I2.call (ch := []) (Un.laid k hp hfr) (I2.hok.laid k hp ⟨hlen, out, c, hv, hg'⟩) (by rw [g]; exact I2.bare) (fun _ z => nomatch z)
  have e : s' = { ({ s1 with heap := h', toks := tk } : Shared) with heap := s'.heap, gens := s'.gens, drawn := s'.drawn, toks := s'.toks } := by
    cases s'
    cases s1
    cases o
    rfl
  rw [e]
  exact ⟨.ref p, _, J, rfl, q1 p ys hfr hs hn hm'⟩
end
end Pl

set_option Elab.async false
set_option linter.all false
set_option maxRecDepth 100000
set_option maxHeartbeats 4000000
/-! sets of texts as tracked things; a set comprehension of texts; sorted of such a set -/
namespace Pl
open PySem PySem.Spec PyProof.Rows L2 PpSet
def SetZO (w : World) (a : Addr) (zs : List Str) : HO := .ext fun h => ∃ es, SetZ w h a zs es
theorem SetZ.at {w : World} {h h' : Heap} {a : Addr} {zs : List Str} {es : Array (Int × Value)} (R : SetZ w h a zs es) (k : ∀ o, h.get? a = some o → h'.get? a = some o) : SetZ w h' a zs es := ⟨R.st.at k, R.gd, R.nd, R.mem, R.len⟩
theorem setZO_new {w : World} {P : Program} {H : Hp} {h : Heap} {a : Addr} {zs : List Str} (R : ∃ es, SetZ w h a zs es) : ObjOk P w H h a (SetZO w a zs) := by
  obtain ⟨es, R⟩ := R
  obtain ⟨o, _, _, ho, _⟩ := R.st
  exact ⟨⟨es, R⟩, ⟨o, ho⟩, fun h1 h2 ⟨es, p⟩ k => ⟨es, p.at k⟩⟩
theorem setZ_fresh {h : Heap} (w : World) : ∃ es, SetZ w (h.push { cls := .type "set", dict := none, data := .set #[] 0 (.fresh 0 0 (!w.params.followText "set-order")) }) h.objs.size [] es :=
  ⟨#[], setSt_fresh (Heap.get?_push_size _ rfl), fun e he => by simp at he, by simp, fun z => by simp, Nat.zero_le _⟩
theorem setZ_call {P : Program} {w : World} {A : Around} {E : Value → Shared → Prop} {s : Shared} {a : Addr} {z : Str} {tk : Tok} {zs : List Str} {es : Array (Int × Value)} {Q : Value → Shared → Prop} (R : SetZ w s.heap a zs es) (hb : zs.length + 1 < scanBound)
    (hQ : ∀ h' tk' es', Heap.SameBut a s.heap h' → SetZ w h' a (zs ++ [z]) es' → Q .none { s with heap := h', toks := tk' }) :
    wpAny (model P w) A (call (.builtin "set.add") [.ref a, .str z tk]) Q E s := by
  have hT : s.TypeIs (.ref a) "set" := by
    obtain ⟨o, _, _, ho, hex, _⟩ := R.st
    exact ⟨o, ho, hex.1⟩
  refine wpAny_call_entry F.slot_set_add hT F.entry_set_add ?_ (F.args_set_add_2 _ _)
  unfold Builtin.«set.add» Builtin.Frozenset.oneOther
  simp only [List.isEmpty_nil, bind_assoc]
  unfold Builtin.Frozenset.addrOf
  refine wpAny_bind (wpAny_pure ?_)
  try dsimp only
  refine wpAny_bind (wpAny_pure ?_)
  try dsimp only
  refine wpAny_bind (setZ_add R hb fun b h' tk' es' _ sb r => ?_)
  show wpAny _ _ (ret Value.none) _ _ _
  exact wpAny_pure ⟨_, rfl, hQ h' tk' es' sb r⟩
section
variable {X : Cx}
theorem addZ_ok {pins : List (Addr × Obj)} {σ : L2.St} {H : Hp} {s : Shared} {E : Value → Shared → Prop} {D : Addr} {zs : List Str} {y : Str} {tk : Tok} {Q : Value → Shared → Prop} (I : Inv X pins σ H s) (hD : H D = some (SetZO X.w D zs)) (room : zs.length + 1 < scanBound)
    (h : ∀ s', Inv X pins σ (upd H D (SetZO X.w D (zs ++ [y]))) s' → Q .none s') : wpAny (model X.prog X.w) X.A (call (.builtin "set.add") [.ref D, .str y tk]) Q E s := by
  obtain ⟨es, R⟩ : ∃ es, SetZ X.w s.heap D zs es := (I.hok D _ hD).1
  refine setZ_call R room fun h' tk' es' sb new => ?_
  have he : ∃ u, h'.get? D = some u := by
    obtain ⟨o, _, _, ho, _⟩ := new.st
    exact ⟨o, ho⟩
  exact h _ (I.write (e := D) (t' := tk') (by rw [hD]; trivial) (.inl rfl) (fun b u hb hu => (sb.2 b hb).trans hu) he (setZO_new ⟨es', new⟩))
/-- {elt for target in iter if ..}, elt a text: D the new set -/
def tScZ (w : World) (wi : TI) (g : TG) (tt : TT) (te : TE) (vs : List Nat) : TE := fun σ H Q => wi σ H fun J H1 => ∀ D, H1 D = none → ∃ W : Nat → Nat → Hp → Prop, (∃ m, W 0 m (upd H1 D (SetZO w D []))) ∧ ∀ i m H, W i m H →
  (J.stop i H ∧ Q (.ref D) H) ∨ (J.go i H ∧ ∃ Nx : Hp → Prop, (∀ H', Nx H' → ∃ m', m' < m ∧ W (i + 1) m' H') ∧ ∀ x H', J.yld i H x H' → g x (wipe σ vs) H' fun σ2 H2 => wipe σ2 vs = wipe σ vs ∧ tt σ2 H2 fun b H3 =>
    if b = true then te σ2 H3 fun y H4 => ∃ (c : Str) (zs : List Str), y = .str c ∧ H4 D = some (SetZO w D zs) ∧ zs.length + 1 < scanBound ∧ Nx (upd H4 D (SetZO w D (zs ++ [c]))) else Nx H3)
theorem scz_core {pins : List (Addr × Obj)} {s : Shared} {σ : L2.St} {H : Hp} {Q : VK} {elt tg iter : Expr} {ifs : List Expr} {scope : Scope} {own : List (PySem.Str × Nat)} {pos pos' : Pos} {wi : TI} {g : TG} {tt : TT} {te : TE} {use : Option (Value → Sem Unit)} {Qf : Value → Shared → Prop}
    (hc : X.calm = true) (hN : X.N.Nodup) (I : Inv X pins σ H s) (hi : PI X tg iter wi) (ok : BlkOk X.N X.env.scope scope own)
    (hg : ∀ (s : Shared) (H : Hp) (C : Addr) (cl : List (PySem.Str × Addr)) (fp : List Addr), PG (X.blk s H scope (compEnvC scope cl C X.env) fp) tg g) (ht : ∀ (s : Shared) (H : Hp) (C : Addr) (cl : List (PySem.Str × Addr)) (fp : List Addr), PTs (X.blk s H scope (compEnvC scope cl C X.env) fp) ifs tt)
    (he : ∀ (s : Shared) (H : Hp) (C : Addr) (cl : List (PySem.Str × Addr)) (fp : List Addr), PE (X.blk s H scope (compEnvC scope cl C X.env) fp) elt te) (hs : ∀ x, foldedSetIterable iter X.env x = pure x)
    (h : tScZ X.w wi g tt te (own.map (·.2)) σ H Q)
    (hRR : ∀ D C s' m H', Inv X pins σ H' s' → Q (.ref D) H' → s'.heap.Ns C m → FpOk X pins H' C → compPost (model X.prog X.w) X.A X.xe use Qf (.ref D) C (.ok .next) s') :
    wpAny (model X.prog X.w) X.A (comprehension (.SetComp elt [⟨tg, iter, ifs, 0⟩] scope pos) scope X.env pos' (newSet (.type "set")) false (eval iter X.env) use) Qf X.xe s := by
  have hfree : ∀ y ∈ scope.names, y.2 = .free → ∃ c, X.env.cells.lookup y.1 = some c := fun y hy e => by
    rcases ok.free y hy e with k | k
    · exact I.ok.has _ (.inl k)
    · exact I.ok.has _ (.inr k)
  refine wpAny_comprehension_free (use := use) rfl hs (closure_ok hfree) ok.kind (fun y hy e => by rw [ok.uniq y hy, e])
    (thn (hi.run pins s σ H _ I h) fun xv s1 hx => thn hx fun itv s2 h2 => ?_)
  obtain ⟨it, fp, tn, J, H2, e, I2, T, st2, f2, q⟩ := h2
  subst e
  refine newSet_ok (newEnv_comp ?_)
  generalize hD : s2.heap.objs.size = D
  have hDn : H2 D = none := I2.hok.fresh (Nat.le_of_eq hD)
  obtain ⟨W, ⟨m0, w0⟩, turn⟩ := q D hDn
  -- the new list
  generalize hs3 : ({ s2 with heap := s2.heap.push { cls := .type "set", dict := none, data := .set #[] 0 (.fresh 0 0 (!X.w.params.followText "set-order")) } } : Shared) = s3
  have I3 : Inv X pins σ (upd H2 D (SetZO X.w D [])) s3 := by
    rw [← hs3]
    refine I2.laid (t' := s2.toks) (fun b o e => Heap.get?_push_of_some _ e) (Nat.le_of_eq hD) ?_
    rw [← hD]
    exact setZO_new (setZ_fresh X.w)
  have h3 : s3.heap = s2.heap.push { cls := .type "set", dict := none, data := .set #[] 0 (.fresh 0 0 (!X.w.params.followText "set-order")) } := by rw [← hs3]
  have sz : ∀ b ∈ fp, b < s2.heap.objs.size := fun b hb => by
    obtain ⟨o, e, _⟩ := T.obj _ _ st2 b hb
    exact Heap.lt_size e
  have f3 : ∀ b ∈ fp, FpOk X pins (upd H2 D (SetZO X.w D [])) b ∧ b < s3.heap.objs.size := fun b hb => by
    have hlt := sz b hb
    refine ⟨⟨?_, (f2 b hb).2⟩, by rw [h3, Heap.size_push]; exact Nat.lt_succ_of_lt hlt⟩
    rw [upd_ne (by rw [← hD]; exact Nat.ne_of_lt hlt)]
    exact (f2 b hb).1
  have st3 : tn 0 s3.heap := T.keep _ _ _ st2 fun b _ o e => by rw [h3]; exact Heap.get?_push_of_some _ e
  have I4 := block_start I3 ok hN f3
  have pg := hg s3 (upd H2 D (SetZO X.w D [])) s3.heap.objs.size (cellsFrom (s3.heap.objs.size + 1) scope.names (cloFrom X.env.cells scope.names [])) fp
  have pt := ht s3 (upd H2 D (SetZO X.w D [])) s3.heap.objs.size (cellsFrom (s3.heap.objs.size + 1) scope.names (cloFrom X.env.cells scope.names [])) fp
  have pe := he s3 (upd H2 D (SetZO X.w D [])) s3.heap.objs.size (cellsFrom (s3.heap.objs.size + 1) scope.names (cloFrom X.env.cells scope.names [])) fp
  show codeAny _ _ (.compStart (.SetComp elt [⟨tg, iter, ifs, 0⟩] scope pos) 0 (.ref it) (.ref D) (compEnvC scope (cellsFrom (s3.heap.objs.size + 1) scope.names (cloFrom X.env.cells scope.names [])) s3.heap.objs.size X.env)) (compPost (model X.prog X.w) X.A X.xe use Qf (.ref D) s3.heap.objs.size) { s3 with heap := pushCells (s3.heap.push { cls := .type "dict", data := .dict #[] }) scope.names }
  have nfp : ∀ b ∈ fp, (upd H2 D (SetZO X.w D [])) b = none := fun b hb => (f3 b hb).1.1
  generalize hce : compEnvC scope (cellsFrom (s3.heap.objs.size + 1) scope.names (cloFrom X.env.cells scope.names [])) s3.heap.objs.size X.env = ce at I4 pg pt pe ⊢
  have cL : ce.locals = s3.heap.objs.size := by subst hce; rfl
  generalize hH3 : upd H2 D (SetZO X.w D []) = H3 at I3 I4 pg pt pe w0 nfp f3
  generalize hs4 : ({ s3 with heap := pushCells (s3.heap.push { cls := .type "dict", data := .dict #[] }) scope.names } : Shared) = s4 at I4 ⊢
  have st4 : tn 0 s4.heap := T.keep _ _ _ st3 fun b _ o e => by rw [← hs4]; exact pushCells_keeps _ _ _ _ (Heap.get?_push_of_some _ e)
  have stat : ∀ {σ' : L2.St} {H' : Hp} {s' : Shared}, Inv (X.blk s3 H3 scope ce fp) [] σ' H' s' → (∀ b ∈ fp, H' b = none) → ∀ b ∈ fp, FpOk (X.blk s3 H3 scope ce fp) [] H' b := fun {σ' H' s'} I' hn b hb =>
    ⟨hn b hb, (I'.ok.exf b hb).1, I'.ok.exfs b hb, .inl hb, fun x c e => (I'.ok.exf b hb).2 x c e, fun p hp => absurd (show p ∈ ([] : List (Addr × Obj)) ++ [] from hp) (by simp)⟩
  have loop : codeAny (model X.prog X.w) X.A (.compLoop (.SetComp elt [⟨tg, iter, ifs, 0⟩] scope pos) 0 (.ref it) (.ref D) ce) (compPost (model X.prog X.w) X.A X.xe use Qf (.ref D) s3.heap.objs.size) s4 := by
    refine compLoopS_any (fun n s' => ∃ i H', Inv (X.blk s3 H3 scope ce fp) [] (wipe σ (own.map (·.2))) H' s' ∧ tn i s'.heap ∧ (∀ b ∈ fp, H' b = none) ∧ W i n H') ?_ m0 ⟨0, H3, I4, st4, nfp, w0⟩
    rintro n s5 ⟨i, H5, I5, st5, n5, w5⟩
    rcases turn i n H5 w5 with ⟨stop, qq⟩ | ⟨go, Nx, hNx, step⟩
    · have td := T.done (X.blk s3 H3 scope ce fp) rfl rfl rfl hc i [] s5 _ H5 (fun _ _ => False) I5 (stat I5 n5) st5 stop
      refine thnF td fun r s6 ⟨hr, I6⟩ => ?_
      subst hr
      -- back in the def's context
      have I7 : Inv X pins σ H5 s6 := I3.call' (ch := fp) I6.os I6.base I6.hok I6.bare fun b hb => ⟨(f3 b hb).1.2.2.2.1, (f3 b hb).1.2.1, (f3 b hb).1.2.2.2.2.1, (f3 b hb).1.2.2.2.2.2⟩
      have nC : H5 s3.heap.objs.size = none := by
        have z : H5 ce.locals = none := I6.free
        rw [cL] at z
        exact z
      obtain ⟨m, hn, _⟩ := I6.loc
      have hn : s6.heap.Ns ce.locals m := hn
      rw [cL] at hn
      exact hRR D s3.heap.objs.size s6 m H5 I7 qq hn (I3.fpOk (Nat.le_refl _) nC)
    · have ti := T.item (X.blk s3 H3 scope ce fp) rfl rfl rfl hc i [] s5 _ H5 (fun _ _ => False) I5 (stat I5 n5) st5 go
      refine thnF ti fun r s6 ⟨u, hr, h6⟩ => ?_
      subst hr
      refine thnF h6 fun _ s7 ⟨x, H7, I7, r7, y7, st7, n7⟩ => ?_
      have I7' := I7.pinned (stat I7 n7) (T.obj _ _ st7)
      refine thnF (pg.run _ s7 _ H7 x u _ I7' r7 (step x H7 y7)) fun _ s8 ⟨σ8, H8, I8, hw8, q8⟩ => ?_
      refine thnF (pt.run _ s8 σ8 H8 _ I8 q8) fun b s9 ⟨H9, I9, q9⟩ => ?_
      -- the turn's end
      have fin : ∀ {s' : Shared} {H' : Hp}, Inv (X.blk s3 H3 scope ce fp) ([] ++ pinsAt fp s7.heap) σ8 H' s' → Nx H' → ∃ m, m < n ∧ ∃ i H', Inv (X.blk s3 H3 scope ce fp) [] (wipe σ (own.map (·.2))) H' s' ∧ tn i s'.heap ∧ (∀ b ∈ fp, H' b = none) ∧ W i m H' := fun {s' H'} I' nx => by
        obtain ⟨m', hm, w'⟩ := hNx H' nx
        have pin' : ∀ b ∈ fp, ∀ o, s7.heap.get? b = some o → s'.heap.get? b = some o ∧ H' b = none := fun b hb o e =>
          let z := I'.pin (b, o) (List.mem_append_right _ (List.mem_append_right _ (mem_pinsAt hb e)))
          ⟨z.1, z.2.1⟩
        have hl : (wipe σ (own.map (·.2))).length = σ8.length := by rw [← hw8, wipe_length]
        refine ⟨m', hm, i + 1, H', (I'.unpinned (pins := [])).weak hl (fun j v e => ?_), T.keep _ _ _ st7 fun b hb o e => (pin' b hb o e).1, fun b hb => ?_, w'⟩
        · rw [← hw8] at e
          exact (wipe_some e).1
        · obtain ⟨o, e, _⟩ := T.obj _ _ st7 b hb
          exact (pin' b hb o e).2
      cases b with
      | false =>
        simp only [Bool.false_eq_true, if_false] at q9 ⊢
        exact fin I9 q9
      | true =>
        simp only [if_true] at q9 ⊢
        refine thnF (pe.run _ s9 σ8 H9 _ I9 q9) fun z s10 ⟨yv, H10, I10, r10, cb, S0, ey, hD10, hz10, nx⟩ => ?_
        subst ey
        obtain ⟨tkz, rfl⟩ : ∃ tk, z = Value.str cb tk := r10
        exact addZ_ok (X := X.blk s3 H3 scope ce fp) I10 hD10 hz10 fun s11 I11 => fin I11 nx
  exact codeAny_compStart_set loop (T.self X.A 0 _ _ _ st4 loop)
theorem pe_scz {elt tg iter : Expr} {ifs : List Expr} {scope : Scope} {own : List (PySem.Str × Nat)} {pos : Pos} {wi : TI} {g : TG} {tt : TT} {te : TE} (hc : X.calm = true) (hN : X.N.Nodup) (hi : PI X tg iter wi) (ok : BlkOk X.N X.env.scope scope own)
    (hg : ∀ (s : Shared) (H : Hp) (C : Addr) (cl : List (PySem.Str × Addr)) (fp : List Addr), PG (X.blk s H scope (compEnvC scope cl C X.env) fp) tg g) (ht : ∀ (s : Shared) (H : Hp) (C : Addr) (cl : List (PySem.Str × Addr)) (fp : List Addr), PTs (X.blk s H scope (compEnvC scope cl C X.env) fp) ifs tt)
    (he : ∀ (s : Shared) (H : Hp) (C : Addr) (cl : List (PySem.Str × Addr)) (fp : List Addr), PE (X.blk s H scope (compEnvC scope cl C X.env) fp) elt te) (hs : ∀ x, foldedSetIterable iter X.env x = pure x := by intro _; rfl) :
    PE X (.SetComp elt [⟨tg, iter, ifs, 0⟩] scope pos) (tScZ X.w wi g tt te (own.map (·.2))) := by
  refine ⟨fun pins s σ H Q I h => ?_⟩
  rw [eval_SetComp]
  refine scz_core hc hN I hi ok hg ht he hs h fun D C s' m H' I' q hn f => ⟨m, hn, fun h'' sb => ?_⟩
  obtain ⟨f0, f1, f2, f3, f4, f5⟩ := f
  exact ⟨.ref D, H', I'.turned (t' := s'.toks) (fun b o hb e => (sb.2 b hb).trans e) f0 f1 f3 f4 f5, rfl, q⟩
/-- over a list that the block leaves as it is -/
theorem scz_list {w : World} {K : PySem.W.Frag} {a : Addr} {xs : List V} {g : TG} {tt : TT} {te : TE} {vs : List Nat} {σ : L2.St} {H1 : Hp} {D : Addr} {Qd : Hp → Prop} (Pv : Nat → Hp → Prop) (h0 : Pv 0 (upd H1 D (SetZO w D []))) (hl : ∀ i H, i ≤ xs.length → Pv i H → SqL K H a xs)
    (hs : ∀ i x H, xs[i]? = some x → Pv i H → g x (wipe σ vs) H fun σ2 H2 => wipe σ2 vs = wipe σ vs ∧ tt σ2 H2 fun b H3 =>
      if b = true then te σ2 H3 fun y H4 => ∃ (c : Str) (zs : List Str), y = .str c ∧ H4 D = some (SetZO w D zs) ∧ zs.length + 1 < scanBound ∧ Pv (i + 1) (upd H4 D (SetZO w D (zs ++ [c]))) else Pv (i + 1) H3) (hd : ∀ H, Pv xs.length H → Qd H) :
    ∃ W : Nat → Nat → Hp → Prop, (∃ m, W 0 m (upd H1 D (SetZO w D []))) ∧ ∀ i m H, W i m H →
      ((Itl K a).stop i H ∧ Qd H) ∨ ((Itl K a).go i H ∧ ∃ Nx : Hp → Prop, (∀ H', Nx H' → ∃ m', m' < m ∧ W (i + 1) m' H') ∧ ∀ x H', (Itl K a).yld i H x H' → g x (wipe σ vs) H' fun σ2 H2 => wipe σ2 vs = wipe σ vs ∧ tt σ2 H2 fun b H3 =>
        if b = true then te σ2 H3 fun y H4 => ∃ (c : Str) (zs : List Str), y = .str c ∧ H4 D = some (SetZO w D zs) ∧ zs.length + 1 < scanBound ∧ Nx (upd H4 D (SetZO w D (zs ++ [c]))) else Nx H3) := by
  refine ⟨fun i m H => m = xs.length - i ∧ i ≤ xs.length ∧ Pv i H, ⟨xs.length, by simp, Nat.zero_le _, h0⟩, ?_⟩
  rintro i m H ⟨rfl, hi, p⟩
  have q := hl i H hi p
  by_cases hlt : i < xs.length
  · refine .inr ⟨⟨xs, xs[i], q, by simp [hlt]⟩, Pv (i + 1), fun H' p' => ⟨xs.length - (i + 1), by omega, rfl, hlt, p'⟩, fun x H' y => ?_⟩
    obtain ⟨e, y⟩ := y
    subst e
    exact hs i x _ (y xs q) p
  · have e : i = xs.length := by omega
    subst e
    exact .inl ⟨⟨xs, q, Nat.le_refl _⟩, hd H p⟩
/-- sorted(a set of texts) -/
def tSortedZ (w : World) (ta : TE) : TE := fun σ H Q => ta σ H fun x H1 => ∃ (D : Addr) (zs : List Str), x = .ref D ∧ H1 D = some (SetZO w D zs) ∧ zs.length < 4000 ∧
  ∀ (p : Addr) (ys : List Str), H1 p = none → ys.Pairwise (fun x y => x.cps.toList ≤ y.cps.toList) → ys.Nodup → (∀ z, z ∈ ys ↔ z ∈ zs) → Q (.ref p) (upd H1 p (.lst (ys.map V.str)))
theorem pe_sortedZ {a : Expr} {ta : TE} {p pos : Pos} {k : Nat} (hc : X.calm = true) (hr : Room k X.A) (hg : Gl X "sorted") (hm : X.mg "sorted" = none) (ha : PE X a ta)
    (na : starEach [a] X.env = (false, eval a X.env) :: starEach [] X.env := by rfl) : PE X (.Call (.Name "sorted" p) [a] [] pos) (tSortedZ X.w ta) := by
  refine ⟨fun pins s σ H Q I h => ?_⟩
  have bso : bootBuiltins ("sorted" : Str) = some (.builtin "sorted") := by decide +kernel
  refine Call_ (ld_blt I hg hm bso ?_)
  refine PyProof.Rows.callWith_builtin1 (PyProof.Rows.args_cons (thn (ha.run pins s σ H _ I h) fun v s1 ⟨x, H1, I1, r1, q1⟩ => PyProof.Rows.args_nil ?_) na) na rfl
  obtain ⟨D, zs, rfl, hD, hz, q1⟩ := q1
  cases r1
  obtain ⟨es, R⟩ : ∃ es, SetZ X.w s1.heap D zs es := (I1.hok D _ hD).1
  have hd := I1.ok.hd hc
  have hun := hr.un
  refine sorted_setZ R hd hz (by omega) fun s' p out c ys k g o hp hg' hv hs hn hm' => ?_
  have hlen : (ys.map V.str).length ≤ sizeLine := by
    have h1 : ys.length ≤ zs.length := nd_len ys zs hn fun z hz' => (hm' z).mp hz'
    rw [List.length_map, sizeLine_eq]
    omega
  have hfr : H1 p = none := I1.hok.fresh hp
  have J : Inv X pins σ (upd H1 p (.lst (ys.map V.str))) { s1 with heap := s'.heap, gens := s'.gens, drawn := s'.drawn, toks := s'.toks } :=
    I1.call (ch := []) (Un.laid k hp hfr) (I1.hok.laid k hp ⟨hlen, out, c, hv, hg'⟩) (by rw [g]; exact I1.bare) (fun _ z => nomatch z)
  have e : s' = { s1 with heap := s'.heap, gens := s'.gens, drawn := s'.drawn, toks := s'.toks } := by
    cases s'
    cases s1
    cases o
    rfl
  rw [e]
  exact ⟨.ref p, _, J, rfl, q1 p ys hfr hs hn hm'⟩
end
end Pl

namespace Pl
open PySem L2
local macro_rules | `(tactic| infer_instance) => `(tactic| first
  | with_reducible assumption
  | with_reducible exact Same.refl _
  | exact Wd.gh (by with_reducible assumption)
  | exact sm2 (by with_reducible assumption) (by infer_instance)
  | exact sm2 (same_upd (by with_reducible assumption)) (by infer_instance)
  | exact sm2 (Wd.gh (by with_reducible assumption)) (by infer_instance))
local macro_rules | `(tactic| trivial) => `(tactic| first
  | with_reducible assumption
  | with_reducible exact upd_same
  | exact at_same (by with_reducible assumption) (by trivial)
  | exact at_same (same_upd (by with_reducible assumption)) (by trivial)
  | exact at_same (Wd.gh (by with_reducible assumption)) (by trivial))
local macro_rules | `(tactic| ac_rfl) => `(tactic| first
  | exact Ty.int _
  | exact Ty.str _
  | exact Ty.non
  | exact Ty.bl _
  | exact Ty.tup (by trivial)
  | exact Ty.lst (by trivial))
local macro_rules | `(tactic| contradiction) => `(tactic| first
  | exact rfl
  | exact decide_eq_true (by first | assumption | omega)
  | exact decide_eq_false (by first | assumption | omega)
  | exact dI_t (by first | assumption | omega)
  | exact dI_f (by first | assumption | omega)
  | exact dS_t (by first | assumption | decide)
  | exact dS_f (by first | assumption | decide)
  | exact nI_t (by first | assumption | omega)
  | exact nI_f (by first | assumption | omega)
  | exact nS_t (by first | assumption | decide)
  | exact nS_f (by first | assumption | decide)
  | assumption
  | exact q_none_int | exact q_none_bool | exact q_none_tuple | exact q_none_list | exact q_none_str | exact q_bool_int | exact q_bool_bool | exact q_bool_tuple | exact q_bool_list | exact q_bool_str | exact q_int_int | exact q_int_bool | exact q_int_tuple | exact q_int_list | exact q_int_str | exact q_str_int | exact q_str_bool | exact q_str_tuple | exact q_str_list | exact q_str_str | exact q_list_int | exact q_list_bool | exact q_list_tuple | exact q_list_list | exact q_list_str | exact q_tuple_int | exact q_tuple_bool | exact q_tuple_tuple | exact q_tuple_list | exact q_tuple_str
  | exact nb_t (by contradiction)
  | exact nb_f (by contradiction))
local macro_rules | `(tactic| and_intros) => `(tactic| repeat (first
  | refine ⟨_, rfl, ?_⟩
  | refine ⟨_, _, rfl, rfl, ?_⟩
  | refine ⟨rfl, ?_⟩
  | refine ⟨_, _, _, _, rfl, rfl, SqT.of (by trivial), at_ix (by decide) rfl, ?_⟩
  | refine ⟨_, _, _, _, rfl, rfl, SqL.of (by trivial), at_ix (by decide) rfl, ?_⟩
  | refine ⟨_, _, rfl, Or.inl (SqL.of (by trivial)), ?_⟩
  | refine ⟨_, _, rfl, Or.inr (SqT.of (by trivial)), ?_⟩
  | refine ⟨_, _, _, _, _, rfl, (by trivial), (by trivial), (by trivial), rfl, ?_⟩
  | refine ⟨_, _, _, _, _, rfl, ClsV.ty _, Ty.x (by ac_rfl), isI_tuple (by ac_rfl), ?_⟩
  | refine ⟨_, _, _, _, _, rfl, ClsV.ty _, Ty.x (by ac_rfl), isI_list (by ac_rfl), ?_⟩
  | refine ⟨_, _, _, _, _, rfl, ClsV.ty _, Ty.x (by ac_rfl), isI_int (by ac_rfl), ?_⟩
  | refine ⟨_, _, _, _, _, rfl, ClsV.ty _, Ty.x (by ac_rfl), isI_bool (by ac_rfl), ?_⟩
  | refine ⟨_, _, _, _, _, rfl, ClsV.ty _, Ty.x (by ac_rfl), isI_str (by ac_rfl), ?_⟩
  | refine ⟨sz (Nat.le_of_ble_eq_true rfl), ?_⟩
  | refine ⟨Or.inl ⟨rfl, _, SqL.of (by trivial)⟩, ?_⟩
  | refine ⟨_, _, rfl, SqT.of (by trivial), rfl, _, _, rfl, _, _, rfl, _, _, rfl, _, _, rfl, rfl, ?_⟩
  | refine ⟨_, _, rfl, SqT.of (by trivial), rfl, _, _, rfl, _, _, rfl, _, _, rfl, rfl, ?_⟩
  | refine ⟨_, _, rfl, SqT.of (by trivial), rfl, _, _, rfl, _, _, rfl, rfl, ?_⟩
  | refine ⟨_, _, _, _, rfl, (by with_reducible assumption : Wd _ _ _ _), (by first | decide | omega), (by first | decide | omega), ?_⟩
  | refine ⟨_, _, _, rfl, (by with_reducible assumption : Wd _ _ _ _), ?_⟩
  | refine iT (by contradiction) ?_
  | refine iF (by contradiction) ?_))
-- USE RD
section
variable {P : Program} {w : World} {K : PySem.W.Frag} {mg : Str → Option Value} {base : Heap}
/-- world.names() -/
def spNames2 (T : Txt P K mg) : Sp := fun vs H Q _ => ∃ (a l : Addr) (ps : List (Str × Int)), vs = [.ref a] ∧ WoA T H a l ps ∧ ps.length ≤ 1000 ∧
  ∀ (r : Addr) (ys : List Str) (H' : Hp), Same H H' → H r = none → H' r = some (.lst (ys.map V.str)) → ys.Pairwise (fun x y => x.cps.toList ≤ y.cps.toList) → ys.Nodup → (∀ z, z ∈ ys ↔ z ∈ ps.map (·.1)) → Q (.ref r) H'
theorem ok_world_names (T : Txt P K mg) {k : Nat} : FnR P w K mg base CX0 (k + 1) T.World_names.f (spNames2 T) := by
  refine toR (T.World_names.F.ok (k := k) sc_World_names (fun vs H Q E h => ?_) (fun cdv A outer s H vs Q E hr h => ?_)) T.World_names.b
  · obtain ⟨a, l, ps, rfl, _⟩ := h
    rfl
  · obtain ⟨a, l, ps, rfl, hw, hl, q⟩ := h
    refine ⟨_, (pss_one (ps_ret (pe_sortedZ rfl hr (by rfl) T.n_sorted (pe_scz (own := [("name", 1), ("moment", 2)]) (g := gTup K 2 (gCons (gName 1) (gCons (gName 2) gNil))) (tt := tYes) (te := (tVar 1)) rfl sc_World_names.nd (pi_list (pe_fld (pv 0) rfl)) (blkOk_by (own := [("name", 1), ("moment", 2)]) (N := N_World_names) (sc := defScope s_World_names) (by decide +kernel)) (fun _ _ _ _ _ => (pg_tup rfl (pgs_cons (pg_name (i := 1) sc_World_names.nd rfl (.inl rfl)) (pgs_cons (pg_name (i := 2) sc_World_names.nd rfl (.inl rfl)) pgs_nil)))) (fun _ _ _ _ _ => pts_nil) (fun _ _ _ _ _ => (pv 1)))))), ?_⟩
    obtain ⟨dx, us, h1, h2, h3⟩ := hw
    refine ⟨.ref a, rfl, a, _, dx, _, _, rfl, h1, T.o_World.cl, T.n_World_pairs, rfl, l, rfl, ⟨_, SqL.of h2⟩, fun D hD => ?_⟩
    refine scz_list (K := K) (a := l) (xs := us) (fun i H' => Same H H' ∧ H' D = some (SetZO w D ((ps.take i).map (·.1)))) ⟨same_upd hD, upd_same⟩ (fun i H' _ pp => SqL.of (pp.1 _ _ h2)) (fun i x H' hx pp => ?_) (fun H' pp => ?_)
    · obtain ⟨s1, hd⟩ := pp
      have hi : i < ps.length := by rw [← h3.1]; exact (List.getElem?_eq_some_iff.mp hx).1
      obtain ⟨t, e1, e2⟩ := h3.2 i ps[i] (List.getElem?_eq_getElem hi)
      rw [hx] at e1
      cases e1
      refine ⟨t, _, rfl, SqT.of (s1 _ _ e2), rfl, ?_⟩
      refine ⟨_, _, rfl, _, _, rfl, ?_⟩
      refine ⟨rfl, rfl, ?_⟩
      refine ⟨_, rfl, ps[i].1, (ps.take i).map (fun p : Str × Int => p.1), rfl, hd, by rw [List.length_map, List.length_take]; show _ < 4096; omega, fun b o e => ?_, ?_⟩
      · by_cases hb : b = D
        · rw [hb, hD] at e; cases e
        · rw [upd_ne hb]; exact s1 _ _ e
      · rw [upd_same, List.take_add_one, List.getElem?_eq_getElem hi, List.map_append]
        rfl
    · obtain ⟨s1, hd⟩ := pp
      rw [h3.1, List.take_of_length_le (Nat.le_refl _)] at hd
      refine ⟨D, _, rfl, hd, by rw [List.length_map]; omega, fun p ys hp o1 o2 o3 => ?_⟩
      exact q p ys _ (s1.trans (same_upd hp)) (s1.free hp) upd_same o1 o2 o3
/-- thing in world: a name, a pair, something else -/
inductive NoRow (H : Hp) : V → Prop
  | non : NoRow H .non
  | int (i : Int) : NoRow H (.int i)
  | bl (b : Bool) : NoRow H (.bl b)
  | lst {a : Addr} {xs : List V} : H a = some (.lst xs) → NoRow H (.ref a)
  | len {a : Addr} {xs : List V} : H a = some (.tup xs) → ¬ xs.length = 2 → NoRow H (.ref a)
  | first {a : Addr} {i : Int} {y : V} : H a = some (.tup [.int i, y]) → NoRow H (.ref a)
  | second {a : Addr} {z : Str} {y : V} {t : String} : H a = some (.tup [.str z, y]) → Ty H y t → isInt y = false → NoRow H (.ref a)
def spHas (T : Txt P K mg) : Sp := fun vs H Q _ => ∃ (a l : Addr) (ps : List (Str × Int)) (x : V), vs = [.ref a, x] ∧ WoA T H a l ps ∧ ps.length ≤ 1000 ∧ (∀ p ∈ ps, goodName p.1) ∧
  ((∃ (t : Addr) (z : Str) (m : Int), x = .ref t ∧ H t = some (.tup [.str z, .int m]) ∧ goodName z ∧ Q (.bl (decide ((z, m) ∈ ps))) H) ∨
   (∃ z : Str, x = .str z ∧ ∀ H', Same H H' → Q (.bl (decide (z ∈ ps.map (·.1)))) H') ∨
   NoRow H x ∧ Q (.bl false) H)
theorem ok_world_has (T : Txt P K mg) {k : Nat} : FnR P w K mg base CX0 (k + 2) T.World_contains.f (spHas T) := by
  have G_is_integer : FnOk P w K mg base CX0 (k + 1) T.is_integer.f T.is_integer.fd ["value"] spIsInteger := ok_is_integer T
  have G_names : ∀ _ : Unit, FnR P w K mg base CX0 (k + 1) T.World_names.f (spNames2 T) := fun _ => ok_world_names T
  refine toR (T.World_contains.F.ok (k := k + 1) sc_World_contains (fun vs H Q E h => ?_) (fun cdv A outer s H vs Q E hr h => ?_)) T.World_contains.b
  · obtain ⟨a, l, ps, x, rfl, _⟩ := h
    rfl
  · obtain ⟨a, l, ps, x, rfl, hw, hl, hg, hc⟩ := h
    refine ⟨_, (pss_cons (ps_if (pt_val (pe_callB call_isi (by rfl) T.n_isinstance (by decide +kernel) (pa_cons (pv 1) (pa_cons (pe_bltn (v := .ty "str") (by rfl) T.n_str (by decide +kernel) rfl) pa_nil)))) (pss_one (ps_ret (pe_cmpR op_in_seq (pv 1) (pe_methV0 (pv 0) G_names (hr.mono (by omega)) pass0) (by with_unfolding_all rfl)))) pss_nil)
  (pss_cons (ps_if (PW.pt (pw_or (pt_not (pt_val (pe_callB call_isi (by rfl) T.n_isinstance (by decide +kernel) (pa_cons (pv 1) (pa_cons (pe_bltn (v := .ty "tuple") (by rfl) T.n_tuple (by decide +kernel) rfl) pa_nil))))) (pw_or1 (pt_cmpR op_ne (pe_callB call_len_seq (by rfl) T.n_len PySem.boot_len (pa_cons (pv 1) pa_nil)) pe_int (nomark _))))) (pss_one (ps_ret pe_bl)) pss_nil)
  (pss_cons (ps_if (PW.pt (pw_or (pt_not (pt_val (pe_callB call_isi (by rfl) T.n_isinstance (by decide +kernel) (pa_cons (pe_ix ix_tup (pv 1) pe_int (fun _ _ => rfl)) (pa_cons (pe_bltn (v := .ty "str") (by rfl) T.n_str (by decide +kernel) rfl) pa_nil))))) (pw_or1 (pt_not (pt_val (pe_call G_is_integer (hr.mono (by omega)) (by rfl) T.is_integer.g T.is_integer.F.kp T.is_integer.b .nil pass0 (pa_cons (pe_ix ix_tup (pv 1) pe_int (fun _ _ => rfl)) pa_nil))))))) (pss_one (ps_ret pe_bl)) pss_nil)
  (pss_one (ps_ret (pe_cmpR (op_inD (hu65 hr)) (pv 1) (pe_fld (pv 0) rfl) (by with_unfolding_all rfl))))))), ?_⟩
    obtain ⟨dx, us, h1, h2, h3⟩ := id hw
    rcases hc with ⟨t, z, m, rfl, ht, hz, q⟩ | ⟨z, rfl, q⟩ | ⟨hn, q⟩
    · have gl := pairs_shaped hg
      refine ⟨_, rfl, _, _, _, _, _, rfl, ClsV.ty _, Ty.x (.tup ht), isI_str (H := H) (.tup ht), _, rfl, iF q_tuple_str ?_⟩
      refine ⟨_, rfl, _, _, _, _, _, rfl, ClsV.ty _, Ty.x (.tup ht), isI_tuple (H := H) (.tup ht), _, rfl, iF (nb_f q_tuple_tuple) ?_⟩
      refine ⟨_, rfl, _, _, rfl, .inr (SqT.of ht), rfl, _, rfl, iF rfl ?_⟩
      refine ⟨_, rfl, _, _, _, _, rfl, rfl, SqT.of ht, at_ix (by decide) rfl, ?_⟩
      refine ⟨_, _, _, _, _, rfl, ClsV.ty _, Ty.x (.str _), isI_str (H := H) (.str z), _, rfl, iF (nb_f q_str_str) ?_⟩
      refine ⟨_, rfl, _, _, _, _, rfl, rfl, SqT.of ht, at_ix (by decide) rfl, ?_⟩
      refine ⟨.int m, "int", rfl, .int m, _, rfl, iF rfl ?_⟩
      refine ⟨_, rfl, _, rfl, a, _, dx, _, _, rfl, h1, T.o_World.cl, T.n_World_pairs, rfl, ?_⟩
      refine ⟨pairD (z, m), ps.map pairD, dp_pair ht, .lst (SqL.of h2) (dp_pairs h3), pair_shaped hz, gl, ?_⟩
      rw [any_pair]
      exact q
    · refine ⟨_, rfl, _, _, _, _, _, rfl, ClsV.ty _, Ty.x (.str _), isI_str (H := H) (.str z), _, rfl, iT q_str_str ?_⟩
      refine ⟨_, rfl, _, rfl, a, _, dx, _, (), rfl, h1, rfl, T.o_World.cl, T.m_World_names, ?_⟩
      refine ⟨a, l, ps, rfl, hw, hl, fun r ys H' s1 hr0 hr1 o1 o2 o3 => ?_⟩
      refine ⟨r, _, rfl, .inl (SqL.of hr1), rfl, flat_strs ys, ?_⟩
      rw [inV_strs]
      have e : decide (z ∈ ys) = decide (z ∈ ps.map (·.1)) := decide_eq_decide.mpr (o3 z)
      rw [e]
      exact q H' s1
    · cases hn with
      | non =>
        refine ⟨_, rfl, _, _, _, _, _, rfl, ClsV.ty _, Ty.x .non, isI_str (H := H) .non, _, rfl, iF q_none_str ?_⟩
        refine ⟨_, rfl, _, _, _, _, _, rfl, ClsV.ty _, Ty.x .non, isI_tuple (H := H) .non, _, rfl, iT (nb_t q_none_tuple) ?_⟩
        exact q
      | int i =>
        refine ⟨_, rfl, _, _, _, _, _, rfl, ClsV.ty _, Ty.x (.int i), isI_str (H := H) (.int i), _, rfl, iF q_int_str ?_⟩
        refine ⟨_, rfl, _, _, _, _, _, rfl, ClsV.ty _, Ty.x (.int i), isI_tuple (H := H) (.int i), _, rfl, iT (nb_t q_int_tuple) ?_⟩
        exact q
      | bl b =>
        refine ⟨_, rfl, _, _, _, _, _, rfl, ClsV.ty _, Ty.x (.bl b), isI_str (H := H) (.bl b), _, rfl, iF q_bool_str ?_⟩
        refine ⟨_, rfl, _, _, _, _, _, rfl, ClsV.ty _, Ty.x (.bl b), isI_tuple (H := H) (.bl b), _, rfl, iT (nb_t q_bool_tuple) ?_⟩
        exact q
      | lst ha =>
        refine ⟨_, rfl, _, _, _, _, _, rfl, ClsV.ty _, Ty.x (.lst ha), isI_str (H := H) (.lst ha), _, rfl, iF q_list_str ?_⟩
        refine ⟨_, rfl, _, _, _, _, _, rfl, ClsV.ty _, Ty.x (.lst ha), isI_tuple (H := H) (.lst ha), _, rfl, iT (nb_t q_list_tuple) ?_⟩
        exact q
      | len ha hn =>
        refine ⟨_, rfl, _, _, _, _, _, rfl, ClsV.ty _, Ty.x (.tup ha), isI_str (H := H) (.tup ha), _, rfl, iF q_tuple_str ?_⟩
        refine ⟨_, rfl, _, _, _, _, _, rfl, ClsV.ty _, Ty.x (.tup ha), isI_tuple (H := H) (.tup ha), _, rfl, iF (nb_f q_tuple_tuple) ?_⟩
        refine ⟨_, rfl, _, _, rfl, .inr (SqT.of ha), rfl, _, rfl, iT (nI_f (by omega)) q⟩
      | @first a' i y ha =>
        refine ⟨_, rfl, _, _, _, _, _, rfl, ClsV.ty _, Ty.x (.tup ha), isI_str (H := H) (.tup ha), _, rfl, iF q_tuple_str ?_⟩
        refine ⟨_, rfl, _, _, _, _, _, rfl, ClsV.ty _, Ty.x (.tup ha), isI_tuple (H := H) (.tup ha), _, rfl, iF (nb_f q_tuple_tuple) ?_⟩
        refine ⟨_, rfl, _, _, rfl, .inr (SqT.of ha), rfl, _, rfl, iF rfl ?_⟩
        refine ⟨_, rfl, _, _, _, _, rfl, rfl, SqT.of ha, at_ix (by decide) rfl, ?_⟩
        refine ⟨_, _, _, _, _, rfl, ClsV.ty _, Ty.x (.int _), isI_str (H := H) (.int i), _, rfl, iT (nb_t q_int_str) q⟩
      | @second a' z y t ha ty hi =>
        refine ⟨_, rfl, _, _, _, _, _, rfl, ClsV.ty _, Ty.x (.tup ha), isI_str (H := H) (.tup ha), _, rfl, iF q_tuple_str ?_⟩
        refine ⟨_, rfl, _, _, _, _, _, rfl, ClsV.ty _, Ty.x (.tup ha), isI_tuple (H := H) (.tup ha), _, rfl, iF (nb_f q_tuple_tuple) ?_⟩
        refine ⟨_, rfl, _, _, rfl, .inr (SqT.of ha), rfl, _, rfl, iF rfl ?_⟩
        refine ⟨_, rfl, _, _, _, _, rfl, rfl, SqT.of ha, at_ix (by decide) rfl, ?_⟩
        refine ⟨_, _, _, _, _, rfl, ClsV.ty _, Ty.x (.str _), isI_str (H := H) (.str z), _, rfl, iF (nb_f q_str_str) ?_⟩
        refine ⟨_, rfl, _, _, _, _, rfl, rfl, SqT.of ha, at_ix (by decide) rfl, ?_⟩
        refine ⟨_, _, rfl, ty, _, rfl, iT (by rw [hi]; rfl) q⟩
end
end Pl

namespace Pl
open PySem L2
local macro_rules | `(tactic| bv_omega) => `(tactic| try simp only [pVar, pC, pTy, pCl, pNil, pCons, pOp, pUn, pCB, pI, pIC, pIB, pNeg, eqS, pEq, isNonS, pIsN, pIx, tvs, pTup, pLst, pTest, pAnd, pOr, pNot, pAndV, pOrV, pNotV, pIf, pChain, Sx.sl, Sx.tv, Sx.sq, Sx.dq, Sx.tq, Sx.rt, Sx.sqv, Sx.it, Sx.ar, Option.map_some, Option.bind_some, pgName, pgNil, pgCons, pgTup, piList, piTup, piSeq, piRange1, piRange2, piKeys, piItems, ars, pSp, pLen, tyOf, kb, pIsi, intsT, strsT, intsT_map, strsT_map, blsT_map, pIn, pInG, pNoPart, pPart, pSl, pRev, pAddG, pMulG, pAbs, p2I, pInt1, pBool1, pStrI, pListOf, pTupleOf, ints1, pSum, pSortedI, pMax, pMin, bls1, pAll, pAny, pEqG, pJoin, pDNew, pDGet, pDGet2, pDIn, Tv.key, pPick, pYes, kT, at0, at1, at2, at3, at4, exists_eq_left', Option.some.injEq, List.getElem?_cons_zero, List.getElem?_cons_succ, List.set_cons_zero, List.set_cons_succ, stS, Ar.sl, List.map_cons, List.map_nil, List.length_cons, List.length_nil, List.replicate_succ, List.replicate_zero, List.nil_append, List.cons_append, Nat.reduceSub, Nat.reduceAdd, wipeS, Bool.false_xor, Bool.true_xor, Bool.false_eq_true, if_true, if_false, decide_eq_true_eq, and_true, true_and, Bool.not_true, Bool.not_false, Bool.not_eq_true', decide_eq_false_iff_not, Nat.zero_le, Nat.reduceLeDiff, Int.reduceLT, Int.reduceLE, Int.reduceEq, Int.reduceNeg, Int.reducePow, Int.reduceAdd, Int.reduceSub, Nat.reduceMul, rgT_len, String.reduceBEq, beq_self_eq_true, Bool.or_false, Bool.false_or, Bool.true_or, Bool.or_true, Bool.or_self, ite_true, ite_false, ite_self, Int.zero_add, Bool.true_eq_false, reduceCtorEq, Function.comp_apply, unS, unSl_lkd, unSl_pvd, unSl_val, unSl_own, unSl_owd, unSl_box, unSl_any, pDisp, pDs0, pDs1, kvT, unSl_odl, pSortD, keyStrs_map])
local macro_rules | `(tactic| injections) => `(tactic| first
  | with_reducible refine s_seq ?_
  | with_reducible refine s_set ?_
  | with_reducible refine s_asg ?_
  | with_reducible refine s_if ?_
  | with_reducible refine s_ret ?_
  | with_reducible refine s_retN ?_
  | with_reducible refine s_next ?_
  | with_reducible refine s_for ?_
  | with_reducible refine s_break ?_
  | with_reducible refine s_cont ?_
  | with_reducible refine s_append (by first | with_unfolding_all rfl | assumption) (by with_unfolding_all first | omega | (simp only [List.length_map, List.length_append, List.length_cons, List.length_nil]; omega)) ?_
  | with_reducible refine s_drop ?_
  | with_reducible refine s_setF (by with_unfolding_all rfl) ?_
  | with_reducible refine s_asgF (by with_unfolding_all rfl) ?_
  | with_reducible refine s_ifF (by with_unfolding_all rfl) ?_
  | with_reducible refine s_retF (by with_unfolding_all rfl) ?_)
local macro_rules | `(tactic| subst_vars) => `(tactic| ((try simp only [pVar, pC, pTy, pCl, pNil, pCons, pOp, pUn, pCB, pI, pIC, pIB, pNeg, eqS, pEq, isNonS, pIsN, pIx, tvs, pTup, pLst, pTest, pAnd, pOr, pNot, pAndV, pOrV, pNotV, pIf, pChain, Sx.sl, Sx.tv, Sx.sq, Sx.dq, Sx.tq, Sx.rt, Sx.sqv, Sx.it, Sx.ar, Option.map_some, Option.bind_some, pgName, pgNil, pgCons, pgTup, piList, piTup, piSeq, piRange1, piRange2, piKeys, piItems, ars, pSp, pLen, tyOf, kb, pIsi, intsT, strsT, intsT_map, strsT_map, blsT_map, pIn, pInG, pNoPart, pPart, pSl, pRev, pAddG, pMulG, pAbs, p2I, pInt1, pBool1, pStrI, pListOf, pTupleOf, ints1, pSum, pSortedI, pMax, pMin, bls1, pAll, pAny, pEqG, pJoin, pDNew, pDGet, pDGet2, pDIn, Tv.key, pPick, pYes, kT, at0, at1, at2, at3, at4, exists_eq_left', Option.some.injEq, List.getElem?_cons_zero, List.getElem?_cons_succ, List.set_cons_zero, List.set_cons_succ, stS, Ar.sl, List.map_cons, List.map_nil, List.length_cons, List.length_nil, List.replicate_succ, List.replicate_zero, List.nil_append, List.cons_append, Nat.reduceSub, Nat.reduceAdd, wipeS, Bool.false_xor, Bool.true_xor, Bool.false_eq_true, if_true, if_false, decide_eq_true_eq, and_true, true_and, Bool.not_true, Bool.not_false, Bool.not_eq_true', decide_eq_false_iff_not, Nat.zero_le, Nat.reduceLeDiff, Int.reduceLT, Int.reduceLE, Int.reduceEq, Int.reduceNeg, Int.reducePow, Int.reduceAdd, Int.reduceSub, Nat.reduceMul, rgT_len, String.reduceBEq, beq_self_eq_true, Bool.or_false, Bool.false_or, Bool.true_or, Bool.or_true, Bool.or_self, ite_true, ite_false, ite_self, Int.zero_add, Bool.true_eq_false, reduceCtorEq, Function.comp_apply, unS, unSl_lkd, unSl_pvd, unSl_val, unSl_own, unSl_owd, unSl_box, unSl_any, pDisp, pDs0, pDs1, kvT, unSl_odl, pSortD, keyStrs_map]) <;> repeat ((first
  | with_reducible refine s_seq ?_
  | with_reducible refine s_set ?_
  | with_reducible refine s_asg ?_
  | with_reducible refine s_if ?_
  | with_reducible refine s_ret ?_
  | with_reducible refine s_retN ?_
  | with_reducible refine s_next ?_
  | with_reducible refine s_break ?_
  | with_reducible refine s_cont ?_
  | with_reducible refine s_append (by first | with_unfolding_all rfl | assumption) (by with_unfolding_all first | omega | (simp only [List.length_map, List.length_append, List.length_cons, List.length_nil]; omega)) ?_
  | with_reducible refine s_drop ?_
  | with_reducible refine s_setF (by with_unfolding_all rfl) ?_
  | with_reducible refine s_asgF (by with_unfolding_all rfl) ?_
  | with_reducible refine s_ifF (by with_unfolding_all rfl) ?_
  | with_reducible refine s_retF (by with_unfolding_all rfl) ?_) <;> try simp only [pVar, pC, pTy, pCl, pNil, pCons, pOp, pUn, pCB, pI, pIC, pIB, pNeg, eqS, pEq, isNonS, pIsN, pIx, tvs, pTup, pLst, pTest, pAnd, pOr, pNot, pAndV, pOrV, pNotV, pIf, pChain, Sx.sl, Sx.tv, Sx.sq, Sx.dq, Sx.tq, Sx.rt, Sx.sqv, Sx.it, Sx.ar, Option.map_some, Option.bind_some, pgName, pgNil, pgCons, pgTup, piList, piTup, piSeq, piRange1, piRange2, piKeys, piItems, ars, pSp, pLen, tyOf, kb, pIsi, intsT, strsT, intsT_map, strsT_map, blsT_map, pIn, pInG, pNoPart, pPart, pSl, pRev, pAddG, pMulG, pAbs, p2I, pInt1, pBool1, pStrI, pListOf, pTupleOf, ints1, pSum, pSortedI, pMax, pMin, bls1, pAll, pAny, pEqG, pJoin, pDNew, pDGet, pDGet2, pDIn, Tv.key, pPick, pYes, kT, at0, at1, at2, at3, at4, exists_eq_left', Option.some.injEq, List.getElem?_cons_zero, List.getElem?_cons_succ, List.set_cons_zero, List.set_cons_succ, stS, Ar.sl, List.map_cons, List.map_nil, List.length_cons, List.length_nil, List.replicate_succ, List.replicate_zero, List.nil_append, List.cons_append, Nat.reduceSub, Nat.reduceAdd, wipeS, Bool.false_xor, Bool.true_xor, Bool.false_eq_true, if_true, if_false, decide_eq_true_eq, and_true, true_and, Bool.not_true, Bool.not_false, Bool.not_eq_true', decide_eq_false_iff_not, Nat.zero_le, Nat.reduceLeDiff, Int.reduceLT, Int.reduceLE, Int.reduceEq, Int.reduceNeg, Int.reducePow, Int.reduceAdd, Int.reduceSub, Nat.reduceMul, rgT_len, String.reduceBEq, beq_self_eq_true, Bool.or_false, Bool.false_or, Bool.true_or, Bool.or_true, Bool.or_self, ite_true, ite_false, ite_self, Int.zero_add, Bool.true_eq_false, reduceCtorEq, Function.comp_apply, unS, unSl_lkd, unSl_pvd, unSl_val, unSl_own, unSl_owd, unSl_box, unSl_any, pDisp, pDs0, pDs1, kvT, unSl_odl, pSortD, keyStrs_map])))
-- USE PL
section
variable {fw : Bool} {P : Program} {w : World} {K : PySem.W.Frag} {mg : Str → Option Value} {base : Heap}
section
variable {B : Bx} {O0 O : List Addr} {Hs Kb H0 H : Hp}
theorem wo_kn {T : Txt P K mg} {l a : Addr} {ps : List (Str × Int)} (w0 : Wl B O0 O Hs Kb H0) (s : Stay B H0 H) (b : BxOk B H) (hn : H0 l = none) (wo : WoA T H a l ps) : WoA T (kn B O H) a l ps := by
  have w1 := w0.go s b
  obtain ⟨dx, vs, h1, h2, h3⟩ := wo
  refine ⟨dx, vs, w1.other h1 nLD_ins, kn_new w0 s hn h2, h3.1, fun i p e => ?_⟩
  obtain ⟨t, e1, e2⟩ := h3.2 i p e
  exact ⟨t, e1, w1.other e2 nLD_tup⟩
theorem prs_knn {r : Addr} {us : List V} {ps : List (Str × Int)} (w1 : Wl B O0 O Hs Kb H) (hr : H r = some (.lst us)) (h : PrsAt H us ps) : RepL (kn B (r :: O) H) (ps.map pairT) us := by
  refine prs_to ⟨h.1, fun i p e => ?_⟩
  obtain ⟨t, e1, e2⟩ := h.2 i p e
  refine ⟨t, e1, ?_⟩
  have e3 := w1.other e2 nLD_tup
  obtain ⟨_, n1, n2⟩ := kn_inv e3
  refine kn_at (fun hm => ?_) n2 e2
  · rcases List.mem_cons.mp hm with rfl | hm
    · rw [hr] at e2; cases e2
    · exact n1 hm
end
/-- a world made by _law_world -/
instance lWorldG {T : Txt P K mg} : LSp fw (spWorldL T) (pWorldL T) := ⟨fun {B O0 O Hs Kb H0 H ss σ Q E Qp xs vs} c0 c s r h f => by
  unfold pWorldL at h
  split at h
  · rename_i x
    obtain ⟨v, u, rfl, r1, rfl⟩ := r
    obtain ⟨rs, ex, nd, hl, hz, q⟩ := h
    obtain ⟨d, kvs, rfl, hd, he⟩ := rows_at kn_all (r1.rep c0.w s ex)
    refine ⟨d, kvs, rs, rfl, kn_all _ _ hd, he, nd, hl, hz, fun a l H' s1 hn wo => ?_⟩
    have b1 := c.w.bx.same s1
    exact f.run _ _ _ q (Stay.of s1) b1 ⟨a, l, rfl, wo_kn c.w (Stay.of s1) b1 hn wo⟩
  · exact h.elim⟩
/-- the ordered pairs, a new list -/
def pPairsN : List Sx → (Sx → Prop) → Prop := fun xs Q => match xs with
  | [x] => ∃ rs : Rws, x.tv = some (rowsT rs) ∧ (rs.map (·.1)).Nodup ∧ (rs.map fun r => r.2.length).sum ≤ 300 ∧ Q (.n ((wRows rs).map pairT))
  | _ => False
instance lPairsN : LSp fw spPairsL pPairsN := ⟨fun {B O0 O Hs Kb H0 H ss σ Q E Qp xs vs} c0 c s r h f => by
  unfold pPairsN at h
  split at h
  · rename_i x
    obtain ⟨v, u, rfl, r1, rfl⟩ := r
    obtain ⟨rs, ex, nd, hl, q⟩ := h
    obtain ⟨d, kvs, rfl, hd, he⟩ := rows_at kn_all (r1.rep c0.w s ex)
    refine ⟨d, kvs, rs, rfl, kn_all _ _ hd, he, nd, hl, fun r H' us s1 hn h1 h2 => ?_⟩
    have b1 := c.w.bx.same s1
    exact f.run _ _ _ q (Stay.of s1) b1 ⟨r, us, rfl, hn, h1, prs_knn (c.w.go (Stay.of s1) b1) h1 h2⟩
  · exact h.elim⟩
/-- world.rows(), world.names(), world[name]: new lists -/
def pRowsN (T : Txt P K mg) (pe : PX) : PX := fun ss Q => pe ss fun x => ∃ ps, x = .v (woT T ps) ∧ Q (.n (ps.map pairT))
instance lRowsN {K' : PySem.W.Frag} {T : Txt P K mg} {E : XK} {te : TE} {pe : PX} [k : LE fw te pe] [hK : IsK K' K] : LE fw (tMethV K' (fun _ : Unit => T.World_rows.f) "rows" (fun _ => spRowsM T) E te tNil) (pRowsN T pe) := ⟨fun {B O0 O Hs Kb H ss σ Q Qp} c h q => by
  cases hK.eq
  refine k.run c h fun x H1 v q1 s1 b1 r1 => ?_
  obtain ⟨ps, rfl, q2⟩ := q1
  obtain ⟨a, l, rfl, wo⟩ : ∃ a l, v = .ref a ∧ WoA T (kn B O H1) a l ps := r1
  have wo1 := wo.same kn_all
  obtain ⟨dx, vs, h1, _⟩ := id wo1
  refine ⟨a, _, dx, _, (), rfl, h1, rfl, T.o_World.cl, T.m_World_rows, a, l, ps, rfl, wo1, fun r H' us s' hn hr hp => ?_⟩
  have b2 := b1.same s'
  exact q _ _ _ q2 (s1.trans (Stay.of s')) b2 ⟨r, us, rfl, s1.free b1 hn, hr, prs_knn ((c.w.go s1 b1).go (Stay.of s') b2) hr hp⟩⟩
def pNamesN (T : Txt P K mg) (pe : PX) : PX := fun ss Q => pe ss fun x => ∃ ps, x = .v (woT T ps) ∧ ps.length ≤ 1000 ∧ ∀ ys : List Str, ys.Pairwise (fun x y => x.cps.toList ≤ y.cps.toList) → ys.Nodup → (∀ z, z ∈ ys ↔ z ∈ ps.map (·.1)) → Q (.n (ys.map Tv.str))
instance lNamesN {K' : PySem.W.Frag} {T : Txt P K mg} {E : XK} {te : TE} {pe : PX} [k : LE fw te pe] [hK : IsK K' K] : LE fw (tMethV K' (fun _ : Unit => T.World_names.f) "names" (fun _ => spNames2 T) E te tNil) (pNamesN T pe) := ⟨fun {B O0 O Hs Kb H ss σ Q Qp} c h q => by
  cases hK.eq
  refine k.run c h fun x H1 v q1 s1 b1 r1 => ?_
  obtain ⟨ps, rfl, hl, q2⟩ := q1
  obtain ⟨a, l, rfl, wo⟩ : ∃ a l, v = .ref a ∧ WoA T (kn B O H1) a l ps := r1
  have wo1 := wo.same kn_all
  obtain ⟨dx, vs, h1, _⟩ := id wo1
  refine ⟨a, _, dx, _, (), rfl, h1, rfl, T.o_World.cl, T.m_World_names, a, l, ps, rfl, wo1, hl, fun r ys H' s' hn hr o1 o2 o3 => ?_⟩
  exact q _ _ _ (q2 ys o1 o2 o3) (s1.trans (Stay.of s')) (b1.same s') ⟨r, _, rfl, s1.free b1 hn, hr, RepL.of_strs ys⟩⟩
def pItemN (T : Txt P K mg) : Sx → Sx → (Sx → Prop) → Prop := fun x y Q => ∃ ps z, x = .v (woT T ps) ∧ y = .v (.str z) ∧ goodName z ∧ ps.length ≤ 1000 ∧ Q (.n ((rowsOf ps z).map Tv.int))
instance lItemN {X : Cx} {T : Txt P K mg} {E : XK} [hK : IsK X.K K] : LR fw (tGetO X T.World_getitem.f (spGetItem T) E) (pItemN T) := ⟨fun {B O0 O Hs Kb H0 H ss σ Q Qp x y v u} c0 c s rx ry h f => by
  have e := hK.eq
  obtain ⟨ps, z, rfl, rfl, gz, hl, q⟩ := h
  obtain ⟨a, l, rfl, wo⟩ : ∃ a l, v = .ref a ∧ WoA T (kn B O H) a l ps := rx
  cases ry
  have wo1 := wo.same kn_all
  obtain ⟨dx, vs, h1, _⟩ := id wo1
  refine ⟨a, _, dx, _, rfl, h1, by rw [e]; exact T.gi_World, a, l, z, ps, rfl, wo1, gz, hl, fun r H' s' hn hr => ?_⟩
  exact f.run _ _ _ q (Stay.of s') (c.w.bx.same s') ⟨r, _, rfl, hn, hr, RepL.of_ints _⟩⟩
/-- len(world) -/
def pLenW (T : Txt P K mg) : List Sx → (Sx → Prop) → Prop := fun xs Q => match xs with
  | [x] => ∃ ps, x = .v (woT T ps) ∧ ps.length < 2 ^ 62 ∧ Q (.v (.int ps.length))
  | _ => False
instance lLenW {X : Cx} {T : Txt P K mg} {E : XK} [hK : IsK X.K K] : LC fw (fun xs H Q => ∃ a C dx fs, xs = [.ref a] ∧ H a = some (.ins C dx fs) ∧ Meth X.K C "__len__" T.World_len.f ∧ spLenW T [.ref a] H (fun v H' => ∃ n : Nat, v = .int n ∧ n < 2 ^ 62 ∧ Q (.int n) H') E) (pLenW T) := ⟨fun {B O0 O Hs Kb H0 H ss σ Q Qp xs vs} c0 c s r h f => by
  have e := hK.eq
  unfold pLenW at h
  split at h
  · obtain ⟨v, w, rfl, rx, rfl⟩ := r
    obtain ⟨ps, rfl, hl, q⟩ := h
    obtain ⟨a, l, rfl, wo⟩ : ∃ a l, v = .ref a ∧ WoA T (kn B O H) a l ps := rx
    have wo1 := wo.same kn_all
    obtain ⟨dx, vs, h1, _⟩ := id wo1
    exact ⟨a, _, dx, _, rfl, h1, by rw [e]; exact T.m_World_len, a, l, ps, rfl, wo1, _, rfl, hl, f.now c.w.bx q rfl⟩
  · exact h.elim⟩
/-- thing in world -/
def noRow : Tv → Bool
  | .non => true
  | .int _ => true
  | .bl _ => true
  | .lst _ => true
  | .tup [.int _, _] => true
  | .tup [.str _, .str _] => true
  | .tup [.str _, .bl _] => true
  | .tup [.str _, .non] => true
  | .tup xs => decide (xs.length ≠ 2)
  | _ => false
theorem noRow_ok {H : Hp} {t : Tv} {v : V} (h : noRow t = true) (r : Rep H t v) : NoRow H v := by
  unfold noRow at h
  split at h
  · cases r; exact .non
  · cases r; exact .int _
  · cases r; exact .bl _
  · obtain ⟨a, us, rfl, h1, _⟩ := r; exact .lst h1
  · obtain ⟨a, us, rfl, h1, v1, r1, rfl, rfl, v2, r2, rfl, _, rfl⟩ := r; exact .first h1
  · obtain ⟨a, us, rfl, h1, v1, r1, rfl, rfl, v2, r2, rfl, rfl, rfl⟩ := r; exact .second h1 (.str _) rfl
  · obtain ⟨a, us, rfl, h1, v1, r1, rfl, rfl, v2, r2, rfl, rfl, rfl⟩ := r; exact .second h1 (.bl _) rfl
  · obtain ⟨a, us, rfl, h1, v1, r1, rfl, rfl, v2, r2, rfl, rfl, rfl⟩ := r; exact .second h1 .non rfl
  · obtain ⟨a, us, rfl, h1, rl⟩ := r
    exact .len h1 (by rw [rl.len]; exact of_decide_eq_true h)
  · cases h
theorem NoRow.same {H H' : Hp} {v : V} (s : Same H H') (h : NoRow H v) : NoRow H' v := by
  cases h with
  | non => exact .non
  | int i => exact .int i
  | bl b => exact .bl b
  | lst h => exact .lst (s _ _ h)
  | len h n => exact .len (s _ _ h) n
  | first h => exact .first (s _ _ h)
  | second h t n => exact .second (s _ _ h) (t.same s) n
def pInWo (T : Txt P K mg) (neg : Bool) : Sx → Sx → (Sx → Prop) → Prop := fun x y Q => ∃ ps, y = .v (woT T ps) ∧ ps.length ≤ 1000 ∧ (∀ p ∈ ps, goodName p.1) ∧
  ((∃ z m, x.tv = some (.tup [.str z, .int m]) ∧ goodName z ∧ Q (.v (.bl (neg ^^ decide ((z, m) ∈ ps))))) ∨ (∃ z, x = .v (.str z) ∧ Q (.v (.bl (neg ^^ decide (z ∈ ps.map (·.1)))))) ∨ ∃ t, x.tv = some t ∧ noRow t = true ∧ Q (.v (.bl neg)))
instance lInWo {X : Cx} {T : Txt P K mg} {E : XK} {neg : Bool} [hK : IsK X.K K] : LR fw (rInO X T.World_contains.f (spHas T) E neg) (pInWo T neg) := ⟨fun {B O0 O Hs Kb H0 H ss σ Q Qp x y v u} c0 c s rx ry h f => by
  have e := hK.eq
  obtain ⟨ps, rfl, hl, hg, h⟩ := h
  obtain ⟨a, l, rfl, wo⟩ : ∃ a l, u = .ref a ∧ WoA T (kn B O H) a l ps := ry
  have wo1 := wo.same kn_all
  obtain ⟨dx, vs, h1, _⟩ := id wo1
  refine ⟨a, _, dx, _, rfl, h1, by rw [e]; exact T.m_World_contains, a, l, ps, v, rfl, wo1, hl, hg, ?_⟩
  rcases h with ⟨z, m, ex, gz, q⟩ | ⟨z, rfl, q⟩ | ⟨t, ex, nr, q⟩
  · obtain ⟨t, us, rfl, ht, v1, r1, rfl, rfl, v2, r2, rfl, rfl, rfl⟩ := rx.rep c0.w s ex
    exact .inl ⟨t, z, m, rfl, kn_all _ _ ht, gz, _, rfl, f.now c.w.bx q rfl⟩
  · cases rx
    exact .inr (.inl ⟨z, rfl, fun H' s' => ⟨_, rfl, f.run _ _ _ q (Stay.of s') (c.w.bx.same s') (show Rep (kn B O H') (.bl _) (.bl _) from rfl)⟩⟩)
  · exact .inr (.inr ⟨(noRow_ok nr (rx.rep c0.w s ex)).same kn_all, _, rfl, by rw [Bool.xor_false]; exact f.now c.w.bx q rfl⟩)⟩
/-- World(rows), the rows in a dict of one's own -/
def rowsS (x : Sx) (rs : Rws) : Prop := x.tv = some (rowsT rs) ∨ ∃ i as, x = .ol i as (rs.map fun r => .inr r.1) (rs.map fun r => r.2.map Tv.int)
theorem ents_own {B : Bx} {O : List Addr} {Hs H : Hp} {as : List Addr} {us : List (Key × V)} {rs : Rws} (k1 : us.map (·.1) = rs.map fun r => Sum.inr r.1) (k2 : us.map (·.2) = as.map V.ref) (w : OwL B O Hs H as (rs.map fun r => r.2.map Tv.int)) : EntsAt H us rs := by
  have hl : us.length = rs.length := by have := congrArg List.length k1; simpa using this
  refine ⟨hl, fun i kv r e1 e2 => ?_⟩
  have g1 : (us.map (·.1))[i]? = some kv.1 := by rw [List.getElem?_map, e1]; rfl
  rw [k1, List.getElem?_map, e2] at g1
  have g2 : (us.map (·.2))[i]? = some kv.2 := by rw [List.getElem?_map, e1]; rfl
  rw [k2, List.getElem?_map] at g2
  cases ea : as[i]? with
  | none => rw [ea] at g2; cases g2
  | some b =>
    rw [ea] at g2
    obtain ⟨_, _, ws, h3, h4⟩ := w.2.2 i b _ ea (by rw [List.getElem?_map, e2]; rfl)
    rw [h4.ints] at h3
    exact ⟨(Option.some.inj g1).symm, b, (Option.some.inj g2).symm, h3⟩
def pMakeWo (T : Txt P K mg) (pe : PX) : PX := fun ss Q => pe ss fun x => ∃ rs : Rws, rowsS x rs ∧ goodRows rs ∧ Q (.v (woT T (wRows rs)))
instance lMakeWo {T : Txt P K mg} {E : XK} {te : TE} {pe : PX} [k : LE fw te pe] : LE fw (StX.tMakeR T.c_World (spWInit T) E (tCons te tNil)) (pMakeWo T pe) := ⟨fun {B O0 O Hs Kb H ss σ Q Qp} c h q => by
  refine k.run c h fun x H1 v q1 s1 b1 r1 => ?_
  obtain ⟨rs, hx, hg, q2⟩ := q1
  intro x0 dx hx0 hdx hne
  have c1 := c.go s1 b1
  have s2 : Same H1 (upd (upd H1 dx (.own x0)) x0 (.ins T.c_World dx [])) := fun c o h => by
    rw [upd_ne (ne_of_none h hx0), upd_ne (ne_of_none h hdx)]
    exact h
  obtain ⟨d, kvs, rfl, hd, he⟩ : ∃ d kvs, v = .ref d ∧ H1 d = some (.dK kvs) ∧ EntsAt H1 kvs rs := by
    rcases hx with ex | ⟨i, as, rfl⟩
    · obtain ⟨d, kvs, e, hd, he⟩ := rows_at kn_all (r1.rep c.w s1 ex)
      exact ⟨d, kvs, e, kn_all _ _ hd, he⟩
    · obtain ⟨r1, r2⟩ := r1
      obtain ⟨o, e1, a, us, e2, m, n, g, k1, k2, w⟩ := c1.r.at_ i _ r2
      rw [r1] at e1
      cases e1
      cases e2
      exact ⟨a, us, rfl, g, ents_own k1 k2 w⟩
  refine ⟨H1, x0, d, dx, kvs, rs, rfl, s2, hx0, upd_same, s2 _ _ hd, he.same s2, hg, fun H' l s' hl w' => ⟨rfl, ?_⟩⟩
  have b2 := b1.same s'
  exact q _ _ _ q2 (s1.trans (Stay.of s')) b2 ⟨x0, l, rfl, wo_kn c1.w (Stay.of s') b2 (s2.free hl) w'⟩⟩
end
end Pl

set_option Elab.async false
set_option linter.all false
set_option maxRecDepth 100000
set_option maxHeartbeats 4000000
/-! o == v and o != v, o of an own class with __eq__ and no __ne__, v anything. -/
namespace Pl
open PySem PySem.Spec PyProof.Rows L2 NdefX ClX PySem.W Builtin
theorem ne_bind (self : Value) : bindSpecial (.builtin "object.__ne__") self = pure (.builtin "object.__ne__", [self]) :=
  (Slot.of (T := "object") (name := "__ne__") (owner := "object") (n := "__ne__") (by rw [typeLookup_type, builtinLookup_eq_fast]; kernel_rfl) (by decide +kernel) (by decide +kernel) (by decide +kernel)
    (.inl (by decide +kernel)) (by rw [isSubtype_type]; kernel_rfl)).bind self
section
variable {prog : Program} {w : World} {A : Around} {E : Value → Shared → Prop} {s : Shared} {K : Frag} {x C L f : Addr} {h₀ : Heap} {m : Str → Option Value} {ox : Obj} {od : Option Obj} {b tb : Value}
theorem objNe_K {Q : PySem.Fin → Shared → Prop} (hu : A.units < cLine) (X : K.In s.heap) (I : InstAt s.heap x ox C od) (B : NeO K C f)
    (h : wpAny (model prog w) A (call (.ref f) [.ref x, b]) (fun v s' => ∃ r, v = .bool r ∧ Q (.done (.ret (.bool (!r)))) s') E s) :
    wpAny (model prog w) A (Builtin.«object.__ne__» ⟨[.ref x, b], []⟩) Q E s := by
  unfold Builtin.«object.__ne__»
  repeat (first
    | with_reducible refine wpAny_cRoomFor hu ?_
    | (refine wpAny_bind (m := callSpecialIfBound? (.ref x) (Str.ofString "__eq__") [b])
        (ifBound_K X I B.at_ B.fn (wpAny_mono h (fun v s' hr => by
          obtain ⟨r, rfl, hq⟩ := hr
          repeat (first | exact hq | exact wpAny_pure hq | exact wpAny_truthy_bool hq | (refine wpAny_bind (m := truthy (.bool _)) (wpAny_truthy_bool ?_)) | wp_step)) fun _ _ e => e)))
    | wp_step)
theorem ne_plain : plainId "object.__ne__" = true := by decide +kernel
theorem rcNe_K {Q : Value → Shared → Prop} (hu : A.units + 1 < cLine) (F : Fr h₀ L s.heap m) (X₀ : K.In h₀) (I : InstAt s.heap x ox C od) (hb : Looks (model prog w) s.heap (typeOf b) tb) (hn : notFirst K C tb = true) (B : NeO K C f)
    (h : wpAny (model prog w) A.in1 (call (.ref f) [.ref x, b]) (fun v s' => ∃ r, v = .bool r ∧ Q (.bool (!r)) s') E s) : wpAny (model prog w) A (richCompare .NotEq (.ref x) b) Q E s := by
  have X := X₀.keeps F.keep
  have hin : Looks (model prog w) s.heap (isInstance (.ref x) (.type "object")) true := I.type.andThen (looks_subIn X (show subIn K (.ref C) (.type "object") = some true from B.top))
  have fin : wpAny (model prog w) A (call (.builtin "object.__ne__") ([.ref x] ++ [b]) >>= fun v => pure (some v)) (fun r s' => ∃ z, r = some z ∧ (∃ r, z = .bool (!r) ∧ Q z s')) E s := by
    refine wpAny_bind (wpAny_call (codeAny_call_builtin ne_plain PySem.F.cmpEntry_ne (check_slot PySem.F.cmpKind_ne PySem.F.cmpSplit_ne hin (PySem.F.cmpArgs_ne _ _) (objNe_K (A := A.in1) hu X I B (wpAny_mono h (fun v s' hv => ?_) fun _ _ e => e)))))
    obtain ⟨r, rfl, hq⟩ := hv
    exact ⟨r, rfl, wpAny_pure ⟨_, rfl, r, rfl, hq⟩⟩
  have one : wpAny (model prog w) A (tryCompare (.ref x) (cmpInfo .NotEq).2.1 b) (fun r s' => ∃ v, r = some v ∧ Q v s') E s := by
    unfold tryCompare
    refine wpAny_bind ?_
    simp only [callSpecialIfBound?, bindSpecialIfBound?]
    refine wpAny_holding (wpAny_bind (wpAny_bind (wpAny_bind (I.type.here ((looks_findIn X B.ne).here ?_)))))
    refine wpAny_bind (wpAny_askSetting (wpAny_ite ?_))
    have fin2 : wpAny (model prog w) A (call (.builtin "object.__ne__") ([.ref x] ++ [b]) >>= fun v => pure (some v)) (fun a s' => wpAny (model prog w) A (match a with | some Value.notImplemented => pure none | none => pure none | some v => pure (some v)) (fun r s' => ∃ v, r = some v ∧ Q v s') E s') E s :=
      wpAny_mono fin (fun r s' hr => by
        obtain ⟨z, rfl, r, rfl, hq⟩ := hr
        exact wpAny_pure ⟨_, rfl, hq⟩) fun _ _ e => e
    split
    · refine wpAny_bind ?_
      rw [ne_bind]
      refine wpAny_pure (wpAny_pure ?_)
      exact fin2
    · refine wpAny_tryCatch (wpAny_bind ?_)
      rw [ne_bind]
      refine wpAny_pure (wpAny_pure ?_)
      exact fin2
  unfold richCompare
  simp only [oneThing_ref]
  refine wpAny_holding (wpAny_bind (wpAny_cRoomFor (Nat.lt_of_succ_lt hu) ?_))
  refine wpAny_bind (I.type.here (wpAny_bind (hb.here ?_)))
  split
  · rename_i q
    have e : subIn K tb (.ref C) = some false := by
      rcases Bool.or_eq_true_iff.mp hn with e | e
      · rw [beq_iff_eq.mp e] at q; simp at q
      · exact beq_iff_eq.mp e
    refine wpAny_bind ((looks_subIn X e).here ?_)
    simp only [Bool.false_eq_true, if_false]
    refine wpAny_bind (wpAny_mono one (fun r s' z => ?_) fun _ _ e => e)
    obtain ⟨v, rfl, hq⟩ := z
    exact wpAny_pure hq
  · refine wpAny_bind (wpAny_pure ?_)
    simp only [Bool.false_eq_true, if_false]
    refine wpAny_bind (wpAny_mono one (fun r s' z => ?_) fun _ _ e => e)
    obtain ⟨v, rfl, hq⟩ := z
    exact wpAny_pure hq
end
section
variable {X : Cx} {CX : CXT} {k : Nat} {sp : Sp} {E : XK}
/-- o == v -/
def rEqO (X : Cx) (f : Addr) (sp : Sp) (E : XK) : R2 := fun x y H Q => ∃ a C dx fs t, x = .ref a ∧ H a = some (.ins C dx fs) ∧ TyX X.K H y t ∧ CmpO X.K C f .Eq ∧ notFirst X.K C t = true ∧ sp [x, y] H (fun v H' => ∃ b, v = .bl b ∧ Q (.bl b) H') E
theorem op_eqO {f : Addr} (F : FnR X.prog X.w X.K X.mg X.base CX k f sp) (hr : Room k X.A) (hx : Passes CX X E) : OpR X (compareOp .Eq) (rEqO X f sp E) := by
  intro pins s σ H x y v u Q I rx ry h
  obtain ⟨a, C, dx, fs, t, rfl, ha, ty, B, hn, q⟩ := h
  cases (show v = Value.ref a from rx)
  obtain ⟨mA, O, _⟩ := ins_get I.hok ha
  obtain ⟨odx, J, _⟩ := O.look
  obtain ⟨P, Z, hp, _⟩ := kit_of I ry ty
  obtain ⟨m, hF⟩ := I.fr
  rw [show compareOp .Eq (.ref a) u = richCompare .Eq (.ref a) u from rfl]
  refine cmp_K (op := .Eq) (tb := t) hr.units0 hF I.ok.mod.kin J (Z.ty _ _ I.kIn hp) hn B.at_ B.fn ?_
  refine wpAny_mono (wpAny_call (run_fnR (us := [.ref a, u]) (vs := [.ref a, y]) F hr hx I (.cons rfl (.cons ry .nil)) q)) (fun w s' z => ?_) fun _ _ x => x
  obtain ⟨z', H', I', rz, b, ez, qz⟩ := z
  subst ez
  obtain rfl : w = Value.bool b := rz
  exact ⟨.bl b, H', I', rfl, qz⟩
/-- o != v -/
def rNeO (X : Cx) (f : Addr) (sp : Sp) (E : XK) : R2 := fun x y H Q => ∃ a C dx fs t, x = .ref a ∧ H a = some (.ins C dx fs) ∧ TyX X.K H y t ∧ NeO X.K C f ∧ notFirst X.K C t = true ∧ sp [x, y] H (fun v H' => ∃ b, v = .bl b ∧ Q (.bl (!b)) H') E
theorem op_neO {f : Addr} (F : FnR X.prog X.w X.K X.mg X.base CX k f sp) (hr : Room (k + 1) X.A) (hx : Passes CX X E) : OpR X (compareOp .NotEq) (rNeO X f sp E) := by
  intro pins s σ H x y v u Q I rx ry h
  obtain ⟨a, C, dx, fs, t, rfl, ha, ty, B, hn, q⟩ := h
  cases (show v = Value.ref a from rx)
  obtain ⟨mA, O, _⟩ := ins_get I.hok ha
  obtain ⟨odx, J, _⟩ := O.look
  obtain ⟨P, Z, hp, _⟩ := kit_of I ry ty
  obtain ⟨m, hF⟩ := I.fr
  rw [show compareOp .NotEq (.ref a) u = richCompare .NotEq (.ref a) u from rfl]
  refine rcNe_K (tb := t) ?_ hF I.ok.mod.kin J (Z.ty _ _ I.kIn hp) hn B ?_
  · exact hr.in1.units0
  refine wpAny_mono (wpAny_call (run_fnR1 (us := [.ref a, u]) (vs := [.ref a, y]) F hr hx I (.cons rfl (.cons ry .nil)) q)) (fun w s' z => ?_) fun _ _ x => x
  obtain ⟨z', H', I', rz, b, ez, qz⟩ := z
  subst ez
  obtain rfl : w = Value.bool b := rz
  exact ⟨b, rfl, .bl (!b), H', I', rfl, qz⟩
end
theorem notFirst_ty {K : Frag} {C : Addr} {t : String} {l : List Value} (e : fastBuiltinMro t = some l) (h : (l.all fun v => match v with | .ref _ => false | _ => true) = true) : notFirst K C (.type t) = true := by
  unfold notFirst subIn
  dsimp only
  rw [e]
  have hm : ¬ Value.ref C ∈ l := fun hm => by
    have h1 := List.all_eq_true.mp h _ hm
    cases h1
  simp [hm]
theorem notFirst_non {K : Frag} {C : Addr} : notFirst K C (.type "NoneType") = true := notFirst_ty (l := [.type "NoneType", .type "object"]) (by kernel_rfl) rfl
theorem notFirst_bool {K : Frag} {C : Addr} : notFirst K C (.type "bool") = true := notFirst_ty (l := [.type "bool", .type "int", .type "object"]) (by kernel_rfl) rfl
theorem notFirst_int {K : Frag} {C : Addr} : notFirst K C (.type "int") = true := notFirst_ty (l := [.type "int", .type "object"]) (by kernel_rfl) rfl
theorem notFirst_str {K : Frag} {C : Addr} : notFirst K C (.type "str") = true := notFirst_ty (l := [.type "str", .type "object"]) (by kernel_rfl) rfl
theorem notFirst_lst {K : Frag} {C : Addr} : notFirst K C (.type "list") = true := notFirst_ty (l := [.type "list", .type "object"]) (by kernel_rfl) rfl
theorem notFirst_tup {K : Frag} {C : Addr} : notFirst K C (.type "tuple") = true := notFirst_ty (l := [.type "tuple", .type "object"]) (by kernel_rfl) rfl
theorem notFirst_dic {K : Frag} {C : Addr} : notFirst K C (.type "dict") = true := notFirst_ty (l := [.type "dict", .type "object"]) (by kernel_rfl) rfl
end Pl

namespace Pl
open PySem L2
section
variable {P : Program} {w : World} {K : PySem.W.Frag} {mg : Str → Option Value} {base : Heap}
theorem pairs_eqv : ∀ ps qs : List (Str × Int), PyData.eqvAll (ps.map pairD) (qs.map pairD) = decide (ps = qs)
  | [], [] => by simp [PyData.eqvAll]
  | [], q :: qs => by simp [PyData.eqvAll]
  | p :: ps, [] => by simp [PyData.eqvAll]
  | p :: ps, q :: qs => by
    rw [List.map_cons, List.map_cons, PyData.eqvAll, pair_eqv, pairs_eqv ps qs]
    by_cases h : p = q
    · by_cases h2 : ps = qs
      · simp [h, h2]
      · simp [h, h2]
    · simp [h]
/-- World.__eq__ -/
def spWEq (T : Txt P K mg) : Sp := fun vs H Q _ => ∃ (a l : Addr) (y : V) (ps : List (Str × Int)), vs = [.ref a, y] ∧ WoA T H a l ps ∧ (∀ p ∈ ps, goodName p.1) ∧
  ((∃ (b l2 : Addr) (qs : List (Str × Int)), y = .ref b ∧ WoA T H b l2 qs ∧ (∀ p ∈ qs, goodName p.1) ∧ Q (.bl (decide (ps = qs))) H) ∨ ∃ u, TyX K H y u ∧ PySem.W.kitOne K u (.ref T.c_World) = some false ∧ Q (.bl false) H)
theorem ok_world_eq (T : Txt P K mg) {k : Nat} : FnR P w K mg base CX0 (k + 1) T.World_eq.f (spWEq T) := by
  refine toR (T.World_eq.F.ok (k := k) sc_World_eq (fun vs H Q E h => ?_) (fun cdv A outer s H vs Q E hr h => ?_)) T.World_eq.b
  · obtain ⟨a, l, y, ps, rfl, _⟩ := h
    rfl
  · obtain ⟨a, l, y, ps, rfl, ⟨dx, us, h1, h2, h3⟩, hg, h⟩ := h
    refine ⟨_, (pss_one (ps_ret (pe_and (pe_callB call_isi (by rfl) T.n_isinstance (by decide +kernel) (pa_cons (pv 1) (pa_cons (pe_glob (v := .ref T.c_World) (by rfl) T.g_World rfl) pa_nil))) (pe_one (pe_cmpR (op_eqD hr.units) (pe_fld (pv 0) rfl) (pe_fld (pv 1) rfl) (nomark _)))))), ?_⟩
    rcases h with ⟨b, l2, qs, rfl, ⟨dy, ws, g1, g2, g3⟩, hg2, q⟩ | ⟨u, ty, hk, q⟩
    · refine ⟨_, rfl, _, _, _, _, _, rfl, .own _, T.o_World.ty g1, T.k1_World_World, _, rfl, iT rfl ?_⟩
      refine ⟨_, rfl, a, _, dx, _, _, rfl, h1, T.o_World.cl, T.n_World_pairs, rfl, _, rfl, b, _, dy, _, _, rfl, g1, T.o_World.cl, T.n_World_pairs, rfl, ?_⟩
      refine ⟨.list (ps.map pairD), .list (qs.map pairD), .lst (SqL.of h2) (dp_pairs h3), .lst (SqL.of g2) (dp_pairs g3), pairs_shaped hg, pairs_shaped hg2, ?_⟩
      rw [show PyData.eqv (.list (ps.map pairD)) (.list (qs.map pairD)) = PyData.eqvAll (ps.map pairD) (qs.map pairD) from by simp [PyData.eqv], pairs_eqv]
      exact q
    · exact ⟨_, rfl, _, _, _, _, _, rfl, .own _, ty, hk, _, rfl, iF rfl q⟩
end
end Pl

namespace Pl
open PySem L2
local macro_rules | `(tactic| bv_omega) => `(tactic| try simp only [pVar, pC, pTy, pCl, pNil, pCons, pOp, pUn, pCB, pI, pIC, pIB, pNeg, eqS, pEq, isNonS, pIsN, pIx, tvs, pTup, pLst, pTest, pAnd, pOr, pNot, pAndV, pOrV, pNotV, pIf, pChain, Sx.sl, Sx.tv, Sx.sq, Sx.dq, Sx.tq, Sx.rt, Sx.sqv, Sx.it, Sx.ar, Option.map_some, Option.bind_some, pgName, pgNil, pgCons, pgTup, piList, piTup, piSeq, piRange1, piRange2, piKeys, piItems, ars, pSp, pLen, tyOf, kb, pIsi, intsT, strsT, intsT_map, strsT_map, blsT_map, pIn, pInG, pNoPart, pPart, pSl, pRev, pAddG, pMulG, pAbs, p2I, pInt1, pBool1, pStrI, pListOf, pTupleOf, ints1, pSum, pSortedI, pMax, pMin, bls1, pAll, pAny, pEqG, pJoin, pDNew, pDGet, pDGet2, pDIn, Tv.key, pPick, pYes, kT, at0, at1, at2, at3, at4, exists_eq_left', Option.some.injEq, List.getElem?_cons_zero, List.getElem?_cons_succ, List.set_cons_zero, List.set_cons_succ, stS, Ar.sl, List.map_cons, List.map_nil, List.length_cons, List.length_nil, List.replicate_succ, List.replicate_zero, List.nil_append, List.cons_append, Nat.reduceSub, Nat.reduceAdd, wipeS, Bool.false_xor, Bool.true_xor, Bool.false_eq_true, if_true, if_false, decide_eq_true_eq, and_true, true_and, Bool.not_true, Bool.not_false, Bool.not_eq_true', decide_eq_false_iff_not, Nat.zero_le, Nat.reduceLeDiff, Int.reduceLT, Int.reduceLE, Int.reduceEq, Int.reduceNeg, Int.reducePow, Int.reduceAdd, Int.reduceSub, Nat.reduceMul, rgT_len, String.reduceBEq, beq_self_eq_true, Bool.or_false, Bool.false_or, Bool.true_or, Bool.or_true, Bool.or_self, ite_true, ite_false, ite_self, Int.zero_add, Bool.true_eq_false, reduceCtorEq, Function.comp_apply, unS, unSl_lkd, unSl_pvd, unSl_val, unSl_own, unSl_owd, unSl_box, unSl_any, pDisp, pDs0, pDs1, kvT, unSl_odl, pSortD, keyStrs_map])
local macro_rules | `(tactic| injections) => `(tactic| first
  | with_reducible refine s_seq ?_
  | with_reducible refine s_set ?_
  | with_reducible refine s_asg ?_
  | with_reducible refine s_if ?_
  | with_reducible refine s_ret ?_
  | with_reducible refine s_retN ?_
  | with_reducible refine s_next ?_
  | with_reducible refine s_for ?_
  | with_reducible refine s_break ?_
  | with_reducible refine s_cont ?_
  | with_reducible refine s_append (by first | with_unfolding_all rfl | assumption) (by with_unfolding_all first | omega | (simp only [List.length_map, List.length_append, List.length_cons, List.length_nil]; omega)) ?_
  | with_reducible refine s_drop ?_
  | with_reducible refine s_setF (by with_unfolding_all rfl) ?_
  | with_reducible refine s_asgF (by with_unfolding_all rfl) ?_
  | with_reducible refine s_ifF (by with_unfolding_all rfl) ?_
  | with_reducible refine s_retF (by with_unfolding_all rfl) ?_)
local macro_rules | `(tactic| subst_vars) => `(tactic| ((try simp only [pVar, pC, pTy, pCl, pNil, pCons, pOp, pUn, pCB, pI, pIC, pIB, pNeg, eqS, pEq, isNonS, pIsN, pIx, tvs, pTup, pLst, pTest, pAnd, pOr, pNot, pAndV, pOrV, pNotV, pIf, pChain, Sx.sl, Sx.tv, Sx.sq, Sx.dq, Sx.tq, Sx.rt, Sx.sqv, Sx.it, Sx.ar, Option.map_some, Option.bind_some, pgName, pgNil, pgCons, pgTup, piList, piTup, piSeq, piRange1, piRange2, piKeys, piItems, ars, pSp, pLen, tyOf, kb, pIsi, intsT, strsT, intsT_map, strsT_map, blsT_map, pIn, pInG, pNoPart, pPart, pSl, pRev, pAddG, pMulG, pAbs, p2I, pInt1, pBool1, pStrI, pListOf, pTupleOf, ints1, pSum, pSortedI, pMax, pMin, bls1, pAll, pAny, pEqG, pJoin, pDNew, pDGet, pDGet2, pDIn, Tv.key, pPick, pYes, kT, at0, at1, at2, at3, at4, exists_eq_left', Option.some.injEq, List.getElem?_cons_zero, List.getElem?_cons_succ, List.set_cons_zero, List.set_cons_succ, stS, Ar.sl, List.map_cons, List.map_nil, List.length_cons, List.length_nil, List.replicate_succ, List.replicate_zero, List.nil_append, List.cons_append, Nat.reduceSub, Nat.reduceAdd, wipeS, Bool.false_xor, Bool.true_xor, Bool.false_eq_true, if_true, if_false, decide_eq_true_eq, and_true, true_and, Bool.not_true, Bool.not_false, Bool.not_eq_true', decide_eq_false_iff_not, Nat.zero_le, Nat.reduceLeDiff, Int.reduceLT, Int.reduceLE, Int.reduceEq, Int.reduceNeg, Int.reducePow, Int.reduceAdd, Int.reduceSub, Nat.reduceMul, rgT_len, String.reduceBEq, beq_self_eq_true, Bool.or_false, Bool.false_or, Bool.true_or, Bool.or_true, Bool.or_self, ite_true, ite_false, ite_self, Int.zero_add, Bool.true_eq_false, reduceCtorEq, Function.comp_apply, unS, unSl_lkd, unSl_pvd, unSl_val, unSl_own, unSl_owd, unSl_box, unSl_any, pDisp, pDs0, pDs1, kvT, unSl_odl, pSortD, keyStrs_map]) <;> repeat ((first
  | with_reducible refine s_seq ?_
  | with_reducible refine s_set ?_
  | with_reducible refine s_asg ?_
  | with_reducible refine s_if ?_
  | with_reducible refine s_ret ?_
  | with_reducible refine s_retN ?_
  | with_reducible refine s_next ?_
  | with_reducible refine s_break ?_
  | with_reducible refine s_cont ?_
  | with_reducible refine s_append (by first | with_unfolding_all rfl | assumption) (by with_unfolding_all first | omega | (simp only [List.length_map, List.length_append, List.length_cons, List.length_nil]; omega)) ?_
  | with_reducible refine s_drop ?_
  | with_reducible refine s_setF (by with_unfolding_all rfl) ?_
  | with_reducible refine s_asgF (by with_unfolding_all rfl) ?_
  | with_reducible refine s_ifF (by with_unfolding_all rfl) ?_
  | with_reducible refine s_retF (by with_unfolding_all rfl) ?_) <;> try simp only [pVar, pC, pTy, pCl, pNil, pCons, pOp, pUn, pCB, pI, pIC, pIB, pNeg, eqS, pEq, isNonS, pIsN, pIx, tvs, pTup, pLst, pTest, pAnd, pOr, pNot, pAndV, pOrV, pNotV, pIf, pChain, Sx.sl, Sx.tv, Sx.sq, Sx.dq, Sx.tq, Sx.rt, Sx.sqv, Sx.it, Sx.ar, Option.map_some, Option.bind_some, pgName, pgNil, pgCons, pgTup, piList, piTup, piSeq, piRange1, piRange2, piKeys, piItems, ars, pSp, pLen, tyOf, kb, pIsi, intsT, strsT, intsT_map, strsT_map, blsT_map, pIn, pInG, pNoPart, pPart, pSl, pRev, pAddG, pMulG, pAbs, p2I, pInt1, pBool1, pStrI, pListOf, pTupleOf, ints1, pSum, pSortedI, pMax, pMin, bls1, pAll, pAny, pEqG, pJoin, pDNew, pDGet, pDGet2, pDIn, Tv.key, pPick, pYes, kT, at0, at1, at2, at3, at4, exists_eq_left', Option.some.injEq, List.getElem?_cons_zero, List.getElem?_cons_succ, List.set_cons_zero, List.set_cons_succ, stS, Ar.sl, List.map_cons, List.map_nil, List.length_cons, List.length_nil, List.replicate_succ, List.replicate_zero, List.nil_append, List.cons_append, Nat.reduceSub, Nat.reduceAdd, wipeS, Bool.false_xor, Bool.true_xor, Bool.false_eq_true, if_true, if_false, decide_eq_true_eq, and_true, true_and, Bool.not_true, Bool.not_false, Bool.not_eq_true', decide_eq_false_iff_not, Nat.zero_le, Nat.reduceLeDiff, Int.reduceLT, Int.reduceLE, Int.reduceEq, Int.reduceNeg, Int.reducePow, Int.reduceAdd, Int.reduceSub, Nat.reduceMul, rgT_len, String.reduceBEq, beq_self_eq_true, Bool.or_false, Bool.false_or, Bool.true_or, Bool.or_true, Bool.or_self, ite_true, ite_false, ite_self, Int.zero_add, Bool.true_eq_false, reduceCtorEq, Function.comp_apply, unS, unSl_lkd, unSl_pvd, unSl_val, unSl_own, unSl_owd, unSl_box, unSl_any, pDisp, pDs0, pDs1, kvT, unSl_odl, pSortD, keyStrs_map])))
-- USE PL
section
variable {P : Program} {w : World} {K : PySem.W.Frag} {mg : Str → Option Value} {base : Heap}
/-- the type of a plain value -/
def tyT : Tv → Option String
  | .non => some "NoneType"
  | .bl _ => some "bool"
  | .int _ => some "int"
  | .str _ => some "str"
  | .lst _ => some "list"
  | .tup _ => some "tuple"
  | .dic false _ _ => some "dict"
  | _ => none
theorem tyT_ok {H : Hp} {t : Tv} {v : V} {n : String} (e : tyT t = some n) (r : Rep H t v) : TyX K H v (.type n) := by
  cases t with
  | non => cases e; cases r; exact .base .non
  | bl b => cases e; cases r; exact .base (.bl b)
  | int i => cases e; cases r; exact .base (.int i)
  | str z => cases e; cases r; exact .base (.str z)
  | lst xs => cases e; obtain ⟨a, us, rfl, h, _⟩ := r; exact .base (.lst h)
  | tup xs => cases e; obtain ⟨a, us, rfl, h, _⟩ := r; exact .base (.tup h)
  | dic l ks ts =>
    cases l with
    | true => cases e
    | false => cases e; obtain ⟨a, us, rfl, h, _⟩ := r; exact .base (.dK (show H a = some (.dK us) from h))
  | ext S => cases e
theorem kit_no (T : Txt P K mg) {t : Tv} {n : String} (e : tyT t = some n) : PySem.W.kitOne K (.type n) (.ref T.c_World) = some false ∧ PySem.W.notFirst K T.c_World (.type n) = true := by
  cases t with
  | non => cases e; exact ⟨T.k1_NoneType_World, notFirst_non⟩
  | bl b => cases e; exact ⟨T.k1_bool_World, notFirst_bool⟩
  | int i => cases e; exact ⟨T.k1_int_World, notFirst_int⟩
  | str z => cases e; exact ⟨T.k1_str_World, notFirst_str⟩
  | lst xs => cases e; exact ⟨T.k1_list_World, notFirst_lst⟩
  | tup xs => cases e; exact ⟨T.k1_tuple_World, notFirst_tup⟩
  | dic l ks ts =>
    cases l with
    | true => cases e
    | false => cases e; exact ⟨T.k1_dict_World, notFirst_dic⟩
  | ext S => cases e
def pEqWo (T : Txt P K mg) (neg : Bool) : Sx → Sx → (Sx → Prop) → Prop := fun x y Q => ∃ ps, x = .v (woT T ps) ∧ (∀ p ∈ ps, goodName p.1) ∧
  ((∃ qs, y = .v (woT T qs) ∧ (∀ p ∈ qs, goodName p.1) ∧ Q (.v (.bl (neg ^^ decide (ps = qs))))) ∨ ∃ t n, y.tv = some t ∧ tyT t = some n ∧ Q (.v (.bl neg)))
theorem eqwo_go {T : Txt P K mg} {B : Bx} {H0 H : Hp} {O0 O : List Addr} {Hs Kb : Hp} {ss : List Sl} {σ : L2.St} {Q : VK} {Qp : Sx → Prop} {E : XK} {x y : Sx} {v u : V} {neg : Bool} {fw : Bool} (c0 : Ct fw B O0 O Hs Kb H0 ss σ) (c : Ct fw B O0 O Hs Kb H ss σ) (s : Stay B H0 H) (rx : XR B O H0 H ss σ x v) (ry : XR B O H0 H ss σ y u) (h : pEqWo T neg x y Qp) (f : Fin B O H ss σ Q Qp) :
    ∃ a dx fs t, v = .ref a ∧ H a = some (.ins T.c_World dx fs) ∧ TyX K H u t ∧ PySem.W.notFirst K T.c_World t = true ∧ spWEq T [v, u] H (fun v' H' => ∃ b, v' = .bl b ∧ Q (.bl (neg ^^ b)) H') E := by
  obtain ⟨ps, rfl, gp, h⟩ := h
  obtain ⟨a, l, rfl, wo⟩ : ∃ a l, v = .ref a ∧ WoA T (kn B O H) a l ps := rx
  have wo1 := wo.same kn_all
  obtain ⟨dx, vs, h1, _⟩ := id wo1
  rcases h with ⟨qs, rfl, gq, q⟩ | ⟨t, n, ey, en, q⟩
  · obtain ⟨b, l2, rfl, wo2⟩ : ∃ a l, u = .ref a ∧ WoA T (kn B O H) a l qs := ry
    have wo3 := wo2.same kn_all
    obtain ⟨dy, ws, g1, _⟩ := id wo3
    exact ⟨a, dx, _, _, rfl, h1, T.o_World.ty g1, T.nf_World_World, a, l, _, ps, rfl, wo1, gp, .inl ⟨b, l2, qs, rfl, wo3, gq, _, rfl, f.now c.w.bx q rfl⟩⟩
  · have ty : TyX K H u (.type n) := tyT_ok en ((ry.rep c0.w s ey).mono kn_all)
    obtain ⟨k1, k2⟩ := kit_no T en
    exact ⟨a, dx, _, _, rfl, h1, ty, k2, a, l, _, ps, rfl, wo1, gp, .inr ⟨_, ty, k1, _, rfl, by rw [Bool.xor_false]; exact f.now c.w.bx q rfl⟩⟩
instance lEqWo {fw : Bool} {X : Cx} {T : Txt P K mg} {E : XK} [hK : IsK X.K K] : LR fw (rEqO X T.World_eq.f (spWEq T) E) (pEqWo T false) := ⟨fun {B O0 O Hs Kb H0 H ss σ Q Qp x y v u} c0 c s rx ry h f => by
  have e := hK.eq
  obtain ⟨a, dx, fs, t, rfl, h1, ty, nf, hs⟩ := eqwo_go (E := E) c0 c s rx ry h f
  simp only [Bool.false_xor] at hs
  unfold rEqO
  rw [e]
  exact ⟨a, _, dx, fs, t, rfl, h1, ty, ⟨T.e_World_Eq.at_, T.e_World_Eq.fn⟩, nf, hs⟩⟩
instance lNeWo {fw : Bool} {X : Cx} {T : Txt P K mg} {E : XK} [hK : IsK X.K K] : LR fw (rNeO X T.World_eq.f (spWEq T) E) (pEqWo T true) := ⟨fun {B O0 O Hs Kb H0 H ss σ Q Qp x y v u} c0 c s rx ry h f => by
  have e := hK.eq
  obtain ⟨a, dx, fs, t, rfl, h1, ty, nf, hs⟩ := eqwo_go (E := E) c0 c s rx ry h f
  simp only [Bool.true_xor] at hs
  unfold rNeO
  rw [e]
  exact ⟨a, _, dx, fs, t, rfl, h1, ty, T.ne_World, nf, hs⟩⟩
end
end Pl

namespace Pl
open PySem L2
local macro_rules | `(tactic| bv_omega) => `(tactic| try simp only [pVar, pC, pTy, pCl, pNil, pCons, pOp, pUn, pCB, pI, pIC, pIB, pNeg, eqS, pEq, isNonS, pIsN, pIx, tvs, pTup, pLst, pTest, pAnd, pOr, pNot, pAndV, pOrV, pNotV, pIf, pChain, Sx.sl, Sx.tv, Sx.sq, Sx.dq, Sx.tq, Sx.rt, Sx.sqv, Sx.it, Sx.ar, Option.map_some, Option.bind_some, pgName, pgNil, pgCons, pgTup, piList, piTup, piSeq, piRange1, piRange2, piKeys, piItems, ars, pSp, pLen, tyOf, kb, pIsi, intsT, strsT, intsT_map, strsT_map, blsT_map, pIn, pInG, pNoPart, pPart, pSl, pRev, pAddG, pMulG, pAbs, p2I, pInt1, pBool1, pStrI, pListOf, pTupleOf, ints1, pSum, pSortedI, pMax, pMin, bls1, pAll, pAny, pEqG, pJoin, pDNew, pDGet, pDGet2, pDIn, Tv.key, pPick, pYes, kT, at0, at1, at2, at3, at4, exists_eq_left', Option.some.injEq, List.getElem?_cons_zero, List.getElem?_cons_succ, List.set_cons_zero, List.set_cons_succ, stS, Ar.sl, List.map_cons, List.map_nil, List.length_cons, List.length_nil, List.replicate_succ, List.replicate_zero, List.nil_append, List.cons_append, Nat.reduceSub, Nat.reduceAdd, wipeS, Bool.false_xor, Bool.true_xor, Bool.false_eq_true, if_true, if_false, decide_eq_true_eq, and_true, true_and, Bool.not_true, Bool.not_false, Bool.not_eq_true', decide_eq_false_iff_not, Nat.zero_le, Nat.reduceLeDiff, Int.reduceLT, Int.reduceLE, Int.reduceEq, Int.reduceNeg, Int.reducePow, Int.reduceAdd, Int.reduceSub, Nat.reduceMul, rgT_len, String.reduceBEq, beq_self_eq_true, Bool.or_false, Bool.false_or, Bool.true_or, Bool.or_true, Bool.or_self, ite_true, ite_false, ite_self, Int.zero_add, Bool.true_eq_false, reduceCtorEq, Function.comp_apply, unS, unSl_lkd, unSl_pvd, unSl_val, unSl_own, unSl_owd, unSl_box, unSl_any, pDisp, pDs0, pDs1, kvT, unSl_odl, pSortD, keyStrs_map])
local macro_rules | `(tactic| injections) => `(tactic| first
  | with_reducible refine s_seq ?_
  | with_reducible refine s_set ?_
  | with_reducible refine s_asg ?_
  | with_reducible refine s_if ?_
  | with_reducible refine s_ret ?_
  | with_reducible refine s_retN ?_
  | with_reducible refine s_next ?_
  | with_reducible refine s_for ?_
  | with_reducible refine s_break ?_
  | with_reducible refine s_cont ?_
  | with_reducible refine s_append (by first | with_unfolding_all rfl | assumption) (by with_unfolding_all first | omega | (simp only [List.length_map, List.length_append, List.length_cons, List.length_nil]; omega)) ?_
  | with_reducible refine s_drop ?_
  | with_reducible refine s_setF (by with_unfolding_all rfl) ?_
  | with_reducible refine s_asgF (by with_unfolding_all rfl) ?_
  | with_reducible refine s_ifF (by with_unfolding_all rfl) ?_
  | with_reducible refine s_retF (by with_unfolding_all rfl) ?_)
local macro_rules | `(tactic| subst_vars) => `(tactic| ((try simp only [pVar, pC, pTy, pCl, pNil, pCons, pOp, pUn, pCB, pI, pIC, pIB, pNeg, eqS, pEq, isNonS, pIsN, pIx, tvs, pTup, pLst, pTest, pAnd, pOr, pNot, pAndV, pOrV, pNotV, pIf, pChain, Sx.sl, Sx.tv, Sx.sq, Sx.dq, Sx.tq, Sx.rt, Sx.sqv, Sx.it, Sx.ar, Option.map_some, Option.bind_some, pgName, pgNil, pgCons, pgTup, piList, piTup, piSeq, piRange1, piRange2, piKeys, piItems, ars, pSp, pLen, tyOf, kb, pIsi, intsT, strsT, intsT_map, strsT_map, blsT_map, pIn, pInG, pNoPart, pPart, pSl, pRev, pAddG, pMulG, pAbs, p2I, pInt1, pBool1, pStrI, pListOf, pTupleOf, ints1, pSum, pSortedI, pMax, pMin, bls1, pAll, pAny, pEqG, pJoin, pDNew, pDGet, pDGet2, pDIn, Tv.key, pPick, pYes, kT, at0, at1, at2, at3, at4, exists_eq_left', Option.some.injEq, List.getElem?_cons_zero, List.getElem?_cons_succ, List.set_cons_zero, List.set_cons_succ, stS, Ar.sl, List.map_cons, List.map_nil, List.length_cons, List.length_nil, List.replicate_succ, List.replicate_zero, List.nil_append, List.cons_append, Nat.reduceSub, Nat.reduceAdd, wipeS, Bool.false_xor, Bool.true_xor, Bool.false_eq_true, if_true, if_false, decide_eq_true_eq, and_true, true_and, Bool.not_true, Bool.not_false, Bool.not_eq_true', decide_eq_false_iff_not, Nat.zero_le, Nat.reduceLeDiff, Int.reduceLT, Int.reduceLE, Int.reduceEq, Int.reduceNeg, Int.reducePow, Int.reduceAdd, Int.reduceSub, Nat.reduceMul, rgT_len, String.reduceBEq, beq_self_eq_true, Bool.or_false, Bool.false_or, Bool.true_or, Bool.or_true, Bool.or_self, ite_true, ite_false, ite_self, Int.zero_add, Bool.true_eq_false, reduceCtorEq, Function.comp_apply, unS, unSl_lkd, unSl_pvd, unSl_val, unSl_own, unSl_owd, unSl_box, unSl_any, pDisp, pDs0, pDs1, kvT, unSl_odl, pSortD, keyStrs_map]) <;> repeat ((first
  | with_reducible refine s_seq ?_
  | with_reducible refine s_set ?_
  | with_reducible refine s_asg ?_
  | with_reducible refine s_if ?_
  | with_reducible refine s_ret ?_
  | with_reducible refine s_retN ?_
  | with_reducible refine s_next ?_
  | with_reducible refine s_break ?_
  | with_reducible refine s_cont ?_
  | with_reducible refine s_append (by first | with_unfolding_all rfl | assumption) (by with_unfolding_all first | omega | (simp only [List.length_map, List.length_append, List.length_cons, List.length_nil]; omega)) ?_
  | with_reducible refine s_drop ?_
  | with_reducible refine s_setF (by with_unfolding_all rfl) ?_
  | with_reducible refine s_asgF (by with_unfolding_all rfl) ?_
  | with_reducible refine s_ifF (by with_unfolding_all rfl) ?_
  | with_reducible refine s_retF (by with_unfolding_all rfl) ?_) <;> try simp only [pVar, pC, pTy, pCl, pNil, pCons, pOp, pUn, pCB, pI, pIC, pIB, pNeg, eqS, pEq, isNonS, pIsN, pIx, tvs, pTup, pLst, pTest, pAnd, pOr, pNot, pAndV, pOrV, pNotV, pIf, pChain, Sx.sl, Sx.tv, Sx.sq, Sx.dq, Sx.tq, Sx.rt, Sx.sqv, Sx.it, Sx.ar, Option.map_some, Option.bind_some, pgName, pgNil, pgCons, pgTup, piList, piTup, piSeq, piRange1, piRange2, piKeys, piItems, ars, pSp, pLen, tyOf, kb, pIsi, intsT, strsT, intsT_map, strsT_map, blsT_map, pIn, pInG, pNoPart, pPart, pSl, pRev, pAddG, pMulG, pAbs, p2I, pInt1, pBool1, pStrI, pListOf, pTupleOf, ints1, pSum, pSortedI, pMax, pMin, bls1, pAll, pAny, pEqG, pJoin, pDNew, pDGet, pDGet2, pDIn, Tv.key, pPick, pYes, kT, at0, at1, at2, at3, at4, exists_eq_left', Option.some.injEq, List.getElem?_cons_zero, List.getElem?_cons_succ, List.set_cons_zero, List.set_cons_succ, stS, Ar.sl, List.map_cons, List.map_nil, List.length_cons, List.length_nil, List.replicate_succ, List.replicate_zero, List.nil_append, List.cons_append, Nat.reduceSub, Nat.reduceAdd, wipeS, Bool.false_xor, Bool.true_xor, Bool.false_eq_true, if_true, if_false, decide_eq_true_eq, and_true, true_and, Bool.not_true, Bool.not_false, Bool.not_eq_true', decide_eq_false_iff_not, Nat.zero_le, Nat.reduceLeDiff, Int.reduceLT, Int.reduceLE, Int.reduceEq, Int.reduceNeg, Int.reducePow, Int.reduceAdd, Int.reduceSub, Nat.reduceMul, rgT_len, String.reduceBEq, beq_self_eq_true, Bool.or_false, Bool.false_or, Bool.true_or, Bool.or_true, Bool.or_self, ite_true, ite_false, ite_self, Int.zero_add, Bool.true_eq_false, reduceCtorEq, Function.comp_apply, unS, unSl_lkd, unSl_pvd, unSl_val, unSl_own, unSl_owd, unSl_box, unSl_any, pDisp, pDs0, pDs1, kvT, unSl_odl, pSortD, keyStrs_map])))
-- USE PL
section
variable {P : Program} {w : World} {K : PySem.W.Frag} {mg : Str → Option Value} {base : Heap}
theorem abc_good : goodName "abcdefghijkl" := by unfold goodName; decide
def qTold13 (T : Txt P K mg) : PSp := fun xs Q => ∃ rs : Rws, xs = [.tv (woT T (wRows rs)), .tv (rowsT rs)] ∧ goodRows rs ∧ (rs.map (·.1)).Nodup ∧ rs.length ≤ 10 ∧ (∀ r ∈ rs, r.1 ≠ "abcdefghijkl") ∧ Q (.bl true)
theorem pok_told13 (T : Txt P K mg) {k : Nat} : FnOk P w K mg base CX0 (k + 9) T.law_told_all.f T.law_told_all.fd ["_law_world_here", "_law_rows_here"] (spP 2 (qTold13 T)) := by
  have G_law_equal : FnOk P w K mg base CX0 (k + 8) T.law_equal.f T.law_equal.fd ["_law_one", "_law_other"] (spP 2 (qEqual 4)) := pok_law_equal T 4
  have G_names : ∀ _ : Unit, FnR P w K mg base CX0 (k + 1) T.World_names.f (spNames2 T) := fun _ => ok_world_names T
  have G_rows : ∀ _ : Unit, FnR P w K mg base CX0 (k + 1) T.World_rows.f (spRowsM T) := fun _ => ok_world_rows T
  have G_law_pairs : FnOk P w K mg base CX0 (k + 1) T.law_pairs.f T.law_pairs.fd ["_law_rows_here"] spPairsL := ok_law_pairs T
  have G_len : FnR P w K mg base CX0 (k + 1) T.World_len.f (spLenW T) := ok_world_len T
  have G_getitem : FnR P w K mg base CX0 (k + 3) T.World_getitem.f (spGetItem T) := ok_getitem T
  have G_contains : FnR P w K mg base CX0 (k + 2) T.World_contains.f (spHas T) := ok_world_has T
  refine okPu T.law_told_all.F sc_law_told_all fun xs Qp hl hp cdv A outer s H E hr => ⟨_, (pss_cons (ps_setLc (i := 2) (own := [("_law_name", 3)]) (g := gName 3) (tt := (tTest (tOp _ (tCB (rLenG K) (tCons (tDGet (tVar 1) (tVar 3)) tNil)) (tC _)))) (te := (tVar 3)) rfl sc_law_told_all.nd rfl rfl (sw_true rfl rfl rfl (by decide +kernel)) (pi_seq (pe_callB (call_sortedD rfl) (by rfl) T.n_sorted (by decide +kernel) (pa_cons (pv 1) pa_nil))) (blkOk_by (own := [("_law_name", 3)]) (N := N_law_told_all) (sc := defScope s_law_told_all) (by decide +kernel)) (fun _ _ _ _ _ => (pg_name (i := 3) sc_law_told_all.nd rfl (.inl rfl))) (fun _ _ _ _ _ => (pts_one (pt_cmpR op_gt (pe_callB call_lenG (by rfl) T.n_len PySem.boot_len (pa_cons (pe_dget (hu_of hr) (pv 1) (pv 3) (fun _ _ => rfl)) pa_nil)) pe_int (nomark _)))) (fun _ _ _ _ _ => (pv 3)))
  (pss_cons (ps_if (PW.pt (pw_or (pt_not (pt_val (pe_call G_law_equal (hr.mono (by omega)) (by rfl) T.law_equal.g T.law_equal.F.kp T.law_equal.b .nil pass0 (pa_cons (pe_methV0 (pv 0) G_names (hr.mono (by omega)) pass0) (pa_cons (pv 2) pa_nil))))) (pw_or1 (pt_not (pt_val (pe_call G_law_equal (hr.mono (by omega)) (by rfl) T.law_equal.g T.law_equal.F.kp T.law_equal.b .nil pass0 (pa_cons (pe_methV0 (pv 0) G_rows (hr.mono (by omega)) pass0) (pa_cons (pe_call G_law_pairs (hr.mono (by omega)) (by rfl) T.law_pairs.g T.law_pairs.F.kp T.law_pairs.b .nil pass0 (pa_cons (pv 1) pa_nil)) pa_nil)))))))) (pss_one (ps_ret pe_bl)) pss_nil)
  (pss_cons (ps_if (pt_cmpR (op_neG hr.units) (pe_callB (call_lenO G_len (hr.mono (by omega)) pass0) (by rfl) T.n_len PySem.boot_len (pa_cons (pv 0) pa_nil)) (pe_callB call_lenG (by rfl) T.n_len PySem.boot_len (pa_cons (pe_call G_law_pairs (hr.mono (by omega)) (by rfl) T.law_pairs.g T.law_pairs.F.kp T.law_pairs.b .nil pass0 (pa_cons (pv 1) pa_nil)) pa_nil)) (nomark _)) (pss_one (ps_ret pe_bl)) pss_nil)
  (pss_cons (ps_lock (ps_for PassesOwn.never rfl (pi_keys (pv 1)) (pg_name (i := 3) sc_law_told_all.nd rfl (.inl rfl))
   (pss_cons (ps_if (pt_not (pt_val (pe_call G_law_equal (hr.mono (by omega)) (by rfl) T.law_equal.g T.law_equal.F.kp T.law_equal.b .nil pass0 (pa_cons (pe_getO G_getitem (hr.mono (by omega)) pass0 (pv 0) (pv 3)) (pa_cons (pe_callB cr_sortedI (by rfl) T.n_sorted (by decide +kernel) (pa_cons (pe_dget (hu_of hr) (pv 1) (pv 3) (fun _ _ => rfl)) pa_nil)) pa_nil))))) (pss_one (ps_ret pe_bl)) pss_nil)
  (pss_cons (ps_if (pt_cmpR (op_neG hr.units) (pe_cmpR (op_inO G_contains (hr.mono (by omega)) pass0) (pv 3) (pv 0) (by with_unfolding_all rfl)) (pe_cmpR op_gt (pe_callB call_lenG (by rfl) T.n_len PySem.boot_len (pa_cons (pe_dget (hu_of hr) (pv 1) (pv 3) (fun _ _ => rfl)) pa_nil)) pe_int (nomark _)) (nomark _)) (pss_one (ps_ret pe_bl)) pss_nil)
  (pss_one (ps_for PassesOwn.never rfl (pi_seq (pe_dget (hu_of hr) (pv 1) (pv 3) (fun _ _ => rfl))) (pg_name (i := 4) sc_law_told_all.nd rfl (.inl rfl))
   (pss_cons (ps_if (pt_cmpR (op_ninO G_contains (hr.mono (by omega)) pass0) (pe_tup (pa_cons (pv 3) (pa_cons (pv 4) pa_nil))) (pv 0) (by with_unfolding_all rfl)) (pss_one (ps_ret pe_bl)) pss_nil)
  (pss_one (ps_if (pt_cmpR (op_neG hr.units) (pe_cmpR (op_inO G_contains (hr.mono (by omega)) pass0) (pe_tup (pa_cons (pv 3) (pa_cons (pe_op op_addG (pv 4) pe_int) pa_nil))) (pv 0) (by with_unfolding_all rfl)) (pe_cmpR (op_inG (hu65 hr)) (pe_op op_addG (pv 4) pe_int) (pe_dget (hu_of hr) (pv 1) (pv 3) (fun _ _ => rfl)) (by with_unfolding_all rfl)) (nomark _)) (pss_one (ps_ret pe_bl)) pss_nil)))))))))
  (pss_one (ps_ret (pe_and (pe_call G_law_equal (hr.mono (by omega)) (by rfl) T.law_equal.g T.law_equal.F.kp T.law_equal.b .nil pass0 (pa_cons (pe_getO G_getitem (hr.mono (by omega)) pass0 (pv 0) pe_str) (pa_cons (pe_lst pa_nil) pa_nil))) (pe_one (pe_cmpR (op_ninO G_contains (hr.mono (by omega)) pass0) pe_str (pv 0) (by with_unfolding_all rfl)))))))))), ?_⟩
  obtain ⟨rs, rfl, gr, nd, hl, hne, q⟩ := hp
  subst_vars
  have hk : (rs.map fun r => (Sum.inr r.1 : Key)) = (rs.map (·.1)).map Sum.inr := by rw [List.map_map]; rfl
  unfold pLc
  simp only [rowsT, hk]
  bv_omega
  refine ⟨by rw [List.length_map]; omega, fun ys hp hs => ⟨rfl, fun i acc => acc = ((ys.take i).filter fun z => decide (0 < (getR rs z).length)).map Tv.str, rfl, fun i t acc ht ha => ?_, fun acc ha => ?_⟩⟩
  · subst ha
    rw [List.getElem?_map] at ht
    obtain ⟨z, hz, rfl⟩ := Option.map_eq_some_iff.mp ht
    have hzm : z ∈ rs.map (·.1) := hp.mem_iff.mp (List.mem_of_getElem? hz)
    obtain ⟨r, hr0, rfl⟩ := List.mem_map.mp hzm
    have hy : ys.length ≤ 10 := by have := hp.length_eq; rw [List.length_map] at this; omega
    refine ⟨?_, ?_⟩
    · rw [List.length_map]
      have h1 := List.length_filter_le (fun z => decide (0 < (getR rs z).length)) (ys.take i)
      rw [List.length_take] at h1
      omega
    · rw [← hk]
      dsimp only
      refine ⟨_, vT_row nd hr0, ?_⟩
      bv_omega
      rw [List.length_map]
      have e1 : (ys.take (i + 1)).filter (fun z => decide (0 < (getR rs z).length)) = (ys.take i).filter (fun z => decide (0 < (getR rs z).length)) ++ (if 0 < r.2.length then [r.1] else []) := by
        rw [List.take_add_one, hz, List.filter_append]
        simp only [Option.toList, List.filter_cons, List.filter_nil, mem_row nd hr0, decide_eq_true_eq]
      have e2 : ((0 : Int) < (r.2.length : Int)) ↔ 0 < r.2.length := by omega
      refine ite2 (fun h => ?_) (fun h => ?_)
      · rw [e1, if_pos (e2.mp h), List.map_append]
        rfl
      · rw [e1, if_neg (fun z => h (e2.mpr z)), List.append_nil]
  · rw [List.length_map, List.take_length] at ha
    subst ha
    bv_omega
    injections
    refine s_fz 2 rfl ?_
    bv_omega
    injections
    bv_omega
    have hsum := gr.2
    have hwl : (wRows rs).length ≤ 300 := by rw [wRows_len]; exact hsum
    have hgl : (ys.filter fun z => decide (0 < (getR rs z).length)).length ≤ 10 := by
      have h1 := List.length_filter_le (fun z => decide (0 < (getR rs z).length)) ys
      have := hp.length_eq
      rw [List.length_map] at this
      omega
    unfold pNamesN
    bv_omega
    refine ⟨wRows rs, rfl, by omega, fun ys2 o1 o2 o3 => ?_⟩
    have e := given_eq nd o1 o2 o3 hp hs
    subst e
    bv_omega
    generalize (ys.filter fun z => decide (0 < (getR rs z).length)) = gs at hgl o1 o2 o3
    obtain ⟨sm1, dp1⟩ := strs_sm (ns := gs) (by omega)
    refine ⟨_, _, rfl, by omega, by omega, sm1, sm1, ?_⟩
    rw [teq_refl sm1]
    bv_omega
    unfold pRowsN
    bv_omega
    refine ⟨wRows rs, rfl, ?_⟩
    unfold pPairsN
    bv_omega
    refine ⟨rs, by rw [rowsT, hk], nd, hsum, ?_⟩
    bv_omega
    obtain ⟨sm2, dp2⟩ := prs_sm (ps := wRows rs) (by omega)
    refine ⟨_, _, rfl, by omega, by omega, sm2, sm2, ?_⟩
    rw [teq_refl sm2]
    bv_omega
    injections
    bv_omega
    injections
    bv_omega
    injections
    bv_omega
    unfold pLenW
    bv_omega
    refine ⟨wRows rs, rfl, by omega, ?_⟩
    unfold pPairsN
    bv_omega
    refine ⟨rs, by rw [rowsT, hk], nd, hsum, ?_⟩
    bv_omega
    injections
    refine ite2 (fun h => absurd (by rw [List.length_map]) h) fun _ => ?_
    bv_omega
    injections
    bv_omega
    injections
    refine s_any 2 ?_
    rw [← hk]
    refine s_lock 1 rfl ?_
    intro d Ku os hos hd hv
    obtain ⟨v0, e0⟩ := hv 0 _ rfl
    match os, hos with
    | [o0, o1, o2, o3, o4], _ =>
    cases hd
    cases e0
    simp only [stS, Ar.sl, woT, lkS, List.map_cons, List.map_nil, List.length_cons, List.length_nil, Nat.reduceSub, Nat.reduceAdd, List.replicate_succ, List.replicate_zero, List.cons_append, List.nil_append, List.set_cons_succ, List.set_cons_zero]
    injections
    bv_omega
    rw [fzL_rows]
    refine ⟨fun i s => ∃ y3 y4 : Sl, s = [.pvd Ku v0 (woT T (wRows rs)), .lkd d (rs.map fun r => .inr r.1) (rs.map fun r => .lst (r.2.map Tv.int)), .any, y3, y4], ⟨_, _, rfl⟩, fun i t s ht hI => ?_, fun s hI => ?_⟩
    · obtain ⟨y3, y4, rfl⟩ := hI
      rw [List.map_map, List.getElem?_map] at ht
      obtain ⟨r, hr', rfl⟩ := Option.map_eq_some_iff.mp ht
      have hm := List.mem_of_getElem? hr'
      have hgn := (gr.1 r hm).1
      have hgR := mem_row nd hm
      have hr2 := (gr.1 r hm).2.2
      have hgw : ∀ p ∈ wRows rs, goodName p.1 := fun p hp => by
        obtain ⟨r', h1, h2, _⟩ := getR_row ((mem_wR (z := p.1) (x := p.2) nd).mp hp)
        rw [← h2]
        exact (gr.1 r' h1).1
      bv_omega
      injections
      injections
      bv_omega
      unfold pItemN
      bv_omega
      refine ⟨wRows rs, r.1, rfl, rfl, hgn, by omega, ?_⟩
      bv_omega
      refine ⟨_, vT_row nd hm, ?_⟩
      bv_omega
      intro ns' hp1 hs1
      have e1 := item_eq nd r.1 (by rw [hgR]; exact hp1) hs1
      rw [e1]
      obtain ⟨sm3, dp3⟩ := ints_sm (ns := ns') (by rw [hp1.length_eq]; omega)
      refine ⟨_, _, rfl, by omega, by omega, sm3, sm3, ?_⟩
      rw [teq_refl sm3]
      bv_omega
      injections
      bv_omega
      injections
      injections
      bv_omega
      unfold pInWo
      bv_omega
      refine ⟨wRows rs, rfl, by omega, hgw, .inr (.inl ⟨r.1, rfl, ?_⟩)⟩
      bv_omega
      refine ⟨_, vT_row nd hm, ?_⟩
      bv_omega
      have e2 : decide (r.1 ∈ (wRows rs).map (·.1)) = decide ((0 : Int) < ((r.2.map Tv.int).length : Int)) := decide_eq_decide.mpr (by rw [mem_nm nd, hgR, List.length_map]; omega)
      rw [if_neg (not_not_intro e2)]
      injections
      bv_omega
      injections
      bv_omega
      refine ⟨_, vT_row nd hm, fun j s => ∃ y4 : Sl, s = [.pvd Ku v0 (woT T (wRows rs)), .lkd d (rs.map fun r => .inr r.1) (rs.map fun r => .lst (r.2.map Tv.int)), .any, .val (.str r.1), y4], ⟨_, rfl⟩, fun j t s ht hJ => ?_, fun s hJ => ?_⟩
      · obtain ⟨y4, rfl⟩ := hJ
        rw [List.getElem?_map] at ht
        obtain ⟨x, hx, rfl⟩ := Option.map_eq_some_iff.mp ht
        have hxm := List.mem_of_getElem? hx
        have hw1 : (r.1, x) ∈ wRows rs := (mem_wR nd).mpr (by rw [hgR]; exact hxm)
        have hw2 : decide ((r.1, x + 1) ∈ wRows rs) = decide (x + 1 ∈ r.2) := decide_eq_decide.mpr (by rw [mem_wR nd, hgR])
        bv_omega
        injections
        injections
        bv_omega
        unfold pInWo
        bv_omega
        refine ⟨wRows rs, rfl, by omega, hgw, .inl ⟨r.1, x, rfl, hgn, ?_⟩⟩
        rw [if_neg (not_not_intro hw1)]
        bv_omega
        injections
        bv_omega
        injections
        bv_omega
        refine ⟨wRows rs, rfl, by omega, hgw, .inl ⟨r.1, x + 1, rfl, hgn, ?_⟩⟩
        bv_omega
        refine ⟨_, vT_row nd hm, ?_⟩
        bv_omega
        rw [if_neg (not_not_intro hw2)]
        injections
        exact ⟨_, rfl⟩
      · obtain ⟨y4, rfl⟩ := hJ
        exact ⟨_, _, rfl⟩
    · obtain ⟨y3, y4, rfl⟩ := hI
      bv_omega
      generalize unSl d Ku y3 = y3
      generalize unSl d Ku y4 = y4
      injections
      bv_omega
      unfold pItemN
      bv_omega
      refine ⟨wRows rs, "abcdefghijkl", rfl, rfl, abc_good, by omega, ?_⟩
      bv_omega
      have hgw : ∀ p ∈ wRows rs, goodName p.1 := fun p hp => by
        obtain ⟨r', h1, h2, _⟩ := getR_row ((mem_wR (z := p.1) (x := p.2) nd).mp hp)
        rw [← h2]
        exact (gr.1 r' h1).1
      have hno : ¬ ("abcdefghijkl" : Str) ∈ (wRows rs).map (·.1) := fun h => by
        rw [mem_nm nd] at h
        obtain ⟨x, hx⟩ := List.exists_mem_of_length_pos h
        obtain ⟨r', h1, h2, _⟩ := getR_row hx
        exact hne r' h1 h2
      have hrn : rowsOf (wRows rs) "abcdefghijkl" = [] := List.eq_nil_iff_forall_not_mem.mpr fun x hx => hno (List.mem_map.mpr ⟨_, mem_rowsOf.mp hx, rfl⟩)
      rw [hrn]
      refine ⟨_, _, rfl, by decide, by decide, ⟨Nat.zero_le _, trivial⟩, ⟨Nat.zero_le _, trivial⟩, ?_⟩
      rw [show teq (.lst (([] : List Int).map Tv.int)) (.lst []) = true from by rw [List.map_nil, teq, teqL]]
      bv_omega
      unfold pInWo
      bv_omega
      refine ⟨wRows rs, rfl, by omega, hgw, .inr (.inl ⟨_, rfl, ?_⟩)⟩
      rw [decide_eq_false hno]
      exact q
end
end Pl

namespace Pl
open PySem L2
local macro_rules | `(tactic| bv_omega) => `(tactic| try simp only [pVar, pC, pTy, pCl, pNil, pCons, pOp, pUn, pCB, pI, pIC, pIB, pNeg, eqS, pEq, isNonS, pIsN, pIx, tvs, pTup, pLst, pTest, pAnd, pOr, pNot, pAndV, pOrV, pNotV, pIf, pChain, Sx.sl, Sx.tv, Sx.sq, Sx.dq, Sx.tq, Sx.rt, Sx.sqv, Sx.it, Sx.ar, Option.map_some, Option.bind_some, pgName, pgNil, pgCons, pgTup, piList, piTup, piSeq, piRange1, piRange2, piKeys, piItems, ars, pSp, pLen, tyOf, kb, pIsi, intsT, strsT, intsT_map, strsT_map, blsT_map, pIn, pInG, pNoPart, pPart, pSl, pRev, pAddG, pMulG, pAbs, p2I, pInt1, pBool1, pStrI, pListOf, pTupleOf, ints1, pSum, pSortedI, pMax, pMin, bls1, pAll, pAny, pEqG, pJoin, pDNew, pDGet, pDGet2, pDIn, Tv.key, pPick, pYes, kT, at0, at1, at2, at3, at4, exists_eq_left', Option.some.injEq, List.getElem?_cons_zero, List.getElem?_cons_succ, List.set_cons_zero, List.set_cons_succ, stS, Ar.sl, List.map_cons, List.map_nil, List.length_cons, List.length_nil, List.replicate_succ, List.replicate_zero, List.nil_append, List.cons_append, Nat.reduceSub, Nat.reduceAdd, wipeS, Bool.false_xor, Bool.true_xor, Bool.false_eq_true, if_true, if_false, decide_eq_true_eq, and_true, true_and, Bool.not_true, Bool.not_false, Bool.not_eq_true', decide_eq_false_iff_not, Nat.zero_le, Nat.reduceLeDiff, Int.reduceLT, Int.reduceLE, Int.reduceEq, Int.reduceNeg, Int.reducePow, Int.reduceAdd, Int.reduceSub, Nat.reduceMul, rgT_len, String.reduceBEq, beq_self_eq_true, Bool.or_false, Bool.false_or, Bool.true_or, Bool.or_true, Bool.or_self, ite_true, ite_false, ite_self, Int.zero_add, Bool.true_eq_false, reduceCtorEq, Function.comp_apply, unS, unSl_lkd, unSl_pvd, unSl_val, unSl_own, unSl_owd, unSl_box, unSl_any, pDisp, pDs0, pDs1, kvT, unSl_odl, pSortD, keyStrs_map])
local macro_rules | `(tactic| injections) => `(tactic| first
  | with_reducible refine s_seq ?_
  | with_reducible refine s_set ?_
  | with_reducible refine s_asg ?_
  | with_reducible refine s_if ?_
  | with_reducible refine s_ret ?_
  | with_reducible refine s_retN ?_
  | with_reducible refine s_next ?_
  | with_reducible refine s_for ?_
  | with_reducible refine s_break ?_
  | with_reducible refine s_cont ?_
  | with_reducible refine s_append (by first | with_unfolding_all rfl | assumption) (by with_unfolding_all first | omega | (simp only [List.length_map, List.length_append, List.length_cons, List.length_nil]; omega)) ?_
  | with_reducible refine s_drop ?_
  | with_reducible refine s_setF (by with_unfolding_all rfl) ?_
  | with_reducible refine s_asgF (by with_unfolding_all rfl) ?_
  | with_reducible refine s_ifF (by with_unfolding_all rfl) ?_
  | with_reducible refine s_retF (by with_unfolding_all rfl) ?_)
local macro_rules | `(tactic| subst_vars) => `(tactic| ((try simp only [pVar, pC, pTy, pCl, pNil, pCons, pOp, pUn, pCB, pI, pIC, pIB, pNeg, eqS, pEq, isNonS, pIsN, pIx, tvs, pTup, pLst, pTest, pAnd, pOr, pNot, pAndV, pOrV, pNotV, pIf, pChain, Sx.sl, Sx.tv, Sx.sq, Sx.dq, Sx.tq, Sx.rt, Sx.sqv, Sx.it, Sx.ar, Option.map_some, Option.bind_some, pgName, pgNil, pgCons, pgTup, piList, piTup, piSeq, piRange1, piRange2, piKeys, piItems, ars, pSp, pLen, tyOf, kb, pIsi, intsT, strsT, intsT_map, strsT_map, blsT_map, pIn, pInG, pNoPart, pPart, pSl, pRev, pAddG, pMulG, pAbs, p2I, pInt1, pBool1, pStrI, pListOf, pTupleOf, ints1, pSum, pSortedI, pMax, pMin, bls1, pAll, pAny, pEqG, pJoin, pDNew, pDGet, pDGet2, pDIn, Tv.key, pPick, pYes, kT, at0, at1, at2, at3, at4, exists_eq_left', Option.some.injEq, List.getElem?_cons_zero, List.getElem?_cons_succ, List.set_cons_zero, List.set_cons_succ, stS, Ar.sl, List.map_cons, List.map_nil, List.length_cons, List.length_nil, List.replicate_succ, List.replicate_zero, List.nil_append, List.cons_append, Nat.reduceSub, Nat.reduceAdd, wipeS, Bool.false_xor, Bool.true_xor, Bool.false_eq_true, if_true, if_false, decide_eq_true_eq, and_true, true_and, Bool.not_true, Bool.not_false, Bool.not_eq_true', decide_eq_false_iff_not, Nat.zero_le, Nat.reduceLeDiff, Int.reduceLT, Int.reduceLE, Int.reduceEq, Int.reduceNeg, Int.reducePow, Int.reduceAdd, Int.reduceSub, Nat.reduceMul, rgT_len, String.reduceBEq, beq_self_eq_true, Bool.or_false, Bool.false_or, Bool.true_or, Bool.or_true, Bool.or_self, ite_true, ite_false, ite_self, Int.zero_add, Bool.true_eq_false, reduceCtorEq, Function.comp_apply, unS, unSl_lkd, unSl_pvd, unSl_val, unSl_own, unSl_owd, unSl_box, unSl_any, pDisp, pDs0, pDs1, kvT, unSl_odl, pSortD, keyStrs_map]) <;> repeat ((first
  | with_reducible refine s_seq ?_
  | with_reducible refine s_set ?_
  | with_reducible refine s_asg ?_
  | with_reducible refine s_if ?_
  | with_reducible refine s_ret ?_
  | with_reducible refine s_retN ?_
  | with_reducible refine s_next ?_
  | with_reducible refine s_break ?_
  | with_reducible refine s_cont ?_
  | with_reducible refine s_append (by first | with_unfolding_all rfl | assumption) (by with_unfolding_all first | omega | (simp only [List.length_map, List.length_append, List.length_cons, List.length_nil]; omega)) ?_
  | with_reducible refine s_drop ?_
  | with_reducible refine s_setF (by with_unfolding_all rfl) ?_
  | with_reducible refine s_asgF (by with_unfolding_all rfl) ?_
  | with_reducible refine s_ifF (by with_unfolding_all rfl) ?_
  | with_reducible refine s_retF (by with_unfolding_all rfl) ?_) <;> try simp only [pVar, pC, pTy, pCl, pNil, pCons, pOp, pUn, pCB, pI, pIC, pIB, pNeg, eqS, pEq, isNonS, pIsN, pIx, tvs, pTup, pLst, pTest, pAnd, pOr, pNot, pAndV, pOrV, pNotV, pIf, pChain, Sx.sl, Sx.tv, Sx.sq, Sx.dq, Sx.tq, Sx.rt, Sx.sqv, Sx.it, Sx.ar, Option.map_some, Option.bind_some, pgName, pgNil, pgCons, pgTup, piList, piTup, piSeq, piRange1, piRange2, piKeys, piItems, ars, pSp, pLen, tyOf, kb, pIsi, intsT, strsT, intsT_map, strsT_map, blsT_map, pIn, pInG, pNoPart, pPart, pSl, pRev, pAddG, pMulG, pAbs, p2I, pInt1, pBool1, pStrI, pListOf, pTupleOf, ints1, pSum, pSortedI, pMax, pMin, bls1, pAll, pAny, pEqG, pJoin, pDNew, pDGet, pDGet2, pDIn, Tv.key, pPick, pYes, kT, at0, at1, at2, at3, at4, exists_eq_left', Option.some.injEq, List.getElem?_cons_zero, List.getElem?_cons_succ, List.set_cons_zero, List.set_cons_succ, stS, Ar.sl, List.map_cons, List.map_nil, List.length_cons, List.length_nil, List.replicate_succ, List.replicate_zero, List.nil_append, List.cons_append, Nat.reduceSub, Nat.reduceAdd, wipeS, Bool.false_xor, Bool.true_xor, Bool.false_eq_true, if_true, if_false, decide_eq_true_eq, and_true, true_and, Bool.not_true, Bool.not_false, Bool.not_eq_true', decide_eq_false_iff_not, Nat.zero_le, Nat.reduceLeDiff, Int.reduceLT, Int.reduceLE, Int.reduceEq, Int.reduceNeg, Int.reducePow, Int.reduceAdd, Int.reduceSub, Nat.reduceMul, rgT_len, String.reduceBEq, beq_self_eq_true, Bool.or_false, Bool.false_or, Bool.true_or, Bool.or_true, Bool.or_self, ite_true, ite_false, ite_self, Int.zero_add, Bool.true_eq_false, reduceCtorEq, Function.comp_apply, unS, unSl_lkd, unSl_pvd, unSl_val, unSl_own, unSl_owd, unSl_box, unSl_any, pDisp, pDs0, pDs1, kvT, unSl_odl, pSortD, keyStrs_map])))
-- USE PL
section
variable {P : Program} {w : World} {K : PySem.W.Frag} {mg : Str → Option Value} {base : Heap}
/-- _law_moments -/
def qMoments : PSp := fun xs Q => ∃ m : Int, xs = [.b, .tv (.int m)] ∧ 0 ≤ m ∧ m ≤ 100 ∧ ∀ ns : List Int, ns.Nodup → (ns.length : Int) ≤ m → Q (.lst (ns.map Tv.int))
theorem pok_law_moments (T : Txt P K mg) {k : Nat} : FnOk P w K mg base CX0 (k + 3) T.law_moments.f T.law_moments.fd ["_law_box", "_law_most"] (spP 2 qMoments) := by
  have G_law_pick : FnOk P w K mg base CX0 (k + 2) T.law_pick.f T.law_pick.fd ["_law_box", "_law_many"] spPick := ok_law_pick T
  have G_law_number : FnOk P w K mg base CX0 (k + 2) T.law_number.f T.law_number.fd ["_law_box"] spNumber := ok_law_number T
  refine okPu T.law_moments.F sc_law_moments fun xs Qp hl hp cdv A outer s H E hr => ⟨_, (pss_cons (ps_set (i := 2) sc_law_moments.nd rfl (.inl rfl) (pe_lst pa_nil))
  (pss_cons (ps_set (i := 3) sc_law_moments.nd rfl (.inl rfl) (pe_call G_law_number (hr.mono (by omega)) (by rfl) T.law_number.g T.law_number.F.kp T.law_number.b .nil pass0 (pa_cons (pv 0) pa_nil)))
  (pss_cons (ps_for PassesOwn.never rfl (pi_range1 (by rfl) T.n_range (pa_cons (pe_call G_law_pick (hr.mono (by omega)) (by rfl) T.law_pick.g T.law_pick.F.kp T.law_pick.b .nil pass0 (pa_cons (pv 0) (pa_cons (pe_op op_addG (pv 1) pe_int) pa_nil))) pa_nil)) (pg_name (i := 4) sc_law_moments.nd rfl (.inl rfl))
   (pss_cons (ps_if (pt_cmpR (op_eqG hr.units) (pe_call G_law_pick (hr.mono (by omega)) (by rfl) T.law_pick.g T.law_pick.F.kp T.law_pick.b .nil pass0 (pa_cons (pv 0) (pa_cons pe_int pa_nil))) pe_int (nomark _)) (pss_one (ps_set (i := 3) sc_law_moments.nd rfl (.inl rfl) (pe_call G_law_number (hr.mono (by omega)) (by rfl) T.law_number.g T.law_number.F.kp T.law_number.b .nil pass0 (pa_cons (pv 0) pa_nil)))) (pss_one (ps_set (i := 3) sc_law_moments.nd rfl (.inl rfl) (pe_op op_sub (pe_op op_addG (pv 3) (pe_call G_law_pick (hr.mono (by omega)) (by rfl) T.law_pick.g T.law_pick.F.kp T.law_pick.b .nil pass0 (pa_cons (pv 0) (pa_cons pe_int pa_nil)))) pe_int))))
  (pss_one (ps_if (pt_cmpR (op_notInG (hu65 hr)) (pv 3) (pv 2) (by with_unfolding_all rfl)) (pss_one (ps_expr (pe_bm PySem.F.plainAttrs_list PySem.F.slot_list_append PySem.F.type_list_append mt_append (pv 2) (pa_cons (pv 3) pa_nil)))) pss_nil))))
  (pss_one (ps_ret (pv 2)))))), ?_⟩
  obtain ⟨m, rfl, m0, m1, q⟩ := hp
  subst_vars
  intro y y0 y1
  subst_vars
  injections
  bv_omega
  refine ⟨by omega, by omega, fun r r0 r1 => ?_⟩
  bv_omega
  refine ⟨by omega, by omega, fun i s => ∃ (ns : List Int) (y : Int) (y4 : Sl), s = [.box, .val (.int m), .own (ns.map Tv.int), .val (.int y), y4] ∧ ns.Nodup ∧ ns.length ≤ i, ⟨[], y, _, rfl, List.nodup_nil, Nat.le_refl _⟩, fun i t s ht hI => ?_, fun s hI => ?_⟩
  · obtain ⟨ns, y, y4, rfl, nd, hl⟩ := hI
    obtain ⟨rfl, hi⟩ := rgT_at ht
    bv_omega
    refine s_seq ?_
    refine s_mid (fun s => ∃ (y : Int) (y4 : Sl), s = [.box, .val (.int m), .own (ns.map Tv.int), .val (.int y), y4]) ?_ ?_
    · subst_vars
      intro u u0 u1
      refine ite2 (fun h => ?_) (fun h => ?_)
      · subst_vars
        intro y' h1 h2
        subst_vars
        exact ⟨_, _, rfl⟩
      · subst_vars
        intro y' h1 h2
        subst_vars
        exact ⟨_, _, rfl⟩
    rintro s ⟨y, y4, rfl⟩
    subst_vars
    refine ite2 (fun h => ?_) (fun h => ?_)
    · injections
      bv_omega
      exact ⟨ns ++ [y], _, _, by rw [List.map_append]; rfl, List.nodup_append.mpr ⟨nd, by simp, fun a ha b hb => by cases List.mem_singleton.mp hb; exact fun z => h (by rw [← z]; exact ha)⟩, by rw [List.length_append]; simp only [List.length_singleton]; omega⟩
    · subst_vars
      exact ⟨ns, _, _, rfl, nd, by omega⟩
  · obtain ⟨ns, y, y4, rfl, nd, hl⟩ := hI
    subst_vars
    exact q ns nd (by omega)
/-- rows of names -/
def qRows : PSp := fun xs Q => ∃ (zs : List Str) (m : Int), xs = [.b, .tv (.lst (zs.map Tv.str)), .tv (.int m)] ∧ 0 ≤ m ∧ m ≤ 100 ∧ zs.Nodup ∧ 0 < zs.length ∧ zs.length ≤ 10 ∧ (∀ z ∈ zs, goodName z) ∧ ∀ rs : Rws, rs.map (·.1) = zs → (∀ r ∈ rs, r.2.Nodup ∧ (r.2.length : Int) ≤ m) → Q (rowsT rs)
theorem new_key {zs : List Str} {i : Nat} {z : Str} (nd : zs.Nodup) (h : zs[i]? = some z) : (Sum.inr z : Key) ∉ (zs.take i).map Sum.inr := fun hm => by
  obtain ⟨z', h1, h2⟩ := List.mem_map.mp hm
  cases h2
  obtain ⟨j, hj, e⟩ := List.mem_take_iff_getElem.mp h1
  exact List.pairwise_iff_getElem.mp nd j i (by omega) (List.getElem?_eq_some_iff.mp h).1 (by omega) (e.trans (List.getElem?_eq_some_iff.mp h).2.symm)
theorem rows_keys {rs : Rws} {zs : List Str} (h : rs.map (·.1) = zs) : (rs.map fun r => (Sum.inr r.1 : Key)) = zs.map Sum.inr := by rw [← h, List.map_map]; rfl
theorem pok_law_rows (T : Txt P K mg) {k : Nat} : FnOk P w K mg base CX0 (k + 4) T.law_rows.f T.law_rows.fd ["_law_box", "_law_names_here", "_law_most"] (spP 3 qRows) := by
  have G_law_moments : FnOk P w K mg base CX0 (k + 3) T.law_moments.f T.law_moments.fd ["_law_box", "_law_most"] (spP 2 qMoments) := pok_law_moments T
  refine okPu T.law_rows.F sc_law_rows fun xs Qp hl hp cdv A outer s H E hr => ⟨_, (pss_cons (ps_set (i := 3) sc_law_rows.nd rfl (.inl rfl) pe_dnewK)
  (pss_cons (ps_for PassesOwn.never rfl (pi_seq (pv 1)) (pg_name (i := 4) sc_law_rows.nd rfl (.inl rfl))
   (pss_one (ps_asg (pe_call G_law_moments (hr.mono (by omega)) (by rfl) T.law_moments.g T.law_moments.F.kp T.law_moments.b .nil pass0 (pa_cons (pv 0) (pa_cons (pv 2) pa_nil))) (pg_sub (pv 3) (pv 4) (set_dict (hu_of hr))))))
  (pss_one (ps_ret (pv 3))))), ?_⟩
  obtain ⟨zs, m, rfl, m0, m1, nd, z0, z1, gz, q⟩ := hp
  subst_vars
  injections
  bv_omega
  refine ⟨fun i s => ∃ (rs : Rws) (y : Sl), s = [.box, .val (.lst (zs.map Tv.str)), .val (.int m), .owd (rs.map fun r => .inr r.1) (rs.map fun r => .lst (r.2.map Tv.int)), y] ∧ rs.map (·.1) = zs.take i ∧ ∀ r ∈ rs, r.2.Nodup ∧ (r.2.length : Int) ≤ m, ⟨[], _, rfl, rfl, fun r h => nomatch h⟩, fun i t s ht hI => ?_, fun s hI => ?_⟩
  · obtain ⟨rs, y, rfl, hk, hb⟩ := hI
    rw [List.getElem?_map] at ht
    obtain ⟨z, hz', rfl⟩ := Option.map_eq_some_iff.mp ht
    have hi := (List.getElem?_eq_some_iff.mp hz').1
    have hrl : rs.length = i := by
      have := congrArg List.length hk
      rw [List.length_map, List.length_take] at this
      omega
    refine s_setDn (i := 3) rfl (by rw [List.length_map, List.length_map]) (by rw [List.length_map]; omega) ?_
    subst_vars
    refine ⟨m, rfl, m0, m1, fun ns h1 h2 => ?_⟩
    bv_omega
    refine ⟨by rw [rows_keys hk]; exact new_key nd hz', rs ++ [(z, ns)], .val (.str z), ?_, ?_, fun r hr0 => ?_⟩
    · rw [List.map_append, List.map_append]
      rfl
    · rw [List.map_append, hk, List.take_add_one, hz']
      rfl
    · rcases List.mem_append.mp hr0 with h | h
      · exact hb r h
      · cases List.mem_singleton.mp h
        exact ⟨h1, h2⟩
  · obtain ⟨rs, y, rfl, hk, hb⟩ := hI
    rw [List.length_map, List.take_length] at hk
    subst_vars
    exact q rs hk hb
end
end Pl

namespace Pl
open PySem L2
local macro_rules | `(tactic| bv_omega) => `(tactic| try simp only [pVar, pC, pTy, pCl, pNil, pCons, pOp, pUn, pCB, pI, pIC, pIB, pNeg, eqS, pEq, isNonS, pIsN, pIx, tvs, pTup, pLst, pTest, pAnd, pOr, pNot, pAndV, pOrV, pNotV, pIf, pChain, Sx.sl, Sx.tv, Sx.sq, Sx.dq, Sx.tq, Sx.rt, Sx.sqv, Sx.it, Sx.ar, Option.map_some, Option.bind_some, pgName, pgNil, pgCons, pgTup, piList, piTup, piSeq, piRange1, piRange2, piKeys, piItems, ars, pSp, pLen, tyOf, kb, pIsi, intsT, strsT, intsT_map, strsT_map, blsT_map, pIn, pInG, pNoPart, pPart, pSl, pRev, pAddG, pMulG, pAbs, p2I, pInt1, pBool1, pStrI, pListOf, pTupleOf, ints1, pSum, pSortedI, pMax, pMin, bls1, pAll, pAny, pEqG, pJoin, pDNew, pDGet, pDGet2, pDIn, Tv.key, pPick, pYes, kT, at0, at1, at2, at3, at4, exists_eq_left', Option.some.injEq, List.getElem?_cons_zero, List.getElem?_cons_succ, List.set_cons_zero, List.set_cons_succ, stS, Ar.sl, List.map_cons, List.map_nil, List.length_cons, List.length_nil, List.replicate_succ, List.replicate_zero, List.nil_append, List.cons_append, Nat.reduceSub, Nat.reduceAdd, wipeS, Bool.false_xor, Bool.true_xor, Bool.false_eq_true, if_true, if_false, decide_eq_true_eq, and_true, true_and, Bool.not_true, Bool.not_false, Bool.not_eq_true', decide_eq_false_iff_not, Nat.zero_le, Nat.reduceLeDiff, Int.reduceLT, Int.reduceLE, Int.reduceEq, Int.reduceNeg, Int.reducePow, Int.reduceAdd, Int.reduceSub, Nat.reduceMul, rgT_len, String.reduceBEq, beq_self_eq_true, Bool.or_false, Bool.false_or, Bool.true_or, Bool.or_true, Bool.or_self, ite_true, ite_false, ite_self, Int.zero_add, Bool.true_eq_false, reduceCtorEq, Function.comp_apply, unS, unSl_lkd, unSl_pvd, unSl_val, unSl_own, unSl_owd, unSl_box, unSl_any, pDisp, pDs0, pDs1, kvT, unSl_odl, pSortD, keyStrs_map])
local macro_rules | `(tactic| injections) => `(tactic| first
  | with_reducible refine s_seq ?_
  | with_reducible refine s_set ?_
  | with_reducible refine s_asg ?_
  | with_reducible refine s_if ?_
  | with_reducible refine s_ret ?_
  | with_reducible refine s_retN ?_
  | with_reducible refine s_next ?_
  | with_reducible refine s_for ?_
  | with_reducible refine s_break ?_
  | with_reducible refine s_cont ?_
  | with_reducible refine s_append (by first | with_unfolding_all rfl | assumption) (by with_unfolding_all first | omega | (simp only [List.length_map, List.length_append, List.length_cons, List.length_nil]; omega)) ?_
  | with_reducible refine s_drop ?_
  | with_reducible refine s_setF (by with_unfolding_all rfl) ?_
  | with_reducible refine s_asgF (by with_unfolding_all rfl) ?_
  | with_reducible refine s_ifF (by with_unfolding_all rfl) ?_
  | with_reducible refine s_retF (by with_unfolding_all rfl) ?_)
local macro_rules | `(tactic| subst_vars) => `(tactic| ((try simp only [pVar, pC, pTy, pCl, pNil, pCons, pOp, pUn, pCB, pI, pIC, pIB, pNeg, eqS, pEq, isNonS, pIsN, pIx, tvs, pTup, pLst, pTest, pAnd, pOr, pNot, pAndV, pOrV, pNotV, pIf, pChain, Sx.sl, Sx.tv, Sx.sq, Sx.dq, Sx.tq, Sx.rt, Sx.sqv, Sx.it, Sx.ar, Option.map_some, Option.bind_some, pgName, pgNil, pgCons, pgTup, piList, piTup, piSeq, piRange1, piRange2, piKeys, piItems, ars, pSp, pLen, tyOf, kb, pIsi, intsT, strsT, intsT_map, strsT_map, blsT_map, pIn, pInG, pNoPart, pPart, pSl, pRev, pAddG, pMulG, pAbs, p2I, pInt1, pBool1, pStrI, pListOf, pTupleOf, ints1, pSum, pSortedI, pMax, pMin, bls1, pAll, pAny, pEqG, pJoin, pDNew, pDGet, pDGet2, pDIn, Tv.key, pPick, pYes, kT, at0, at1, at2, at3, at4, exists_eq_left', Option.some.injEq, List.getElem?_cons_zero, List.getElem?_cons_succ, List.set_cons_zero, List.set_cons_succ, stS, Ar.sl, List.map_cons, List.map_nil, List.length_cons, List.length_nil, List.replicate_succ, List.replicate_zero, List.nil_append, List.cons_append, Nat.reduceSub, Nat.reduceAdd, wipeS, Bool.false_xor, Bool.true_xor, Bool.false_eq_true, if_true, if_false, decide_eq_true_eq, and_true, true_and, Bool.not_true, Bool.not_false, Bool.not_eq_true', decide_eq_false_iff_not, Nat.zero_le, Nat.reduceLeDiff, Int.reduceLT, Int.reduceLE, Int.reduceEq, Int.reduceNeg, Int.reducePow, Int.reduceAdd, Int.reduceSub, Nat.reduceMul, rgT_len, String.reduceBEq, beq_self_eq_true, Bool.or_false, Bool.false_or, Bool.true_or, Bool.or_true, Bool.or_self, ite_true, ite_false, ite_self, Int.zero_add, Bool.true_eq_false, reduceCtorEq, Function.comp_apply, unS, unSl_lkd, unSl_pvd, unSl_val, unSl_own, unSl_owd, unSl_box, unSl_any, pDisp, pDs0, pDs1, kvT, unSl_odl, pSortD, keyStrs_map]) <;> repeat ((first
  | with_reducible refine s_seq ?_
  | with_reducible refine s_set ?_
  | with_reducible refine s_asg ?_
  | with_reducible refine s_if ?_
  | with_reducible refine s_ret ?_
  | with_reducible refine s_retN ?_
  | with_reducible refine s_next ?_
  | with_reducible refine s_break ?_
  | with_reducible refine s_cont ?_
  | with_reducible refine s_append (by first | with_unfolding_all rfl | assumption) (by with_unfolding_all first | omega | (simp only [List.length_map, List.length_append, List.length_cons, List.length_nil]; omega)) ?_
  | with_reducible refine s_drop ?_
  | with_reducible refine s_setF (by with_unfolding_all rfl) ?_
  | with_reducible refine s_asgF (by with_unfolding_all rfl) ?_
  | with_reducible refine s_ifF (by with_unfolding_all rfl) ?_
  | with_reducible refine s_retF (by with_unfolding_all rfl) ?_) <;> try simp only [pVar, pC, pTy, pCl, pNil, pCons, pOp, pUn, pCB, pI, pIC, pIB, pNeg, eqS, pEq, isNonS, pIsN, pIx, tvs, pTup, pLst, pTest, pAnd, pOr, pNot, pAndV, pOrV, pNotV, pIf, pChain, Sx.sl, Sx.tv, Sx.sq, Sx.dq, Sx.tq, Sx.rt, Sx.sqv, Sx.it, Sx.ar, Option.map_some, Option.bind_some, pgName, pgNil, pgCons, pgTup, piList, piTup, piSeq, piRange1, piRange2, piKeys, piItems, ars, pSp, pLen, tyOf, kb, pIsi, intsT, strsT, intsT_map, strsT_map, blsT_map, pIn, pInG, pNoPart, pPart, pSl, pRev, pAddG, pMulG, pAbs, p2I, pInt1, pBool1, pStrI, pListOf, pTupleOf, ints1, pSum, pSortedI, pMax, pMin, bls1, pAll, pAny, pEqG, pJoin, pDNew, pDGet, pDGet2, pDIn, Tv.key, pPick, pYes, kT, at0, at1, at2, at3, at4, exists_eq_left', Option.some.injEq, List.getElem?_cons_zero, List.getElem?_cons_succ, List.set_cons_zero, List.set_cons_succ, stS, Ar.sl, List.map_cons, List.map_nil, List.length_cons, List.length_nil, List.replicate_succ, List.replicate_zero, List.nil_append, List.cons_append, Nat.reduceSub, Nat.reduceAdd, wipeS, Bool.false_xor, Bool.true_xor, Bool.false_eq_true, if_true, if_false, decide_eq_true_eq, and_true, true_and, Bool.not_true, Bool.not_false, Bool.not_eq_true', decide_eq_false_iff_not, Nat.zero_le, Nat.reduceLeDiff, Int.reduceLT, Int.reduceLE, Int.reduceEq, Int.reduceNeg, Int.reducePow, Int.reduceAdd, Int.reduceSub, Nat.reduceMul, rgT_len, String.reduceBEq, beq_self_eq_true, Bool.or_false, Bool.false_or, Bool.true_or, Bool.or_true, Bool.or_self, ite_true, ite_false, ite_self, Int.zero_add, Bool.true_eq_false, reduceCtorEq, Function.comp_apply, unS, unSl_lkd, unSl_pvd, unSl_val, unSl_own, unSl_owd, unSl_box, unSl_any, pDisp, pDs0, pDs1, kvT, unSl_odl, pSortD, keyStrs_map])))
-- USE PL
section
variable {P : Program} {w : World} {K : PySem.W.Frag} {mg : Str → Option Value} {base : Heap}
/-- rows of names, perhaps of none -/
def qRows0 : PSp := fun xs Q => ∃ (zs : List Str) (m : Int), xs = [.b, .tv (.lst (zs.map Tv.str)), .tv (.int m)] ∧ 0 ≤ m ∧ m ≤ 100 ∧ zs.Nodup ∧ zs.length ≤ 10 ∧ (∀ z ∈ zs, goodName z) ∧ ∀ rs : Rws, rs.map (·.1) = zs → (∀ r ∈ rs, r.2.Nodup ∧ (r.2.length : Int) ≤ m) → Q (rowsT rs)
theorem pok_law_rows0 (T : Txt P K mg) {k : Nat} : FnOk P w K mg base CX0 (k + 4) T.law_rows.f T.law_rows.fd ["_law_box", "_law_names_here", "_law_most"] (spP 3 qRows0) := by
  have G_law_moments : FnOk P w K mg base CX0 (k + 3) T.law_moments.f T.law_moments.fd ["_law_box", "_law_most"] (spP 2 qMoments) := pok_law_moments T
  refine okPu T.law_rows.F sc_law_rows fun xs Qp hl hp cdv A outer s H E hr => ⟨_, (pss_cons (ps_set (i := 3) sc_law_rows.nd rfl (.inl rfl) pe_dnewK)
  (pss_cons (ps_for PassesOwn.never rfl (pi_seq (pv 1)) (pg_name (i := 4) sc_law_rows.nd rfl (.inl rfl))
   (pss_one (ps_asg (pe_call G_law_moments (hr.mono (by omega)) (by rfl) T.law_moments.g T.law_moments.F.kp T.law_moments.b .nil pass0 (pa_cons (pv 0) (pa_cons (pv 2) pa_nil))) (pg_sub (pv 3) (pv 4) (set_dict (hu_of hr))))))
  (pss_one (ps_ret (pv 3))))), ?_⟩
  obtain ⟨zs, m, rfl, m0, m1, nd, z1, gz, q⟩ := hp
  subst_vars
  injections
  bv_omega
  refine ⟨fun i s => ∃ (rs : Rws) (y : Sl), s = [.box, .val (.lst (zs.map Tv.str)), .val (.int m), .owd (rs.map fun r => .inr r.1) (rs.map fun r => .lst (r.2.map Tv.int)), y] ∧ rs.map (·.1) = zs.take i ∧ ∀ r ∈ rs, r.2.Nodup ∧ (r.2.length : Int) ≤ m, ⟨[], _, rfl, rfl, fun r h => nomatch h⟩, fun i t s ht hI => ?_, fun s hI => ?_⟩
  · obtain ⟨rs, y, rfl, hk, hb⟩ := hI
    rw [List.getElem?_map] at ht
    obtain ⟨z, hz', rfl⟩ := Option.map_eq_some_iff.mp ht
    have hi := (List.getElem?_eq_some_iff.mp hz').1
    have hrl : rs.length = i := by
      have := congrArg List.length hk
      rw [List.length_map, List.length_take] at this
      omega
    refine s_setDn (i := 3) rfl (by rw [List.length_map, List.length_map]) (by rw [List.length_map]; omega) ?_
    subst_vars
    refine ⟨m, rfl, m0, m1, fun ns h1 h2 => ?_⟩
    bv_omega
    refine ⟨by rw [rows_keys hk]; exact new_key nd hz', rs ++ [(z, ns)], .val (.str z), ?_, ?_, fun r hr0 => ?_⟩
    · rw [List.map_append, List.map_append]
      rfl
    · rw [List.map_append, hk, List.take_add_one, hz']
      rfl
    · rcases List.mem_append.mp hr0 with h | h
      · exact hb r h
      · cases List.mem_singleton.mp h
        exact ⟨h1, h2⟩
  · obtain ⟨rs, y, rfl, hk, hb⟩ := hI
    rw [List.length_map, List.take_length] at hk
    subst_vars
    exact q rs hk hb
end
end Pl

namespace Pl
open PySem L2
theorem sum_le {rs : Rws} {m : Nat} (h : ∀ r ∈ rs, r.2.length ≤ m) : (rs.map fun r => r.2.length).sum ≤ rs.length * m := by
  induction rs with
  | nil => simp
  | cons r rs ih =>
    have h1 := h r (by simp)
    have h2 := ih fun q hq => h q (by simp [hq])
    simp only [List.map_cons, List.sum_cons, List.length_cons]
    rw [Nat.succ_mul]
    omega
theorem rows_good {rs : Rws} {zs : List Str} {m : Nat} (hk : rs.map (·.1) = zs) (hg : ∀ z ∈ zs, goodName z) (hrs : ∀ r ∈ rs, r.2.Nodup ∧ r.2.length ≤ m) (hl : zs.length ≤ 4) (hm : m ≤ 50) : goodRows rs := by
  refine ⟨fun r hr0 => ⟨hg r.1 (by rw [← hk]; exact List.mem_map.mpr ⟨r, hr0, rfl⟩), (hrs r hr0).1, by have := (hrs r hr0).2; omega⟩, ?_⟩
  have h1 := sum_le fun r hr0 => (hrs r hr0).2
  have h2 : rs.length ≤ 4 := by
    have := congrArg List.length hk
    rw [List.length_map] at this
    omega
  have h3 : rs.length * m ≤ 4 * 50 := Nat.mul_le_mul h2 hm
  omega
end Pl

namespace Pl
open PySem L2
local macro_rules | `(tactic| bv_omega) => `(tactic| try simp only [pVar, pC, pTy, pCl, pNil, pCons, pOp, pUn, pCB, pI, pIC, pIB, pNeg, eqS, pEq, isNonS, pIsN, pIx, tvs, pTup, pLst, pTest, pAnd, pOr, pNot, pAndV, pOrV, pNotV, pIf, pChain, Sx.sl, Sx.tv, Sx.sq, Sx.dq, Sx.tq, Sx.rt, Sx.sqv, Sx.it, Sx.ar, Option.map_some, Option.bind_some, pgName, pgNil, pgCons, pgTup, piList, piTup, piSeq, piRange1, piRange2, piKeys, piItems, ars, pSp, pLen, tyOf, kb, pIsi, intsT, strsT, intsT_map, strsT_map, blsT_map, pIn, pInG, pNoPart, pPart, pSl, pRev, pAddG, pMulG, pAbs, p2I, pInt1, pBool1, pStrI, pListOf, pTupleOf, ints1, pSum, pSortedI, pMax, pMin, bls1, pAll, pAny, pEqG, pJoin, pDNew, pDGet, pDGet2, pDIn, Tv.key, pPick, pYes, kT, at0, at1, at2, at3, at4, exists_eq_left', Option.some.injEq, List.getElem?_cons_zero, List.getElem?_cons_succ, List.set_cons_zero, List.set_cons_succ, stS, Ar.sl, List.map_cons, List.map_nil, List.length_cons, List.length_nil, List.replicate_succ, List.replicate_zero, List.nil_append, List.cons_append, Nat.reduceSub, Nat.reduceAdd, wipeS, Bool.false_xor, Bool.true_xor, Bool.false_eq_true, if_true, if_false, decide_eq_true_eq, and_true, true_and, Bool.not_true, Bool.not_false, Bool.not_eq_true', decide_eq_false_iff_not, Nat.zero_le, Nat.reduceLeDiff, Int.reduceLT, Int.reduceLE, Int.reduceEq, Int.reduceNeg, Int.reducePow, Int.reduceAdd, Int.reduceSub, Nat.reduceMul, rgT_len, String.reduceBEq, beq_self_eq_true, Bool.or_false, Bool.false_or, Bool.true_or, Bool.or_true, Bool.or_self, ite_true, ite_false, ite_self, Int.zero_add, Bool.true_eq_false, reduceCtorEq, Function.comp_apply, unS, unSl_lkd, unSl_pvd, unSl_val, unSl_own, unSl_owd, unSl_box, unSl_any, pDisp, pDs0, pDs1, kvT, unSl_odl, pSortD, keyStrs_map])
local macro_rules | `(tactic| injections) => `(tactic| first
  | with_reducible refine s_seq ?_
  | with_reducible refine s_set ?_
  | with_reducible refine s_asg ?_
  | with_reducible refine s_if ?_
  | with_reducible refine s_ret ?_
  | with_reducible refine s_retN ?_
  | with_reducible refine s_next ?_
  | with_reducible refine s_for ?_
  | with_reducible refine s_break ?_
  | with_reducible refine s_cont ?_
  | with_reducible refine s_append (by first | with_unfolding_all rfl | assumption) (by with_unfolding_all first | omega | (simp only [List.length_map, List.length_append, List.length_cons, List.length_nil]; omega)) ?_
  | with_reducible refine s_drop ?_
  | with_reducible refine s_setF (by with_unfolding_all rfl) ?_
  | with_reducible refine s_asgF (by with_unfolding_all rfl) ?_
  | with_reducible refine s_ifF (by with_unfolding_all rfl) ?_
  | with_reducible refine s_retF (by with_unfolding_all rfl) ?_)
local macro_rules | `(tactic| subst_vars) => `(tactic| ((try simp only [pVar, pC, pTy, pCl, pNil, pCons, pOp, pUn, pCB, pI, pIC, pIB, pNeg, eqS, pEq, isNonS, pIsN, pIx, tvs, pTup, pLst, pTest, pAnd, pOr, pNot, pAndV, pOrV, pNotV, pIf, pChain, Sx.sl, Sx.tv, Sx.sq, Sx.dq, Sx.tq, Sx.rt, Sx.sqv, Sx.it, Sx.ar, Option.map_some, Option.bind_some, pgName, pgNil, pgCons, pgTup, piList, piTup, piSeq, piRange1, piRange2, piKeys, piItems, ars, pSp, pLen, tyOf, kb, pIsi, intsT, strsT, intsT_map, strsT_map, blsT_map, pIn, pInG, pNoPart, pPart, pSl, pRev, pAddG, pMulG, pAbs, p2I, pInt1, pBool1, pStrI, pListOf, pTupleOf, ints1, pSum, pSortedI, pMax, pMin, bls1, pAll, pAny, pEqG, pJoin, pDNew, pDGet, pDGet2, pDIn, Tv.key, pPick, pYes, kT, at0, at1, at2, at3, at4, exists_eq_left', Option.some.injEq, List.getElem?_cons_zero, List.getElem?_cons_succ, List.set_cons_zero, List.set_cons_succ, stS, Ar.sl, List.map_cons, List.map_nil, List.length_cons, List.length_nil, List.replicate_succ, List.replicate_zero, List.nil_append, List.cons_append, Nat.reduceSub, Nat.reduceAdd, wipeS, Bool.false_xor, Bool.true_xor, Bool.false_eq_true, if_true, if_false, decide_eq_true_eq, and_true, true_and, Bool.not_true, Bool.not_false, Bool.not_eq_true', decide_eq_false_iff_not, Nat.zero_le, Nat.reduceLeDiff, Int.reduceLT, Int.reduceLE, Int.reduceEq, Int.reduceNeg, Int.reducePow, Int.reduceAdd, Int.reduceSub, Nat.reduceMul, rgT_len, String.reduceBEq, beq_self_eq_true, Bool.or_false, Bool.false_or, Bool.true_or, Bool.or_true, Bool.or_self, ite_true, ite_false, ite_self, Int.zero_add, Bool.true_eq_false, reduceCtorEq, Function.comp_apply, unS, unSl_lkd, unSl_pvd, unSl_val, unSl_own, unSl_owd, unSl_box, unSl_any, pDisp, pDs0, pDs1, kvT, unSl_odl, pSortD, keyStrs_map]) <;> repeat ((first
  | with_reducible refine s_seq ?_
  | with_reducible refine s_set ?_
  | with_reducible refine s_asg ?_
  | with_reducible refine s_if ?_
  | with_reducible refine s_ret ?_
  | with_reducible refine s_retN ?_
  | with_reducible refine s_next ?_
  | with_reducible refine s_break ?_
  | with_reducible refine s_cont ?_
  | with_reducible refine s_append (by first | with_unfolding_all rfl | assumption) (by with_unfolding_all first | omega | (simp only [List.length_map, List.length_append, List.length_cons, List.length_nil]; omega)) ?_
  | with_reducible refine s_drop ?_
  | with_reducible refine s_setF (by with_unfolding_all rfl) ?_
  | with_reducible refine s_asgF (by with_unfolding_all rfl) ?_
  | with_reducible refine s_ifF (by with_unfolding_all rfl) ?_
  | with_reducible refine s_retF (by with_unfolding_all rfl) ?_) <;> try simp only [pVar, pC, pTy, pCl, pNil, pCons, pOp, pUn, pCB, pI, pIC, pIB, pNeg, eqS, pEq, isNonS, pIsN, pIx, tvs, pTup, pLst, pTest, pAnd, pOr, pNot, pAndV, pOrV, pNotV, pIf, pChain, Sx.sl, Sx.tv, Sx.sq, Sx.dq, Sx.tq, Sx.rt, Sx.sqv, Sx.it, Sx.ar, Option.map_some, Option.bind_some, pgName, pgNil, pgCons, pgTup, piList, piTup, piSeq, piRange1, piRange2, piKeys, piItems, ars, pSp, pLen, tyOf, kb, pIsi, intsT, strsT, intsT_map, strsT_map, blsT_map, pIn, pInG, pNoPart, pPart, pSl, pRev, pAddG, pMulG, pAbs, p2I, pInt1, pBool1, pStrI, pListOf, pTupleOf, ints1, pSum, pSortedI, pMax, pMin, bls1, pAll, pAny, pEqG, pJoin, pDNew, pDGet, pDGet2, pDIn, Tv.key, pPick, pYes, kT, at0, at1, at2, at3, at4, exists_eq_left', Option.some.injEq, List.getElem?_cons_zero, List.getElem?_cons_succ, List.set_cons_zero, List.set_cons_succ, stS, Ar.sl, List.map_cons, List.map_nil, List.length_cons, List.length_nil, List.replicate_succ, List.replicate_zero, List.nil_append, List.cons_append, Nat.reduceSub, Nat.reduceAdd, wipeS, Bool.false_xor, Bool.true_xor, Bool.false_eq_true, if_true, if_false, decide_eq_true_eq, and_true, true_and, Bool.not_true, Bool.not_false, Bool.not_eq_true', decide_eq_false_iff_not, Nat.zero_le, Nat.reduceLeDiff, Int.reduceLT, Int.reduceLE, Int.reduceEq, Int.reduceNeg, Int.reducePow, Int.reduceAdd, Int.reduceSub, Nat.reduceMul, rgT_len, String.reduceBEq, beq_self_eq_true, Bool.or_false, Bool.false_or, Bool.true_or, Bool.or_true, Bool.or_self, ite_true, ite_false, ite_self, Int.zero_add, Bool.true_eq_false, reduceCtorEq, Function.comp_apply, unS, unSl_lkd, unSl_pvd, unSl_val, unSl_own, unSl_owd, unSl_box, unSl_any, pDisp, pDs0, pDs1, kvT, unSl_odl, pSortD, keyStrs_map])))
-- USE PL
def spLaw (K : PySem.W.Frag) : Sp := fun vs H Q _ => ∃ (a : Addr) (ns : List Int), vs = [.ref a] ∧ SqL K H a (ns.map V.int) ∧ ns.length ≤ 63 ∧ ∀ H', Q (.bl true) H'
theorem leP_anti {p q : Str × Int} (h : leP p q) (g : leP q p) : p = q := by
  rcases h with h | ⟨h1, h2⟩
  · rcases g with g | ⟨g1, g2⟩
    · exact absurd (List.lt_trans h g) (List.lt_irrefl _)
    · rw [g1] at h; exact absurd h (List.lt_irrefl _)
  · rcases g with g | ⟨g1, g2⟩
    · rw [h1] at g; exact absurd g (List.lt_irrefl _)
    · exact Prod.ext h1 (by omega)
theorem prs_srt : ∀ {l l' : List (Str × Int)}, l.Perm l' → l.Pairwise leP → l'.Pairwise leP → l = l'
  | [], l', h, _, _ => (List.nil_perm.mp h).symm ▸ rfl
  | x :: l, [], h, _, _ => by have := h.length_eq; simp at this
  | x :: l, y :: l', h, h1, h2 => by
    obtain ⟨a1, a2⟩ := List.pairwise_cons.mp h1
    obtain ⟨b1, b2⟩ := List.pairwise_cons.mp h2
    have e : x = y := by
      rcases List.mem_cons.mp (h.mem_iff.mp List.mem_cons_self) with e | e
      · exact e
      · rcases List.mem_cons.mp (h.mem_iff.mpr List.mem_cons_self) with e2 | e2
        · exact e2.symm
        · exact leP_anti (a1 y e2) (b1 x e)
    subst e
    rw [prs_srt (List.Perm.cons_inv h) a2 b2]
theorem wRows_rev (rs : Rws) : wRows rs.reverse = wRows rs := by
  refine prs_srt ?_ (sortP_pw _) (sortP_pw _)
  refine (sortP_perm _).trans (List.Perm.trans ?_ (sortP_perm _).symm)
  exact (List.reverse_perm rs).flatMap_right _
theorem good_rev {rs : Rws} (h : goodRows rs) : goodRows rs.reverse := ⟨fun r hr => h.1 r (List.mem_reverse.mp hr), by
  rw [List.map_reverse, List.sum_reverse]
  exact h.2⟩
theorem lists_sm {rs : Rws} (h : rs.length ≤ 100000) (h2 : ∀ r ∈ rs, r.2.length ≤ 100000) : (Tv.lst (rs.map fun r => .lst (r.2.map Tv.int))).sm ∧ (Tv.lst (rs.map fun r => .lst (r.2.map Tv.int))).dp ≤ 2 := by
  constructor
  · refine ⟨by rw [List.length_map]; exact h, smL_all fun t ht => ?_⟩
    obtain ⟨r, hr, rfl⟩ := List.mem_map.mp ht
    exact (ints_sm (h2 r hr)).1
  · have : dpL (rs.map fun r => .lst (r.2.map Tv.int)) ≤ 1 := dpL_all fun t ht => by
      obtain ⟨r, hr, rfl⟩ := List.mem_map.mp ht
      exact (ints_sm (h2 r hr)).2
    rw [Tv.dp]
    omega
section
variable {P : Program} {w : World} {K : PySem.W.Frag} {mg : Str → Option Value} {base : Heap}
theorem ok_law (T : Txt P K mg) : FnOk P w K mg base CX0 30 T.law.f T.law.fd ["_law_script"] (spLaw K) := by
  have G_law_open : FnOk P w K mg base CX0 (17 + 1) T.law_open.f T.law_open.fd ["_law_script"] (spOpen K) := ok_law_open T
  have G_law_pick : FnOk P w K mg base CX0 (17 + 1) T.law_pick.f T.law_pick.fd ["_law_box", "_law_many"] spPick := ok_law_pick T
  have G_law_names : FnOk P w K mg base CX0 (16 + 2) T.law_names.f T.law_names.fd ["_law_box", "_law_many"] (spP 2 qNames) := pok_law_names T
  have G_law_rows : FnOk P w K mg base CX0 (14 + 4) T.law_rows.f T.law_rows.fd ["_law_box", "_law_names_here", "_law_most"] (spP 3 qRows0) := pok_law_rows0 T
  have G_World_init : FnR P w K mg base CX0 (14 + 4) T.World_init.f (spWInit T) := ok_world_init T
  have G_law_world : FnOk P w K mg base CX0 (12 + 6) T.law_world.f T.law_world.fd ["_law_rows_here"] (spWorldL T) := ok_law_world T
  have G_law_equal : FnOk P w K mg base CX0 (15 + 5 + 1) T.law_equal.f T.law_equal.fd ["_law_one", "_law_other"] (spP 2 (qEqual 5)) := pok_law_equal T 5
  have G_rows : ∀ _ : Unit, FnR P w K mg base CX0 (17 + 1) T.World_rows.f (spRowsM T) := fun _ => ok_world_rows T
  have G_names : ∀ _ : Unit, FnR P w K mg base CX0 (17 + 1) T.World_names.f (spNames2 T) := fun _ => ok_world_names T
  have G_getitem : FnR P w K mg base CX0 (15 + 3) T.World_getitem.f (spGetItem T) := ok_getitem T
  have G_contains : FnR P w K mg base CX0 (16 + 2) T.World_contains.f (spHas T) := ok_world_has T
  have G_eq : FnR P w K mg base CX0 (17 + 1) T.World_eq.f (spWEq T) := ok_world_eq T
  have G_law_told_all : FnOk P w K mg base CX0 (9 + 9) T.law_told_all.f T.law_told_all.fd ["_law_world_here", "_law_rows_here"] (spP 2 (qTold13 T)) := pok_told13 T
  refine T.law.F.ok (k := 29) sc_law (fun vs H Q E h => ?_) (fun cdv A outer s H vs Q E hr h => ?_)
  · obtain ⟨a, ns, rfl, _⟩ := h
    rfl
  · obtain ⟨sa, sns, rfl, hS, hl, q⟩ := h
    refine ⟨_, (pss_cons (ps_set (i := 1) sc_law.nd rfl (.inl rfl) (pe_call G_law_open (hr.mono (by omega)) (by rfl) T.law_open.g T.law_open.F.kp T.law_open.b .nil pass0 (pa_cons (pv 0) pa_nil)))
  (pss_cons (ps_set (i := 2) sc_law.nd rfl (.inl rfl) (pe_call G_law_names (hr.mono (by omega)) (by rfl) T.law_names.g T.law_names.F.kp T.law_names.b .nil pass0 (pa_cons (pv 1) (pa_cons (pe_op op_addG pe_int (pe_call G_law_pick (hr.mono (by omega)) (by rfl) T.law_pick.g T.law_pick.F.kp T.law_pick.b .nil pass0 (pa_cons (pv 1) (pa_cons pe_int pa_nil)))) pa_nil))))
  (pss_cons (ps_setLc (i := 2) (own := [("_law_name", 8)]) (g := gName 8) (tt := (tTest (tOp (rNeG K) (tVar 8) (tC _)))) (te := (tVar 8)) rfl sc_law.nd rfl rfl (sw_true rfl rfl rfl (by decide +kernel)) (pi_seq (pv 2)) (blkOk_by (own := [("_law_name", 8)]) (N := N_law) (sc := defScope s_law) (by decide +kernel)) (fun _ _ _ _ _ => (pg_name (i := 8) sc_law.nd rfl (.inl rfl))) (fun _ _ _ _ _ => (pts_one (pt_cmpR (op_neG hr.units) (pv 8) pe_str (nomark _)))) (fun _ _ _ _ _ => (pv 8)))
  (pss_cons (ps_set (i := 3) sc_law.nd rfl (.inr rfl) (pe_call G_law_rows (hr.mono (by omega)) (by rfl) T.law_rows.g T.law_rows.F.kp T.law_rows.b .nil pass0 (pa_cons (pv 1) (pa_cons (pv 2) (pa_cons pe_int pa_nil)))))
  (pss_cons (ps_set (i := 4) sc_law.nd rfl (.inr rfl) pe_dnewK)
  (pss_cons (ps_for PassesOwn.never rfl (pi_range1 (by rfl) T.n_range (pa_cons (pe_callB call_lenG (by rfl) T.n_len PySem.boot_len (pa_cons (pv 2) pa_nil)) pa_nil)) (pg_name (i := 5) sc_law.nd rfl (.inl rfl))
   (pss_cons (ps_set (i := 8) sc_law.nd rfl (.inl rfl) (pe_ix ix_seq (pv 2) (pe_op op_sub (pe_op op_sub (pe_callB call_lenG (by rfl) T.n_len PySem.boot_len (pa_cons (pv 2) pa_nil)) pe_int) (pv 5)) (fun _ _ => rfl)))
  (pss_one (ps_asg (pe_callTy call_listG (by rfl) T.n_list (by decide +kernel) (pa_cons (pe_dget (hu_of hr) (pv 3) (pv 8) (fun _ _ => rfl)) pa_nil)) (pg_sub (pv 4) (pv 8) (set_dict (hu_of hr)))))))
  (pss_cons (ps_set (i := 6) sc_law.nd rfl (.inl rfl) (StX.pe_makeR T.mk_World G_World_init (hr.mono (by omega)) (by rfl) T.g_World pass0 (pa_cons (pv 4) pa_nil)))
  (pss_cons (ps_set (i := 7) sc_law.nd rfl (.inl rfl) (pe_call G_law_world (hr.mono (by omega)) (by rfl) T.law_world.g T.law_world.F.kp T.law_world.b .nil pass0 (pa_cons (pv 3) pa_nil)))
  (pss_cons (ps_if (pt_not (pt_val (pe_call G_law_equal (hr.mono (by omega)) (by rfl) T.law_equal.g T.law_equal.F.kp T.law_equal.b .nil pass0 (pa_cons (pe_lc (own := [("_law_name", 8)]) (g := gName 8) (tt := tYes) (te := (tDGet (tVar 4) (tVar 8))) rfl sc_law.nd (pi_seq (pv 2)) (blkOk_by (own := [("_law_name", 8)]) (N := N_law) (sc := defScope s_law) (by decide +kernel)) (fun _ _ _ _ _ => (pg_name (i := 8) sc_law.nd rfl (.inl rfl))) (fun _ _ _ _ _ => pts_nil) (fun _ _ _ _ _ => (pe_dget (hu_of hr) (pv 4) (pv 8) (fun _ _ => rfl)))) (pa_cons (pe_lc (own := [("_law_name", 8)]) (g := gName 8) (tt := tYes) (te := (tDGet (tVar 3) (tVar 8))) rfl sc_law.nd (pi_seq (pv 2)) (blkOk_by (own := [("_law_name", 8)]) (N := N_law) (sc := defScope s_law) (by decide +kernel)) (fun _ _ _ _ _ => (pg_name (i := 8) sc_law.nd rfl (.inl rfl))) (fun _ _ _ _ _ => pts_nil) (fun _ _ _ _ _ => (pe_dget (hu_of hr) (pv 3) (pv 8) (fun _ _ => rfl)))) pa_nil))))) (pss_one (ps_ret pe_bl)) pss_nil)
  (pss_cons (ps_for PassesOwn.never rfl (pi_seq (pv 2)) (pg_name (i := 8) sc_law.nd rfl (.inl rfl))
   (pss_cons (ps_expr (pe_bm PySem.F.plainAttrs_list PySem.F.slot_list_append PySem.F.type_list_append mt_append (pe_dget (hu_of hr) (pv 4) (pv 8) (fun _ _ => rfl)) (pa_cons (pe_op op_pow pe_int pe_int) pa_nil)))
  (pss_cons (ps_set (i := 13) sc_law.nd rfl (.inl rfl) (pe_getO G_getitem (hr.mono (by omega)) pass0 (pv 6) (pv 8)))
  (pss_one (ps_expr (pe_bm PySem.F.plainAttrs_list PySem.F.slot_list_append PySem.F.type_list_append mt_append (pv 13) (pa_cons (pe_op op_pow pe_int pe_int) pa_nil)))))))
  (pss_cons (ps_asg (pe_lst (pa_cons pe_int pa_nil)) (pg_sub (pv 4) pe_str (set_dict (hu_of hr))))
  (pss_cons (ps_set (i := 9) sc_law.nd rfl (.inl rfl) (pe_methV0 (pv 6) G_rows (hr.mono (by omega)) pass0))
  (pss_cons (ps_expr (pe_bm PySem.F.plainAttrs_list PySem.F.slot_list_append PySem.F.type_list_append mt_append (pv 9) (pa_cons (pe_tup (pa_cons pe_str (pa_cons pe_int pa_nil))) pa_nil)))
  (pss_cons (ps_set (i := 10) sc_law.nd rfl (.inl rfl) (pe_methV0 (pv 6) G_names (hr.mono (by omega)) pass0))
  (pss_cons (ps_expr (pe_bm PySem.F.plainAttrs_list PySem.F.slot_list_append PySem.F.type_list_append mt_append (pv 10) (pa_cons pe_str pa_nil)))
  (pss_cons (ps_set (i := 11) sc_law.nd rfl (.inl rfl) (pe_lst (pa_cons pe_non (pa_cons pe_int (pa_cons pe_bl (pa_cons (pe_tup pa_nil) (pa_cons (pe_tup (pa_cons pe_str pa_nil)) (pa_cons (pe_tup (pa_cons pe_str (pa_cons pe_bl pa_nil))) (pa_cons (pe_tup (pa_cons pe_str (pa_cons pe_str pa_nil))) pa_nil)))))))))
  (pss_cons (ps_for PassesOwn.never rfl (pi_seq (pe_op op_addG (pv 11) (pe_lst (pa_cons (pe_tup (pa_cons pe_str (pa_cons pe_int (pa_cons pe_int pa_nil)))) (pa_cons (pe_tup (pa_cons pe_int (pa_cons pe_str pa_nil))) (pa_cons (pe_lst (pa_cons pe_str (pa_cons pe_int pa_nil))) (pa_cons pe_str pa_nil))))))) (pg_name (i := 12) sc_law.nd rfl (.inl rfl))
   (pss_one (ps_if (pt_cmpR (op_inO G_contains (hr.mono (by omega)) pass0) (pv 12) (pv 6) (by with_unfolding_all rfl)) (pss_one (ps_ret pe_bl)) pss_nil)))
  (pss_cons (ps_if (PW.pt (pw_or (pt_cmpR (op_neO G_eq (hr.mono (by omega)) pass0) (pv 6) (pv 7) (nomark _)) (pw_or1 (pt_cmpR (op_neO G_eq (hr.mono (by omega)) pass0) (pv 7) (pv 6) (nomark _))))) (pss_one (ps_ret pe_bl)) pss_nil)
  (pss_one (ps_ret (pe_and (pe_call G_law_told_all (hr.mono (by omega)) (by rfl) T.law_told_all.g T.law_told_all.F.kp T.law_told_all.b .nil pass0 (pa_cons (pv 6) (pa_cons (pv 3) pa_nil))) (pe_one (pe_call G_law_told_all (hr.mono (by omega)) (by rfl) T.law_told_all.g T.law_told_all.F.kp T.law_told_all.b .nil pass0 (pa_cons (pv 7) (pa_cons (pv 3) pa_nil))))))))))))))))))))))))), ?_⟩
    refine law_begin (n := 12) rfl hS hl q ?_
    subst_vars
    intro n0 n00 n01
    obtain ⟨m, rfl⟩ := Int.eq_ofNat_of_zero_le n00
    refine ⟨m + 1, by rw [show (1 + (m : Int)) = ((m + 1 : Nat) : Int) from by omega], by omega, fun zs nz lz gz => ?_⟩
    subst_vars
    unfold pLc
    bv_omega
    refine ⟨rfl, fun i acc => acc = ((zs.take i).filter fun z : Str => !decide (z = "abcdefghijkl")).map Tv.str, rfl, fun i t acc ht ha => ?_, fun acc ha => ?_⟩
    · subst ha
      rw [List.getElem?_map] at ht
      obtain ⟨z, hz, rfl⟩ := Option.map_eq_some_iff.mp ht
      refine ⟨?_, ?_⟩
      · rw [List.length_map]
        have h1 := List.length_filter_le (fun z : Str => !decide (z = "abcdefghijkl")) (zs.take i)
        rw [List.length_take] at h1
        omega
      · bv_omega
        have e1 : (zs.take (i + 1)).filter (fun z : Str => !decide (z = "abcdefghijkl")) = (zs.take i).filter (fun z : Str => !decide (z = "abcdefghijkl")) ++ (if z = "abcdefghijkl" then [] else [z]) := by
          rw [List.take_add_one, hz, List.filter_append]
          by_cases h : z = "abcdefghijkl" <;> simp [h]
        refine ite2 (fun h => ?_) (fun h => ?_)
        · rw [e1, if_neg h, List.map_append]
          rfl
        · rw [e1, if_pos (Classical.not_not.mp h), List.append_nil]
    · rw [List.length_map, List.take_length] at ha
      subst ha
      bv_omega
      refine s_fz 2 rfl ?_
      bv_omega
      have nz' : (zs.filter fun z : Str => !decide (z = "abcdefghijkl")).Nodup := nz.sublist List.filter_sublist
      have gz' : ∀ z ∈ zs.filter fun z : Str => !decide (z = "abcdefghijkl"), goodName z ∧ z ≠ "abcdefghijkl" := fun z hz => ⟨gz z (List.mem_filter.mp hz).1, by simpa using (List.mem_filter.mp hz).2⟩
      have lz' : (zs.filter fun z : Str => !decide (z = "abcdefghijkl")).length ≤ 3 := by
        have h1 := List.length_filter_le (fun z : Str => !decide (z = "abcdefghijkl")) zs
        omega
      generalize (zs.filter fun z : Str => !decide (z = "abcdefghijkl")) = ns at nz' gz' lz'
      clear nz lz gz
      subst_vars
      refine ⟨ns, 9, rfl, by omega, by omega, nz', by omega, fun z hz => (gz' z hz).1, fun rs hk hrs => ?_⟩
      subst hk
      rw [List.length_map] at lz'
      have hne : ∀ r ∈ rs, r.1 ≠ "abcdefghijkl" := fun r hr => (gz' r.1 (List.mem_map.mpr ⟨r, hr, rfl⟩)).2
      have hgr : goodRows rs := rows_good (m := 9) rfl (fun z hz => (gz' z hz).1) (fun r hr => ⟨(hrs r hr).1, by have := (hrs r hr).2; omega⟩) (by rw [List.length_map]; omega) (by omega)
      injections
      injections
      bv_omega
      refine s_toDl 4 rfl ?_
      bv_omega
      injections
      injections
      bv_omega
      have hln : (((rs.map (·.1)).map Tv.str).length : Int) = (rs.length : Int) := by rw [List.length_map, List.length_map]
      have ndr : ((rs.reverse).map (·.1)).Nodup := by rw [List.map_reverse]; exact (List.reverse_perm _).nodup_iff.mpr nz'
      refine ⟨by omega, by omega, fun i s => ∃ (as : List Addr) (y5 y8 : Sl), s = [.any, .box, .val (.lst ((rs.map (·.1)).map Tv.str)), .val (rowsT rs), .odl as ((rs.reverse.take i).map fun r => .inr r.1) ((rs.reverse.take i).map fun r => r.2.map Tv.int), y5, .any, .any, y8, .any, .any, .any, .any, .any], ⟨_, _, _, rfl⟩, fun i t s ht hI => ?_, fun s hI => ?_⟩
      · obtain ⟨as, y5, y8, rfl⟩ := hI
        obtain ⟨rfl, hi⟩ := rgT_at ht
        rw [hln, Int.toNat_natCast] at hi
        obtain ⟨r, hr0⟩ : ∃ r, rs.reverse[i]? = some r := ⟨_, List.getElem?_eq_getElem (by rw [List.length_reverse]; exact hi)⟩
        have hr1 : rs[rs.length - 1 - i]? = some r := by rw [List.getElem?_reverse hi] at hr0; exact hr0
        have hm := List.mem_of_getElem? hr1
        bv_omega
        injections
        injections
        bv_omega
        refine ⟨.str r.1, at_ix2 (by omega) ?_, ?_⟩
        · rw [show ((((rs.map (·.1)).map Tv.str).length : Int) - 1 - (i : Int)).toNat = rs.length - 1 - i from by omega, List.getElem?_map, List.getElem?_map, hr1]
          rfl
        bv_omega
        refine s_setDl rfl (by rw [List.length_map, List.length_take]; omega) ?_
        bv_omega
        simp only [rowsT]
        bv_omega
        refine ⟨_, vT_row nz' hm, ?_⟩
        bv_omega
        refine ⟨fun hz => ?_, fun p => ⟨as ++ [p], .val (.int i), .val (.str r.1), ?_⟩⟩
        · have e1 : (rs.reverse.take i).map (fun r => (Sum.inr r.1 : Key)) = ((rs.reverse.map (·.1)).take i).map Sum.inr := by rw [← List.map_take, List.map_map]; rfl
          rw [e1] at hz
          exact new_key ndr (by rw [List.getElem?_map, hr0]; rfl) hz
        · rw [List.take_add_one, hr0, List.map_append, List.map_append]
          rfl
      · obtain ⟨as, y5, y8, rfl⟩ := hI
        rw [hln, Int.toNat_natCast, List.take_of_length_le (by rw [List.length_reverse]; exact Nat.le_refl _)]
        have hwl : (wRows rs).length ≤ 300 := by rw [wRows_len]; exact hgr.2
        have hgw : ∀ p ∈ wRows rs, goodName p.1 := fun p hp => by
          obtain ⟨r', h1, h2, _⟩ := getR_row ((mem_wR (z := p.1) (x := p.2) nz').mp hp)
          rw [← h2]
          exact (hgr.1 r' h1).1
        bv_omega
        injections
        injections
        bv_omega
        unfold pMakeWo
        bv_omega
        refine ⟨rs.reverse, .inr ⟨4, as, rfl⟩, good_rev hgr, ?_⟩
        rw [wRows_rev]
        bv_omega
        injections
        injections
        bv_omega
        unfold pWorldL
        bv_omega
        refine ⟨rs, rfl, nz', by omega, hgr, ?_⟩
        bv_omega
        injections
        refine s_ifPk 4 rfl ?_
        bv_omega
        have hml : (rs.reverse.map fun r => r.2.map Tv.int).map Tv.lst = rs.reverse.map fun r => .lst (r.2.map Tv.int) := by rw [List.map_map]; rfl
        simp only [hml, rowsT]
        unfold pLc
        bv_omega
        refine ⟨rfl, fun i acc => acc = (rs.take i).map fun r => .lst (r.2.map Tv.int), rfl, fun i t acc ht ha => ?_, fun acc ha => ?_⟩
        · subst ha
          rw [List.map_map, List.getElem?_map] at ht
          obtain ⟨r, hr', rfl⟩ := Option.map_eq_some_iff.mp ht
          have hm := List.mem_of_getElem? hr'
          refine ⟨by rw [List.length_map, List.length_take]; omega, ?_⟩
          bv_omega
          refine ⟨_, vT_row ndr (List.mem_reverse.mpr hm), ?_⟩
          bv_omega
          rw [List.take_add_one, hr', List.map_append]
          rfl
        rw [List.length_map, List.length_map, List.take_length] at ha
        subst ha
        bv_omega
        refine ⟨rfl, fun i acc => acc = (rs.take i).map fun r => .lst (r.2.map Tv.int), rfl, fun i t acc ht ha => ?_, fun acc ha => ?_⟩
        · subst ha
          rw [List.map_map, List.getElem?_map] at ht
          obtain ⟨r, hr', rfl⟩ := Option.map_eq_some_iff.mp ht
          have hm := List.mem_of_getElem? hr'
          refine ⟨by rw [List.length_map, List.length_take]; omega, ?_⟩
          bv_omega
          refine ⟨_, vT_row nz' hm, ?_⟩
          bv_omega
          rw [List.take_add_one, hr', List.map_append]
          rfl
        rw [List.length_map, List.length_map, List.take_length] at ha
        subst ha
        bv_omega
        obtain ⟨sm1, dp1⟩ := lists_sm (rs := rs) (by omega) fun r hr => by have := (hrs r hr).2; omega
        refine ⟨_, _, rfl, by omega, by omega, sm1, sm1, ?_⟩
        rw [teq_refl sm1]
        bv_omega
        injections
        bv_omega
        injections
        injections
        bv_omega
        have knd : ((rs.reverse).map fun r => (Sum.inr r.1 : Key)).Nodup := by
          have e1 : ((rs.reverse).map fun r => (Sum.inr r.1 : Key)) = ((rs.reverse).map (·.1)).map Sum.inr := by rw [List.map_map]; rfl
          rw [e1]
          exact List.Pairwise.map _ (fun a b h z => h (Sum.inr.inj z)) ndr
        refine ⟨fun i s => ∃ (xss : List (List Tv)) (y8 y13 : Sl), s = [.any, .box, .val (.lst ((rs.map (·.1)).map Tv.str)), .val (rowsT rs), .odl as (rs.reverse.map fun r => .inr r.1) xss, y5, .val (woT T (wRows rs)), .val (woT T (wRows rs)), y8, .any, .any, .any, .any, y13] ∧ xss.length = rs.length ∧ ∀ xs ∈ xss, xs.length ≤ 100 + i, ⟨_, _, _, rfl, by rw [List.length_map, List.length_reverse], fun xs hx => ?_⟩, fun i t s ht hI => ?_, fun s hI => ?_⟩
        · obtain ⟨r, hr, rfl⟩ := List.mem_map.mp hx
          have := (hrs r (List.mem_reverse.mp hr)).2
          rw [List.length_map]
          omega
        · obtain ⟨xss, y8', y13, rfl, hxl, hxs⟩ := hI
          rw [List.map_map, List.getElem?_map] at ht
          obtain ⟨r, hr', rfl⟩ := Option.map_eq_some_iff.mp ht
          have hm := List.mem_of_getElem? hr'
          have hi := (List.getElem?_eq_some_iff.mp hr').1
          obtain ⟨n, hn⟩ := List.mem_iff_getElem?.mp (List.mem_reverse.mpr hm)
          have hnl := (List.getElem?_eq_some_iff.mp hn).1
          rw [List.length_reverse] at hnl
          obtain ⟨xs, hxn⟩ : ∃ xs, xss[n]? = some xs := ⟨_, List.getElem?_eq_getElem (by omega)⟩
          bv_omega
          injections
          refine s_appD rfl knd (fun xs hx => by have := hxs xs hx; omega) ?_
          bv_omega
          refine ⟨n, xs, by rw [List.getElem?_map, hn]; rfl, hxn, ⟨by decide, by decide, by decide⟩, ?_⟩
          injections
          injections
          bv_omega
          unfold pItemN
          bv_omega
          refine ⟨wRows rs, r.1, rfl, rfl, (hgr.1 r hm).1, by omega, ?_⟩
          bv_omega
          have hrl : (rowsOf (wRows rs) r.1).length ≤ 300 := by
            have h1 := List.length_filter_le (fun p : Str × Int => decide (p.1 = r.1)) (wRows rs)
            unfold rowsOf
            rw [List.length_map]
            omega
          injections
          bv_omega
          refine ⟨⟨by decide, by decide, by decide⟩, _, _, _, rfl, by rw [List.length_set]; exact hxl, fun xs' hx' => ?_⟩
          rcases List.mem_or_eq_of_mem_set hx' with h | rfl
          · have := hxs xs' h
            omega
          · have := hxs xs (List.mem_of_getElem? hxn)
            rw [List.length_append, List.length_singleton]
            omega
        · obtain ⟨xss, y8', y13, rfl, hxl, hxs⟩ := hI
          bv_omega
          injections
          refine s_setDx rfl (.inr ⟨_, _, _, rfl, rfl⟩) (by rw [List.length_map, List.length_reverse]; omega) ?_
          bv_omega
          injections
          injections
          bv_omega
          unfold pRowsN
          bv_omega
          refine ⟨wRows rs, rfl, ?_⟩
          bv_omega
          injections
          injections
          bv_omega
          injections
          injections
          bv_omega
          unfold pNamesN
          bv_omega
          refine ⟨wRows rs, rfl, by omega, fun ys o1 o2 o3 => ?_⟩
          bv_omega
          have hyl : ys.length ≤ 300 := by
            have := sub_len o2 fun z hz => (o3 z).mp hz
            rw [List.length_map] at this
            omega
          injections
          injections
          bv_omega
          injections
          injections
          bv_omega
          injections
          injections
          bv_omega
          refine ⟨fun i s => ∃ (y8 y9 y10 y11 y12 y13 : Sl), s = [.any, .box, .val (.lst ((rs.map (·.1)).map Tv.str)), .val (rowsT rs), .any, y5, .val (woT T (wRows rs)), .val (woT T (wRows rs)), y8, y9, y10, y11, y12, y13], ⟨_, _, _, _, _, _, rfl⟩, fun i t s ht hI => ?_, fun s hI => ?_⟩
          · obtain ⟨y8, y9, y10, y11, y12, y13, rfl⟩ := hI
            have hm := List.mem_of_getElem? ht
            have key : t = .str "" ∨ noRow t = true := by
              simp only [List.mem_cons, List.not_mem_nil, or_false] at hm
              rcases hm with rfl | rfl | rfl | rfl | rfl | rfl | rfl | rfl | rfl | rfl | rfl
              all_goals first | exact .inr rfl | exact .inl rfl
            injections
            bv_omega
            unfold pInWo
            bv_omega
            refine ⟨wRows rs, rfl, by omega, hgw, ?_⟩
            rcases key with rfl | hn
            · have hno : ¬ ("" : Str) ∈ (wRows rs).map (·.1) := fun h => by
                obtain ⟨p, hp, e⟩ := List.mem_map.mp h
                have := (hgw p hp).1
                rw [e] at this
                exact absurd this (by decide)
              refine .inr (.inl ⟨"", rfl, ?_⟩)
              rw [if_neg hno]
              injections
              exact ⟨_, _, _, _, _, _, rfl⟩
            · refine .inr (.inr ⟨hn, ?_⟩)
              injections
              exact ⟨_, _, _, _, _, _, rfl⟩
          · obtain ⟨y8, y9, y10, y11, y12, y13, rfl⟩ := hI
            injections
            injections
            bv_omega
            unfold pEqWo
            bv_omega
            refine ⟨wRows rs, rfl, hgw, .inl ⟨wRows rs, rfl, hgw, ?_⟩⟩
            bv_omega
            rw [if_neg (not_not_intro trivial)]
            refine ⟨wRows rs, rfl, hgw, .inl ⟨wRows rs, rfl, hgw, ?_⟩⟩
            rw [if_neg (not_not_intro rfl)]
            injections
            injections
            bv_omega
            refine ⟨rs, rfl, hgr, nz', by omega, hne, ?_⟩
            bv_omega
            refine ⟨rs, rfl, hgr, nz', by omega, hne, ?_⟩
            bv_omega
end
end Pl
open PySem PySem.W PySem.Calls PyProof.Rows in
set_option maxRecDepth 100000 in
set_option maxHeartbeats 0 in
theorem PySem.Challenge.cw_pastlooks_k13_rows_of_a_world_holds : PySem.Challenge.rw_pastlooks_k13_rows_of_a_world.Holds := by
  w_on; o_law
  refine HandSHeadRun.head_any (r := OpenLaw.row PySem.Challenge.rw_pastlooks_k13_rows_of_a_world) (q := view (OpenLaw.row PySem.Challenge.rw_pastlooks_k13_rows_of_a_world).prog [35]) (H := Pl.hk) (ob := Pl.ob) (M := 60000) (loose := Pl.loose) (d := HandSHeadRun.topDef (OpenLaw.row PySem.Challenge.rw_pastlooks_k13_rows_of_a_world).prog 35) (kwd := []) Pl.ob_eq
    (by kernel_rfl) (fun s => by kernel_rfl) Pl.run (by kernel_rfl) (by kernel_rfl) (by kernel_rfl) (by rfl) (by first | assumption | decide +kernel) (by decide +kernel) ⟨rfl, rfl, rfl, rfl, rfl, by decide +kernel⟩ ?hw ?hc
  case hw => w_witness2
  case hc =>
    refine L2.walk_ofE (l := PySem.Challenge.rw_pastlooks_k13_rows_of_a_world) (n := 63) (k := 30) (x := "_law_script") (CX := L2.CX0) rfl (by decide) (by kernel_rfl) ⟨rfl, by decide, by decide⟩ ?F (fun _ _ _ _ z => z)
    intro w mg fa h Y G hmg0
    obtain ⟨K, KX, c⟩ := Y
    have hmg : mg ("law" : PySem.Str) = some (.ref fa) := by
      have e : (HandSHeadRun.topDef (OpenLaw.row PySem.Challenge.rw_pastlooks_k13_rows_of_a_world).prog 35).name = ("law" : PySem.Str) := by kernel_rfl
      rw [← e]
      exact hmg0
    obtain ⟨T, rfl, hb⟩ := Pl.facts KX G hmg c
    exact ⟨K, T.law.fd, Pl.spLaw K, KX, hb, fun H a ns hl _ hS => ⟨a, ns, rfl, hS, hl, fun _ => rfl⟩, fun base _ _ => Pl.ok_law T⟩
