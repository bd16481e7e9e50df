import PyProof.Rows.All
import Wide.All
import OpenK.AllK
import Wide.FinOn
import KE.OsRunLaw
import KE.RegKSuper
import KE.RegKIsAll
import HandS.ForMost
import HandS.IsInst
import HandS.Nested
import HandS.ClsMeth
import HandS.Star
import KE.KSuper
import HandS.SlotsOwn
import KE.KOpsOwn
import HandS.MakeKwOnly
import KE.KStateDown
import HandS.Head0
import HandS.Head1
import HandS.Head2
import HandS.HeadEnd
import HandS.HeadHook1
import HandS.HeadHook2
import OpenK.KMore
import HandS.Property
import HandS.TryMany
import HandS.ExcField
import HandS.ExcInit
import HandS.WordsExc
import HandS.Lambda
import HandS.EndTab
import HandS.HeadWalk
import HandS.Defaults
import HandS.SortKw
import KE.SortData
import KE.DataMinMax
import HandS.Evl
import HandS.Zip
import HandS.Walk
import HandS.Style
import HandS.Small
import HandS.Deep
import HandS.Comp
import HandS.Dict
import HandS.Iter
import HandS.TupAny
import HandS.WordsDict
import HandS.SortInts
import HandS.Conv
import HandS.Text
import HandS.DeepEq
import HandS.Wide
import HandS.More
import PyProof.InstEq
import PySem.Challenge.RW_pastlooks_k12_streams_with_limits
set_option Elab.async false
set_option linter.all false
set_option maxRecDepth 100000
set_option maxHeartbeats 4000000
set_option Elab.async false
set_option linter.all false
set_option maxRecDepth 100000
set_option maxHeartbeats 4000000
namespace Pl
open PySem L2
/-! ### heaps -/
theorem same_upd {H : Hp} {p : Addr} {o : HO} (h : H p = none) : Same H (upd H p o) := fun b x e => by
  rw [upd_ne (ne_of_none e h)]
  exact e
theorem same_mut {G H : Hp} {p : Addr} {o : HO} (s : Same G H) (h : G p = none) : Same G (upd H p o) := fun b x e => by
  rw [upd_ne (ne_of_none e h)]
  exact s b x e
theorem same_both {G H : Hp} {p : Addr} {o : HO} (s : Same G H) : Same (upd G p o) (upd H p o) := fun b x e => by
  unfold upd at *
  split
  · rename_i h
    rw [if_pos h] at e
    exact e
  · rename_i h
    rw [if_neg h] at e
    exact s b x e
theorem Same.rd {H H' : Hp} {a : Addr} {u : HO} (s : Same H H') (h : Rd H a u) : Rd H' a u := by
  rcases h with h | ⟨o, h⟩
  · exact .inl (s _ _ h)
  · exact .inr ⟨o, s _ _ h⟩
theorem Same.tup {K : PySem.W.Frag} {H H' : Hp} {a : Addr} {xs : List V} (s : Same H H') (h : SqT K H a xs) : SqT K H' a xs := by
  rcases h with (h | ⟨o, h⟩) | h
  · exact .inl (.inl (s _ _ h))
  · exact .inl (.inr ⟨o, s _ _ h⟩)
  · exact .inr h
theorem at_ix {xs : List V} {j : Int} {v : V} (h0 : 0 ≤ j) (h : xs[j.toNat]? = some v) : atI xs j = some v := by
  have e : j = ((j.toNat : Nat) : Int) := by omega
  rw [e]
  exact atI_nat h
theorem at_ix2 {α : Type} {xs : List α} {j : Int} {v : α} (h0 : 0 ≤ j) (h : xs[j.toNat]? = some v) : atI xs j = some v := by
  have e : j = ((j.toNat : Nat) : Int) := by omega
  rw [e]
  exact atI_nat h
theorem ix_in {n : Nat} {j : Int} (h0 : 0 ≤ j) (h1 : j < n) : ixN n j = some j.toNat := by
  unfold ixN
  rw [if_pos h0, if_pos h1]
theorem at_ints {cs : List Int} {j : Int} (h0 : 0 ≤ j) (h1 : j < cs.length) : ∃ x, atI (cs.map V.int) j = some (.int x) := by
  have h : j.toNat < cs.length := by omega
  exact ⟨cs[j.toNat], at_ix h0 (by rw [List.getElem?_map, List.getElem?_eq_getElem h]; rfl)⟩
theorem fm0 {a b : Int} (h : 0 < b) : 0 ≤ a.fmod b := by
  rw [Int.fmod_eq_emod_of_nonneg _ (Int.le_of_lt h)]
  exact Int.emod_nonneg _ (by omega)
theorem fm1 {a b : Int} (h : 0 < b) : a.fmod b < b := by
  rw [Int.fmod_eq_emod_of_nonneg _ (Int.le_of_lt h)]
  exact Int.emod_lt_of_pos _ h
theorem sz {n : Nat} (h : n ≤ 100000) : n ≤ sizeLine := Nat.le_trans h (by decide)
theorem szl {n : Nat} (h : n < 100000) : n < sizeLine := Nat.lt_of_lt_of_le h (by decide)
/-! ### the box from which a law draws -/
def BoxAt (b c : Addr) (H : Hp) : Prop := b ≠ c ∧ ∃ (cs : List Int) (k : Int), H b = some (.lst [.ref c, .int k]) ∧ H c = some (.lst (cs.map V.int)) ∧ 0 < cs.length ∧ cs.length ≤ 64
/-- G: what stays -/
structure Wd (b c : Addr) (G H : Hp) : Prop where
  box : BoxAt b c H
  gh : Same G H
  gb : G b = none
  gc : G c = none
/-- nothing that stood is changed; G is what is known and stays -/
structure Gr (G H G' H' : Hp) : Prop where
  gg : Same G G'
  gh : Same G' H'
  hh : Same H H'
  nw : ∀ a o, G' a = some o → G a = some o ∨ H a = none
theorem Gr.refl {G H : Hp} (s : Same G H) : Gr G H G H := ⟨Same.refl _, s, Same.refl _, fun _ _ h => .inl h⟩
theorem Gr.trans {G H G1 H1 G2 H2 : Hp} (a : Gr G H G1 H1) (b : Gr G1 H1 G2 H2) : Gr G H G2 H2 :=
  ⟨a.gg.trans b.gg, b.gh, a.hh.trans b.hh, fun x o h => by
    rcases b.nw x o h with h | h
    · exact a.nw x o h
    · exact .inr (a.hh.free h)⟩
theorem Gr.new {G H : Hp} {p : Addr} {o : HO} (s : Same G H) (h : H p = none) : Gr G H (upd G p o) (upd H p o) :=
  ⟨same_upd (s.free h), same_both s, same_upd h, fun a x e => by
    by_cases q : a = p
    · rw [q]; exact .inr h
    · rw [upd_ne q] at e; exact .inl e⟩
/-- a new thing that is not to be known -/
theorem Gr.drop {G H : Hp} {p : Addr} {o : HO} (s : Same G H) (h : H p = none) : Gr G H G (upd H p o) :=
  ⟨Same.refl _, same_mut s (s.free h), same_upd h, fun _ _ e => .inl e⟩
theorem Gr.none {G H G' H' : Hp} (g : Gr G H G' H') {a : Addr} {o : HO} (h : G a = none) (ha : H a = some o) : G' a = none := by
  cases e : G' a with
  | none => rfl
  | some u =>
    rcases g.nw a u e with q | q
    · rw [h] at q; cases q
    · rw [ha] at q; cases q
theorem BoxAt.same {b c : Addr} {H H' : Hp} (x : BoxAt b c H) (s : Same H H') : BoxAt b c H' := by
  obtain ⟨n, cs, k, h1, h2, h3⟩ := x
  exact ⟨n, cs, k, s _ _ h1, s _ _ h2, h3⟩
theorem BoxAt.b {b c : Addr} {H : Hp} (x : BoxAt b c H) : ∃ o, H b = some o := by
  obtain ⟨n, cs, k, h1, h2, h3⟩ := x
  exact ⟨_, h1⟩
theorem BoxAt.c {b c : Addr} {H : Hp} (x : BoxAt b c H) : ∃ o, H c = some o := by
  obtain ⟨n, cs, k, h1, h2, h3⟩ := x
  exact ⟨_, h2⟩
theorem Wd.gr {b c : Addr} {G H G' H' : Hp} (x : Wd b c G H) (g : Gr G H G' H') : Wd b c G' H' := by
  obtain ⟨_, h1⟩ := x.box.b
  obtain ⟨_, h2⟩ := x.box.c
  exact ⟨x.box.same g.hh, g.gh, g.none x.gb h1, g.none x.gc h2⟩
theorem Wd.gr0 {b c : Addr} {G H : Hp} (x : Wd b c G H) : Gr G H G H := Gr.refl x.gh
/-- a list that is not frozen may be written -/
theorem Wd.mut {b c p : Addr} {G H : Hp} {o : HO} (x : Wd b c G H) (h : G p = none) (hb : p ≠ b) (hc : p ≠ c) : Wd b c G (upd H p o) := by
  obtain ⟨n, cs, k, h1, h2, h3⟩ := x.box
  exact ⟨⟨n, cs, k, by rw [upd_ne (Ne.symm hb)]; exact h1, by rw [upd_ne (Ne.symm hc)]; exact h2, h3⟩, same_mut x.gh h, x.gb, x.gc⟩
/-! ### isinstance of built-in classes -/
theorem kb_int_int : kitB "int" "int" = some true := by decide +kernel
theorem kb_int_bool : kitB "int" "bool" = some false := by decide +kernel
theorem kb_int_tuple : kitB "int" "tuple" = some false := by decide +kernel
theorem kb_int_list : kitB "int" "list" = some false := by decide +kernel
theorem kb_int_str : kitB "int" "str" = some false := by decide +kernel
theorem kb_bool_int : kitB "bool" "int" = some true := by decide +kernel
theorem kb_bool_bool : kitB "bool" "bool" = some true := by decide +kernel
theorem kb_bool_tuple : kitB "bool" "tuple" = some false := by decide +kernel
theorem kb_bool_list : kitB "bool" "list" = some false := by decide +kernel
theorem kb_bool_str : kitB "bool" "str" = some false := by decide +kernel
theorem kb_tuple_int : kitB "tuple" "int" = some false := by decide +kernel
theorem kb_tuple_bool : kitB "tuple" "bool" = some false := by decide +kernel
theorem kb_tuple_tuple : kitB "tuple" "tuple" = some true := by decide +kernel
theorem kb_tuple_list : kitB "tuple" "list" = some false := by decide +kernel
theorem kb_tuple_str : kitB "tuple" "str" = some false := by decide +kernel
theorem kb_list_int : kitB "list" "int" = some false := by decide +kernel
theorem kb_list_bool : kitB "list" "bool" = some false := by decide +kernel
theorem kb_list_tuple : kitB "list" "tuple" = some false := by decide +kernel
theorem kb_list_list : kitB "list" "list" = some true := by decide +kernel
theorem kb_list_str : kitB "list" "str" = some false := by decide +kernel
theorem kb_str_int : kitB "str" "int" = some false := by decide +kernel
theorem kb_str_bool : kitB "str" "bool" = some false := by decide +kernel
theorem kb_str_tuple : kitB "str" "tuple" = some false := by decide +kernel
theorem kb_str_list : kitB "str" "list" = some false := by decide +kernel
theorem kb_str_str : kitB "str" "str" = some true := by decide +kernel
theorem kb_none_int : kitB "NoneType" "int" = some false := by decide +kernel
theorem kb_none_bool : kitB "NoneType" "bool" = some false := by decide +kernel
theorem kb_none_tuple : kitB "NoneType" "tuple" = some false := by decide +kernel
theorem kb_none_list : kitB "NoneType" "list" = some false := by decide +kernel
theorem kb_none_str : kitB "NoneType" "str" = some false := by decide +kernel
/-- the kinds of values that a law handles, by a built-in type's name -/
inductive Ty (H : Hp) : V → String → Prop
  | non : Ty H .non "NoneType"
  | bl (b : Bool) : Ty H (.bl b) "bool"
  | int (i : Int) : Ty H (.int i) "int"
  | str (x : Str) : Ty H (.str x) "str"
  | lst {a : Addr} {xs : List V} (h : H a = some (.lst xs)) : Ty H (.ref a) "list"
  | tup {a : Addr} {xs : List V} (h : H a = some (.tup xs)) : Ty H (.ref a) "tuple"
theorem Ty.x {K : PySem.W.Frag} {H : Hp} {v : V} {n : String} (t : Ty H v n) : TyX K H v (.type n) := by
  cases t with
  | non => exact .base .non
  | bl b => exact .base (.bl b)
  | int i => exact .base (.int i)
  | str x => exact .base (.str x)
  | lst h => exact .base (.lst h)
  | tup h => exact .base (.tup h)
theorem Ty.same {H H' : Hp} {v : V} {n : String} (s : Same H H') (t : Ty H v n) : Ty H' v n := by
  cases t with
  | non => exact .non
  | bl b => exact .bl b
  | int i => exact .int i
  | str x => exact .str x
  | lst h => exact .lst (s _ _ h)
  | tup h => exact .tup (s _ _ h)
/-- isinstance(x, n) of such a value -/
def tyB (t n : String) : Bool := (kitB t n).getD false
theorem Ty.kit {H : Hp} {v : V} {t : String} (h : Ty H v t) {n : String} (hn : n = "int" ∨ n = "bool" ∨ n = "tuple" ∨ n = "list" ∨ n = "str") : kitB t n = some (tyB t n) := by
  unfold tyB
  rcases hn with rfl | rfl | rfl | rfl | rfl <;> cases h <;> first
    | (rw [kb_int_int]; rfl) | (rw [kb_int_bool]; rfl) | (rw [kb_int_tuple]; rfl) | (rw [kb_int_list]; rfl) | (rw [kb_int_str]; rfl)
    | (rw [kb_bool_int]; rfl) | (rw [kb_bool_bool]; rfl) | (rw [kb_bool_tuple]; rfl) | (rw [kb_bool_list]; rfl) | (rw [kb_bool_str]; rfl)
    | (rw [kb_tuple_int]; rfl) | (rw [kb_tuple_bool]; rfl) | (rw [kb_tuple_tuple]; rfl) | (rw [kb_tuple_list]; rfl) | (rw [kb_tuple_str]; rfl)
    | (rw [kb_list_int]; rfl) | (rw [kb_list_bool]; rfl) | (rw [kb_list_tuple]; rfl) | (rw [kb_list_list]; rfl) | (rw [kb_list_str]; rfl)
    | (rw [kb_str_int]; rfl) | (rw [kb_str_bool]; rfl) | (rw [kb_str_tuple]; rfl) | (rw [kb_str_list]; rfl) | (rw [kb_str_str]; rfl)
    | (rw [kb_none_int]; rfl) | (rw [kb_none_bool]; rfl) | (rw [kb_none_tuple]; rfl) | (rw [kb_none_list]; rfl) | (rw [kb_none_str]; rfl)
theorem isI_int {K : PySem.W.Frag} {H : Hp} {v : V} {t : String} (h : Ty H v t) : PySem.W.kitOne K (.type t) (.type "int") = some (tyB t "int") := kit_ty (h.kit (.inl rfl))
theorem isI_bool {K : PySem.W.Frag} {H : Hp} {v : V} {t : String} (h : Ty H v t) : PySem.W.kitOne K (.type t) (.type "bool") = some (tyB t "bool") := kit_ty (h.kit (.inr (.inl rfl)))
theorem isI_tuple {K : PySem.W.Frag} {H : Hp} {v : V} {t : String} (h : Ty H v t) : PySem.W.kitOne K (.type t) (.type "tuple") = some (tyB t "tuple") := kit_ty (h.kit (.inr (.inr (.inl rfl))))
theorem isI_list {K : PySem.W.Frag} {H : Hp} {v : V} {t : String} (h : Ty H v t) : PySem.W.kitOne K (.type t) (.type "list") = some (tyB t "list") := kit_ty (h.kit (.inr (.inr (.inr (.inl rfl)))))
theorem isI_str {K : PySem.W.Frag} {H : Hp} {v : V} {t : String} (h : Ty H v t) : PySem.W.kitOne K (.type t) (.type "str") = some (tyB t "str") := kit_ty (h.kit (.inr (.inr (.inr (.inr rfl)))))
def isInt : V → Bool
  | .int _ => true
  | _ => false
theorem isInt_of {H : Hp} {v : V} {t : String} (h : Ty H v t) : (tyB t "int" && !tyB t "bool") = isInt v := by
  unfold tyB
  cases h
  · rw [kb_none_int]; rfl
  · rw [kb_bool_int, kb_bool_bool]; rfl
  · rw [kb_int_int, kb_int_bool]; rfl
  · rw [kb_str_int]; rfl
  · rw [kb_list_int]; rfl
  · rw [kb_tuple_int]; rfl
end Pl

set_option Elab.async false
set_option linter.all false
set_option maxRecDepth 100000
set_option maxHeartbeats 4000000
/-! Methods of own classes whose last statement is super().__init__(..). -/
namespace Pl
open PySem PySem.Spec PyProof.Rows L2 NdefX ClX
/-- what the written part has of a def that closes over its class D, and of the def g of the class behind D -/
structure SupK (P : Program) (K : PySem.W.Frag) (F : NF) (cc D g : Addr) (name : Str) : Prop where
  cl : F.cl = ([("__class__", cc)] : List (Str × Addr))
  cell : ∃ ccl ccd ccs, K.lookup cc = some ⟨ccl, ccd, .cell (some (.ref D)), ccs⟩
  cls : ∃ cd, PySem.W.clsIn K D = some cd
  code : ∃ ccl cdd vs ccs file tf, K.lookup F.c = some ⟨ccl, cdd, .fields vs, ccs⟩ ∧ vs[2]? = some (.str file tf) ∧ ((P.main.file : Str) == file) = true
  nsup : PySem.W.nsIn K mainGlobals "super" = some none
  any : PySem.W.nsIn K cStatics "thirdparty.any" = some none
  ty : PySem.W.typeIn K (.ref g) = some (.type "function")
  fi : PySem.W.fnIn K g = true
  top : (P.main.scope.names.lookup ("super" : Str)).isSome = false
  ks : F.scope.names.lookup ("super" : Str) = some .globalImplicit
  kc : F.scope.names.lookup ("__class__" : Str) = some .free
  at_ : (name == ("__class__" : Str)) = false
/-- .. and of the class C of the object -/
structure SupC (K : PySem.W.Frag) (C D g : Addr) (name : Str) : Prop where
  mro : PySem.W.mroIn K C (.ref D) = some true
  sup : PySem.W.ks_superIn K C D name = some (some (.ref g))
abbrev superE (name : Str) (es : List Expr) (p0 p1 apos pos : Pos) : Expr := .Call (.Attribute (.Call (.Name "super" p0) [] [] p1) name apos) es [] pos
theorem load_of {X : Cx} {i : Nat} {x : Str} {pins : List (Addr × Obj)} {σ : L2.St} {H : Hp} {s : Shared} {v : V} {E : Value → Shared → Prop} {Q : Value → Shared → Prop} (I : Inv X pins σ H s) (hN : X.N[i]? = some x) (hv : Vis X.env.scope x) (e : σ[i]? = some (some v)) (hcd : (x == ("__classdict__" : Str)) = false) (h : ∀ u, RelV v u → Q u s) :
    wpAny (model X.prog X.w) X.A (loadName X.env x) Q E s := by
  obtain ⟨m, hn, hl⟩ := I.loc
  obtain ⟨u, r, l⟩ := hl i x v hN e hv
  rcases l with ⟨k, hm⟩ | ⟨k, c, hc, hu⟩
  · exact wpAny_loadName_local I.ok.kind k hn hm (h u r)
  · rcases k with k | k
    · exact wpAny_loadName_cell I.ok.kind k hc hu (h u r)
    · exact wpAny_loadName_free I.ok.kind k hc hu (h u r) hcd
section
variable {X : Cx} {F : NF} {f cc D g x C dx L : Addr} {name : Str} {fd : FuncData} {ar : Arg} {oc : Value} {od : Option Addr} {osl : Array (Option Value)} {pins : List (Addr × Obj)} {σ : L2.St} {H : Hp} {s : Shared} {fs : List (Str × V)} {j : Nat} {body : List Stmt} {p0 p1 apos pos : Pos} {whole : Sem Value}
/-- super(): the record so -/
theorem super_base {Q : Value → Shared → Prop} {E : Value → Shared → Prop} (S : SupK X.prog X.K F cc D g name) (hE : X.env = PySem.W.envX F.qual F.scope L f (.ref F.c) F.cl) (hf : X.K.lookup f = some ⟨oc, od, .func fd, osl⟩) (hp : (fd.params.posonlyargs ++ fd.params.args).head? = some ar)
    (hms : X.mg "super" = none) (I : Inv X pins σ H s) (i0 : X.N[0]? = some ar.arg) (hv0 : F.scope.names.lookup ar.arg = some .local) (h0c : (ar.arg == ("__classdict__" : Str)) = false) (ic : X.N[j]? = some "__class__") (hj : σ[j]? = some (some (.ref D))) (hx : σ[0]? = some (some (.ref x))) (ho : H x = some (.ins C dx fs)) (sc : SupC X.K C D g name)
    (h : ∀ h', h'.get? s.heap.objs.size = some (PySem.W.ks_superObj D x C) → (∀ y o, s.heap.get? y = some o → h'.get? y = some o) → Q (.ref s.heap.objs.size) { s with heap := h' }) :
    _root_.PySem.wpAt (model X.prog X.w) X.A (.func body X.env) (attributeBase (.Call (.Name "super" p0) [] [] p1) name X.env whole) Q E s := by
  obtain ⟨ccl, cdd, vs, ccs, file, tf, hc1, hc2, hc3⟩ := S.code
  obtain ⟨cdD, hD⟩ := S.cls
  have KI := I.kIn
  have ksx : X.env.scope = F.scope := by rw [hE]
  have k1 : X.env.kindOf "super" = some .globalImplicit := by rw [hE]; exact S.ks
  have k2 : X.env.kindOf "__class__" = some .free := by rw [hE]; exact S.kc
  have k3 : X.env.func = some f := by rw [hE]
  have k4 : X.env.code = .ref F.c := by rw [hE]
  obtain ⟨oD, hD1, hD2⟩ : ∃ oD, s.heap.get? D = some oD ∧ oD.data = .cls cdD := by
    unfold PySem.W.clsIn at hD
    split at hD
    · rename_i c d cd' sl ho
      cases hD
      exact ⟨_, KI _ _ ho, rfl⟩
    · cases hD
  obtain ⟨mA, O, _⟩ := ins_get I.hok ho
  obtain ⟨odx, J, _⟩ := O.look
  refine ks_wpAt_super_base (env := X.env) k1 k2 S.at_ k3 (KI _ _ hf) rfl hp k4 (KI _ _ hc1) rfl hc2 hc3 S.top ?_
  obtain ⟨mb, h1, h2⟩ := I.mod.blt
  refine PySem.W.ks_loadName_global I.ok.kind k1 (Calls.loadGlobal_builtin (by rw [I.ok.glob]; exact I.mod.glob.keeps I.bk) hms (by rw [I.ok.blt]; exact h1.keeps I.bk) ((h2 "super" (by decide)).trans (by decide +kernel)) ⟨rfl, ?_⟩)
  refine load_of I ic (by rw [ksx]; exact .inr (.inr S.kc)) hj (by decide) fun u r => ?_
  obtain rfl : u = Value.ref D := r
  refine load_of I i0 (by rw [ksx]; exact .inl hv0) hx h0c fun u r => ?_
  obtain rfl : u = Value.ref x := r
  obtain ⟨hh, gg, dd, t, os⟩ := s
  refine ks_wpAny_isType_cls hD1 hD2 ⟨rfl, ?_⟩
  refine ks_wpAny_call_super hD1 hD2 J.at_ J.cls (fun c e => ?_) (PySem.W.looks_mroIn KI sc.mro) (fun h' e k => h h' e k)
  have := J.no
  unfold PySem.W.notCls at this
  rw [e] at this
  exact Bool.noConfusion this
/-- super().name(e, ..) -/
theorem super_run {CX : CXT} {k : Nat} {sp : Sp} {E : XK} {Q : VK} {e : Expr} {es : List Expr} {t : TA} {pl : Sem Bool} (S : SupK X.prog X.K F cc D g name) (hE : X.env = PySem.W.envX F.qual F.scope L f (.ref F.c) F.cl) (hf : X.K.lookup f = some ⟨oc, od, .func fd, osl⟩) (hp : (fd.params.posonlyargs ++ fd.params.args).head? = some ar)
    (hms : X.mg "super" = none) (I : Inv X pins σ H s) (i0 : X.N[0]? = some ar.arg) (hv0 : F.scope.names.lookup ar.arg = some .local) (h0c : (ar.arg == ("__classdict__" : Str)) = false) (ic : X.N[j]? = some ("__class__" : Str)) (hj : σ[j]? = some (some (.ref D))) (hx : σ[0]? = some (some (.ref x))) (ho : H x = some (.ins C dx fs)) (sc : SupC X.K C D g name)
    (G : FnR X.prog X.w X.K X.mg X.base CX k g sp) (hr : Room k X.A) (hxp : Passes CX X E) (ha : PA X (e :: es) t) (h : t σ H fun vs H1 => sp (.ref x :: vs) H1 Q E)
    (hst : starEach (e :: es) X.env = (false, eval e X.env) :: starEach es X.env) (hpl : (backTo pos (starEach es X.env)).any (·.1) = false)
    (ht : eval (superE name (e :: es) p0 p1 apos pos) X.env = (do
      let ov ← attributeBase (.Call (.Name "super" p0) [] [] p1) name X.env (eval (.Call (.Name "super" p0) [] [] p1) X.env)
      standAt apos.atName
      let (f, first) ← holding [ov] (getMethod ov name pl)
      callWith pos f first (backTo pos (starEach (e :: es) X.env)) [])) :
    _root_.PySem.wpAt (model X.prog X.w) X.A (.func body X.env) (eval (superE name (e :: es) p0 p1 apos pos) X.env) (EP X pins σ Q) X.xe s := by
  obtain ⟨hh, gg, dd, tt, os⟩ := s
  refine ks_wpAt_MethodCall (super_base S hE hf hp hms I i0 hv0 h0c ic hj hx ho sc fun h' e1 k1 => ?_) ht
  have I1 : Inv X pins σ H ⟨h', gg, dd, tt, os⟩ := I.kept (t' := tt) k1
  obtain ⟨mA, O, _⟩ := ins_get I1.hok ho
  obtain ⟨odx, J, _⟩ := O.look
  have hm := sc.sup
  have hm' := hm
  unfold PySem.W.ks_superIn at hm'
  obtain ⟨cd, hc⟩ : ∃ cd, PySem.W.clsIn X.K C = some cd := by
    cases hc : PySem.W.clsIn X.K C with
    | none => rw [hc] at hm'; cases hm'
    | some cd => exact ⟨cd, rfl⟩
  rw [hc] at hm'
  obtain ⟨of, hof, hofc⟩ : ∃ of, h'.get? g = some of ∧ of.cls = .type "function" := by
    have ht' : (X.K.lookup g).map (·.cls) = some (.type "function") := S.ty
    cases z : X.K.lookup g with
    | none => rw [z] at ht'; cases ht'
    | some of => rw [z] at ht'; exact ⟨of, I1.kIn _ _ z, Option.some.inj ht'⟩
  refine ks_wpAny_getMethod_super e1 (PySem.W.looks_opaque I1.kIn S.any) (l₀ := cd.mro) (fun A Q E s k q => wpAny_bind ((PySem.W.looks_clsIn I1.kIn hc) A _ E s k (wpAny_pure q))) rfl I1.kIn hm' hof hofc (PySem.W.ks_ne I1.kIn J hc) S.at_ ?_
  have I2 := met_new (g := g) (C := x) I1
  refine callwith_cm I2 (base_none I1 (Nat.le_refl _)) S.fi (thn (ha.run pos _ _ σ H _ I2 h) fun us s3 ⟨vs, H2, I3, rv, q2⟩ => ⟨⟨pin_at I3, I3.kIn⟩, run_cm G hr hxp I3 rv q2⟩) hst hpl
/-- super().name() -/
theorem super_run0 {CX : CXT} {k : Nat} {sp : Sp} {E : XK} {Q : VK} {pl : Sem Bool} (S : SupK X.prog X.K F cc D g name) (hE : X.env = PySem.W.envX F.qual F.scope L f (.ref F.c) F.cl) (hf : X.K.lookup f = some ⟨oc, od, .func fd, osl⟩) (hp : (fd.params.posonlyargs ++ fd.params.args).head? = some ar)
    (hms : X.mg "super" = none) (I : Inv X pins σ H s) (i0 : X.N[0]? = some ar.arg) (hv0 : F.scope.names.lookup ar.arg = some .local) (h0c : (ar.arg == ("__classdict__" : Str)) = false) (ic : X.N[j]? = some ("__class__" : Str)) (hj : σ[j]? = some (some (.ref D))) (hx : σ[0]? = some (some (.ref x))) (ho : H x = some (.ins C dx fs)) (sc : SupC X.K C D g name)
    (G : FnR X.prog X.w X.K X.mg X.base CX k g sp) (hr : Room k X.A) (hxp : Passes CX X E) (h : sp [.ref x] H Q E)
    (ht : eval (superE name [] p0 p1 apos pos) X.env = (do
      let ov ← attributeBase (.Call (.Name "super" p0) [] [] p1) name X.env (eval (.Call (.Name "super" p0) [] [] p1) X.env)
      standAt apos.atName
      let (f, first) ← holding [ov] (getMethod ov name pl)
      callWith pos f first (backTo pos (starEach [] X.env)) [])) :
    _root_.PySem.wpAt (model X.prog X.w) X.A (.func body X.env) (eval (superE name [] p0 p1 apos pos) X.env) (EP X pins σ Q) X.xe s := by
  obtain ⟨hh, gg, dd, tt, os⟩ := s
  refine ks_wpAt_MethodCall (super_base S hE hf hp hms I i0 hv0 h0c ic hj hx ho sc fun h' e1 k1 => ?_) ht
  have I1 : Inv X pins σ H ⟨h', gg, dd, tt, os⟩ := I.kept (t' := tt) k1
  obtain ⟨mA, O, _⟩ := ins_get I1.hok ho
  obtain ⟨odx, J, _⟩ := O.look
  have hm' := sc.sup
  unfold PySem.W.ks_superIn at hm'
  obtain ⟨cd, hc⟩ : ∃ cd, PySem.W.clsIn X.K C = some cd := by
    cases hc : PySem.W.clsIn X.K C with
    | none => rw [hc] at hm'; cases hm'
    | some cd => exact ⟨cd, rfl⟩
  rw [hc] at hm'
  obtain ⟨of, hof, hofc⟩ : ∃ of, h'.get? g = some of ∧ of.cls = .type "function" := by
    have ht' : (X.K.lookup g).map (·.cls) = some (.type "function") := S.ty
    cases z : X.K.lookup g with
    | none => rw [z] at ht'; cases ht'
    | some of => rw [z] at ht'; exact ⟨of, I1.kIn _ _ z, Option.some.inj ht'⟩
  refine ks_wpAny_getMethod_super e1 (PySem.W.looks_opaque I1.kIn S.any) (l₀ := cd.mro) (fun A Q E s k q => wpAny_bind ((PySem.W.looks_clsIn I1.kIn hc) A _ E s k (wpAny_pure q))) rfl I1.kIn hm' hof hofc (PySem.W.ks_ne I1.kIn J hc) S.at_ ?_
  have I2 := met_new (g := g) (C := x) I1
  exact PySem.W.callWith_M0 (first := []) ⟨pin_at I2, I2.kIn⟩ S.fi (run_cm G hr hxp I2 .nil h)
end
theorem execs_app {M : Model} {env : Env} {post : List Stmt} {Γ} {Q : Flow → Pos → Shared → Prop} {E : Value → Pos → Shared → Prop} : ∀ {pre : List Stmt} {p s}, Sem.wp M Γ (execs pre env) (fun f p s => match f with | .next => Sem.wp M Γ (execs post env) Q E p s | f => Q f p s) E p s → Sem.wp M Γ (execs (pre ++ post) env) Q E p s
  | [], p, s, h => by
    rw [execs_nil, Sem.wp_pure'] at h
    exact h
  | a :: pre, p, s, h => by
    rw [List.cons_append, execs_cons, Sem.wp_bind']
    rw [execs_cons, Sem.wp_bind'] at h
    refine Sem.wp_mono M Γ _ (fun f p' s' h' => ?_) (fun _ _ _ h' => h') _ _ h
    cases f
    case next => exact execs_app h'
    all_goals exact h'
section
variable {CX : CXT} {P : Program} {w : World} {K : PySem.W.Frag} {mg : Str → Option Value} {base : Heap} {k : Nat} {f cc D : Addr} {F : NF} {dV kV doc pm ct oc ccl : Value} {an od ccd : Option Addr} {osl ccs : Array (Option Value)} {N ps : List Str} {sp : Sp}
theorem cells_cc {h : Heap} {H : Hp} (hcc : h.get? cc = some ⟨ccl, ccd, .cell (some (.ref D)), ccs⟩) (hn : H cc = none) : CellsAt [(("__class__" : Str), cc)] [("__class__" : Str)] [some (.ref D)] h H := by
  refine ⟨rfl, fun y c e => ?_, fun x y c e1 e2 => ?_, fun i y e => ?_⟩
  · have : c = cc := by
      simp only [List.lookup] at e
      split at e
      · exact (Option.some.inj e).symm
      · cases e
    subst this
    exact ⟨hn, _, _, hcc, rfl⟩
  · have h1 : x = ("__class__" : Str) := by
      simp only [List.lookup] at e1
      split at e1
      · rename_i z; exact beq_iff_eq.mp z
      · cases e1
    have h2 : y = ("__class__" : Str) := by
      simp only [List.lookup] at e2
      split at e2
      · rename_i z; exact beq_iff_eq.mp z
      · cases e2
    rw [h1, h2]
  · match i with
    | 0 =>
      obtain rfl : ("__class__" : Str) = y := Option.some.inj e
      refine ⟨cc, by simp [List.lookup], fun v ev => ?_⟩
      obtain rfl : V.ref D = v := Option.some.inj (Option.some.inj ev)
      exact ⟨.ref D, rfl, _, hcc, rfl⟩
    | i + 1 => simp at e
/-- a def that closes over its class, its body pre ++ [last] where last is read at its place -/
theorem fnL_of {pre : List Stmt} {last : Stmt} (hcl : F.cl = [(("__class__" : Str), cc)]) (hbd : F.body = pre ++ [last])
    (lk : K.lookup f = some ⟨oc, od, .func (PySem.W.fnX F.name F.qual F.params F.body F.scope F.cl dV kV doc pm an (.ref F.c) ct), osl⟩) (hcd : PySem.W.codeIn K (.ref F.c) F.qual = true) (S : NScope N ps ["__class__"] F.scope) (hcc : K.lookup cc = some ⟨ccl, ccd, .cell (some (.ref D)), ccs⟩)
    (len : ∀ vs H Q E, sp vs H Q E → vs.length = ps.length)
    (hbody : ∀ (A : Around) (outer : List Env) (s : Shared) (H : Hp) (vs : List V) (Q : VK) (E : XK), Room k (A.deeper (envF F f s.heap.objs.size)) → sp vs H Q E →
      ∃ (t : TS) (LQ : L2.St → Hp → Prop), PSs (ncx CX P w K mg base N F f A outer s H E) pre t ∧ t { nx := LQ, rt := Q } (startF N vs [some (.ref D)]) H ∧
        ∀ σ' H' s', Inv (ncx CX P w K mg base N F f A outer s H E) [] σ' H' s' → LQ σ' H' →
          _root_.PySem.wpAt (model P w) (A.deeper (envF F f s.heap.objs.size)) (.func F.body (envF F f s.heap.objs.size)) (exec last (envF F f s.heap.objs.size)) (fun fl s2 => fl = .next ∧ ∃ σ2 H2, Inv (ncx CX P w K mg base N F f A outer s H E) [] σ2 H2 s2 ∧ Q .non H2)
            (ncx CX P w K mg base N F f A outer s H E).xe s') :
    FnOk P w K mg base CX (k + 1) f (PySem.W.fnX F.name F.qual F.params F.body F.scope F.cl dV kV doc pm an (.ref F.c) ct) ps sp := by
  refine ⟨len, fun A outer s H args us vs Q E hr e0 hb r hsp => ?_⟩
  have hl := len _ _ _ _ hsp
  have KX : K.In s.heap := e0.mod.kin.keeps fun b o e => (e0.bs b o e).1
  have lim : s.heap.NoLimit := e0.mod.nolimit.keeps fun b o e => (e0.bs b o e).1
  have hnc : H cc = none := (e0.bs _ _ (e0.mod.kin _ _ hcc)).2
  have C : CellsAt F.cl ["__class__"] [some (.ref D)] s.heap H := by
    rw [hcl]
    exact cells_cc (KX _ _ hcc) hnc
  refine ks_codeAny_call_defAt (body := F.body) (binds := ps.zip us) hr.depth (KX _ _ lk) rfl lim (PySem.W.codeRec_of KX hcd) rfl hb S.nocell (fun ⟨n, _⟩ hy => S.par n (List.of_mem_zip hy).1) (fun h₁ hns kp => ?_) S.co S.gen S.kind
  have I : Inv (ncx CX P w K mg base N F f A outer s H E) [] (startF N vs [some (.ref D)]) H { s with heap := h₁, toks := s.toks + (ps.zip us).length } := inv_startN S hr.hd e0 hl r C hns kp
  obtain ⟨t, LQ, ht, hq, hlast⟩ := hbody A outer s H vs Q E (hr.deeper _) hsp
  have fin : ∀ {σ' : L2.St} {H' : Hp} {v : V} {u : Value} {s' : Shared}, Inv (ncx CX P w K mg base N F f A outer s H E) [] σ' H' s' → L2.RelV v u → Q v H' → CE outer P w H s Q u s' :=
    fun {σ' H' v u s'} J rv q => ⟨v, H', J.os, J.bare, J.base, J.hok, rv, q⟩
  have h1 := ht.run [] _ (startF N vs [some (.ref D)]) H { nx := LQ, rt := Q } I hq
  show _root_.PySem.wpAt _ _ (.func F.body (envF F f s.heap.objs.size)) (execs F.body (envF F f s.heap.objs.size)) _ _ _
  intro Γ p hc hΓ
  have h2 := wpAt_of_wpAny (c := .func F.body (envF F f s.heap.objs.size)) h1 Γ p hc hΓ
  rw [show execs F.body (envF F f s.heap.objs.size) = execs (pre ++ [last]) (envF F f s.heap.objs.size) by rw [hbd]]
  refine execs_app (Sem.wp_mono _ Γ _ (fun fl p' s' hs => ?_) (fun e p' s' hs => ?_) _ _ h2)
  · cases fl with
    | next =>
      obtain ⟨σ', H', J, q⟩ := hs
      rw [execs_cons, Sem.wp_bind']
      refine Sem.wp_mono _ Γ _ (fun fl p' s' hs => ?_) (fun e p' s' hs => ?_) _ _ (hlast σ' H' s' J q Γ p' hc hΓ)
      · obtain ⟨rfl, σ2, H2, J2, q2⟩ := hs
        show Sem.wp _ _ (execs [] _) _ _ _ _
        rw [execs_nil, Sem.wp_pure']
        exact fin (v := V.non) (u := Value.none) J2 rfl q2
      · exact hs
    | ret u =>
      obtain ⟨v, σ', H', J, rv, q⟩ := hs
      exact fin J rv q
    | brk =>
      obtain ⟨_, _, _, q⟩ := hs
      exact False.elim q
    | cont =>
      obtain ⟨_, _, _, q⟩ := hs
      exact False.elim q
  · exact hs
/-- what stands ahead of super().name(..) -/
def SupQ (K : PySem.W.Frag) (D g : Addr) (name : Str) (j : Nat) (ta : TA) (spg : Sp) (Q : VK) (E : XK) : L2.St → Hp → Prop := fun σ H => ∃ x C dx fs, σ[0]? = some (some (.ref x)) ∧ σ[j]? = some (some (.ref D)) ∧ H x = some (.ins C dx fs) ∧ SupC K C D g name ∧ ta σ H fun vs H1 => spg (.ref x :: vs) H1 (fun _ H2 => Q .non H2) E
/-- THE RULE: a def of a class D whose body ends in super().name(e, ..) -/
theorem fnS_of {pre : List Stmt} {g : Addr} {name : Str} {e : Expr} {es : List Expr} {ar : Arg} {p0 p1 apos pos spos : Pos} {pl : Addr → Sem Bool} {spg : Sp} (SK : SupK P K F cc D g name) (hbd : F.body = pre ++ [.Expr (superE name (e :: es) p0 p1 apos pos) spos])
    (lk : K.lookup f = some ⟨oc, od, .func (PySem.W.fnX F.name F.qual F.params F.body F.scope F.cl dV kV doc pm an (.ref F.c) ct), osl⟩) (hcd : PySem.W.codeIn K (.ref F.c) F.qual = true) (S : NScope N ps ["__class__"] F.scope)
    (hp : (F.params.posonlyargs ++ F.params.args).head? = some ar) (i0 : N[0]? = some ar.arg) (hv0 : F.scope.names.lookup ar.arg = some .local) (h0c : (ar.arg == ("__classdict__" : Str)) = false) (ic : N[ps.length]? = some ("__class__" : Str)) (hms : mg "super" = none)
    (G : FnR P w K mg base CX k g spg) (hxp : ∀ A outer s H E, Passes CX (ncx CX P w K mg base N F f A outer s H E) E)
    (len : ∀ vs H Q E, sp vs H Q E → vs.length = ps.length)
    (hbody : ∀ (A : Around) (outer : List Env) (s : Shared) (H : Hp) (vs : List V) (Q : VK) (E : XK), Room k (A.deeper (envF F f s.heap.objs.size)) → sp vs H Q E →
      ∃ (t : TS) (ta : TA), PSs (ncx CX P w K mg base N F f A outer s H E) pre t ∧ PA (ncx CX P w K mg base N F f A outer s H E) (e :: es) ta ∧ t { nx := SupQ K D g name ps.length ta spg Q E, rt := Q } (startF N vs [some (.ref D)]) H)
    (hst : ∀ L, starEach (e :: es) (envF F f L) = (false, eval e (envF F f L)) :: starEach es (envF F f L) := by intro L; rfl) (hpl : ∀ L, (backTo pos (starEach es (envF F f L))).any (·.1) = false := by intro L; rfl)
    (ht : ∀ L, eval (superE name (e :: es) p0 p1 apos pos) (envF F f L) = (do
      let ov ← attributeBase (.Call (.Name "super" p0) [] [] p1) name (envF F f L) (eval (.Call (.Name "super" p0) [] [] p1) (envF F f L))
      standAt apos.atName
      let (fn, first) ← holding [ov] (getMethod ov name (pl L))
      callWith pos fn first (backTo pos (starEach (e :: es) (envF F f L))) []) := by intro L; rfl)
    (hi : ∀ L, interactive (envF F f L) = false := by intro L; rfl) (hs : ∀ L, swapsWith (superE name (e :: es) p0 p1 apos pos) none spos.line (envF F f L) = pure false := by intro L; rfl) :
    FnOk P w K mg base CX (k + 1) f (PySem.W.fnX F.name F.qual F.params F.body F.scope F.cl dV kV doc pm an (.ref F.c) ct) ps sp := by
  obtain ⟨ccl, ccd, ccs, hcc⟩ := SK.cell
  refine fnL_of SK.cl hbd lk hcd S hcc len fun A outer s H vs Q E hr hsp => ?_
  obtain ⟨t, ta, h1, h2, h3⟩ := hbody A outer s H vs Q E hr hsp
  refine ⟨t, SupQ K D g name ps.length ta spg Q E, h1, h3, fun σ' H' s' I q => ?_⟩
  obtain ⟨x, C, dx, fs, e0, ej, hx, sc, hq⟩ := q
  have z := super_run (X := ncx CX P w K mg base N F f A outer s H E) (body := F.body) (Q := fun _ H2 => Q .non H2) SK rfl lk hp hms I i0 hv0 h0c ic ej e0 hx sc G hr (hxp A outer s H E) h2 hq (hst _) (hpl _) (ht _)
  exact ks_wpAt_Expr_any (ks_wpAt_mono z (fun v s2 ⟨y, H2, I2, _, q2⟩ => ⟨rfl, σ', H2, I2, q2⟩) fun _ _ y => y) (hi _) (hs _)
/-- .. in super().name() -/
theorem fnS0_of {pre : List Stmt} {g : Addr} {name : Str} {ar : Arg} {p0 p1 apos pos spos : Pos} {pl : Addr → Sem Bool} {spg : Sp} (SK : SupK P K F cc D g name) (hbd : F.body = pre ++ [.Expr (superE name [] p0 p1 apos pos) spos])
    (lk : K.lookup f = some ⟨oc, od, .func (PySem.W.fnX F.name F.qual F.params F.body F.scope F.cl dV kV doc pm an (.ref F.c) ct), osl⟩) (hcd : PySem.W.codeIn K (.ref F.c) F.qual = true) (S : NScope N ps ["__class__"] F.scope)
    (hp : (F.params.posonlyargs ++ F.params.args).head? = some ar) (i0 : N[0]? = some ar.arg) (hv0 : F.scope.names.lookup ar.arg = some .local) (h0c : (ar.arg == ("__classdict__" : Str)) = false) (ic : N[ps.length]? = some ("__class__" : Str)) (hms : mg "super" = none)
    (G : FnR P w K mg base CX k g spg) (hxp : ∀ A outer s H E, Passes CX (ncx CX P w K mg base N F f A outer s H E) E)
    (len : ∀ vs H Q E, sp vs H Q E → vs.length = ps.length)
    (hbody : ∀ (A : Around) (outer : List Env) (s : Shared) (H : Hp) (vs : List V) (Q : VK) (E : XK), Room k (A.deeper (envF F f s.heap.objs.size)) → sp vs H Q E →
      ∃ (t : TS), PSs (ncx CX P w K mg base N F f A outer s H E) pre t ∧ t { nx := SupQ K D g name ps.length tNil spg Q E, rt := Q } (startF N vs [some (.ref D)]) H)
    (ht : ∀ L, eval (superE name [] p0 p1 apos pos) (envF F f L) = (do
      let ov ← attributeBase (.Call (.Name "super" p0) [] [] p1) name (envF F f L) (eval (.Call (.Name "super" p0) [] [] p1) (envF F f L))
      standAt apos.atName
      let (fn, first) ← holding [ov] (getMethod ov name (pl L))
      callWith pos fn first (backTo pos (starEach [] (envF F f L))) []) := by intro L; rfl)
    (hi : ∀ L, interactive (envF F f L) = false := by intro L; rfl) (hs : ∀ L, swapsWith (superE name [] p0 p1 apos pos) none spos.line (envF F f L) = pure false := by intro L; rfl) :
    FnOk P w K mg base CX (k + 1) f (PySem.W.fnX F.name F.qual F.params F.body F.scope F.cl dV kV doc pm an (.ref F.c) ct) ps sp := by
  obtain ⟨ccl, ccd, ccs, hcc⟩ := SK.cell
  refine fnL_of SK.cl hbd lk hcd S hcc len fun A outer s H vs Q E hr hsp => ?_
  obtain ⟨t, h1, h3⟩ := hbody A outer s H vs Q E hr hsp
  refine ⟨t, SupQ K D g name ps.length tNil spg Q E, h1, h3, fun σ' H' s' I q => ?_⟩
  obtain ⟨x, C, dx, fs, e0, ej, hx, sc, hq⟩ := q
  have z := super_run0 (X := ncx CX P w K mg base N F f A outer s H E) (body := F.body) (Q := fun _ H2 => Q .non H2) SK rfl lk hp hms I i0 hv0 h0c ic ej e0 hx sc G hr (hxp A outer s H E) hq (ht _)
  exact ks_wpAt_Expr_any (ks_wpAt_mono z (fun v s2 ⟨y, H2, I2, _, q2⟩ => ⟨rfl, σ', H2, I2, q2⟩) fun _ _ y => y) (hi _) (hs _)
end
end Pl

set_option Elab.async false
set_option linter.all false
set_option maxRecDepth 100000
set_option maxHeartbeats 4000000
/-! Operators and methods of own classes, the class not fixed. -/
namespace Pl
open PySem PySem.Spec PyProof.Rows L2
/-- o.m(..): o an instance of any class that finds m in one of the defs fl -/
def tMethV {ι : Type} (K : PySem.W.Frag) (fl : ι → Addr) (m : Str) (sp : ι → Sp) (E : XK) (ta : TE) (t : TA) : TE := fun σ H Q => ta σ H fun x H1 => ∃ a C dx fs i, x = .ref a ∧ H1 a = some (.ins C dx fs) ∧ fs.lookup m = none ∧ Cls K C ∧ Meth K C m (fl i) ∧ t σ H1 fun vs H2 => sp i (x :: vs) H2 Q E
section
variable {X : Cx} {CX : CXT} {k : Nat} {fl : List Addr} {sp : Sp} {E : XK} {m : Str} {p pos apos : Pos} {e o : Expr} {es : List Expr} {ta : TE} {t : TA}
theorem pe_methV {ι : Type} {fl : ι → Addr} {sp : ι → Sp} {pl : Sem Bool} (he : PE X o ta) (F : ∀ i, FnR X.prog X.w X.K X.mg X.base CX k (fl i) (sp i)) (hr : Room k X.A) (hx : Passes CX X E) (ha : PA X (e :: es) t)
    (hst : starEach (e :: es) X.env = (false, eval e X.env) :: starEach es X.env := by rfl) (hpl : (backTo pos (starEach es X.env)).any (·.1) = false := by rfl)
    (ht : eval (.Call (.Attribute o m apos) (e :: es) [] pos) X.env = (do
      let ov ← eval o X.env
      standAt apos.atName
      let (f, first) ← holding [ov] (getMethod ov m pl)
      callWith pos f first (backTo pos (starEach (e :: es) X.env)) (backToKw pos (keywordEach [] X.env))) := by rfl) :
    PE X (.Call (.Attribute o m apos) (e :: es) [] pos) (tMethV X.K fl m sp E ta t) := by
  refine ⟨fun pins s σ H Q I h => ?_⟩
  refine PySem.W.methodCall_KW (pl := pl) (thn (he.run pins s σ H _ I h) fun u s1 ⟨x, H1, I1, rx, a, C, dx, fs, i, ex, ea, l, c, hm, q⟩ => ?_) ht
  subst ex
  obtain rfl : u = Value.ref a := rx
  refine getmeth_ok I1 ea c hm l ?_
  refine PySem.W.callWith_K (first := [.ref a]) (h₀ := X.base) I.ok.mod.kin hm.kp (thn (ha.run pos pins s1 σ H1 _ I1 q) fun us s2 ⟨vs, H2, I2, r, q2⟩ => ⟨I2.kIn, ?_⟩) hst hpl
  exact wpAny_call (run_fnR (us := .ref a :: us) (vs := .ref a :: vs) (F i) hr hx I2 (.cons rfl r) q2)
theorem pe_methV0 {ι : Type} {fl : ι → Addr} {sp : ι → Sp} {pl : Sem Bool} (he : PE X o ta) (F : ∀ i, FnR X.prog X.w X.K X.mg X.base CX k (fl i) (sp i)) (hr : Room k X.A) (hx : Passes CX X E)
    (ht : eval (.Call (.Attribute o m apos) [] [] pos) X.env = (do
      let ov ← eval o X.env
      standAt apos.atName
      let (f, first) ← holding [ov] (getMethod ov m pl)
      callWith pos f first (backTo pos (starEach [] X.env)) (backToKw pos (keywordEach [] X.env))) := by rfl) :
    PE X (.Call (.Attribute o m apos) [] [] pos) (tMethV X.K fl m sp E ta tNil) := by
  refine ⟨fun pins s σ H Q I h => ?_⟩
  refine PySem.W.methodCall_KW (pl := pl) (thn (he.run pins s σ H _ I h) fun u s1 ⟨x, H1, I1, rx, a, C, dx, fs, i, ex, ea, l, c, hm, q⟩ => ?_) ht
  subst ex
  obtain rfl : u = Value.ref a := rx
  refine getmeth_ok I1 ea c hm l ?_
  exact PySem.W.callWith_K0 (first := [.ref a]) I1.kIn hm.kp (wpAny_call (run_fnR (us := [.ref a]) (vs := [.ref a]) (F i) hr hx I1 (.cons rfl .nil) q))
/-- what a class must have for an operator with a number to its right -/
structure BinI (K : PySem.W.Frag) (C f : Addr) (op : Operator) : Prop where
  first : PySem.W.selfFirst K C = true
  at_ : PySem.W.findIn K (.ref C) (PySem.dunder op.info.2) = some (some (.ref f))
  fn : PySem.W.isFn K (.ref f) = true
  r : PySem.W.findIn K (.ref C) (dunderR op.info.2) = some none
  i1 : (PySem.W.findIn K (.type "int") (PySem.dunder op.info.2)).isSome = true
  i2 : (PySem.W.findIn K (.type "int") (dunderR op.info.2)).isSome = true
  sub : PySem.W.subIn K (.type "int") (.ref C) = some false
theorem op_binI {op : Operator} {f : Addr} (F : FnR X.prog X.w X.K X.mg X.base CX k f sp) (hr : Room k X.A) (hx : Passes CX X E) :
    OpR X (binaryOp op) (fun x y H Q => ∃ a C dx fs i, x = .ref a ∧ y = .int i ∧ H a = some (.ins C dx fs) ∧ BinI X.K C f op ∧ sp [x, y] H Q E) := by
  intro pins s σ H x y v u Q I rx ry h
  obtain ⟨a, C, dx, fs, i, rfl, rfl, ha, B, q⟩ := h
  cases (show v = Value.ref a from rx)
  obtain ⟨t, eu⟩ := (show ∃ t, u = Value.int i t from ry)
  subst eu
  obtain ⟨mA, O, _⟩ := ins_get I.hok ha
  obtain ⟨odx, J, _⟩ := O.look
  obtain ⟨m, hF⟩ := I.fr
  obtain ⟨fo, h1⟩ := Option.isSome_iff_exists.mp B.i1
  obtain ⟨ro, h2⟩ := Option.isSome_iff_exists.mp B.i2
  refine PySem.W.ksp_binT (T := "int") hF I.ok.mod.kin J rfl B.first B.at_ B.fn B.r (.inl rfl) h1 h2 B.sub ?_
  refine wpAny_mono (wpAny_call (run_fnR (us := [.ref a, .int i t]) (vs := [.ref a, .int i]) F hr hx I (.cons rfl (.cons ⟨t, rfl⟩ .nil)) q)) (fun w s' z => ?_) fun _ _ x => x
  obtain ⟨z', H', I', rz, qz⟩ := z
  exact SlX.cmpback rz ⟨z', H', I', rz, qz⟩
/-- .. with an instance of the same class to its right -/
structure BinS (K : PySem.W.Frag) (C f : Addr) (op : Operator) : Prop where
  first : PySem.W.selfFirst K C = true
  at_ : PySem.W.findIn K (.ref C) (PySem.dunder op.info.2) = some (some (.ref f))
  fn : PySem.W.isFn K (.ref f) = true
theorem op_binS {op : Operator} {f : Addr} (F : FnR X.prog X.w X.K X.mg X.base CX k f sp) (hr : Room k X.A) (hx : Passes CX X E) :
    OpR X (binaryOp op) (fun x y H Q => ∃ a C dx fs b dy gs, x = .ref a ∧ y = .ref b ∧ H a = some (.ins C dx fs) ∧ H b = some (.ins C dy gs) ∧ BinS X.K C f op ∧ sp [x, y] H Q E) := by
  intro pins s σ H x y v u Q I rx ry h
  obtain ⟨a, C, dx, fs, b, dy, gs, rfl, rfl, ha, hb, B, q⟩ := h
  cases (show v = Value.ref a from rx)
  cases (show u = Value.ref b from ry)
  obtain ⟨mA, O, _⟩ := ins_get I.hok ha
  obtain ⟨odx, J, _⟩ := O.look
  obtain ⟨mB, O', _⟩ := ins_get I.hok hb
  obtain ⟨ody, J', _⟩ := O'.look
  obtain ⟨m, hF⟩ := I.fr
  refine PySem.W.binop_K hF I.ok.mod.kin J J'.type B.first B.at_ B.fn ?_
  refine wpAny_mono (wpAny_call (run_fnR (us := [.ref a, .ref b]) (vs := [.ref a, .ref b]) F hr hx I (.cons rfl (.cons rfl .nil)) q)) (fun w s' z => ?_) fun _ _ x => x
  obtain ⟨z', H', I', rz, qz⟩ := z
  exact SlX.cmpback rz ⟨z', H', I', rz, qz⟩
/-- .. of a comparison, an instance to its right -/
structure CmpO (K : PySem.W.Frag) (C f : Addr) (op : CmpOp) : Prop where
  at_ : PySem.W.findIn K (.ref C) (cmpInfo op).2.1 = some (some (.ref f))
  fn : PySem.W.isFn K (.ref f) = true
/-- what a class must have for != that falls back on == -/
structure NeO (K : PySem.W.Frag) (C f : Addr) : Prop where
  at_ : PySem.W.findIn K (.ref C) "__eq__" = some (some (.ref f))
  fn : PySem.W.isFn K (.ref f) = true
  ne : PySem.W.findIn K (.ref C) "__ne__" = some (some (.builtin "object.__ne__"))
  top : PySem.W.mroIn K C (.type "object") = some true
theorem op_cmpO {op : CmpOp} {f : Addr} (hop : ∀ a b, compareOp op a b = richCompare op a b) (F : FnR X.prog X.w X.K X.mg X.base CX k f sp) (hr : Room k X.A) (hx : Passes CX X E) :
    OpR X (compareOp op) (fun x y H Q => ∃ a C dx fs b C' dy gs, x = .ref a ∧ y = .ref b ∧ H a = some (.ins C dx fs) ∧ H b = some (.ins C' dy gs) ∧ CmpO X.K C f op ∧ PySem.W.notFirst X.K C (.ref C') = true ∧ sp [x, y] H Q E) := by
  intro pins s σ H x y v u Q I rx ry h
  obtain ⟨a, C, dx, fs, b, C', dy, gs, rfl, rfl, ha, hb, B, hn, q⟩ := h
  cases (show v = Value.ref a from rx)
  cases (show u = Value.ref b from ry)
  obtain ⟨mA, O, _⟩ := ins_get I.hok ha
  obtain ⟨odx, J, _⟩ := O.look
  obtain ⟨mB, O', _⟩ := ins_get I.hok hb
  obtain ⟨ody, J', _⟩ := O'.look
  obtain ⟨m, hF⟩ := I.fr
  rw [hop]
  refine PySem.W.cmp_K (op := op) (tb := .ref C') hr.units0 hF I.ok.mod.kin J J'.type hn B.at_ B.fn ?_
  refine wpAny_mono (wpAny_call (run_fnR (us := [.ref a, .ref b]) (vs := [.ref a, .ref b]) F hr hx I (.cons rfl (.cons rfl .nil)) q)) (fun w s' z => ?_) fun _ _ x => x
  obtain ⟨z', H', I', rz, qz⟩ := z
  exact SlX.cmpback rz ⟨z', H', I', rz, qz⟩
/-- f(e, ..), f an instance of any class whose __call__ is at g -/
def tCallV (X : Cx) (g : Addr) (sp : Sp) (E : XK) (tf : TE) (t : TA) : TE := fun σ H Q => tf σ H fun y H1 => ∃ a, y = V.ref a ∧ t σ H1 fun vs H2 => ∃ C dx fs, H2 a = some (.ins C dx fs) ∧ StX.CallO X.K C g ∧ sp (V.ref a :: vs) H2 Q E
theorem pe_callV {g : Addr} {fe : Expr} {tf : TE} (hf : PE X fe tf) (F : FnR X.prog X.w X.K X.mg X.base CX k g sp) (hr : Room k X.A) (hx : Passes CX X E) (ha : PA X (e :: es) t)
    (ht : eval (.Call fe (e :: es) [] pos) X.env = (do callWith pos (← eval fe X.env) [] (backTo pos (starEach (e :: es) X.env)) (backToKw pos (keywordEach [] X.env))) := by rfl)
    (he : starEach (e :: es) X.env = (false, eval e X.env) :: starEach es X.env := by rfl) (hpl : (backTo pos (starEach es X.env)).any (·.1) = false := by rfl) : PE X (.Call fe (e :: es) [] pos) (tCallV X g sp E tf t) := by
  refine ⟨fun pins s σ H Q I h => ?_⟩
  refine Call_ (thn (hf.run pins s σ H _ I h) fun u s1 ⟨y, H1, I1, ry, a, ey, q⟩ => ?_) ht
  subst ey
  obtain rfl : u = Value.ref a := ry
  refine StX.callO_with (thn (ha.run pos pins s1 σ H1 _ I1 q) fun us s2 ⟨vs, H2, I2, r, C, dx, fs, hi, c, q2⟩ => ?_) he hpl
  obtain ⟨ox, od, J, hd⟩ := StX.insC_at I2 (.inr ⟨dx, fs, hi⟩)
  exact ⟨⟨C, ox, od, J, hd⟩, StX.run_callO c F hr hx I2 (.inr ⟨dx, fs, hi⟩) r q2⟩
end
end Pl

set_option Elab.async false
set_option linter.all false
set_option maxRecDepth 100000
set_option maxHeartbeats 4000000
/-! What the text has of methods; defs that end in super().__init__(..), in short. -/
namespace Pl
open PySem PySem.Spec PyProof.Rows L2 NdefX ClX
theorem toR {P : Program} {w : World} {K : PySem.W.Frag} {mg : Str → Option Value} {base : Heap} {CX : CXT} {k : Nat} {f : Addr} {fd : FuncData} {ps : List Str} {sp : Sp} (F : FnOk P w K mg base CX k f fd ps sp) (b : Binds K fd ps []) : FnR P w K mg base CX k f sp := by
  intro A outer s H us vs Q E hr e0 r h
  have KX : K.In s.heap := e0.mod.kin.keeps fun b o e => (e0.bs b o e).1
  have hl : (us ++ []).length = ps.length := by rw [List.append_nil, ← r.length]; exact F.len _ _ _ _ h
  have hb := b s us KX hl
  rw [List.append_nil] at hb
  exact F.run A outer s H ⟨us, []⟩ us vs Q E hr e0 hb r h
/-- a method of the text -/
structure Md (K : PySem.W.Frag) (x qual : Str) (st : Stmt) (ps : List Str) where
  f : Addr
  fd : FuncData
  F : Fun K x qual st f fd
  b : Binds K fd ps []
/-- .. with a star parameter -/
structure MdF (K : PySem.W.Frag) (x qual : Str) (st : Stmt) where
  f : Addr
  fd : FuncData
  F : Fun K x qual st f fd
/-- .. with the default None for its last parameter -/
structure MdD (K : PySem.W.Frag) (x qual : Str) (st : Stmt) (ps : List Str) where
  f : Addr
  fd : FuncData
  ex : ∃ (oc : Value) (od : Option Addr) (dV kV doc pm : Value) (an : Option Addr) (cdv ct : Value) (osl : Array (Option Value)),
    fd = PySem.W.fnOf x qual (defArgs st) (defBody st) (defScope st) dV kV doc pm an cdv ct ∧ K.lookup f = some ⟨oc, od, .func fd, osl⟩ ∧ PySem.W.codeIn K cdv qual = true
  b : Binds K fd ps []
theorem MdD.ok {P : Program} {w : World} {K : PySem.W.Frag} {mg : Str → Option Value} {base : Heap} {CX : CXT} {x qual : Str} {st : Stmt} {N ps : List Str} {k : Nat} {sp : Sp} (M : MdD K x qual st ps) (S : FnScope N ps (defScope st)) (len : ∀ vs H Q E, sp vs H Q E → vs.length = ps.length)
    (hbody : ∀ (cdv : Value) (A : Around) (outer : List Env) (s : Shared) (H : Hp) (vs : List V) (Q : VK) (E : XK), Room k (A.deeper (envOfC qual (defScope st) s.heap.objs.size M.f cdv)) → sp vs H Q E →
      ∃ t, PSs (cxOf CX P w K mg base N qual (defScope st) M.f cdv A outer s H E) (defBody st) t ∧ t { nx := fun _ H' => Q .non H', rt := Q } (start N vs) H) : FnOk P w K mg base CX (k + 1) M.f M.fd ps sp := by
  obtain ⟨f, fd, ⟨oc, od, dV, kV, doc, pm, an, cdv, ct, osl, rfl, lk, hcd⟩, b⟩ := M
  exact fn_of lk hcd S len fun A outer s H vs Q E hr hsp => hbody cdv A outer s H vs Q E hr hsp
/-- .. that closes over its class at D and says super().__init__(..), which is found at g -/
structure MdS (P : Program) (K : PySem.W.Frag) (x qual : Str) (st : Stmt) (D g : Addr) where
  f : Addr
  cc : Addr
  c : Addr
  lk : ∃ (oc : Value) (od : Option Addr) (kV doc pm : Value) (an : Option Addr) (ct : Value) (osl : Array (Option Value)),
    K.lookup f = some ⟨oc, od, .func (PySem.W.fnX x qual (defArgs st) (defBody st) (defScope st) [(("__class__" : Str), cc)] .none kV doc pm an (.ref c) ct), osl⟩
  hcd : PySem.W.codeIn K (.ref c) qual = true
  kp : PySem.W.keepIn K (.ref f) = true
  sk : SupK P K ⟨x, qual, defArgs st, defBody st, defScope st, [(("__class__" : Str), cc)], c⟩ cc D g "__init__"
abbrev MdS.nf {P : Program} {K : PySem.W.Frag} {x qual : Str} {st : Stmt} {D g : Addr} (M : MdS P K x qual st D g) : NF := ⟨x, qual, defArgs st, defBody st, defScope st, [(("__class__" : Str), M.cc)], M.c⟩
section
variable {P : Program} {w : World} {K : PySem.W.Frag} {mg : Str → Option Value} {base : Heap} {k : Nat} {x qual : Str} {st : Stmt} {D g : Addr} {N ps : List Str} {sp spg : Sp}
theorem MdS.ok (M : MdS P K x qual st D g) {pre : List Stmt} {e : Expr} {es : List Expr} {ar : Arg} {p0 p1 apos pos spos : Pos} {pl : Addr → Sem Bool} (hbd : defBody st = pre ++ [.Expr (superE "__init__" (e :: es) p0 p1 apos pos) spos])
    (S : NScope N ps ["__class__"] (defScope st)) (hp : ((defArgs st).posonlyargs ++ (defArgs st).args).head? = some ar) (i0 : N[0]? = some ar.arg) (hv0 : (defScope st).names.lookup ar.arg = some .local) (h0c : (ar.arg == ("__classdict__" : Str)) = false) (ic : N[ps.length]? = some ("__class__" : Str)) (hms : mg "super" = none)
    (hb : ∀ (kV doc pm : Value) (an : Option Addr) (ct : Value) (cc c : Addr) (us : List Value), us.length = ps.length → bindArgs (PySem.W.fnX x qual (defArgs st) (defBody st) (defScope st) [(("__class__" : Str), cc)] .none kV doc pm an (.ref c) ct) ⟨us, []⟩ = pure (ps.zip us))
    (G : FnR P w K mg base CX0 k g spg) (len : ∀ vs H Q E, sp vs H Q E → vs.length = ps.length)
    (hbody : ∀ (A : Around) (outer : List Env) (s : Shared) (H : Hp) (vs : List V) (Q : VK) (E : XK), Room k (A.deeper (envF M.nf M.f s.heap.objs.size)) → sp vs H Q E →
      ∃ (t : TS) (ta : TA), PSs (ncx CX0 P w K mg base N M.nf M.f A outer s H E) pre t ∧ PA (ncx CX0 P w K mg base N M.nf M.f A outer s H E) (e :: es) ta ∧ t { nx := SupQ K D g "__init__" ps.length ta spg Q E, rt := Q } (startF N vs [some (.ref D)]) H)
    (hst : ∀ L, starEach (e :: es) (envF M.nf M.f L) = (false, eval e (envF M.nf M.f L)) :: starEach es (envF M.nf M.f L) := by intro L; rfl) (hpl : ∀ L, (backTo pos (starEach es (envF M.nf M.f L))).any (·.1) = false := by intro L; rfl)
    (ht : ∀ L, eval (superE "__init__" (e :: es) p0 p1 apos pos) (envF M.nf M.f L) = (do
      let ov ← attributeBase (.Call (.Name "super" p0) [] [] p1) "__init__" (envF M.nf M.f L) (eval (.Call (.Name "super" p0) [] [] p1) (envF M.nf M.f L))
      standAt apos.atName
      let (fn, first) ← holding [ov] (getMethod ov "__init__" (pl L))
      callWith pos fn first (backTo pos (starEach (e :: es) (envF M.nf M.f L))) []) := by intro L; rfl)
    (hi : ∀ L, interactive (envF M.nf M.f L) = false := by intro L; rfl) (hs : ∀ L, swapsWith (superE "__init__" (e :: es) p0 p1 apos pos) none spos.line (envF M.nf M.f L) = pure false := by intro L; rfl) :
    FnR P w K mg base CX0 (k + 1) M.f sp := by
  obtain ⟨oc, od, kV, doc, pm, an, ct, osl, lk⟩ := M.lk
  refine toR (fnS_of (F := M.nf) M.sk hbd lk M.hcd S hp i0 hv0 h0c ic hms G (fun A outer s H E => fun _ _ _ _ _ _ _ z => z.elim) len hbody hst hpl ht hi hs) (.all fun us hl => hb _ _ _ _ _ _ _ us hl)
theorem MdS.ok0 (M : MdS P K x qual st D g) {pre : List Stmt} {ar : Arg} {p0 p1 apos pos spos : Pos} {pl : Addr → Sem Bool} (hbd : defBody st = pre ++ [.Expr (superE "__init__" [] p0 p1 apos pos) spos])
    (S : NScope N ps ["__class__"] (defScope st)) (hp : ((defArgs st).posonlyargs ++ (defArgs st).args).head? = some ar) (i0 : N[0]? = some ar.arg) (hv0 : (defScope st).names.lookup ar.arg = some .local) (h0c : (ar.arg == ("__classdict__" : Str)) = false) (ic : N[ps.length]? = some ("__class__" : Str)) (hms : mg "super" = none)
    (hb : ∀ (kV doc pm : Value) (an : Option Addr) (ct : Value) (cc c : Addr) (us : List Value), us.length = ps.length → bindArgs (PySem.W.fnX x qual (defArgs st) (defBody st) (defScope st) [(("__class__" : Str), cc)] .none kV doc pm an (.ref c) ct) ⟨us, []⟩ = pure (ps.zip us))
    (G : FnR P w K mg base CX0 k g spg) (len : ∀ vs H Q E, sp vs H Q E → vs.length = ps.length)
    (hbody : ∀ (A : Around) (outer : List Env) (s : Shared) (H : Hp) (vs : List V) (Q : VK) (E : XK), Room k (A.deeper (envF M.nf M.f s.heap.objs.size)) → sp vs H Q E →
      ∃ (t : TS), PSs (ncx CX0 P w K mg base N M.nf M.f A outer s H E) pre t ∧ t { nx := SupQ K D g "__init__" ps.length tNil spg Q E, rt := Q } (startF N vs [some (.ref D)]) H)
    (ht : ∀ L, eval (superE "__init__" [] p0 p1 apos pos) (envF M.nf M.f L) = (do
      let ov ← attributeBase (.Call (.Name "super" p0) [] [] p1) "__init__" (envF M.nf M.f L) (eval (.Call (.Name "super" p0) [] [] p1) (envF M.nf M.f L))
      standAt apos.atName
      let (fn, first) ← holding [ov] (getMethod ov "__init__" (pl L))
      callWith pos fn first (backTo pos (starEach [] (envF M.nf M.f L))) []) := by intro L; rfl)
    (hi : ∀ L, interactive (envF M.nf M.f L) = false := by intro L; rfl) (hs : ∀ L, swapsWith (superE "__init__" [] p0 p1 apos pos) none spos.line (envF M.nf M.f L) = pure false := by intro L; rfl) :
    FnR P w K mg base CX0 (k + 1) M.f sp := by
  obtain ⟨oc, od, kV, doc, pm, an, ct, osl, lk⟩ := M.lk
  exact toR (fnS0_of (F := M.nf) M.sk hbd lk M.hcd S hp i0 hv0 h0c ic hms G (fun A outer s H E => fun _ _ _ _ _ _ _ z => z.elim) len hbody ht hi hs) (.all fun us hl => hb _ _ _ _ _ _ _ us hl)
end
/-- what isinstance wants of a class of instances -/
structure OCls (K : PySem.W.Frag) (C : Addr) : Prop where
  cl : Cls K C
  ca : PySem.W.findIn K (.ref C) "__class__" = some (some (.builtin "object.__class__"))
  cn : PySem.W.specialIn K (.builtin "object.__class__") "__get__" = some (some (.builtin "getset_descriptor.__get__"))
  ct : PySem.W.takesIn K (.builtin "object.__class__") = some true
  cm : PySem.W.mroIn K C (.type "object") = some true
theorem OCls.ty {K : PySem.W.Frag} {C a dx : Addr} {H : Hp} {fs : List (Str × V)} (c : OCls K C) (e : H a = some (.ins C dx fs)) : TyX K H (.ref a) (.ref C) := .base (.ins e c.cl c.ca c.cn c.ct c.cm)
end Pl

set_option Elab.async false
set_option linter.all false
set_option maxRecDepth 100000
set_option maxHeartbeats 4000000
/-! Two own classes around an operator; o[i] of an own class; a def with super().__init__(..) called with keywords. -/
namespace Pl
open PySem PySem.Spec PyProof.Rows L2 NdefX ClX
section
variable {X : Cx} {CX : CXT} {k : Nat} {sp : Sp} {E : XK} {pins : List (Addr × Obj)} {σ : L2.St} {H : Hp} {s : Shared}
theorem run_fnR1 {f : Addr} {Q : VK} {us : List Value} {vs : List V} (F : FnR X.prog X.w X.K X.mg X.base CX k f sp) (hr : Room (k + 1) X.A) (hx : Passes CX X E) (I : Inv X pins σ H s) (r : Vals vs us) (h : sp vs H Q E) :
    codeAny (model X.prog X.w) X.A.in1 (.call (.ref f) ⟨us, []⟩) (fun r s' => match r with | .ok (.ret v) => EP X pins σ Q v s' | .ok _ => False | .error e => X.xe e s') s := by
  refine codeAny_mono (F X.A.in1 X.stack s H us vs Q E hr.in1 I.env0.in1 r h) fun r s' hq => ?_
  cases r with
  | error e => exact hx pins σ H s e s' I hq
  | ok fl =>
    cases fl with
    | ret u => exact I.after hq
    | next => exact False.elim hq
    | brk => exact False.elim hq
    | cont => exact False.elim hq
/-- what a class must have for o[i] -/
structure GetO (K : PySem.W.Frag) (C f : Addr) : Prop where
  at_ : PySem.W.findIn K (.ref C) "__getitem__" = some (some (.ref f))
  fi : PySem.W.fnIn K f = true
  fn : PySem.W.isFn K (.ref f) = true
theorem sub_K2 {prog : Program} {w : World} {A : Around} {E : Value → Shared → Prop} {s : Shared} {K : PySem.W.Frag} {x C L f : Addr} {h₀ : Heap} {m : Str → Option Value} {ox : Obj} {od : Option Obj} {value slice : Expr} {i : Value} {Q : Value → Shared → Prop} (F : PyProof.Rows.Fr h₀ L s.heap m) (X₀ : K.In h₀) (I : PySem.W.InstAt s.heap x ox C od) (hs : PySem.W.findIn K (.ref C) "__getitem__" = some (some (.ref f))) (hf : PySem.W.fnIn K f = true) (hfn : PySem.W.isFn K (.ref f) = true)
    (h : wpAny (model prog w) A.in1 (call (.ref f) [.ref x, i]) Q E s)
    (hsl : subscripted slice true (.ref x) i = runValue (.builtin "lifetime.subscript" ⟨[.ref x, i], []⟩)) :
    wpAny (model prog w) A (subscriptTail value slice (.ref x) i) Q E s := PySem.W.sub_K F X₀ I hs hf hfn h hsl
def tGetO (X : Cx) (f : Addr) (sp : Sp) (E : XK) : R2 := fun x y H Q => ∃ a C dx fs, x = .ref a ∧ H a = some (.ins C dx fs) ∧ GetO X.K C f ∧ sp [x, y] H Q E
theorem pe_getO {f : Addr} {a b : Expr} {ta tb : TE} {pos : Pos} (F : FnR X.prog X.w X.K X.mg X.base CX k f sp) (hr : Room (k + 1) X.A) (hx : Passes CX X E) (ha : PE X a ta) (hb : PE X b tb)
    (hsl : ∀ x i, subscripted b true (.ref x) i = runValue (.builtin "lifetime.subscript" ⟨[.ref x, i], []⟩) := by intro x i; with_unfolding_all rfl) : PE X (.Subscript a b pos) (tOp (tGetO X f sp E) ta tb) := by
  refine ⟨fun pins s σ H Q I h => ?_⟩
  refine Subscript_ (binT ha hb I h fun v u s2 x y H2 I2 rx ry q => ?_)
  obtain ⟨p, C, dx, fs, rfl, hp, B, q⟩ := q
  cases (show v = Value.ref p from rx)
  obtain ⟨mA, O, _⟩ := ins_get I2.hok hp
  obtain ⟨odx, J, _⟩ := O.look
  obtain ⟨m, hF⟩ := I2.fr
  refine sub_K2 hF I2.ok.mod.kin J B.at_ B.fi B.fn ?_ (hsl _ _)
  exact wpAny_call (run_fnR1 (us := [.ref p, u]) (vs := [.ref p, y]) F hr hx I2 (.cons rfl (.cons ry .nil)) q)
/-- what two classes must have for an operator between their instances -/
structure BinC (K : PySem.W.Frag) (C f : Addr) (op : Operator) : Prop where
  first : PySem.W.selfFirst K C = true
  at_ : PySem.W.findIn K (.ref C) (PySem.dunder op.info.2) = some (some (.ref f))
  fn : PySem.W.isFn K (.ref f) = true
  r : PySem.W.findIn K (.ref C) (dunderR op.info.2) = some none
theorem ksp_binO {prog : Program} {w : World} {A : Around} {E : Value → Shared → Prop} {s : Shared} {K : PySem.W.Frag} {x y C C' L f g : Addr} {h₀ : Heap} {m : Str → Option Value} {ox oy : Obj} {od od' : Option Obj} {op : Operator} {Q : Value → Shared → Prop} (F : PyProof.Rows.Fr h₀ L s.heap m) (X₀ : K.In h₀) (I : PySem.W.InstAt s.heap x ox C od) (J : PySem.W.InstAt s.heap y oy C' od')
    (B : BinC K C f op) (B' : BinC K C' g op) (hsub : C = C' ∨ PySem.W.subIn K (.ref C') (.ref C) = some false)
    (h : wpAny (model prog w) A (call (.ref f) [.ref x, .ref y]) (PySem.W.CmpBack Q) E s) : wpAny (model prog w) A (binaryOp op (.ref x) (.ref y)) Q E s := by
  by_cases hCC : C = C'
  · subst hCC
    exact PySem.W.binop_K F X₀ I J.type B.first B.at_ B.fn h
  · have hsub := hsub.resolve_left hCC
    have X := X₀.keeps F.keep
    obtain ⟨cd, rest, hcd, hm⟩ := PySem.W.ksp_first B.first
    obtain ⟨cd', rest', hcd', hm'⟩ := PySem.W.ksp_first B'.first
    have hs := B.at_
    have hr := B.r
    have hs' := B'.at_
    have hr' := B'.r
    rcases hi : op.info with ⟨sym, nm'⟩
    rw [hi] at hs hr hs' hr'
    dsimp only at hs hr hs' hr'
    have one := PySem.W.ksp_try X I hs B.fn h
    obtain ⟨hh, gg, d, tt, os⟩ := s
    have L1 : PySem.W.Looks (model prog w) hh (typeOf (.ref x)) (.ref C) := I.type
    have L2 : PySem.W.Looks (model prog w) hh (typeOf (.ref y)) (.ref C') := J.type
    have L3 : PySem.W.Looks (model prog w) hh (fillsNumberSlot (.ref C) nm') true := PySem.W.fills_K X hcd hm hs
    have L4 : PySem.W.Looks (model prog w) hh (fillsNumberSlot (.ref C') nm') true := PySem.W.fills_K X hcd' hm' hs'
    have L5 : PySem.W.Looks (model prog w) hh (isSubtype (.ref C') (.ref C)) false := PySem.W.looks_subIn X hsub
    have L6 : PySem.W.Looks (model prog w) hh (numberSlotInPython (.ref C) nm') true := PySem.W.ksp_inPy X hs hr (.inl rfl)
    have L7 : PySem.W.Looks (model prog w) hh (numberSlotInPython (.ref C') nm') true := PySem.W.ksp_inPy X hs' hr' (.inl rfl)
    have hne : (Value.ref C == Value.ref C') = false := Bool.eq_false_iff.mpr fun q => by cases beq_iff_eq.mp q; exact hCC rfl
    simp only [binaryOp, hi]
    refine wpAny_holding (wpAny_bind ?_)
    unfold binaryOp1
    refine wpAny_bind (L1.at (wpAny_bind (L2.at (wpAny_bind (L3.at ?_)))))
    simp only [hne, Bool.false_eq_true, if_false]
    ksp_lk
    refine wpAny_mono one (fun r s' hr' => ?_) fun _ _ e => e
    obtain ⟨v, rfl, hq⟩ := hr'
    ksp_lk
    exact hq
theorem op_binO {op : Operator} {f : Addr} (F : FnR X.prog X.w X.K X.mg X.base CX k f sp) (hr : Room k X.A) (hx : Passes CX X E) :
    OpR X (binaryOp op) (fun x y H Q => ∃ a C dx fs b C' dy gs, x = .ref a ∧ y = .ref b ∧ H a = some (.ins C dx fs) ∧ H b = some (.ins C' dy gs) ∧ BinC X.K C f op ∧ BinC X.K C' f op ∧ (C = C' ∨ PySem.W.subIn X.K (.ref C') (.ref C) = some false) ∧ sp [x, y] H Q E) := by
  intro pins s σ H x y v u Q I rx ry h
  obtain ⟨a, C, dx, fs, b, C', dy, gs, rfl, rfl, ha, hb, B, B', hsub, q⟩ := h
  cases (show v = Value.ref a from rx)
  cases (show u = Value.ref b from ry)
  obtain ⟨mA, O, _⟩ := ins_get I.hok ha
  obtain ⟨odx, J, _⟩ := O.look
  obtain ⟨mB, O', _⟩ := ins_get I.hok hb
  obtain ⟨ody, J', _⟩ := O'.look
  obtain ⟨m, hF⟩ := I.fr
  refine ksp_binO hF I.ok.mod.kin J J' B B' hsub ?_
  refine wpAny_mono (wpAny_call (run_fnR (us := [.ref a, .ref b]) (vs := [.ref a, .ref b]) F hr hx I (.cons rfl (.cons rfl .nil)) q)) (fun w s' z => ?_) fun _ _ x => x
  obtain ⟨z', H', I', rz, qz⟩ := z
  exact SlX.cmpback rz ⟨z', H', I', rz, qz⟩
end
section
variable {P : Program} {w : World} {K : PySem.W.Frag} {mg : Str → Option Value} {base : Heap} {k : Nat} {x qual : Str} {st : Stmt} {D g : Addr} {N ps : List Str} {sp spg : Sp}
/-- a def with super().__init__(..) at its end whose last parameters are keywords -/
theorem MdS.okK (M : MdS P K x qual st D g) {pre : List Stmt} {e : Expr} {es : List Expr} {ar : Arg} {p0 p1 apos pos spos : Pos} {pl : Addr → Sem Bool} (n : Nat) (ks : List Str) (hbd : defBody st = pre ++ [.Expr (superE "__init__" (e :: es) p0 p1 apos pos) spos])
    (S : NScope N ps ["__class__"] (defScope st)) (hp : ((defArgs st).posonlyargs ++ (defArgs st).args).head? = some ar) (i0 : N[0]? = some ar.arg) (hv0 : (defScope st).names.lookup ar.arg = some .local) (h0c : (ar.arg == ("__classdict__" : Str)) = false) (ic : N[ps.length]? = some ("__class__" : Str)) (hms : mg "super" = none)
    (hb : ∀ (kV doc pm : Value) (an : Option Addr) (ct : Value) (cc c : Addr) (us ws : List Value), us.length = n → ws.length = ks.length → bindArgs (PySem.W.fnX x qual (defArgs st) (defBody st) (defScope st) [(("__class__" : Str), cc)] .none kV doc pm an (.ref c) ct) ⟨us, ks.zip ws⟩ = pure (ps.zip (us ++ ws)))
    (G : FnR P w K mg base CX0 k g spg) (len : ∀ vs H Q E, sp vs H Q E → vs.length = ps.length)
    (hbody : ∀ (A : Around) (outer : List Env) (s : Shared) (H : Hp) (vs : List V) (Q : VK) (E : XK), Room k (A.deeper (envF M.nf M.f s.heap.objs.size)) → sp vs H Q E →
      ∃ (t : TS) (ta : TA), PSs (ncx CX0 P w K mg base N M.nf M.f A outer s H E) pre t ∧ PA (ncx CX0 P w K mg base N M.nf M.f A outer s H E) (e :: es) ta ∧ t { nx := SupQ K D g "__init__" ps.length ta spg Q E, rt := Q } (startF N vs [some (.ref D)]) H)
    (hst : ∀ L, starEach (e :: es) (envF M.nf M.f L) = (false, eval e (envF M.nf M.f L)) :: starEach es (envF M.nf M.f L) := by intro L; rfl) (hpl : ∀ L, (backTo pos (starEach es (envF M.nf M.f L))).any (·.1) = false := by intro L; rfl)
    (ht : ∀ L, eval (superE "__init__" (e :: es) p0 p1 apos pos) (envF M.nf M.f L) = (do
      let ov ← attributeBase (.Call (.Name "super" p0) [] [] p1) "__init__" (envF M.nf M.f L) (eval (.Call (.Name "super" p0) [] [] p1) (envF M.nf M.f L))
      standAt apos.atName
      let (fn, first) ← holding [ov] (getMethod ov "__init__" (pl L))
      callWith pos fn first (backTo pos (starEach (e :: es) (envF M.nf M.f L))) []) := by intro L; rfl)
    (hi : ∀ L, interactive (envF M.nf M.f L) = false := by intro L; rfl) (hs : ∀ L, swapsWith (superE "__init__" (e :: es) p0 p1 apos pos) none spos.line (envF M.nf M.f L) = pure false := by intro L; rfl) :
    ∃ fd, FnOk P w K mg base CX0 (k + 1) M.f fd ps sp ∧ KBn K fd ps n ks (fun us ws => us ++ ws) (fun vs zs => vs ++ zs) := by
  obtain ⟨oc, od, kV, doc, pm, an, ct, osl, lk⟩ := M.lk
  refine ⟨_, fnS_of (F := M.nf) M.sk hbd lk M.hcd S hp i0 hv0 h0c ic hms G (fun A outer s H E => fun _ _ _ _ _ _ _ z => z.elim) len hbody hst hpl ht hi hs, ?_⟩
  exact ⟨fun s us ws _ l1 l2 => .of_eq (hb _ _ _ _ _ _ _ us ws l1 l2), fun r1 r2 => r1.append r2⟩
end
end Pl

set_option Elab.async false
set_option linter.all false
set_option maxRecDepth 100000
set_option maxHeartbeats 4000000
/-! What the top leaves, seen by a Hook of one's own: checks of the written part, and the defs as they stand. -/
namespace Pl
open PySem PySem.Spec PyProof.Rows L2 NdefX ClX
abbrev FnO : Type := Option (Str × Str × Arguments × FuncBody × Scope × Addr × List Str × Addr)
/-- the setter of a property of a class -/
def sAd (K : PySem.W.Frag) (x m : Str) : Addr := match PySem.W.recIn K (He.ma K (He.ga K x) m) "property" with
  | some (_ :: .ref g :: _) => g
  | _ => 0
/-- the getter of a property of a class -/
def gAd (K : PySem.W.Frag) (x m : Str) : Addr := match PySem.W.recIn K (He.ma K (He.ga K x) m) "property" with
  | some (.ref g :: _) => g
  | _ => 0
/-- a function: a global's, a class's method; `=m`: the setter of the property m; `^m`: its getter -/
def fAdX (K : PySem.W.Frag) (p : Str × Option Str) : Addr := match p.2 with
  | some m => (match m.cps[0]? with
    | some 61 => sAd K p.1 ⟨m.cps.extract 1 m.cps.size⟩
    | some 94 => gAd K p.1 ⟨m.cps.extract 1 m.cps.size⟩
    | _ => He.fAd K p)
  | none => He.fAd K p
def fnOb (K : PySem.W.Frag) (p : Str × Option Str) : FnO := match K.lookup (fAdX K p) with
  | some ⟨_, _, .func fd, _⟩ => some (fd.name, fd.qualname, fd.params, fd.body, fd.scope, fd.globals, fd.closure.map (·.1), fd.builtins)
  | _ => none
/-- one def: where it stands, its name, qualified name, its statement, what it closes over -/
structure ObD where
  at_ : Str × Option Str
  name : Str
  qual : Str
  st : Stmt
  cl : List Str := []
def ObD.val (d : ObD) : FnO := some (d.name, d.qual, defArgs d.st, .stmts (defBody d.st), defScope d.st, mainGlobals, d.cl, builtinsNs)
abbrev AlP : Type := Bool × List FnO
def obsP (cks : List (PySem.W.Frag → Bool)) (fn : List ObD) (K : PySem.W.Frag) : AlP := (cks.all fun f => f K, fn.map fun d => fnOb K d.at_)
def valP (fn : List ObD) : AlP := (true, fn.map ObD.val)
def SaysP (cks : List (PySem.W.Frag → Bool)) (fn : List ObD) (K : PySem.W.Frag) : Prop := obsP cks fn K = valP fn
def asP (g : Addr → Option Obj) : Nat → List Addr
  | 0 => [mainGlobals, cStatics]
  | n + 1 => He.growD g (asP g n)
def obsPG (n : List Addr) (cks : List (PySem.W.Frag → Bool)) (fn : List ObD) (g : Addr → Option Obj) : AlP := obsP cks fn (He.frG g n)
def hookP (n : List Addr) (cks : List (PySem.W.Frag → Bool)) (fn : List ObD) : PySem.W.Hook where
  α := AlP
  obs := fun s => obsPG n cks fn s.heap.get?
  val := fun _ => valP fn
  says := fun _ h => ∃ K : PySem.W.Frag, K.In h ∧ SaysP cks fn K
  of := fun _ _ e => ⟨_, He.frG_in, e⟩
  keeps := fun _ _ _ ⟨K, hK, c⟩ k => ⟨K, PySem.W.Frag.In.keeps hK k, c⟩
theorem obsPG_eq {n : List Addr} {cks : List (PySem.W.Frag → Bool)} {fn : List ObD} {g : Addr → Option Obj} {s : Shared} (h : ∀ a, g a = s.heap.get? a) : obsPG n cks fn g = (hookP n cks fn).obs s := by
  have e : g = s.heap.get? := funext h
  rw [e] <;> rfl
section
variable {cks : List (PySem.W.Frag → Bool)} {fn : List ObD} {K : PySem.W.Frag}
theorem SaysP.ck (c : SaysP cks fn K) (i : Nat) {f : PySem.W.Frag → Bool} (h : cks[i]? = some f) : f K = true := by
  have c1 : (cks.all fun f => f K) = true := congrArg (fun z : AlP => z.1) c
  exact List.all_eq_true.mp c1 f (List.mem_of_getElem? h)
theorem SaysP.de (c : SaysP cks fn K) (i : Nat) {d : ObD} (h : fn[i]? = some d) : fnOb K d.at_ = d.val := by
  have e : fn.map (fun d => fnOb K d.at_) = fn.map ObD.val := congrArg (fun z : AlP => z.2) c
  have e2 : (fn.map fun d => fnOb K d.at_)[i]? = (fn.map ObD.val)[i]? := by rw [e]
  rw [List.getElem?_map, List.getElem?_map, h] at e2
  exact Option.some.inj e2
/-- a plain def -/
def plB (at_ : Str × Option Str) (qual : Str) : PySem.W.Frag → Bool := fun K => PySem.W.keepIn K (.ref (fAdX K at_)) && (match K.lookup (fAdX K at_) with
  | some ⟨_, _, .func fd, _⟩ => PySem.W.codeIn K fd.code qual && (match fd.defaults with
    | .none => true
    | _ => false)
  | _ => false)
theorem ob_fun {d : ObD} (e : fnOb K d.at_ = d.val) (hc : d.cl = []) (c : plB d.at_ d.qual K = true) : ∃ fd, Fun K d.name d.qual d.st (fAdX K d.at_) fd := by
  obtain ⟨kp, c2⟩ := He.ba c
  unfold fnOb at e
  cases q : K.lookup (fAdX K d.at_) with
  | none => rw [q] at c2; cases c2
  | some o =>
    obtain ⟨oc, od, dt, osl⟩ := o
    rw [q] at c2 e
    cases dt with
    | func fd =>
      obtain ⟨n1, n2, n3, n4, n5, n6, n7, n8, n9, n10, n11, n12, n13, n14, n15⟩ := fd
      have e2 : (some (n1, n2, n3, n4, n5, n6, n7.map (·.1), n15) : FnO) = some (d.name, d.qual, defArgs d.st, .stmts (defBody d.st), defScope d.st, mainGlobals, d.cl, builtinsNs) := e
      simp only [Option.some.injEq, Prod.mk.injEq] at e2
      obtain ⟨h1, h2, h3, h4, h5, h6, h7, h8⟩ := e2
      rw [hc] at h7
      have h7' : n7 = [] := List.map_eq_nil_iff.mp h7
      subst h1 h2 h3 h4 h5 h6 h7' h8
      obtain ⟨k1, k2⟩ := He.ba (by exact c2)
      cases n8 with
      | none => exact ⟨_, fun_mk q k1 kp⟩
      | _ => cases k2
    | _ => cases c2
/-- a def with the default None for its last parameter -/
def dfB (at_ : Str × Option Str) (qual : Str) : PySem.W.Frag → Bool := fun K => PySem.W.keepIn K (.ref (fAdX K at_)) && (match K.lookup (fAdX K at_) with
  | some ⟨_, _, .func fd, _⟩ => PySem.W.codeIn K fd.code qual && (He.dflB K fd.defaults [.non] && He.kwdB K fd.kwdefaults [])
  | _ => false)
theorem ob_dfl {d : ObD} (e : fnOb K d.at_ = d.val) (hc : d.cl = []) (c : dfB d.at_ d.qual K = true) : ∃ fd, FunD K d.name d.qual (defArgs d.st) (defBody d.st) (defScope d.st) [.non] [] (fAdX K d.at_) fd := by
  obtain ⟨kp, c2⟩ := He.ba c
  unfold fnOb at e
  cases q : K.lookup (fAdX K d.at_) with
  | none => rw [q] at c2; cases c2
  | some o =>
    obtain ⟨oc, od, dt, osl⟩ := o
    rw [q] at c2 e
    cases dt with
    | func fd =>
      obtain ⟨n1, n2, n3, n4, n5, n6, n7, n8, n9, n10, n11, n12, n13, n14, n15⟩ := fd
      have e2 : (some (n1, n2, n3, n4, n5, n6, n7.map (·.1), n15) : FnO) = some (d.name, d.qual, defArgs d.st, .stmts (defBody d.st), defScope d.st, mainGlobals, d.cl, builtinsNs) := e
      simp only [Option.some.injEq, Prod.mk.injEq] at e2
      obtain ⟨h1, h2, h3, h4, h5, h6, h7, h8⟩ := e2
      rw [hc] at h7
      have h7' : n7 = [] := List.map_eq_nil_iff.mp h7
      subst h1 h2 h3 h4 h5 h6 h7' h8
      have c3 : (PySem.W.codeIn K n13 d.qual && (He.dflB K n8 [.non] && He.kwdB K n9 [])) = true := c2
      obtain ⟨k1, k2⟩ := He.ba c3
      obtain ⟨k3, k4⟩ := He.ba k2
      exact ⟨_, ⟨oc, od, n8, n9, n10, n11, n12, n13, n14, osl, rfl, q, k1, He.dflB_ok k3, He.kwdB_ok k4⟩, kp⟩
    | _ => cases c2
/-- a def that closes over its class D -/
def supB (at_ : Str × Option Str) (qual : Str) (D : Str) (file : Str) : PySem.W.Frag → Bool := fun K => PySem.W.keepIn K (.ref (fAdX K at_)) && (match K.lookup (fAdX K at_) with
  | some ⟨_, _, .func fd, _⟩ => (match fd.closure, fd.code, fd.defaults with
    | [(_, cc)], .ref c, .none => PySem.W.codeIn K (.ref c) qual && ((match K.lookup cc with
        | some ⟨_, _, .cell (some v), _⟩ => decide (v = .ref (He.ga K D))
        | _ => false) && (match K.lookup c with
        | some ⟨_, _, .fields vs, _⟩ => (match (vs[2]? : Option Value) with
          | some (.str z _) => decide (z = file)
          | _ => false)
        | _ => false))
    | _, _, _ => false)
  | _ => false)
theorem ob_sup {d : ObD} {D file : Str} (e : fnOb K d.at_ = d.val) (hc : d.cl = [("__class__" : Str)]) (c : supB d.at_ d.qual D file K = true) : ∃ cc c0 : Addr,
    (∃ (oc : Value) (od : Option Addr) (kV doc pm : Value) (an : Option Addr) (ct : Value) (osl : Array (Option Value)), K.lookup (fAdX K d.at_) = some ⟨oc, od, .func (PySem.W.fnX d.name d.qual (defArgs d.st) (defBody d.st) (defScope d.st) [(("__class__" : Str), cc)] .none kV doc pm an (.ref c0) ct), osl⟩) ∧
    PySem.W.codeIn K (.ref c0) d.qual = true ∧ PySem.W.keepIn K (.ref (fAdX K d.at_)) = true ∧ (∃ ccl ccd ccs, K.lookup cc = some ⟨ccl, ccd, .cell (some (.ref (He.ga K D))), ccs⟩) ∧
    ∃ ccl cdd vs ccs tf, K.lookup c0 = some ⟨ccl, cdd, .fields vs, ccs⟩ ∧ vs[2]? = some (.str file tf) := by
  obtain ⟨kp, c2⟩ := He.ba c
  unfold fnOb at e
  cases q : K.lookup (fAdX K d.at_) with
  | none => rw [q] at c2; cases c2
  | some o =>
    obtain ⟨oc, od, dt, osl⟩ := o
    rw [q] at c2 e
    cases dt with
    | func fd =>
      obtain ⟨n1, n2, n3, n4, n5, n6, n7, n8, n9, n10, n11, n12, n13, n14, n15⟩ := fd
      have e2 : (some (n1, n2, n3, n4, n5, n6, n7.map (·.1), n15) : FnO) = some (d.name, d.qual, defArgs d.st, .stmts (defBody d.st), defScope d.st, mainGlobals, d.cl, builtinsNs) := e
      simp only [Option.some.injEq, Prod.mk.injEq] at e2
      obtain ⟨h1, h2, h3, h4, h5, h6, h7, h8⟩ := e2
      rw [hc] at h7
      subst h1 h2 h3 h4 h5 h6 h8
      match n7, h7, c2 with
      | [(y, cc)], h7, c2 =>
        have hy : y = ("__class__" : Str) := (List.cons.inj h7).1
        subst hy
        cases n13 with
        | ref c0 =>
          cases n8 with
          | none =>
            obtain ⟨k1, k2⟩ := He.ba (show (PySem.W.codeIn K (.ref c0) d.qual && ((match K.lookup cc with
                | some ⟨_, _, .cell (some v), _⟩ => decide (v = .ref (He.ga K D))
                | _ => false) && (match K.lookup c0 with
                | some ⟨_, _, .fields vs, _⟩ => (match (vs[2]? : Option Value) with
                  | some (.str z _) => decide (z = file)
                  | _ => false)
                | _ => false))) = true from c2)
            obtain ⟨k3, k4⟩ := He.ba k2
            refine ⟨cc, c0, ⟨oc, od, n9, n10, n11, n12, n14, osl, rfl⟩, k1, kp, ?_, ?_⟩
            · cases z : K.lookup cc with
              | none => rw [z] at k3; cases k3
              | some o =>
                obtain ⟨a1, a2, a3, a4⟩ := o
                rw [z] at k3
                cases a3 with
                | cell v =>
                  cases v with
                  | none => cases k3
                  | some v =>
                    have : v = .ref (He.ga K D) := of_decide_eq_true k3
                    subst this
                    exact ⟨_, _, _, rfl⟩
                | _ => cases k3
            · cases z : K.lookup c0 with
              | none => rw [z] at k4; cases k4
              | some o =>
                obtain ⟨a1, a2, a3, a4⟩ := o
                rw [z] at k4
                cases a3 with
                | fields vs =>
                  have k5 : (match (vs[2]? : Option Value) with | some (.str z _) => decide (z = file) | _ => false) = true := k4
                  cases y : vs[2]? with
                  | none => rw [y] at k5; cases k5
                  | some v =>
                    rw [y] at k5
                    cases v with
                    | str z t =>
                      have : z = file := of_decide_eq_true k5
                      subst this
                      exact ⟨_, _, _, _, t, rfl, y⟩
                    | _ => cases k5
                | _ => cases k4
          | _ => cases c2
        | _ => cases n8 <;> cases c2
      | [], h7, c2 => cases h7
      | _ :: _ :: _, h7, c2 => cases (List.cons.inj h7).2
    | _ => cases c2
theorem SaysP.ck2 {css : List (List (PySem.W.Frag → Bool))} (c : SaysP css.flatten fn K) (p i : Nat) {l : List (PySem.W.Frag → Bool)} {f : PySem.W.Frag → Bool} (h1 : css[p]? = some l) (h2 : l[i]? = some f) : f K = true := by
  have c1 : (css.flatten.all fun f => f K) = true := congrArg (fun z : AlP => z.1) c
  exact List.all_eq_true.mp c1 f (List.mem_flatten.mpr ⟨l, List.mem_of_getElem? h1, List.mem_of_getElem? h2⟩)
/-- the run's parts, joined -/
theorem run_join {σ β : Type} {o : Option σ} {lk : σ → Bool} {se : σ → β} {gd : β} {kf : σ → PySem.W.Frag} {css : List (List (PySem.W.Frag → Bool))} (h0 : o.map (fun s => (lk s, se s)) = some (true, gd)) (hf : o.map (fun s => fn.map fun d => fnOb (kf s) d.at_) = some (fn.map ObD.val))
    (hc : ∀ c ∈ css, o.map (fun s => c.all fun f => f (kf s)) = some true) : o.map (fun s => (lk s, se s, obsP css.flatten fn (kf s))) = some (true, gd, valP fn) := by
  cases o with
  | none => cases h0
  | some s =>
    have e0 := Option.some.inj h0
    have ef : (fn.map fun d => fnOb (kf s) d.at_) = fn.map ObD.val := Option.some.inj hf
    have ec : (css.flatten.all fun f => f (kf s)) = true := by
      refine List.all_eq_true.mpr fun f hm => ?_
      obtain ⟨l, h1, h2⟩ := List.mem_flatten.mp hm
      exact List.all_eq_true.mp (Option.some.inj (hc l h1)) f h2
    have e1 := congrArg Prod.fst e0
    have e2 := congrArg Prod.snd e0
    simp only at e1 e2
    show some (lk s, se s, obsP css.flatten fn (kf s)) = _
    unfold obsP valP
    rw [e1, e2, ef, ec]
/-! facts with a value -/
def eqB (a b : Option Bool) : Bool := decide (a = b)
theorem eqB_ok {a b : Option Bool} (h : eqB a b = true) : a = b := of_decide_eq_true h
end
end Pl

set_option Elab.async false
set_option linter.all false
set_option maxRecDepth 100000
set_option maxHeartbeats 4000000
/-! A property of an own class, written. -/
namespace Pl
open PySem PySem.Spec PyProof.Rows L2
/-- the class has the name as a property at p whose setter is the def at g -/
structure PropSet (K : PySem.W.Frag) (C : Addr) (f : Str) (p g : Addr) : Prop where
  tk : PySem.W.takerIn K C f = some (some (.ref p))
  ty : PySem.W.typeIn K (.ref p) = some (.type "property")
  rec_ : ∃ a rest, PySem.W.recIn K p "property" = some (a :: .ref g :: rest)
/-- e.f = value -/
def sPropS (K : PySem.W.Frag) (f : Str) (g : Addr) (sp : Sp) (E : XK) (ta tv : TE) : TS := fun D σ H => tv σ H fun y H1 => ta σ H1 fun x H2 => ∃ a C dx fs p, x = .ref a ∧ H2 a = some (.ins C dx fs) ∧ Cls K C ∧ PropSet K C f p g ∧ sp [.ref a, y] H2 (fun _ H3 => D.nx σ H3) E
section
variable {X : Cx} {CX : CXT} {k : Nat} {C p g a dx : Addr} {fs : List (Str × V)} {f : Str} {sp : Sp} {E : XK} {o value : Expr} {pos pos' : Pos} {ta tv : TE}
theorem setprop_ok {y : V} {u : Value} {pins : List (Addr × Obj)} {σ : L2.St} {H : Hp} {s : Shared} {Q : Hp → Prop} (I : Inv X pins σ H s) (ea : H a = some (.ins C dx fs)) (c : Cls X.K C) (hp : PropSet X.K C f p g)
    (F : FnR X.prog X.w X.K X.mg X.base CX k g sp) (hr : Room (k + 2) X.A) (hx : Passes CX X E) (ry : RelV y u) (h : sp [.ref a, y] H (fun _ H3 => Q H3) E) :
    wpAny (model X.prog X.w) X.A (setAttr (.ref a) f u) (fun _ s' => ∃ H', Inv X pins σ H' s' ∧ Q H') X.xe s := by
  obtain ⟨mA, O, _⟩ := ins_get I.hok ea
  obtain ⟨od, J, _⟩ := O.look
  obtain ⟨a0, rest, hrec⟩ := hp.rec_
  obtain ⟨m, hF⟩ := I.fr
  have I1 := I.tok (s.toks + 1)
  refine PySem.W.set_prop hF I.ok.mod.kin J c.sa c.po hp.tk hp.ty hrec ?_
  refine codeAny_mono (F X.A.in1.in1 X.stack { s with toks := s.toks + 1 } H [.ref a, u] [.ref a, y] _ E hr.in1.in1 I1.env0.in1.in1 (.cons rfl (.cons ry .nil)) h) fun r s' hq => ?_
  cases r with
  | error er => exact hx pins σ H { s with toks := s.toks + 1 } er s' (I1.wish _) hq
  | ok fl =>
    cases fl with
    | ret w =>
      obtain ⟨v, H', I3, rv, q3⟩ := I1.after hq
      exact ⟨H', I3, q3⟩
    | next => exact False.elim hq
    | brk => exact False.elim hq
    | cont => exact False.elim hq
theorem ps_prop {f : Str} (F : FnR X.prog X.w X.K X.mg X.base CX k g sp) (hr : Room (k + 2) X.A) (hx : Passes CX X E) (ha : PE X o ta) (hv : PE X value tv) (hs : swapsWith value (some (.Attribute o f pos')) pos.line X.env = pure false) : PS X (.Assign [.Attribute o f pos'] value pos) (sPropS X.K f g sp E ta tv) := by
  refine ⟨fun pins s σ H D I h => ?_⟩
  refine plainObj_wpAny_Assign_Attribute (thn (hv.run pins s σ H _ I h) fun u s1 ⟨y, H1, I1, ry, q⟩ => thn (ha.run pins s1 σ H1 _ I1 q) fun ov s2 ⟨x, H2, I2, rx, a, C, dx, fs, p, ex, ea, c, hp, q2⟩ => ?_) hs
  subst ex
  obtain rfl : ov = Value.ref a := rx
  exact wpAny_mono (setprop_ok I2 ea c hp F hr hx ry q2) (fun _ s' ⟨H', I3, q3⟩ => ⟨σ, H', I3, q3⟩) fun _ _ z => z
end
/-- e.f, a property -/
def tPropR (K : PySem.W.Frag) (f : Str) (g : Addr) (sp : Sp) (E : XK) (ta : TE) : TE := fun σ H Q => ta σ H fun x H1 => ∃ a C dx fs p, x = .ref a ∧ H1 a = some (.ins C dx fs) ∧ Cls K C ∧ PropOf K C f p g ∧ sp [.ref a] H1 Q E
section
variable {X : Cx} {CX : CXT} {k : Nat} {g : Addr} {f : Str} {sp : Sp} {E : XK} {e : Expr} {pos : Pos} {ta : TE}
theorem pe_propR (F : FnR X.prog X.w X.K X.mg X.base CX k g sp) (hr : Room (k + 1) X.A) (hx : Passes CX X.nox E) (he : PE X e ta)
    (hab : attributeBase e f X.env (eval e X.env) = eval e X.env) : PE X (.Attribute e f pos) (tPropR X.K f g sp E ta) := by
  refine ⟨fun pins s σ H Q I h => ?_⟩
  refine attr_of hab (thn (he.run pins s σ H _ I h) fun u s1 ⟨x, H1, I1, rx, a, C, dx, fs, p, ex, ea, c, hp, q⟩ => ?_)
  subst ex
  obtain rfl : u = Value.ref a := rx
  obtain ⟨mA, O, _⟩ := ins_get I1.hok ea
  obtain ⟨od, J, _⟩ := O.look
  obtain ⟨rest, hrec⟩ := hp.rec_
  have I2 := I1.tok (s1.toks + 1)
  have hc : (PySem.W.clsIn X.K C).isSome = true := by
    obtain ⟨cd, hc, _⟩ := PySem.W.any_some c.hd
    rw [hc]; rfl
  refine PySem.W.get_bind I1.kIn J (PySem.W.plainGet_of (c.get f)).1 (PySem.W.findObj_data hc hp.at_ hp.get hp.tak) (PySem.W.plainGet_of (c.get f)).2 (wpAny_call (PySem.W.prop_get (s := { s1 with toks := s1.toks + 1 }) I1.kIn hrec ?_))
  refine codeAny_mono (F X.A.in1 X.stack { s1 with toks := s1.toks + 1 } H1 [.ref a] [.ref a] Q E hr.in1 I2.env0.in1 (.cons rfl .nil) q) fun r s' hq => ?_
  cases r with
  | error er => exact False.elim (hx pins σ H1 { s1 with toks := s1.toks + 1 } er s' (I2.wish _) hq)
  | ok fl =>
    cases fl with
    | ret u =>
      obtain ⟨v, H', I3, rv, q3⟩ := I2.after hq
      show wpAny _ _ (handedOut u) _ _ _
      rw [PySem.W.handedOut_of (handed_of rv)]
      exact wpAny_pure ⟨v, H', I3, rv, q3⟩
    | next => exact False.elim hq
    | brk => exact False.elim hq
    | cont => exact False.elim hq
end
end Pl

set_option Elab.async false
set_option linter.all false
set_option maxRecDepth 100000
set_option maxHeartbeats 4000000
/-! Methods with defaults that lack in the call. -/
namespace Pl
open PySem PySem.Spec PyProof.Rows L2
/-- a method whose keyword-only parameters have defaults -/
structure MdKd (K : PySem.W.Frag) (x qual : Str) (st : Stmt) (ps : List Str) (dvs : List V) where
  f : Addr
  fd : FuncData
  ex : ∃ (oc : Value) (od : Option Addr) (dV kV doc pm : Value) (an : Option Addr) (cdv ct : Value) (osl : Array (Option Value)),
    fd = PySem.W.fnOf x qual (defArgs st) (defBody st) (defScope st) dV kV doc pm an cdv ct ∧ K.lookup f = some ⟨oc, od, .func fd, osl⟩ ∧ PySem.W.codeIn K cdv qual = true
  b : ∃ ds, Vals dvs ds ∧ Binds K fd ps ds
theorem MdKd.ok {P : Program} {w : World} {K : PySem.W.Frag} {mg : Str → Option Value} {base : Heap} {CX : CXT} {x qual : Str} {st : Stmt} {N ps : List Str} {dvs : List V} {k : Nat} {sp : Sp} (M : MdKd K x qual st ps dvs) (S : FnScope N ps (defScope st)) (len : ∀ vs H Q E, sp vs H Q E → vs.length = ps.length)
    (hbody : ∀ (cdv : Value) (A : Around) (outer : List Env) (s : Shared) (H : Hp) (vs : List V) (Q : VK) (E : XK), Room k (A.deeper (envOfC qual (defScope st) s.heap.objs.size M.f cdv)) → sp vs H Q E →
      ∃ t, PSs (cxOf CX P w K mg base N qual (defScope st) M.f cdv A outer s H E) (defBody st) t ∧ t { nx := fun _ H' => Q .non H', rt := Q } (start N vs) H) : FnOk P w K mg base CX (k + 1) M.f M.fd ps sp := by
  obtain ⟨f, fd, ⟨oc, od, dV, kV, doc, pm, an, cdv, ct, osl, rfl, lk, hcd⟩, b⟩ := M
  exact fn_of lk hcd S len fun A outer s H vs Q E hr hsp => hbody cdv A outer s H vs Q E hr hsp
/-- the call without what has defaults -/
theorem toRD {P : Program} {w : World} {K : PySem.W.Frag} {mg : Str → Option Value} {base : Heap} {CX : CXT} {k : Nat} {f : Addr} {fd : FuncData} {ps : List Str} {sp : Sp} {dvs : List V} (F : FnOk P w K mg base CX k f fd ps sp) (b : ∃ ds, Vals dvs ds ∧ Binds K fd ps ds) : FnR P w K mg base CX k f (fun vs H Q E => sp (vs ++ dvs) H Q E) := by
  obtain ⟨ds, rd, b⟩ := b
  intro A outer s H us vs Q E hr e0 r h
  have KX : K.In s.heap := e0.mod.kin.keeps fun b o e => (e0.bs b o e).1
  have rr := r.append rd
  have hl : (us ++ ds).length = ps.length := by rw [← rr.length]; exact F.len _ _ _ _ h
  exact F.run A outer s H ⟨us, []⟩ (us ++ ds) (vs ++ dvs) Q E hr e0 (b s us KX hl) rr h
/-- keyword-only defaults -/
def dfkB (at_ : Str × Option Str) (qual : Str) (kws : List (Str × V)) : PySem.W.Frag → Bool := fun K => PySem.W.keepIn K (.ref (fAdX K at_)) && (match K.lookup (fAdX K at_) with
  | some ⟨_, _, .func fd, _⟩ => PySem.W.codeIn K fd.code qual && (He.dflB K fd.defaults [] && He.kwdB K fd.kwdefaults kws)
  | _ => false)
theorem ob_dfk {K : PySem.W.Frag} {d : ObD} {kws : List (Str × V)} (e : fnOb K d.at_ = d.val) (hc : d.cl = []) (c : dfkB d.at_ d.qual kws K = true) : ∃ fd, FunD K d.name d.qual (defArgs d.st) (defBody d.st) (defScope d.st) [] kws (fAdX K d.at_) fd := by
  obtain ⟨kp, c2⟩ := He.ba c
  unfold fnOb at e
  cases q : K.lookup (fAdX K d.at_) with
  | none => rw [q] at c2; cases c2
  | some o =>
    obtain ⟨oc, od, dt, osl⟩ := o
    rw [q] at c2 e
    cases dt with
    | func fd =>
      obtain ⟨n1, n2, n3, n4, n5, n6, n7, n8, n9, n10, n11, n12, n13, n14, n15⟩ := fd
      have e2 : (some (n1, n2, n3, n4, n5, n6, n7.map (·.1), n15) : FnO) = some (d.name, d.qual, defArgs d.st, .stmts (defBody d.st), defScope d.st, mainGlobals, d.cl, builtinsNs) := e
      simp only [Option.some.injEq, Prod.mk.injEq] at e2
      obtain ⟨h1, h2, h3, h4, h5, h6, h7, h8⟩ := e2
      rw [hc] at h7
      have h7' : n7 = [] := List.map_eq_nil_iff.mp h7
      subst h1 h2 h3 h4 h5 h6 h7' h8
      have c3 : (PySem.W.codeIn K n13 d.qual && (He.dflB K n8 [] && He.kwdB K n9 kws)) = true := c2
      obtain ⟨k1, k2⟩ := He.ba c3
      obtain ⟨k3, k4⟩ := He.ba k2
      exact ⟨_, ⟨oc, od, n8, n9, n10, n11, n12, n13, n14, osl, rfl, q, k1, He.dflB_ok k3, He.kwdB_ok k4⟩, kp⟩
    | _ => cases c2
/-- the setter of a property -/
def stB (x m : Str) : PySem.W.Frag → Bool := fun K => (match PySem.W.recIn K (He.ma K (He.ga K x) m) "property" with
  | some (_ :: .ref _ :: _) => true
  | _ => false)
theorem stB_ok {K : PySem.W.Frag} {x m : Str} (h : stB x m K = true) : ∃ a rest, PySem.W.recIn K (He.ma K (He.ga K x) m) "property" = some (a :: .ref (sAd K x m) :: rest) := by
  unfold stB at h
  unfold sAd
  cases e : PySem.W.recIn K (He.ma K (He.ga K x) m) "property" with
  | none => rw [e] at h; cases h
  | some l =>
    rw [e] at h
    match l, h with
    | a :: .ref g :: r, _ => exact ⟨a, r, rfl⟩
/-- the getter of a property -/
def gtB (x m : Str) : PySem.W.Frag → Bool := fun K => (match PySem.W.recIn K (He.ma K (He.ga K x) m) "property" with
  | some (.ref _ :: _) => true
  | _ => false)
theorem gtB_ok {K : PySem.W.Frag} {x m : Str} (h : gtB x m K = true) : ∃ rest, PySem.W.recIn K (He.ma K (He.ga K x) m) "property" = some (.ref (gAd K x m) :: rest) := by
  unfold gtB at h
  unfold gAd
  cases e : PySem.W.recIn K (He.ma K (He.ga K x) m) "property" with
  | none => rw [e] at h; cases h
  | some l =>
    rw [e] at h
    match l, h with
    | .ref g :: r, _ => exact ⟨r, rfl⟩
end Pl

set_option Elab.async false
set_option linter.all false
set_option maxRecDepth 100000
set_option maxHeartbeats 4000000
/-! several except clauses, each with or without a name -/
namespace Pl
open PySem PySem.Spec PyProof.Rows L2
abbrev Cls3 : Type := Value × Option Nat × (Addr → Value → Option Addr → TS)
/-- the ends behind a clause with a name: its slot is emptied -/
def endsAs (i : Nat) (D : Ends) : Ends := { nx := fun σ' H' => D.nx (σ'.set i none) H', rt := D.rt, bk := fun σ' H' => D.bk (σ'.set i none) H', ct := fun σ' H' => D.ct (σ'.set i none) H' }
/-- what the clauses wish of an exception of the body, one after the other -/
def wMix (K : PySem.W.Frag) (Wout : WX) (D : Ends) : List Cls3 → WX
  | [] => Wout
  | (c, none, ts) :: r => fun cls d σ H => ∃ b, PySem.W.exmOne K cls c = some b ∧ (b = true → ∀ a, H a = none → ts a cls d D σ H) ∧ (b = false → wMix K Wout D r cls d σ H)
  | (c, some i, ts) :: r => fun cls d σ H => ∃ b, PySem.W.exmOne K cls c = some b ∧ (b = true → ∀ a, H a = none → ts a cls d (endsAs i D) (σ.set i (some (.ref a))) H) ∧ (b = false → wMix K Wout D r cls d σ H)
/-- .. where all slots are there -/
def wMixL (n : Nat) (K : PySem.W.Frag) (Wout : WX) (D : Ends) (l : List Cls3) : WX := fun cls d σ H => σ.length = n → wMix K Wout D l cls d σ H
inductive HdsMx (X : Cx) : List ExceptHandler → List Cls3 → Prop
  | nil : HdsMx X [] []
  | cons {x : Str} {c : Value} {ts : Addr → Value → Option Addr → TS} {b₀ : Stmt} {suite : List Stmt} {np pos' : Pos} {hds : List ExceptHandler} {l : List Cls3} (hc : Names X x c)
      (hsu : ∀ (a : Addr) (oe : Obj) (cls : Value) (d : Option Addr) (pn : List (Addr × Obj)), Zc cls d oe → (∃ vs, oe.data = .fields vs) → PSs (X.suite a ((a, oe) :: pn)) (b₀ :: suite) (ts a cls d)) (r : HdsMx X hds l) :
      HdsMx X (.ExceptHandler (some (.Name x np)) none (b₀ :: suite) pos' :: hds) ((c, none, ts) :: l)
  | consAs {x n : Str} {i : Nat} {c : Value} {ts : Addr → Value → Option Addr → TS} {b₀ : Stmt} {suite : List Stmt} {np pos' : Pos} {hds : List ExceptHandler} {l : List Cls3} (hi : X.N[i]? = some n) (hln : X.env.kindOf n = some .local) (hc : Names X x c)
      (hsu : ∀ (a : Addr) (oe : Obj) (cls : Value) (d : Option Addr) (pn : List (Addr × Obj)), Zc cls d oe → (∃ vs, oe.data = .fields vs) → PSs (X.suite a ((a, oe) :: pn)) (b₀ :: suite) (ts a cls d)) (r : HdsMx X hds l) :
      HdsMx X (.ExceptHandler (some (.Name x np)) (some n) (b₀ :: suite) pos' :: hds) ((c, some i, ts) :: l)
section
variable {X : Cx} {body : List Stmt} {h₀ : ExceptHandler} {hds : List ExceptHandler} {l : List Cls3} {pos : Pos} {tb : WX → TS} {Wout : WX}
theorem ps_try_mix (hs : X.stack = X.env :: X.outer) (hf : X.env.frame = some X.env.locals) (hN : X.N.Nodup) (tk : Takes X Wout)
    (hb : ∀ (W : WX) (pn : List (Addr × Obj)) (xe : Value → Shared → Prop), Takes (X.tr pn xe) W → PassesOwn (model X.prog X.w) X.A X.env xe → PSs (X.tr pn xe) body (tb W))
    (hh : HdsMx X (h₀ :: hds) l) : PS X (.Try body (h₀ :: hds) [] [] pos) (fun D σ H => tb (wMixL X.N.length X.K Wout D l) D σ H) := by
  refine ⟨fun pins s σ H D I h => ?_⟩
  have ok := I.ok
  have hfr : X.A.frames = some (X.env :: X.outer) := by rw [ok.frames, hs]
  refine wpAny_Try_except ?_
  refine wpAny_mono ((hb (wMixL X.N.length X.K Wout D l) (X.pn ++ pins) (fun e s₁ => wpAny (model X.prog X.w) X.A (noteFrame e X.env) (fun _ s₂ => wpAny (model X.prog X.w) X.A (setFlight e none) (fun _ s₃ =>
    wpAny (model X.prog X.w) X.A (handleBy e X.env (h₀ :: hds)) (SP X pins D) X.xe s₃) X.xe s₂) X.xe s₁) (fun u s' xx => ?_) PassesOwn.looking).run [] s σ H D (I.toTry _) h) (fun f s1 hsp => ?_) (fun e s1 he => he)
  · -- the catch
    obtain ⟨a, B, sI, pins', σ', H', cls, d, rfl, J', nb, up, sky, na, os, ag, w⟩ := xx
    have J : Inv X pins σ' H' sI := J'.ofTry ok
    have sky' : Sky B (X.env :: X.outer) a (Zc cls d) X.env.locals s'.heap := by rw [← hs]; exact sky
    show wpAny (model X.prog X.w) X.A (noteFrame (.ref a) X.env) _ _ _
    refine Sky.land Zc.steady hfr hf sky' fun h3 fl3 up3 => ?_
    have J3 : Inv X pins σ' H' { s' with heap := h3 } := J.landed nb fl3.1 (up.trans up3) os ag
    obtain ⟨oe3, vs3, he3, hz3, hd3⟩ := fl3.there
    have notFr : ∀ {h : Heap} {o : Obj} {vs : Array Value}, h.FunFrames B (X.env :: X.outer) → h.get? a = some o → o.data = .fields vs → a ∉ frs (X.env :: X.outer) := fun {h o vs} ff e dd hm => by
      obtain ⟨_, o', e', hnf⟩ := ff.mem hm
      rw [e] at e'; cases e'
      exact hnf _ dd
    have nfr := notFr fl3.2.2.1 he3 hd3
    have nL : a ≠ X.env.locals := fun z => nfr (List.mem_filterMap.mpr ⟨X.env, List.mem_cons_self, by rw [hf, z]⟩)
    have nF : a ∉ X.fs := fun hm => by
      obtain ⟨e, he, q⟩ := List.mem_filterMap.mp hm
      exact nfr (List.mem_filterMap.mpr ⟨e, List.mem_cons_of_mem _ he, q⟩)
    have S3 := J3.suite he3 hd3 na nL nF
    have LT : PySem.W.Looks (model X.prog X.w) h3 (typeOf (.ref a)) cls := fun A Q E s k q => wpAny_typeOf_ref (k _ _ he3) (by rw [hz3.1]; exact q)
    have test : ∀ {x : Str} {c : Value} {np : Pos} (hc : Names X x c) {Q : Value → Shared → Prop} {E : Value → Shared → Prop}, Q c { s' with heap := h3 } → wpAny (model X.prog X.w) (X.A.mark (some (.ref a))) (eval (.Name x np) X.env) Q E { s' with heap := h3 } := fun {x c np} hc {Q E} q => by
      obtain ⟨hg, hdbg, hm | ⟨hm, hv, hnn⟩⟩ := hc
      · exact ld_glob (X := X.suite a ((a, oe3) :: (X.pn ++ pins))) S3 hg hm q hdbg
      · exact ld_blt (X := X.suite a ((a, oe3) :: (X.pn ++ pins))) S3 hg hm hv q hnn hdbg
    have go : ∀ {hds' : List ExceptHandler} {l' : List Cls3}, HdsMx X hds' l' → wMix X.K Wout D l' cls d σ' H' →
        wpAny (model X.prog X.w) X.A (handleBy (.ref a) X.env hds') (SP X pins D) X.xe { s' with heap := h3 } := by
      intro hds' l' hk
      induction hk with
      | nil =>
        intro w
        refine wpAny_handleBy_nil ?_
        obtain ⟨k1, k2, k3, oe, vs, T, oT, ts', he, hz, hd, h1, hr⟩ := id fl3
        unfold PySem.passOn
        refine wpAny_bind (wpAny_field he hd h1 ?_)
        rw [if_neg (show ¬ ((Value.ref T == Value.none) = true) from by simp)]
        have fin : wpAny (model X.prog X.w) X.A (setFlight (.ref a) X.env.frame) (fun _ s4 => wpAny (model X.prog X.w) X.A (throw (.ref a) : Sem Flow) (SP X pins D) X.xe s4) X.xe { s' with heap := h3 } := by
          rw [hf]
          refine HandSPX.setFlight_upZ fl3 fun h4 hh4 up4 => wpAny_throw (tk _ _ ?_)
          exact ⟨a, B, sI, pins, σ', H', cls, d, rfl, J, nb, (up.trans up3).trans up4, .inr (.inr (by rw [hs]; exact hh4)), na, os, ag, w⟩
        first
          | exact wpAny_bind (wpAny_pure (wpAny_bind fin))
          | exact wpAny_bind fin
      | @cons x c ts b₀ suite np pos' hds2 l2 hc hsu r ih =>
        intro w
        obtain ⟨b, hb1, hyes, hno⟩ := w
        refine wpAny_handleBy_cons (codeAny_handlers_test ?_) (by intro q; cases q)
        have LM := PySem.W.exm_one (M := model X.prog X.w) (J3.kIn) LT hb1
        refine test hc (LM.here ?_)
        cases b with
        | true =>
          refine codeAny_handlers_suite ?_
          refine HandSPX.lands_againZ fl3 fun h4 fl4 up4 => ?_
          have J4 : Inv X pins σ' H' { s' with heap := h4 } := J.landed nb fl4.1 ((up.trans up3).trans up4) os ag
          obtain ⟨oe4, vs4, he4, hz4, hd4⟩ := fl4.there
          have S4 := J4.suite he4 hd4 na nL nF
          refine wpAny_mono ((hsu a oe4 cls d (X.pn ++ pins) hz4 ⟨_, hd4⟩).run [] _ _ H' _ S4 (hyes rfl a na)) (fun f s6 hsp => ?_) (fun _ _ z => False.elim z)
          cases f with
          | next =>
            obtain ⟨σ6, H6, S6, q6⟩ := hsp
            exact ⟨_, _, S6.unsuite ok, q6⟩
          | brk =>
            obtain ⟨σ6, H6, S6, q6⟩ := hsp
            exact ⟨_, _, S6.unsuite ok, q6⟩
          | cont =>
            obtain ⟨σ6, H6, S6, q6⟩ := hsp
            exact ⟨_, _, S6.unsuite ok, q6⟩
          | ret u =>
            obtain ⟨v6, σ6, H6, S6, r6, q6⟩ := hsp
            exact ⟨_, _, _, S6.unsuite ok, r6, q6⟩
        | false =>
          show wpAny _ X.A (handleBy (.ref a) X.env hds2) _ _ _
          exact ih (hno rfl)
      | @consAs x n i c ts b₀ suite np pos' hds2 l2 hi hln hc hsu r ih =>
        intro w
        obtain ⟨b, hb1, hyes, hno⟩ := w
        have hloc : Loc X.env.scope n := .inl hln
        refine wpAny_handleBy_cons (codeAny_handlers_test ?_) (by intro q; cases q)
        have LM := PySem.W.exm_one (M := model X.prog X.w) (J3.kIn) LT hb1
        refine test hc (LM.here ?_)
        cases b with
        | true =>
          refine codeAny_handlers_suite_as ?_
          refine HandSPX.lands_againZ fl3 fun h4 fl4 up4 => ?_
          have J4 : Inv X pins σ' H' { s' with heap := h4 } := J.landed nb fl4.1 ((up.trans up3).trans up4) os ag
          obtain ⟨oe4, vs4, he4, hz4, hd4⟩ := fl4.there
          have S4 := J4.suite he4 hd4 na nL nF
          refine store_ok (X := X.suite a ((a, oe4) :: (X.pn ++ pins))) (v := .ref a) S4 hN hi hloc rfl (fun s5 S5 => ?_) (.inr hln)
          refine wpAny_mono ((hsu a oe4 cls d (X.pn ++ pins) hz4 ⟨_, hd4⟩).run [] s5 _ H' _ S5 (hyes rfl a na)) (fun f s6 hsp => ?_) (fun _ _ z => False.elim z)
          have end_ : ∀ {σ6 : L2.St} {H6 : Hp} {Q : Shared → Prop}, Inv (X.suite a ((a, oe4) :: (X.pn ++ pins))) [] σ6 H6 s6 → (∀ s7, Inv X pins (σ6.set i none) H6 s7 → Q s7) →
              wpAny (model X.prog X.w) X.A (do bindName X.env n .none; unbindBehindTheSuite X.env n pos') (fun _ s7 => Q s7) X.xe s6 := fun {σ6 H6 Q} S6 hq => gone_ok (S6.unsuite ok) hN hi hln hq
          cases f with
          | next =>
            obtain ⟨σ6, H6, S6, q6⟩ := hsp
            exact end_ S6 fun s7 J7 => ⟨_, _, J7, q6⟩
          | brk =>
            obtain ⟨σ6, H6, S6, q6⟩ := hsp
            exact end_ S6 fun s7 J7 => ⟨_, _, J7, q6⟩
          | cont =>
            obtain ⟨σ6, H6, S6, q6⟩ := hsp
            exact end_ S6 fun s7 J7 => ⟨_, _, J7, q6⟩
          | ret u =>
            obtain ⟨v6, σ6, H6, S6, r6, q6⟩ := hsp
            exact end_ S6 fun s7 J7 => ⟨_, _, _, J7, r6, q6⟩
        | false =>
          show wpAny _ X.A (handleBy (.ref a) X.env hds2) _ _ _
          exact ih (hno rfl)
    exact go hh (w J.len)
  · cases f with
    | next =>
      obtain ⟨σ', H', J', q⟩ := hsp
      exact wpAny_execs_nil ⟨σ', H', J'.ofTry ok, q⟩
    | brk =>
      obtain ⟨σ', H', J', q⟩ := hsp
      exact ⟨σ', H', J'.ofTry ok, q⟩
    | cont =>
      obtain ⟨σ', H', J', q⟩ := hsp
      exact ⟨σ', H', J'.ofTry ok, q⟩
    | ret u =>
      obtain ⟨v, σ', H', J', r, q⟩ := hsp
      exact ⟨v, σ', H', J'.ofTry ok, r, q⟩
end
/-! ### an own error with one field -/
/-- def __init__(self, y): self.f = y -/
def spExI (K : PySem.W.Frag) (f : Str) : Sp := fun vs H Q _ => ∃ (a C : Addr) (y : V), vs = [.ref a, y] ∧ OexC K C ∧ H a = some (exo a C none) ∧ PySem.W.findIn K (.ref C) f = some none ∧ ∀ dx, H dx = none → dx ≠ a → Q .non (upd (upd H dx (exd dx [(f, y)])) a (exo a C (some dx)))
theorem exI_made {K : PySem.W.Frag} {C : Addr} {f : Str} {y : V} {H : Hp} {Q : XK} (T : OexC K C) (hno : PySem.W.findIn K (.ref C) f = some none) (h : ∀ d, H d = none → Q (.ref C) (some d) (upd H d (.xd [(f, y)]))) :
    [y].length ≤ 1000 ∧ ∀ a, H a = none → spExI K f (.ref a :: ([y] ++ [])) (upd H a (exo a C none)) (fun v H2 => v = .non ∧ ∃ (d : Addr) (fs : List (Str × V)), H2 a = some (exo a C (some d)) ∧ H2 d = some (exd d fs) ∧ H d = none ∧ Q (.ref C) (some d) (upd (del H2 a) d (.xd fs))) (fun _ _ _ => False) := by
  refine ⟨Nat.le_of_ble_eq_true rfl, fun a ha => ⟨a, C, y, rfl, T, upd_same, hno, fun dx hdx hne => ⟨rfl, dx, [(f, y)], upd_same, by rw [upd_ne hne, upd_same], ?_, ?_⟩⟩⟩
  · rw [upd_ne hne] at hdx; exact hdx
  · have hd : H dx = none := by rw [upd_ne hne] at hdx; exact hdx
    have e : upd (del (upd (upd (upd H a (exo a C none)) dx (exd dx [(f, y)])) a (exo a C (some dx))) a) dx (.xd [(f, y)]) = upd H dx (.xd [(f, y)]) := by
      funext b
      by_cases hb : b = dx
      · subst hb; rw [upd_same, upd_same]
      · rw [upd_ne hb, upd_ne hb]
        by_cases hba : b = a
        · subst hba; rw [del_same, ha]
        · rw [del_ne hba, upd_ne hba, upd_ne hb, upd_ne hba]
    rw [e]
    exact h dx hd
end Pl

set_option Elab.async false
set_option linter.all false
set_option maxRecDepth 100000
set_option maxHeartbeats 4000000
/-! defs that hand a lambda to a def; what the top leaves of their tables -/
namespace Pl
open PySem PySem.Spec PyProof.Rows L2 NdefX ClX LamX
/-- a def whose code object stands at c -/
structure FunC (K : PySem.W.Frag) (x qual : Str) (st : Stmt) (f : Addr) (fd : FuncData) (c : Addr) : Prop where
  ex : ∃ (oc : Value) (od : Option Addr) (kV doc pm : Value) (an : Option Addr) (ct : Value) (osl : Array (Option Value)),
    fd = PySem.W.fnOf x qual (defArgs st) (defBody st) (defScope st) .none kV doc pm an (.ref c) ct ∧ K.lookup f = some ⟨oc, od, .func fd, osl⟩ ∧ PySem.W.codeIn K (.ref c) qual = true
section
variable {P : Program} {w : World} {K : PySem.W.Frag} {mg : Str → Option Value} {base : Heap}
theorem FunC.ok {x qual : Str} {st : Stmt} {f c : Addr} {fd : FuncData} {N ps : List Str} {k : Nat} {sp : Sp} (F : FunC K x qual st f fd c) (S : FnScope N ps (defScope st)) (len : ∀ vs H Q E, sp vs H Q E → vs.length = ps.length)
    (hbody : ∀ (A : Around) (outer : List Env) (s : Shared) (H : Hp) (vs : List V) (Q : VK) (E : XK), Room k (A.deeper (envOfC qual (defScope st) s.heap.objs.size f (.ref c))) → sp vs H Q E →
      ∃ t, PSs (cxOf CX0 P w K mg base N qual (defScope st) f (.ref c) A outer s H E).nox (defBody st) t ∧ t { nx := fun _ H' => Q .non H', rt := Q } (start N vs) H) : FnOk P w K mg base CX0 (k + 1) f fd ps sp := by
  obtain ⟨oc, od, kV, doc, pm, an, ct, osl, rfl, lk, hcd⟩ := F.ex
  refine fn_of lk hcd S len fun A outer s H vs Q E hr hsp => ?_
  obtain ⟨t, h, q⟩ := hbody A outer s H vs Q E hr hsp
  exact ⟨t, h.nox, q⟩
end
section
variable {X : Cx}
/-- x(lambda: body), x a plain def of the module -/
theorem pe_lam {T : List (Addr × Str)} {TT : (XK → Hp → VK → Prop) → Hp → VK → Prop} {x a : Str} {g c Pt : Addr} {k : Nat} {st : Stmt} {fd : FuncData} {Ng : List Str}
    {params : Arguments} {body : Expr} {scope : Scope} {t : XK → TE} {p lpos pos : Pos} (F : Fun X.K x x st g fd) (hb : L2.Binds X.K fd [a] []) (hm : X.mg x = some (.ref g)) (Sg : FnScope Ng [a] (defScope st))
    (hG : ∀ cdg, GivesTo X Ng x (defScope st) g cdg (defBody st) a (X.env.qual ++ "<lambda>") TT)
    (TB : TabB X.base X.mg c Pt) (hcode : X.env.code = .ref c) (hr : Room (k + 2) X.A) (hT : T = [(Pt, X.env.qual ++ "<lambda>")])
    (hbody : ∀ (A : Around) (outer : List Env) (s : Shared) (H : Hp) (E : XK) (f c' : Addr), Room k (A.deeper (lamEnv X scope s.heap.objs.size f c')) → PE (lamCx X A outer s H E scope f c') body (t E))
    (L : LamS X.env.scope scope) (hg : Gl X x := by rfl) (hNg : Ng[0]? = some a := by rfl) (hva : Vis (defScope st) a := by exact Or.inl rfl) (hdef : defaultsOf params X.env = ([], []) := by rfl)
    (hbind : ∀ (q : Str) (cl : List (Str × Addr)) (pm cv ctv : Value), bindArgs (PySem.W.kla_fn "<lambda>" q params body scope cl pm cv ctv) ⟨[], []⟩ = pure [] := by intros; rfl) (hdb : (x == ("__debug__" : Str)) = false := by decide)
    (hd : (a == ("__debug__" : Str)) = false := by decide) (hcd : (a == ("__classdict__" : Str)) = false := by decide) :
    PE X (.Call (.Name x p) [.Lambda params body scope lpos] [] pos) (tLam T TT t) := by
  obtain ⟨oc, od, kV, doc, pm, an, cdv, ct, osl, rfl, lk, hcg⟩ := F.ex
  subst hT
  exact pe_lamcall hg hm F.kp lk hcg hb Sg hNg hva (hG _) TB hcode (by simp) (fun p hp _ => by rw [List.mem_singleton.mp hp]) hr L hdef hbind hbody (hd := hd) (hcd := hcd) (hdb := hdb)
end
/-! ### what a def that catches all refusals makes of a call -/
/-- a refusal told: the class, the name, the field -/
abbrev Er : Type := Addr × Str × Option Str
def rfE (es : List Er) (Q : VK) : XK := fun cls d H' => ∃ e ∈ es, cls = .ref e.1 ∧ match e.2.2 with
  | none => ∀ p, H' p = none → Q (.ref p) (upd H' p (.tup [.str e.2.1]))
  | some f => ∃ dd fs v, d = some dd ∧ H' dd = some (.xd fs) ∧ fs.lookup f = some v ∧ ∀ p, H' p = none → Q (.ref p) (upd H' p (.tup [.str e.2.1, v]))
def TRef (es : List Er) : (XK → Hp → VK → Prop) → Hp → VK → Prop := fun tl H Q => ∀ p, H p = none → ∀ Q' : VK, (∀ v H', Q (.ref p) H' → Q' v H') → tl (rfE es Q) (upd H p (.tup [.str "nothing"])) Q'
/-! ### the top's tables -/
def cdA (K : PySem.W.Frag) (a : Str × Option Str) : Addr := match K.lookup (fAdX K a) with
  | some ⟨_, _, .func fd, _⟩ => (match fd.code with
    | .ref c => c
    | _ => 0)
  | _ => 0
def cdP (K : PySem.W.Frag) (a : Str × Option Str) : Addr := match K.lookup (cdA K a) with
  | some ⟨_, _, .fields vs, _⟩ => (match (vs[11]? : Option Value) with
    | some (.ref P) => P
    | _ => 0)
  | _ => 0
def isStrO : Option Value → Bool
  | some (.str _ _) => true
  | _ => false
def isIntO : Option Value → Bool
  | some (.int _ _) => true
  | _ => false
def isBoolO : Option Value → Bool
  | some (.bool _) => true
  | _ => false
theorem isStrO_ok : ∀ {o : Option Value}, isStrO o = true → ∃ z t, o = some (.str z t)
  | some (.str z t), _ => ⟨z, t, rfl⟩
theorem isIntO_ok : ∀ {o : Option Value}, isIntO o = true → ∃ z t, o = some (.int z t)
  | some (.int z t), _ => ⟨z, t, rfl⟩
theorem isBoolO_ok : ∀ {o : Option Value}, isBoolO o = true → ∃ z, o = some (.bool z)
  | some (.bool z), _ => ⟨z, rfl⟩
/-- the code object is as the making of a lambda asks -/
def cdB (K : PySem.W.Frag) (c Pt : Addr) : Bool := match K.lookup c with
  | some ⟨.type t, _, .fields vs, _⟩ => decide (t = "code") && (decide (vs[11]? = some (.ref Pt)) && (isStrO vs[18]? && (isIntO vs[7]? && (isBoolO vs[9]? && (isIntO vs[10]? && !decide (c = Pt))))))
  | _ => false
theorem cdB_ok {K : PySem.W.Frag} {c Pt : Addr} {h : Heap} (X : K.In h) (e : cdB K c Pt = true) : PySem.W.CodeHd h c Pt := by
  unfold cdB at e
  cases q : K.lookup c with
  | none => rw [q] at e; cases e
  | some o =>
    obtain ⟨oc, od, dt, osl⟩ := o
    rw [q] at e
    cases oc with
    | type t =>
      cases dt with
      | fields vs =>
        obtain ⟨e1, e⟩ := Bool.and_eq_true_iff.mp (show (decide (t = "code") && (decide (vs[11]? = some (.ref Pt)) && (isStrO vs[18]? && (isIntO vs[7]? && (isBoolO vs[9]? && (isIntO vs[10]? && !decide (c = Pt))))))) = true from e)
        obtain ⟨e2, e⟩ := Bool.and_eq_true_iff.mp e
        obtain ⟨e3, e⟩ := Bool.and_eq_true_iff.mp e
        obtain ⟨e4, e⟩ := Bool.and_eq_true_iff.mp e
        obtain ⟨e5, e⟩ := Bool.and_eq_true_iff.mp e
        obtain ⟨e6, e7⟩ := Bool.and_eq_true_iff.mp e
        have e1' : t = "code" := of_decide_eq_true e1
        subst e1'
        have e2' : vs[11]? = some (.ref Pt) := of_decide_eq_true e2
        have gd : ∀ {i : Nat} {v : Value}, vs[i]? = some v → vs.getD i .none = v := fun {i v} h => by rw [Array.getD_eq_getD_getElem?, h]; rfl
        obtain ⟨file, tf, q3⟩ := isStrO_ok e3
        obtain ⟨flags, tg, q4⟩ := isIntO_ok e4
        obtain ⟨inF, q5⟩ := isBoolO_ok e5
        obtain ⟨text, tt, q6⟩ := isIntO_ok e6
        exact ⟨_, vs, file, tf, flags, tg, inF, text, tt, X _ _ q, rfl, rfl, e2', gd e2', gd q3, gd q4, gd q5, gd q6, by simpa using e7⟩
      | _ => cases e
    | _ => cases dt <;> cases e
def tbB (K2 : PySem.W.Frag) (Pt : Addr) : Bool := match K2.lookup Pt with
  | some ⟨.none, none, .fields vs, sl⟩ => vs.toList.isEmpty && sl.toList.isEmpty
  | _ => false
theorem tbB_ok {K2 : PySem.W.Frag} {Pt : Addr} {h : Heap} (X : K2.In h) (e : tbB K2 Pt = true) : h.get? Pt = some { cls := .none, data := .fields #[] } := by
  unfold tbB at e
  cases q : K2.lookup Pt with
  | none => rw [q] at e; cases e
  | some o =>
    obtain ⟨oc, od, dt, osl⟩ := o
    rw [q] at e
    cases oc with
    | none =>
      cases od with
      | none =>
        cases dt with
        | fields vs =>
          obtain ⟨e1, e2⟩ := Bool.and_eq_true_iff.mp (show (vs.toList.isEmpty && osl.toList.isEmpty) = true from e)
          obtain ⟨vs⟩ := vs
          obtain ⟨osl⟩ := osl
          cases vs with
          | nil =>
            cases osl with
            | nil => exact X _ _ q
            | cons => cases e2
          | cons => cases e1
        | _ => cases e
      | some _ => cases dt <;> cases e
    | _ => cases od <;> cases dt <;> cases e
def tabB1 (K K2 : PySem.W.Frag) (a : Str × Option Str) : Bool := cdB K (cdA K a) (cdP K a) && ((K.lookup (cdP K a)).isNone && tbB K2 (cdP K a))
abbrev AlT : Type := AlP × Bool
def SaysT (cks : List (PySem.W.Frag → Bool)) (fn : List ObD) (ts : List (Str × Option Str)) (K K2 : PySem.W.Frag) : Prop := (obsP cks fn K, ts.all (tabB1 K K2)) = (valP fn, true)
def hookT (n n2 : List Addr) (cks : List (PySem.W.Frag → Bool)) (fn : List ObD) (ts : List (Str × Option Str)) : PySem.W.Hook where
  α := AlT
  obs := fun s => (obsPG n cks fn s.heap.get?, ts.all (tabB1 (He.frG s.heap.get? n) (He.frG s.heap.get? n2)))
  val := fun _ => (valP fn, true)
  says := fun _ h => ∃ K K2 : PySem.W.Frag, K.In h ∧ K2.In h ∧ SaysT cks fn ts K K2
  of := fun _ _ e => ⟨_, _, He.frG_in, He.frG_in, e⟩
  keeps := fun _ _ _ ⟨K, K2, hK, hK2, c⟩ k => ⟨K, K2, PySem.W.Frag.In.keeps hK k, PySem.W.Frag.In.keeps hK2 k, c⟩
theorem obsTG_eq {n n2 : List Addr} {cks : List (PySem.W.Frag → Bool)} {fn : List ObD} {ts : List (Str × Option Str)} {g : Addr → Option Obj} {s : Shared} (h : ∀ a, g a = s.heap.get? a) : ((obsPG n cks fn g, ts.all (tabB1 (He.frG g n) (He.frG g n2))) : AlT) = (hookT n n2 cks fn ts).obs s := by
  have e : g = s.heap.get? := funext h
  rw [e] <;> rfl
section
variable {cks : List (PySem.W.Frag → Bool)} {fn : List ObD} {ts : List (Str × Option Str)} {K K2 : PySem.W.Frag}
theorem SaysT.p (c : SaysT cks fn ts K K2) : SaysP cks fn K := congrArg (fun z : AlT => z.1) c
theorem SaysT.t (c : SaysT cks fn ts K K2) {a : Str × Option Str} (h : a ∈ ts) : cdB K (cdA K a) (cdP K a) = true ∧ K.lookup (cdP K a) = none ∧ tbB K2 (cdP K a) = true := by
  have c1 : ts.all (tabB1 K K2) = true := congrArg (fun z : AlT => z.2) c
  obtain ⟨h1, h2⟩ := Bool.and_eq_true_iff.mp (List.all_eq_true.mp c1 a h)
  obtain ⟨h3, h4⟩ := Bool.and_eq_true_iff.mp h2
  exact ⟨h1, Option.isNone_iff_eq_none.mp h3, h4⟩
/-- a plain def whose code object is known -/
theorem ob_funC {d : ObD} (e : fnOb K d.at_ = d.val) (hc : d.cl = []) (c : plB d.at_ d.qual K = true) {Pt : Addr} (hb : cdB K (cdA K d.at_) Pt = true) : ∃ fd, Fun K d.name d.qual d.st (fAdX K d.at_) fd ∧ FunC K d.name d.qual d.st (fAdX K d.at_) fd (cdA K d.at_) := by
  obtain ⟨fd, F⟩ := ob_fun e hc c
  refine ⟨fd, F, ?_⟩
  obtain ⟨oc, od, kV, doc, pm, an, cdv, ct, osl, rfl, lk, hcd⟩ := F.ex
  have ec : cdv = .ref (cdA K d.at_) := by
    unfold cdA
    rw [lk]
    unfold PySem.W.codeIn at hcd
    cases cdv with
    | ref c => rfl
    | _ => cases hcd
  subst ec
  exact ⟨oc, od, kV, doc, pm, an, ct, osl, rfl, lk, hcd⟩
/-- the run's parts, joined -/
theorem run_joinT {σ β : Type} {o : Option σ} {lk : σ → Bool} {se : σ → β} {gd : β} {kf kf2 : σ → PySem.W.Frag} {css : List (List (PySem.W.Frag → Bool))} (h0 : o.map (fun s => (lk s, se s)) = some (true, gd)) (hf : o.map (fun s => fn.map fun d => fnOb (kf s) d.at_) = some (fn.map ObD.val))
    (hc : ∀ c ∈ css, o.map (fun s => c.all fun f => f (kf s)) = some true) (ht : o.map (fun s => ts.all (tabB1 (kf s) (kf2 s))) = some true) : o.map (fun s => (lk s, se s, ((obsP css.flatten fn (kf s), ts.all (tabB1 (kf s) (kf2 s))) : AlT))) = some (true, gd, (valP fn, true)) := by
  have r := run_join h0 hf hc
  cases o with
  | none => cases h0
  | some s =>
    have r' := Option.some.inj r
    have ht' : ts.all (tabB1 (kf s) (kf2 s)) = true := Option.some.inj ht
    have e1 := congrArg Prod.fst r'
    have e2 := congrArg (fun z => z.2.1) r'
    have e3 := congrArg (fun z => z.2.2) r'
    simp only at e1 e2 e3
    show some (lk s, se s, ((obsP css.flatten fn (kf s), ts.all (tabB1 (kf s) (kf2 s))) : AlT)) = _
    rw [e1, e2, e3, ht']
end
/-! ### an own error -/
def oexB (K : PySem.W.Frag) (C : Addr) : Bool := match K.lookup C with
  | some ⟨.type t, _, .cls cd, sl⟩ => decide (t = "type") && (match cd.mro, sl.toList with
    | .ref C' :: bm, [_, _, _, _, some (.builtin n), _] => decide (C' = C) && (decide (n = "ValueError.__new__") && (!cd.hasDel && (cd.hasDict && PySem.HandSPX.refsVE bm)))
    | _, _ => false)
  | _ => false
theorem oexB_ok {K : PySem.W.Frag} {C : Addr} (h : oexB K C = true) : ∃ nm q N bs bm sn sub ab col dd k0 k1 k2 k3 k5, K.lookup C = some (excClassObj nm q C N bs bm true sn sub ab col dd k0 k1 k2 k3 k5 "ValueError.__new__") ∧ PySem.HandSPX.refsVE bm = true := by
  unfold oexB at h
  cases q : K.lookup C with
  | none => rw [q] at h; cases h
  | some o =>
    obtain ⟨oc, od, dt, osl⟩ := o
    rw [q] at h
    cases oc with
    | type t =>
      cases dt with
      | cls cd =>
        obtain ⟨h1, h2⟩ := Bool.and_eq_true_iff.mp (show (decide (t = "type") && _) = true from h)
        have h1' : t = "type" := of_decide_eq_true h1
        subst h1'
        obtain ⟨nm, bs, mro, ns, qn, hd, sn, sub, ab, col, del⟩ := cd
        obtain ⟨sl⟩ := osl
        dsimp only at h2
        split at h2
        · rename_i C' bm k0 k1 k2 k3 n k5
          obtain ⟨g1, h2⟩ := Bool.and_eq_true_iff.mp h2
          obtain ⟨g2, h2⟩ := Bool.and_eq_true_iff.mp h2
          obtain ⟨g3, h2⟩ := Bool.and_eq_true_iff.mp h2
          obtain ⟨g4, g5⟩ := Bool.and_eq_true_iff.mp h2
          have g1' : C' = C := of_decide_eq_true g1
          have g2' : n = "ValueError.__new__" := of_decide_eq_true g2
          subst g1' g2'
          have g3' : del = false := by simpa using g3
          have g4' : hd = true := g4
          subst g3' g4'
          exact ⟨_, _, _, _, _, _, _, _, _, _, _, _, _, _, _, rfl, g5⟩
        · cases h2
      | _ => cases h
    | _ => cases dt <;> cases h
theorem fnOk_or {P : Program} {w : World} {K : PySem.W.Frag} {mg : Str → Option Value} {base : Heap} {CX : CXT} {k : Nat} {f : Addr} {fd : FuncData} {ps : List Str} {sp sp' : Sp} (F : FnOk P w K mg base CX k f fd ps sp) (F' : FnOk P w K mg base CX k f fd ps sp') :
    FnOk P w K mg base CX k f fd ps (fun vs H Q E => sp vs H Q E ∨ sp' vs H Q E) :=
  ⟨fun vs H Q E h => h.elim (F.len vs H Q E) (F'.len vs H Q E), fun A outer s H args us vs Q E hr e0 hb hv h => h.elim (fun h => F.run A outer s H args us vs Q E hr e0 hb hv h) (fun h => F'.run A outer s H args us vs Q E hr e0 hb hv h)⟩
theorem fnOk_lift {P : Program} {w : World} {K : PySem.W.Frag} {mg : Str → Option Value} {base : Heap} {k : Nat} {f : Addr} {fd : FuncData} {ps : List Str} {sp : Sp} (F : FnOk P w K mg base CX0 k f fd ps sp) : FnOk P w K mg base (L2.CX P w) k f fd ps sp :=
  ⟨F.len, fun A outer s H args us vs Q E hr e0 hb hv h => codeAny_mono (F.run A outer s H args us vs Q E hr e0 hb hv h) fun r s' hq => by
    cases r with
    | error e => exact False.elim hq
    | ok fl => cases fl <;> exact hq⟩
/-- all but the tables -/
def nt (H : Hp) : Hp := fun b => match H b with
  | some (.tbl _) => none
  | o => o
theorem nt_at {H : Hp} {a : Addr} {o : HO} (h : H a = some o) (n : ∀ ps, o ≠ .tbl ps) : nt H a = some o := by
  unfold nt
  rw [h]
  cases o <;> first | rfl | exact absurd rfl (n _)
theorem nt_sub {H : Hp} {a : Addr} {o : HO} (h : nt H a = some o) : H a = some o ∧ ∀ ps, o ≠ .tbl ps := by
  unfold nt at h
  cases e : H a with
  | none => rw [e] at h; cases h
  | some u =>
    rw [e] at h
    cases u <;> first | (cases h; exact ⟨rfl, fun ps z => nomatch z⟩) | cases h
theorem nt_same {H H1 : Hp} (e : ExtN H H1) : Same (nt H) H1 := fun b o h => e b o (nt_sub h).1 (nt_sub h).2
theorem nt_mono {H H1 : Hp} (s : Same H H1) : Same (nt H) (nt H1) := fun b o h => nt_at (s b o (nt_sub h).1) (nt_sub h).2
theorem nt_le {H : Hp} : Same (nt H) H := fun b o h => (nt_sub h).1
theorem Ty.nt {H : Hp} {v : V} {t : String} (h : Pl.Ty H v t) : Pl.Ty (Pl.nt H) v t := by
  cases h with
  | non => exact .non
  | bl b => exact .bl b
  | int i => exact .int i
  | str x => exact .str x
  | lst h => exact .lst (nt_at h fun _ z => nomatch z)
  | tup h => exact .tup (nt_at h fun _ z => nomatch z)
/-- the box stands, the table is empty -/
theorem Wd.beginT {b c Pt : Addr} {H H1 : Hp} (hP : H Pt = some (.tbl #[])) (hb : H b = none) (hc : H c = none) (s : Same H H1) (bx : BoxAt b c H1) : ∃ G, Wd b c G H1 ∧ G Pt = some (.tbl #[]) := by
  refine ⟨fun a => if a = Pt then some (.tbl #[]) else none, ⟨bx, fun y o e => ?_, if_neg fun z => ?_, if_neg fun z => ?_⟩, if_pos rfl⟩
  · by_cases hy : y = Pt
    · rw [if_pos hy] at e
      cases e
      rw [hy]
      exact s _ _ hP
    · rw [if_neg hy] at e
      cases e
  · rw [z, hP] at hb; cases hb
  · rw [z, hP] at hc; cases hc
structure ErrC (K : PySem.W.Frag) (C fI : Addr) (f : Str) : Prop where
  x : OexC K C
  i : PySem.W.findIn K (.ref C) "__init__" = some (some (.ref fI))
  t : PySem.W.typeIn K (.ref fI) = some (.type "function")
  no : PySem.W.findIn K (.ref C) f = some none
  xf : XfC K C
structure LamD (K : PySem.W.Frag) (a : Str × Option Str) (x qual : Str) (st : Stmt) (f : Addr) (fd : FuncData) where
  c : Addr
  P : Addr
  ec : c = cdA K a
  eP : P = cdP K a
  F : FunC K x qual st f fd c
/-- the statement that calls what was handed in -/
theorem pss_act {X : Cx} {f c' : Addr} {q a : Str} {tl : XK → Hp → VK → Prop} {p1 p2 pos : Pos} {W : WX}
    (act : ∀ (E : XK) (p1 p2 : Pos), (∀ cls d σ' H', E cls d H' → W cls d σ' H') → PE X (.Call (.Name a p1) [] [] p2) (fun σZ HZ Q => σZ[0]? = some (some (.ref f)) ∧ HZ c' = some (CodeO c' q) ∧ tl E HZ Q)) :
    PSs X [.Expr (.Call (.Name a p1) [] [] p2) pos] (fun D σ H => ∃ Ech : XK, (∀ cls d σ' H', Ech cls d H' → W cls d σ' H') ∧ σ[0]? = some (some (.ref f)) ∧ H c' = some (CodeO c' q) ∧ tl Ech H (fun _ H' => D.nx σ H')) := by
  refine ⟨fun pins s σ H D I h => ?_⟩
  obtain ⟨Ech, hW, h1, h2, h3⟩ := h
  exact (pss_one (ps_expr (act Ech p1 p2 hW))).run pins s σ H D I ⟨h1, h2, h3⟩
/-- an own error without an __init__ of its own -/
structure Er0C (K : PySem.W.Frag) (C : Addr) : Prop where
  q : PySem.W.excIn K C PySem.HandSPX.veTail "ValueError.__new__" = true
  k : PySem.W.keepIn K (.ref C) = true
  e : PySem.W.subIn K (.ref C) (.type "BaseException") = some true
  t : PySem.W.typeIn K (.ref C) = some (.type "type")
/-- X(), X such an error -/
theorem pmk_own0 {X : Cx} {C : Addr} {x : Str} {p pos : Pos} (T : Er0C X.K C) (hg : Gl X x) (gC : X.mg x = some (.ref C)) (hdb : (x == ("__debug__" : Str)) = false := by decide) :
    PMk X (.Call (.Name x p) [] [] pos) (fun _ H Q => Q (.ref C) none H) := by
  intro pins s σ H Q I h
  refine wpAny_Call_Name_kw (ld_glob I hg gC ?_ hdb)
  refine PySem.W.callWith_K0 I.kIn T.k ?_
  show wpAny _ _ (call (.ref C) []) _ _ _
  obtain ⟨bm, N, nm, qn, bs, hdct, sn, sub, ab, col, dd, k0, k1, k2, k3, k5, mN, hC, hN, hni, TT⟩ := exc_obj I.kIn T.q
  refine wpAny_call_exc_subT PySem.F.excBase_ValueError TT hC hN hni (fun h' e hm => ?_) (Nat.zero_le _)
  exact mk_of I hm (raises_own T.e T.t) h (I.hok.gone hm.new)
end Pl

namespace Pl
open PySem L2
def topS (i : Nat) : Stmt := PySem.Challenge.pw_pastlooks_k12_streams_with_limits.main.body.getD i (.Pass ⟨0, 0, 0, 0⟩)
abbrev s_BadBound_init : Stmt := inClass (topS 5) 0
abbrev N_BadBound_init : List Str := ["self", "value"]
theorem sc_BadBound_init : FnScope N_BadBound_init ["self", "value"] (defScope s_BadBound_init) := ⟨rfl, rfl, rfl, by decide +kernel, rfl, by decide +kernel, by decide +kernel⟩
abbrev s_is_integer : Stmt := topS 22
abbrev N_is_integer : List Str := ["value"]
theorem sc_is_integer : FnScope N_is_integer ["value"] (defScope s_is_integer) := ⟨rfl, rfl, rfl, by decide +kernel, rfl, by decide +kernel, by decide +kernel⟩
abbrev s_is_from_zero : Stmt := topS 23
abbrev N_is_from_zero : List Str := ["value"]
theorem sc_is_from_zero : FnScope N_is_from_zero ["value"] (defScope s_is_from_zero) := ⟨rfl, rfl, rfl, by decide +kernel, rfl, by decide +kernel, by decide +kernel⟩
abbrev s_is_name : Stmt := topS 24
abbrev N_is_name : List Str := ["name", "letter"]
theorem sc_is_name : FnScope N_is_name ["name"] (defScope s_is_name) := ⟨rfl, rfl, rfl, by decide +kernel, rfl, by decide +kernel, by decide +kernel⟩
abbrev s_check_name : Stmt := topS 25
abbrev N_check_name : List Str := ["name"]
theorem sc_check_name : FnScope N_check_name ["name"] (defScope s_check_name) := ⟨rfl, rfl, rfl, by decide +kernel, rfl, by decide +kernel, by decide +kernel⟩
abbrev s_check_moment : Stmt := topS 26
abbrev N_check_moment : List Str := ["value"]
theorem sc_check_moment : FnScope N_check_moment ["value"] (defScope s_check_moment) := ⟨rfl, rfl, rfl, by decide +kernel, rfl, by decide +kernel, by decide +kernel⟩
abbrev s_check_bound : Stmt := topS 27
abbrev N_check_bound : List Str := ["value"]
theorem sc_check_bound : FnScope N_check_bound ["value"] (defScope s_check_bound) := ⟨rfl, rfl, rfl, by decide +kernel, rfl, by decide +kernel, by decide +kernel⟩
abbrev s_check_limit : Stmt := topS 28
abbrev N_check_limit : List Str := ["value"]
theorem sc_check_limit : FnScope N_check_limit ["value"] (defScope s_check_limit) := ⟨rfl, rfl, rfl, by decide +kernel, rfl, by decide +kernel, by decide +kernel⟩
abbrev s_check_rows : Stmt := topS 29
abbrev N_check_rows : List Str := ["name", "moments", "moment"]
theorem sc_check_rows : FnScope N_check_rows ["name", "moments"] (defScope s_check_rows) := ⟨rfl, rfl, rfl, by decide +kernel, rfl, by decide +kernel, by decide +kernel⟩
abbrev s_limited : Stmt := topS 32
abbrev N_limited : List Str := ["pairs"]
theorem sc_limited : FnScope N_limited ["pairs"] (defScope s_limited) := ⟨rfl, rfl, rfl, by decide +kernel, rfl, by decide +kernel, by decide +kernel⟩
abbrev s_checked_pairs : Stmt := topS 33
abbrev N_checked_pairs : List Str := ["rows", "pairs", "name", "moments", "moment"]
theorem sc_checked_pairs : FnScope N_checked_pairs ["rows"] (defScope s_checked_pairs) := ⟨rfl, rfl, rfl, by decide +kernel, rfl, by decide +kernel, by decide +kernel⟩
abbrev s_World_init : Stmt := inClass (topS 36) 0
abbrev N_World_init : List Str := ["self", "rows"]
theorem sc_World_init : FnScope N_World_init ["self", "rows"] (defScope s_World_init) := ⟨rfl, rfl, rfl, by decide +kernel, rfl, by decide +kernel, by decide +kernel⟩
abbrev s_World_getitem : Stmt := inClass (topS 36) 2
abbrev N_World_getitem : List Str := ["self", "name", "stream", "moment"]
theorem sc_World_getitem : FnScope N_World_getitem ["self", "name"] (defScope s_World_getitem) := ⟨rfl, rfl, rfl, by decide +kernel, rfl, by decide +kernel, by decide +kernel⟩
abbrev s_check_world : Stmt := topS 37
abbrev N_check_world : List Str := ["value"]
theorem sc_check_world : FnScope N_check_world ["value"] (defScope s_check_world) := ⟨rfl, rfl, rfl, by decide +kernel, rfl, by decide +kernel, by decide +kernel⟩
abbrev s_Term_init : Stmt := inClass (topS 43) 0
abbrev N_Term_init : List Str := ["self", "children", "chooses", "child"]
theorem sc_Term_init : FnScope N_Term_init ["self", "children"] (defScope s_Term_init) := ⟨rfl, rfl, rfl, by decide +kernel, rfl, by decide +kernel, by decide +kernel⟩
abbrev s_Term_add : Stmt := inClass (topS 43) 1
abbrev N_Term_add : List Str := ["self", "amount"]
theorem sc_Term_add : FnScope N_Term_add ["self", "amount"] (defScope s_Term_add) := ⟨rfl, rfl, rfl, by decide +kernel, rfl, by decide +kernel, by decide +kernel⟩
abbrev s_Term_sub : Stmt := inClass (topS 43) 2
abbrev N_Term_sub : List Str := ["self", "amount"]
theorem sc_Term_sub : FnScope N_Term_sub ["self", "amount"] (defScope s_Term_sub) := ⟨rfl, rfl, rfl, by decide +kernel, rfl, by decide +kernel, by decide +kernel⟩
abbrev s_Term_or : Stmt := inClass (topS 43) 3
abbrev N_Term_or : List Str := ["self", "other"]
theorem sc_Term_or : FnScope N_Term_or ["self", "other"] (defScope s_Term_or) := ⟨rfl, rfl, rfl, by decide +kernel, rfl, by decide +kernel, by decide +kernel⟩
abbrev s_Term_eq : Stmt := inClass (topS 43) 4
abbrev N_Term_eq : List Str := ["self", "other"]
theorem sc_Term_eq : FnScope N_Term_eq ["self", "other"] (defScope s_Term_eq) := ⟨rfl, rfl, rfl, by decide +kernel, rfl, by decide +kernel, by decide +kernel⟩
abbrev s_Term_call : Stmt := inClass (topS 43) 5
abbrev N_Term_call : List Str := ["self", "world", "now"]
theorem sc_Term_call : FnScope N_Term_call ["self", "world", "now"] (defScope s_Term_call) := ⟨rfl, rfl, rfl, by decide +kernel, rfl, by decide +kernel, by decide +kernel⟩
abbrev s_Term_later : Stmt := inClass (topS 43) 6
abbrev N_Term_later : List Str := ["self", "other"]
theorem sc_Term_later : FnScope N_Term_later ["self", "other"] (defScope s_Term_later) := ⟨rfl, rfl, rfl, by decide +kernel, rfl, by decide +kernel, by decide +kernel⟩
abbrev s_Term_earlier : Stmt := inClass (topS 43) 7
abbrev N_Term_earlier : List Str := ["self", "other"]
theorem sc_Term_earlier : FnScope N_Term_earlier ["self", "other"] (defScope s_Term_earlier) := ⟨rfl, rfl, rfl, by decide +kernel, rfl, by decide +kernel, by decide +kernel⟩
abbrev s_Term_form : Stmt := inClass (topS 43) 15
abbrev N_Term_form : List Str := ["self"]
theorem sc_Term_form : FnScope N_Term_form ["self"] (defScope s_Term_form) := ⟨rfl, rfl, rfl, by decide +kernel, rfl, by decide +kernel, by decide +kernel⟩
abbrev s_Term_answer_in : Stmt := inClass (topS 43) 16
abbrev N_Term_answer_in : List Str := ["self", "world", "now"]
theorem sc_Term_answer_in : FnScope N_Term_answer_in ["self", "world", "now"] (defScope s_Term_answer_in) := ⟨rfl, rfl, rfl, by decide +kernel, rfl, by decide +kernel, by decide +kernel⟩
abbrev s_Now_init : Stmt := inClass (topS 44) 0
abbrev N_Now_init : List Str := ["self", "__class__"]
theorem sc_Now_init : NdefX.NScope N_Now_init ["self"] ["__class__"] (defScope s_Now_init) := NdefX.nscope_by (by decide +kernel)
abbrev s_Shift_init : Stmt := inClass (topS 45) 0
abbrev N_Shift_init : List Str := ["self", "moment", "amount", "__class__"]
theorem sc_Shift_init : NdefX.NScope N_Shift_init ["self", "moment", "amount"] ["__class__"] (defScope s_Shift_init) := NdefX.nscope_by (by decide +kernel)
abbrev s_Shift_form : Stmt := inClass (topS 45) 3
abbrev N_Shift_form : List Str := ["self"]
theorem sc_Shift_form : FnScope N_Shift_form ["self"] (defScope s_Shift_form) := ⟨rfl, rfl, rfl, by decide +kernel, rfl, by decide +kernel, by decide +kernel⟩
abbrev s_Shift_answer_in : Stmt := inClass (topS 45) 4
abbrev N_Shift_answer_in : List Str := ["self", "world", "now", "answer"]
theorem sc_Shift_answer_in : FnScope N_Shift_answer_in ["self", "world", "now"] (defScope s_Shift_answer_in) := ⟨rfl, rfl, rfl, by decide +kernel, rfl, by decide +kernel, by decide +kernel⟩
abbrev s_Look_init : Stmt := inClass (topS 46) 0
abbrev N_Look_init : List Str := ["self", "stream", "moment", "way", "within", "__class__"]
theorem sc_Look_init : NdefX.NScope N_Look_init ["self", "stream", "moment", "way", "within"] ["__class__"] (defScope s_Look_init) := NdefX.nscope_by (by decide +kernel)
abbrev s_Look_form : Stmt := inClass (topS 46) 4
abbrev N_Look_form : List Str := ["self"]
theorem sc_Look_form : FnScope N_Look_form ["self"] (defScope s_Look_form) := ⟨rfl, rfl, rfl, by decide +kernel, rfl, by decide +kernel, by decide +kernel⟩
abbrev s_Look_answer_in : Stmt := inClass (topS 46) 5
abbrev N_Look_answer_in : List Str := ["self", "world", "now", "moment"]
theorem sc_Look_answer_in : FnScope N_Look_answer_in ["self", "world", "now"] (defScope s_Look_answer_in) := ⟨rfl, rfl, rfl, by decide +kernel, rfl, by decide +kernel, by decide +kernel⟩
abbrev s_Pair_init : Stmt := inClass (topS 47) 0
abbrev N_Pair_init : List Str := ["self", "first", "second", "__class__"]
theorem sc_Pair_init : NdefX.NScope N_Pair_init ["self", "first", "second"] ["__class__"] (defScope s_Pair_init) := NdefX.nscope_by (by decide +kernel)
abbrev s_Either_form : Stmt := inClass (topS 48) 1
abbrev N_Either_form : List Str := ["self"]
theorem sc_Either_form : FnScope N_Either_form ["self"] (defScope s_Either_form) := ⟨rfl, rfl, rfl, by decide +kernel, rfl, by decide +kernel, by decide +kernel⟩
abbrev s_Either_answer_in : Stmt := inClass (topS 48) 2
abbrev N_Either_answer_in : List Str := ["self", "world", "now", "answer"]
theorem sc_Either_answer_in : FnScope N_Either_answer_in ["self", "world", "now"] (defScope s_Either_answer_in) := ⟨rfl, rfl, rfl, by decide +kernel, rfl, by decide +kernel, by decide +kernel⟩
abbrev s_Later_form : Stmt := inClass (topS 49) 1
abbrev N_Later_form : List Str := ["self"]
theorem sc_Later_form : FnScope N_Later_form ["self"] (defScope s_Later_form) := ⟨rfl, rfl, rfl, by decide +kernel, rfl, by decide +kernel, by decide +kernel⟩
abbrev s_Later_answer_in : Stmt := inClass (topS 49) 2
abbrev N_Later_answer_in : List Str := ["self", "world", "now", "answer", "other"]
theorem sc_Later_answer_in : FnScope N_Later_answer_in ["self", "world", "now"] (defScope s_Later_answer_in) := ⟨rfl, rfl, rfl, by decide +kernel, rfl, by decide +kernel, by decide +kernel⟩
abbrev s_Earlier_form : Stmt := inClass (topS 50) 1
abbrev N_Earlier_form : List Str := ["self"]
theorem sc_Earlier_form : FnScope N_Earlier_form ["self"] (defScope s_Earlier_form) := ⟨rfl, rfl, rfl, by decide +kernel, rfl, by decide +kernel, by decide +kernel⟩
abbrev s_Earlier_answer_in : Stmt := inClass (topS 50) 2
abbrev N_Earlier_answer_in : List Str := ["self", "world", "now", "answer", "other"]
theorem sc_Earlier_answer_in : FnScope N_Earlier_answer_in ["self", "world", "now"] (defScope s_Earlier_answer_in) := ⟨rfl, rfl, rfl, by decide +kernel, rfl, by decide +kernel, by decide +kernel⟩
abbrev s_Stream_init : Stmt := inClass (topS 51) 0
abbrev N_Stream_init : List Str := ["self", "name", "limit"]
theorem sc_Stream_init : FnScope N_Stream_init ["self", "name", "limit"] (defScope s_Stream_init) := ⟨rfl, rfl, rfl, by decide +kernel, rfl, by decide +kernel, by decide +kernel⟩
abbrev s_Stream_limitGet : Stmt := inClass (topS 51) 1
abbrev N_Stream_limitGet : List Str := ["self"]
theorem sc_Stream_limitGet : FnScope N_Stream_limitGet ["self"] (defScope s_Stream_limitGet) := ⟨rfl, rfl, rfl, by decide +kernel, rfl, by decide +kernel, by decide +kernel⟩
abbrev s_Stream_limit : Stmt := inClass (topS 51) 2
abbrev N_Stream_limit : List Str := ["self", "value"]
theorem sc_Stream_limit : FnScope N_Stream_limit ["self", "value"] (defScope s_Stream_limit) := ⟨rfl, rfl, rfl, by decide +kernel, rfl, by decide +kernel, by decide +kernel⟩
abbrev s_Stream_limit_to : Stmt := inClass (topS 51) 3
abbrev N_Stream_limit_to : List Str := ["self", "value"]
theorem sc_Stream_limit_to : FnScope N_Stream_limit_to ["self", "value"] (defScope s_Stream_limit_to) := ⟨rfl, rfl, rfl, by decide +kernel, rfl, by decide +kernel, by decide +kernel⟩
abbrev s_Stream_at : Stmt := inClass (topS 51) 4
abbrev N_Stream_at : List Str := ["self", "moment"]
theorem sc_Stream_at : FnScope N_Stream_at ["self", "moment"] (defScope s_Stream_at) := ⟨rfl, rfl, rfl, by decide +kernel, rfl, by decide +kernel, by decide +kernel⟩
abbrev s_Stream_before : Stmt := inClass (topS 51) 5
abbrev N_Stream_before : List Str := ["self", "moment"]
theorem sc_Stream_before : FnScope N_Stream_before ["self", "moment"] (defScope s_Stream_before) := ⟨rfl, rfl, rfl, by decide +kernel, rfl, by decide +kernel, by decide +kernel⟩
abbrev s_Stream_since : Stmt := inClass (topS 51) 6
abbrev N_Stream_since : List Str := ["self", "moment"]
theorem sc_Stream_since : FnScope N_Stream_since ["self", "moment"] (defScope s_Stream_since) := ⟨rfl, rfl, rfl, by decide +kernel, rfl, by decide +kernel, by decide +kernel⟩
abbrev s_Stream_after : Stmt := inClass (topS 51) 7
abbrev N_Stream_after : List Str := ["self", "moment"]
theorem sc_Stream_after : FnScope N_Stream_after ["self", "moment"] (defScope s_Stream_after) := ⟨rfl, rfl, rfl, by decide +kernel, rfl, by decide +kernel, by decide +kernel⟩
abbrev s_shifted : Stmt := topS 52
abbrev N_shifted : List Str := ["term", "amount"]
theorem sc_shifted : FnScope N_shifted ["term", "amount"] (defScope s_shifted) := ⟨rfl, rfl, rfl, by decide +kernel, rfl, by decide +kernel, by decide +kernel⟩
abbrev s_fits : Stmt := topS 53
abbrev N_fits : List Str := ["row", "moment", "way"]
theorem sc_fits : FnScope N_fits ["row", "moment", "way"] (defScope s_fits) := ⟨rfl, rfl, rfl, by decide +kernel, rfl, by decide +kernel, by decide +kernel⟩
abbrev s_looked_up : Stmt := topS 54
abbrev N_looked_up : List Str := ["moments", "moment", "way", "within", "found", "row"]
theorem sc_looked_up : FnScope N_looked_up ["moments", "moment", "way", "within"] (defScope s_looked_up) := ⟨rfl, rfl, rfl, by decide +kernel, rfl, by decide +kernel, by decide +kernel⟩
abbrev s_check_term : Stmt := topS 55
abbrev N_check_term : List Str := ["value"]
theorem sc_check_term : FnScope N_check_term ["value"] (defScope s_check_term) := ⟨rfl, rfl, rfl, by decide +kernel, rfl, by decide +kernel, by decide +kernel⟩
abbrev s_law_open : Stmt := topS 57
abbrev N_law_open : List Str := ["_law_script", "_law_cells"]
theorem sc_law_open : FnScope N_law_open ["_law_script"] (defScope s_law_open) := ⟨rfl, rfl, rfl, by decide +kernel, rfl, by decide +kernel, by decide +kernel⟩
abbrev s_law_pick : Stmt := topS 58
abbrev N_law_pick : List Str := ["_law_box", "_law_many", "_law_cells", "_law_k", "_law_at", "_law_cell", "_law_number_here"]
theorem sc_law_pick : FnScope N_law_pick ["_law_box", "_law_many"] (defScope s_law_pick) := ⟨rfl, rfl, rfl, by decide +kernel, rfl, by decide +kernel, by decide +kernel⟩
abbrev s_law_number : Stmt := topS 59
abbrev N_law_number : List Str := ["_law_box", "_law_kind"]
theorem sc_law_number : FnScope N_law_number ["_law_box"] (defScope s_law_number) := ⟨rfl, rfl, rfl, by decide +kernel, rfl, by decide +kernel, by decide +kernel⟩
abbrev s_law_limit : Stmt := topS 60
abbrev N_law_limit : List Str := ["_law_box", "_law_kind"]
theorem sc_law_limit : FnScope N_law_limit ["_law_box"] (defScope s_law_limit) := ⟨rfl, rfl, rfl, by decide +kernel, rfl, by decide +kernel, by decide +kernel⟩
abbrev s_law_names : Stmt := topS 61
abbrev N_law_names : List Str := ["_law_box", "_law_many", "_law_letters", "_law_names_here", "_law_k", "_law_name", "_law_j", "_law_word"]
theorem sc_law_names : FnScope N_law_names ["_law_box", "_law_many"] (defScope s_law_names) := ⟨rfl, rfl, rfl, by decide +kernel, rfl, by decide +kernel, by decide +kernel⟩
abbrev s_law_shift : Stmt := topS 62
abbrev N_law_shift : List Str := ["_law_tree_here", "_law_amount"]
theorem sc_law_shift : FnScope N_law_shift ["_law_tree_here", "_law_amount"] (defScope s_law_shift) := ⟨rfl, rfl, rfl, by decide +kernel, rfl, by decide +kernel, by decide +kernel⟩
abbrev s_law_tree : Stmt := topS 63
abbrev N_law_tree : List Str := ["_law_box", "_law_names_here", "_law_looks", "_law_joins", "_law_kind", "_law_left", "_law_inner", "_law_one", "_law_other", "_law_inside", "_law_name", "_law_way", "_law_far"]
theorem sc_law_tree : FnScope N_law_tree ["_law_box", "_law_names_here", "_law_looks", "_law_joins"] (defScope s_law_tree) := ⟨rfl, rfl, rfl, by decide +kernel, rfl, by decide +kernel, by decide +kernel⟩
abbrev s_law_term : Stmt := topS 64
abbrev N_law_term : List Str := ["_law_tree_here", "_law_one", "_law_other"]
theorem sc_law_term : FnScope N_law_term ["_law_tree_here"] (defScope s_law_term) := ⟨rfl, rfl, rfl, by decide +kernel, rfl, by decide +kernel, by decide +kernel⟩
abbrev s_law_is_integer : Stmt := topS 65
abbrev N_law_is_integer : List Str := ["_law_thing"]
theorem sc_law_is_integer : FnScope N_law_is_integer ["_law_thing"] (defScope s_law_is_integer) := ⟨rfl, rfl, rfl, by decide +kernel, rfl, by decide +kernel, by decide +kernel⟩
abbrev s_law_answer : Stmt := topS 66
abbrev N_law_answer : List Str := ["_law_thing", "_law_due"]
theorem sc_law_answer : FnScope N_law_answer ["_law_thing", "_law_due"] (defScope s_law_answer) := ⟨rfl, rfl, rfl, by decide +kernel, rfl, by decide +kernel, by decide +kernel⟩
abbrev s_law_refusal : Stmt := topS 67
abbrev N_law_refusal : List Str := ["_law_deed", "_law_found", "e"]
theorem sc_law_refusal : FnScope N_law_refusal ["_law_deed"] (defScope s_law_refusal) := ⟨rfl, rfl, rfl, by decide +kernel, rfl, by decide +kernel, by decide +kernel⟩
abbrev s_law_equal : Stmt := topS 68
abbrev N_law_equal : List Str := ["_law_one", "_law_other", "_law_nested", "_law_k"]
theorem sc_law_equal : FnScope N_law_equal ["_law_one", "_law_other"] (defScope s_law_equal) := ⟨rfl, rfl, rfl, by decide +kernel, rfl, by decide +kernel, by decide +kernel⟩
abbrev s_law_made : Stmt := topS 69
abbrev N_law_made : List Str := ["_law_stream", "_law_way", "_law_moment"]
theorem sc_law_made : FnScope N_law_made ["_law_stream", "_law_way", "_law_moment"] (defScope s_law_made) := ⟨rfl, rfl, rfl, by decide +kernel, rfl, by decide +kernel, by decide +kernel⟩
abbrev s_law_is_look : Stmt := topS 70
abbrev N_law_is_look : List Str := ["_law_look", "_law_due", "_law_moment"]
theorem sc_law_is_look : FnScope N_law_is_look ["_law_look", "_law_due", "_law_moment"] (defScope s_law_is_look) := ⟨rfl, rfl, rfl, by decide +kernel, rfl, by decide +kernel, by decide +kernel⟩
abbrev s_law : Stmt := topS 71
abbrev N_law : List Str := ["_law_script", "_law_box", "_law_names_here", "_law_limits", "_law_streams", "_law_moment", "_law_looks", "_law_k", "_law_entry", "_law_at", "_law_kind", "_law_i", "_law_value", "_law_way", "_law_look"]
theorem sc_law : FnScope N_law ["_law_script"] (defScope s_law) := ⟨rfl, rfl, rfl, by decide +kernel, rfl, by decide +kernel, by decide +kernel⟩
structure Df (K : PySem.W.Frag) (mg : Str → Option Value) (x : Str) (st : Stmt) (ps : List Str) where
  f : Addr
  fd : FuncData
  F : Fun K x x st f fd
  b : Binds K fd ps []
  g : mg x = some (.ref f)
abbrev fileS : Str := PySem.Challenge.pw_pastlooks_k12_streams_with_limits.main.file
structure Txt (P : Program) (K : PySem.W.Frag) (mg : Str → Option Value) where
  c_BadName : Addr
  g_BadName : mg "BadName" = some (.ref c_BadName)
  c_BadMoment : Addr
  g_BadMoment : mg "BadMoment" = some (.ref c_BadMoment)
  c_BadBound : Addr
  g_BadBound : mg "BadBound" = some (.ref c_BadBound)
  c_BadTerm : Addr
  g_BadTerm : mg "BadTerm" = some (.ref c_BadTerm)
  c_BadWay : Addr
  g_BadWay : mg "BadWay" = some (.ref c_BadWay)
  c_BadPath : Addr
  g_BadPath : mg "BadPath" = some (.ref c_BadPath)
  c_BadWorld : Addr
  g_BadWorld : mg "BadWorld" = some (.ref c_BadWorld)
  c_BadRows : Addr
  g_BadRows : mg "BadRows" = some (.ref c_BadRows)
  c_BadFact : Addr
  g_BadFact : mg "BadFact" = some (.ref c_BadFact)
  c_BadText : Addr
  g_BadText : mg "BadText" = some (.ref c_BadText)
  c_Unknown : Addr
  g_Unknown : mg "Unknown" = some (.ref c_Unknown)
  c_TooMany : Addr
  g_TooMany : mg "TooMany" = some (.ref c_TooMany)
  c_Unlike : Addr
  g_Unlike : mg "Unlike" = some (.ref c_Unlike)
  c_NotCovered : Addr
  g_NotCovered : mg "NotCovered" = some (.ref c_NotCovered)
  c_NotMost : Addr
  g_NotMost : mg "NotMost" = some (.ref c_NotMost)
  c_NotSettled : Addr
  g_NotSettled : mg "NotSettled" = some (.ref c_NotSettled)
  c_World : Addr
  g_World : mg "World" = some (.ref c_World)
  c_Term : Addr
  g_Term : mg "Term" = some (.ref c_Term)
  c_Now : Addr
  g_Now : mg "Now" = some (.ref c_Now)
  c_Shift : Addr
  g_Shift : mg "Shift" = some (.ref c_Shift)
  c_Look : Addr
  g_Look : mg "Look" = some (.ref c_Look)
  c_Pair : Addr
  g_Pair : mg "Pair" = some (.ref c_Pair)
  c_Either : Addr
  g_Either : mg "Either" = some (.ref c_Either)
  c_Later : Addr
  g_Later : mg "Later" = some (.ref c_Later)
  c_Earlier : Addr
  g_Earlier : mg "Earlier" = some (.ref c_Earlier)
  c_Stream : Addr
  g_Stream : mg "Stream" = some (.ref c_Stream)
  a_WAYS : Addr
  k_WAYS : mg "WAYS" = some (.ref a_WAYS)
  t_WAYS : ∀ H : Hp, SqT K H a_WAYS [.str "at", .str "before", .str "since", .str "after"]
  u_DEEPEST : Tok
  k_DEEPEST : mg "DEEPEST" = some (.int 12 u_DEEPEST)
  u_LETTERS : Tok
  k_LETTERS : mg "LETTERS" = some (.str "abcdefghijklmnopqrstuvwxyz" u_LETTERS)
  u_MOST_LOOKS : Tok
  k_MOST_LOOKS : mg "MOST_LOOKS" = some (.int 12 u_MOST_LOOKS)
  u_MOST_PARTS : Tok
  k_MOST_PARTS : mg "MOST_PARTS" = some (.int 40 u_MOST_PARTS)
  u_MOST_ROWS : Tok
  k_MOST_ROWS : mg "MOST_ROWS" = some (.int 300 u_MOST_ROWS)
  is_integer : Df K mg "is_integer" s_is_integer ["value"]
  is_from_zero : Df K mg "is_from_zero" s_is_from_zero ["value"]
  is_name : Df K mg "is_name" s_is_name ["name"]
  check_name : Df K mg "check_name" s_check_name ["name"]
  check_moment : Df K mg "check_moment" s_check_moment ["value"]
  check_bound : Df K mg "check_bound" s_check_bound ["value"]
  check_limit : Df K mg "check_limit" s_check_limit ["value"]
  check_rows : Df K mg "check_rows" s_check_rows ["name", "moments"]
  limited : Df K mg "limited" s_limited ["pairs"]
  checked_pairs : Df K mg "checked_pairs" s_checked_pairs ["rows"]
  check_world : Df K mg "check_world" s_check_world ["value"]
  shifted : Df K mg "shifted" s_shifted ["term", "amount"]
  fits : Df K mg "fits" s_fits ["row", "moment", "way"]
  looked_up : Df K mg "looked_up" s_looked_up ["moments", "moment", "way", "within"]
  check_term : Df K mg "check_term" s_check_term ["value"]
  law_open : Df K mg "_law_open" s_law_open ["_law_script"]
  law_pick : Df K mg "_law_pick" s_law_pick ["_law_box", "_law_many"]
  law_number : Df K mg "_law_number" s_law_number ["_law_box"]
  law_limit : Df K mg "_law_limit" s_law_limit ["_law_box"]
  law_names : Df K mg "_law_names" s_law_names ["_law_box", "_law_many"]
  law_shift : Df K mg "_law_shift" s_law_shift ["_law_tree_here", "_law_amount"]
  law_tree : Df K mg "_law_tree" s_law_tree ["_law_box", "_law_names_here", "_law_looks", "_law_joins"]
  law_term : Df K mg "_law_term" s_law_term ["_law_tree_here"]
  law_is_integer : Df K mg "_law_is_integer" s_law_is_integer ["_law_thing"]
  law_answer : Df K mg "_law_answer" s_law_answer ["_law_thing", "_law_due"]
  law_refusal : Df K mg "_law_refusal" s_law_refusal ["_law_deed"]
  law_equal : Df K mg "_law_equal" s_law_equal ["_law_one", "_law_other"]
  law_made : Df K mg "_law_made" s_law_made ["_law_stream", "_law_way", "_law_moment"]
  law_is_look : Df K mg "_law_is_look" s_law_is_look ["_law_look", "_law_due", "_law_moment"]
  law : Df K mg "law" s_law ["_law_script"]
  BadBound_init : Md K "__init__" "BadBound.__init__" s_BadBound_init ["self", "value"]
  World_init : MdD K "__init__" "World.__init__" s_World_init ["self", "rows"]
  World_getitem : Md K "__getitem__" "World.__getitem__" s_World_getitem ["self", "name"]
  Term_init : MdF K "__init__" "Term.__init__" s_Term_init
  Term_add : Md K "__add__" "Term.__add__" s_Term_add ["self", "amount"]
  Term_sub : Md K "__sub__" "Term.__sub__" s_Term_sub ["self", "amount"]
  Term_or : Md K "__or__" "Term.__or__" s_Term_or ["self", "other"]
  Term_eq : Md K "__eq__" "Term.__eq__" s_Term_eq ["self", "other"]
  Term_call : Md K "__call__" "Term.__call__" s_Term_call ["self", "world", "now"]
  Term_later : Md K "later" "Term.later" s_Term_later ["self", "other"]
  Term_earlier : Md K "earlier" "Term.earlier" s_Term_earlier ["self", "other"]
  Term_form : Md K "form" "Term.form" s_Term_form ["self"]
  Term_answer_in : Md K "answer_in" "Term.answer_in" s_Term_answer_in ["self", "world", "now"]
  Now_init : MdS P K "__init__" "Now.__init__" s_Now_init c_Now Term_init.f
  Shift_init : MdS P K "__init__" "Shift.__init__" s_Shift_init c_Shift Term_init.f
  Shift_form : Md K "form" "Shift.form" s_Shift_form ["self"]
  Shift_answer_in : Md K "answer_in" "Shift.answer_in" s_Shift_answer_in ["self", "world", "now"]
  Look_init : MdS P K "__init__" "Look.__init__" s_Look_init c_Look Term_init.f
  Look_form : Md K "form" "Look.form" s_Look_form ["self"]
  Look_answer_in : Md K "answer_in" "Look.answer_in" s_Look_answer_in ["self", "world", "now"]
  Pair_init : MdS P K "__init__" "Pair.__init__" s_Pair_init c_Pair Term_init.f
  Either_form : Md K "form" "Either.form" s_Either_form ["self"]
  Either_answer_in : Md K "answer_in" "Either.answer_in" s_Either_answer_in ["self", "world", "now"]
  Later_form : Md K "form" "Later.form" s_Later_form ["self"]
  Later_answer_in : Md K "answer_in" "Later.answer_in" s_Later_answer_in ["self", "world", "now"]
  Earlier_form : Md K "form" "Earlier.form" s_Earlier_form ["self"]
  Earlier_answer_in : Md K "answer_in" "Earlier.answer_in" s_Earlier_answer_in ["self", "world", "now"]
  Stream_init : MdKd K "__init__" "Stream.__init__" s_Stream_init ["self", "name", "limit"] [V.non]
  Stream_limitGet : Md K "limit" "Stream.limit" s_Stream_limitGet ["self"]
  Stream_limit : Md K "limit" "Stream.limit" s_Stream_limit ["self", "value"]
  Stream_limit_to : Md K "limit_to" "Stream.limit_to" s_Stream_limit_to ["self", "value"]
  Stream_at : Md K "at" "Stream.at" s_Stream_at ["self", "moment"]
  Stream_before : Md K "before" "Stream.before" s_Stream_before ["self", "moment"]
  Stream_since : Md K "since" "Stream.since" s_Stream_since ["self", "moment"]
  Stream_after : Md K "after" "Stream.after" s_Stream_after ["self", "moment"]
  o_Earlier : OCls K c_Earlier
  o_Either : OCls K c_Either
  o_Later : OCls K c_Later
  o_Look : OCls K c_Look
  o_Now : OCls K c_Now
  o_Shift : OCls K c_Shift
  o_Stream : OCls K c_Stream
  o_World : OCls K c_World
  mk_Earlier : Mk K c_Earlier Pair_init.f
  mk_Either : Mk K c_Either Pair_init.f
  mk_Later : Mk K c_Later Pair_init.f
  mk_Look : Mk K c_Look Look_init.f
  mk_Now : Mk K c_Now Now_init.f
  mk_Shift : Mk K c_Shift Shift_init.f
  mk_Stream : Mk K c_Stream Stream_init.f
  m_Earlier_answer_in : Meth K c_Earlier "answer_in" Earlier_answer_in.f
  m_Earlier_earlier : Meth K c_Earlier "earlier" Term_earlier.f
  m_Earlier_form : Meth K c_Earlier "form" Earlier_form.f
  m_Earlier_later : Meth K c_Earlier "later" Term_later.f
  m_Either_answer_in : Meth K c_Either "answer_in" Either_answer_in.f
  m_Either_earlier : Meth K c_Either "earlier" Term_earlier.f
  m_Either_form : Meth K c_Either "form" Either_form.f
  m_Either_later : Meth K c_Either "later" Term_later.f
  m_Later_answer_in : Meth K c_Later "answer_in" Later_answer_in.f
  m_Later_earlier : Meth K c_Later "earlier" Term_earlier.f
  m_Later_form : Meth K c_Later "form" Later_form.f
  m_Later_later : Meth K c_Later "later" Term_later.f
  m_Look_answer_in : Meth K c_Look "answer_in" Look_answer_in.f
  m_Look_earlier : Meth K c_Look "earlier" Term_earlier.f
  m_Look_form : Meth K c_Look "form" Look_form.f
  m_Look_later : Meth K c_Look "later" Term_later.f
  m_Now_answer_in : Meth K c_Now "answer_in" Term_answer_in.f
  m_Now_earlier : Meth K c_Now "earlier" Term_earlier.f
  m_Now_form : Meth K c_Now "form" Term_form.f
  m_Now_later : Meth K c_Now "later" Term_later.f
  m_Shift_answer_in : Meth K c_Shift "answer_in" Shift_answer_in.f
  m_Shift_earlier : Meth K c_Shift "earlier" Term_earlier.f
  m_Shift_form : Meth K c_Shift "form" Shift_form.f
  m_Shift_later : Meth K c_Shift "later" Term_later.f
  m_Stream_after : Meth K c_Stream "after" Stream_after.f
  m_Stream_at : Meth K c_Stream "at" Stream_at.f
  m_Stream_before : Meth K c_Stream "before" Stream_before.f
  m_Stream_limit_to : Meth K c_Stream "limit_to" Stream_limit_to.f
  m_Stream_since : Meth K c_Stream "since" Stream_since.f
  n_Earlier_choices : NoAttr K c_Earlier "choices"
  n_Earlier_depth : NoAttr K c_Earlier "depth"
  n_Earlier_first : NoAttr K c_Earlier "first"
  n_Earlier_looks : NoAttr K c_Earlier "looks"
  n_Earlier_parts : NoAttr K c_Earlier "parts"
  n_Earlier_second : NoAttr K c_Earlier "second"
  n_Either_choices : NoAttr K c_Either "choices"
  n_Either_depth : NoAttr K c_Either "depth"
  n_Either_first : NoAttr K c_Either "first"
  n_Either_looks : NoAttr K c_Either "looks"
  n_Either_parts : NoAttr K c_Either "parts"
  n_Either_second : NoAttr K c_Either "second"
  n_Later_choices : NoAttr K c_Later "choices"
  n_Later_depth : NoAttr K c_Later "depth"
  n_Later_first : NoAttr K c_Later "first"
  n_Later_looks : NoAttr K c_Later "looks"
  n_Later_parts : NoAttr K c_Later "parts"
  n_Later_second : NoAttr K c_Later "second"
  n_Look_choices : NoAttr K c_Look "choices"
  n_Look_depth : NoAttr K c_Look "depth"
  n_Look_looks : NoAttr K c_Look "looks"
  n_Look_moment : NoAttr K c_Look "moment"
  n_Look_parts : NoAttr K c_Look "parts"
  n_Look_stream : NoAttr K c_Look "stream"
  n_Look_way : NoAttr K c_Look "way"
  n_Look_within : NoAttr K c_Look "within"
  n_Now_choices : NoAttr K c_Now "choices"
  n_Now_depth : NoAttr K c_Now "depth"
  n_Now_looks : NoAttr K c_Now "looks"
  n_Now_parts : NoAttr K c_Now "parts"
  n_Shift_amount : NoAttr K c_Shift "amount"
  n_Shift_choices : NoAttr K c_Shift "choices"
  n_Shift_depth : NoAttr K c_Shift "depth"
  n_Shift_looks : NoAttr K c_Shift "looks"
  n_Shift_moment : NoAttr K c_Shift "moment"
  n_Shift_parts : NoAttr K c_Shift "parts"
  n_Stream_farthest : NoAttr K c_Stream "farthest"
  n_Stream_name : NoAttr K c_Stream "name"
  n_World_pairs : NoAttr K c_World "pairs"
  s_Earlier_Pair : SupC K c_Earlier c_Pair Term_init.f "__init__"
  s_Either_Pair : SupC K c_Either c_Pair Term_init.f "__init__"
  s_Later_Pair : SupC K c_Later c_Pair Term_init.f "__init__"
  s_Look_Look : SupC K c_Look c_Look Term_init.f "__init__"
  s_Now_Now : SupC K c_Now c_Now Term_init.f "__init__"
  s_Shift_Shift : SupC K c_Shift c_Shift Term_init.f "__init__"
  b_Earlier_Add : BinI K c_Earlier Term_add.f .Add
  b_Either_Add : BinI K c_Either Term_add.f .Add
  b_Later_Add : BinI K c_Later Term_add.f .Add
  b_Look_Add : BinI K c_Look Term_add.f .Add
  b_Now_Add : BinI K c_Now Term_add.f .Add
  b_Shift_Add : BinI K c_Shift Term_add.f .Add
  bc_Earlier_BitOr : BinC K c_Earlier Term_or.f .BitOr
  bc_Either_BitOr : BinC K c_Either Term_or.f .BitOr
  bc_Later_BitOr : BinC K c_Later Term_or.f .BitOr
  bc_Look_BitOr : BinC K c_Look Term_or.f .BitOr
  bc_Now_BitOr : BinC K c_Now Term_or.f .BitOr
  bc_Shift_BitOr : BinC K c_Shift Term_or.f .BitOr
  sb_Earlier_Either : PySem.W.subIn K (.ref c_Earlier) (.ref c_Either) = some false
  sb_Earlier_Later : PySem.W.subIn K (.ref c_Earlier) (.ref c_Later) = some false
  sb_Earlier_Look : PySem.W.subIn K (.ref c_Earlier) (.ref c_Look) = some false
  sb_Earlier_Now : PySem.W.subIn K (.ref c_Earlier) (.ref c_Now) = some false
  sb_Earlier_Shift : PySem.W.subIn K (.ref c_Earlier) (.ref c_Shift) = some false
  sb_Either_Earlier : PySem.W.subIn K (.ref c_Either) (.ref c_Earlier) = some false
  sb_Either_Later : PySem.W.subIn K (.ref c_Either) (.ref c_Later) = some false
  sb_Either_Look : PySem.W.subIn K (.ref c_Either) (.ref c_Look) = some false
  sb_Either_Now : PySem.W.subIn K (.ref c_Either) (.ref c_Now) = some false
  sb_Either_Shift : PySem.W.subIn K (.ref c_Either) (.ref c_Shift) = some false
  sb_Later_Earlier : PySem.W.subIn K (.ref c_Later) (.ref c_Earlier) = some false
  sb_Later_Either : PySem.W.subIn K (.ref c_Later) (.ref c_Either) = some false
  sb_Later_Look : PySem.W.subIn K (.ref c_Later) (.ref c_Look) = some false
  sb_Later_Now : PySem.W.subIn K (.ref c_Later) (.ref c_Now) = some false
  sb_Later_Shift : PySem.W.subIn K (.ref c_Later) (.ref c_Shift) = some false
  sb_Look_Earlier : PySem.W.subIn K (.ref c_Look) (.ref c_Earlier) = some false
  sb_Look_Either : PySem.W.subIn K (.ref c_Look) (.ref c_Either) = some false
  sb_Look_Later : PySem.W.subIn K (.ref c_Look) (.ref c_Later) = some false
  sb_Look_Now : PySem.W.subIn K (.ref c_Look) (.ref c_Now) = some false
  sb_Look_Shift : PySem.W.subIn K (.ref c_Look) (.ref c_Shift) = some false
  sb_Now_Earlier : PySem.W.subIn K (.ref c_Now) (.ref c_Earlier) = some false
  sb_Now_Either : PySem.W.subIn K (.ref c_Now) (.ref c_Either) = some false
  sb_Now_Later : PySem.W.subIn K (.ref c_Now) (.ref c_Later) = some false
  sb_Now_Look : PySem.W.subIn K (.ref c_Now) (.ref c_Look) = some false
  sb_Now_Shift : PySem.W.subIn K (.ref c_Now) (.ref c_Shift) = some false
  sb_Shift_Earlier : PySem.W.subIn K (.ref c_Shift) (.ref c_Earlier) = some false
  sb_Shift_Either : PySem.W.subIn K (.ref c_Shift) (.ref c_Either) = some false
  sb_Shift_Later : PySem.W.subIn K (.ref c_Shift) (.ref c_Later) = some false
  sb_Shift_Look : PySem.W.subIn K (.ref c_Shift) (.ref c_Look) = some false
  sb_Shift_Now : PySem.W.subIn K (.ref c_Shift) (.ref c_Now) = some false
  gi_World : GetO K c_World World_getitem.f
  e_Earlier_Eq : CmpO K c_Earlier Term_eq.f .Eq
  e_Either_Eq : CmpO K c_Either Term_eq.f .Eq
  e_Later_Eq : CmpO K c_Later Term_eq.f .Eq
  e_Look_Eq : CmpO K c_Look Term_eq.f .Eq
  e_Now_Eq : CmpO K c_Now Term_eq.f .Eq
  e_Shift_Eq : CmpO K c_Shift Term_eq.f .Eq
  ne_Earlier : NeO K c_Earlier Term_eq.f
  ne_Either : NeO K c_Either Term_eq.f
  ne_Later : NeO K c_Later Term_eq.f
  ne_Look : NeO K c_Look Term_eq.f
  ne_Now : NeO K c_Now Term_eq.f
  ne_Shift : NeO K c_Shift Term_eq.f
  nf_Earlier_Earlier : PySem.W.notFirst K c_Earlier (.ref c_Earlier) = true
  nf_Earlier_Either : PySem.W.notFirst K c_Earlier (.ref c_Either) = true
  nf_Earlier_Later : PySem.W.notFirst K c_Earlier (.ref c_Later) = true
  nf_Earlier_Look : PySem.W.notFirst K c_Earlier (.ref c_Look) = true
  nf_Earlier_Now : PySem.W.notFirst K c_Earlier (.ref c_Now) = true
  nf_Earlier_Shift : PySem.W.notFirst K c_Earlier (.ref c_Shift) = true
  nf_Either_Earlier : PySem.W.notFirst K c_Either (.ref c_Earlier) = true
  nf_Either_Either : PySem.W.notFirst K c_Either (.ref c_Either) = true
  nf_Either_Later : PySem.W.notFirst K c_Either (.ref c_Later) = true
  nf_Either_Look : PySem.W.notFirst K c_Either (.ref c_Look) = true
  nf_Either_Now : PySem.W.notFirst K c_Either (.ref c_Now) = true
  nf_Either_Shift : PySem.W.notFirst K c_Either (.ref c_Shift) = true
  nf_Later_Earlier : PySem.W.notFirst K c_Later (.ref c_Earlier) = true
  nf_Later_Either : PySem.W.notFirst K c_Later (.ref c_Either) = true
  nf_Later_Later : PySem.W.notFirst K c_Later (.ref c_Later) = true
  nf_Later_Look : PySem.W.notFirst K c_Later (.ref c_Look) = true
  nf_Later_Now : PySem.W.notFirst K c_Later (.ref c_Now) = true
  nf_Later_Shift : PySem.W.notFirst K c_Later (.ref c_Shift) = true
  nf_Look_Earlier : PySem.W.notFirst K c_Look (.ref c_Earlier) = true
  nf_Look_Either : PySem.W.notFirst K c_Look (.ref c_Either) = true
  nf_Look_Later : PySem.W.notFirst K c_Look (.ref c_Later) = true
  nf_Look_Look : PySem.W.notFirst K c_Look (.ref c_Look) = true
  nf_Look_Now : PySem.W.notFirst K c_Look (.ref c_Now) = true
  nf_Look_Shift : PySem.W.notFirst K c_Look (.ref c_Shift) = true
  nf_Now_Earlier : PySem.W.notFirst K c_Now (.ref c_Earlier) = true
  nf_Now_Either : PySem.W.notFirst K c_Now (.ref c_Either) = true
  nf_Now_Later : PySem.W.notFirst K c_Now (.ref c_Later) = true
  nf_Now_Look : PySem.W.notFirst K c_Now (.ref c_Look) = true
  nf_Now_Now : PySem.W.notFirst K c_Now (.ref c_Now) = true
  nf_Now_Shift : PySem.W.notFirst K c_Now (.ref c_Shift) = true
  nf_Shift_Earlier : PySem.W.notFirst K c_Shift (.ref c_Earlier) = true
  nf_Shift_Either : PySem.W.notFirst K c_Shift (.ref c_Either) = true
  nf_Shift_Later : PySem.W.notFirst K c_Shift (.ref c_Later) = true
  nf_Shift_Look : PySem.W.notFirst K c_Shift (.ref c_Look) = true
  nf_Shift_Now : PySem.W.notFirst K c_Shift (.ref c_Now) = true
  nf_Shift_Shift : PySem.W.notFirst K c_Shift (.ref c_Shift) = true
  k1_Earlier_Look : PySem.W.kitOne K (.ref c_Earlier) (.ref c_Look) = some false
  k1_Earlier_Shift : PySem.W.kitOne K (.ref c_Earlier) (.ref c_Shift) = some false
  k1_Earlier_Term : PySem.W.kitOne K (.ref c_Earlier) (.ref c_Term) = some true
  k1_Either_Look : PySem.W.kitOne K (.ref c_Either) (.ref c_Look) = some false
  k1_Either_Shift : PySem.W.kitOne K (.ref c_Either) (.ref c_Shift) = some false
  k1_Either_Term : PySem.W.kitOne K (.ref c_Either) (.ref c_Term) = some true
  k1_Later_Look : PySem.W.kitOne K (.ref c_Later) (.ref c_Look) = some false
  k1_Later_Shift : PySem.W.kitOne K (.ref c_Later) (.ref c_Shift) = some false
  k1_Later_Term : PySem.W.kitOne K (.ref c_Later) (.ref c_Term) = some true
  k1_Look_Look : PySem.W.kitOne K (.ref c_Look) (.ref c_Look) = some true
  k1_Look_Shift : PySem.W.kitOne K (.ref c_Look) (.ref c_Shift) = some false
  k1_Look_Term : PySem.W.kitOne K (.ref c_Look) (.ref c_Term) = some true
  k1_Now_Look : PySem.W.kitOne K (.ref c_Now) (.ref c_Look) = some false
  k1_Now_Shift : PySem.W.kitOne K (.ref c_Now) (.ref c_Shift) = some false
  k1_Now_Term : PySem.W.kitOne K (.ref c_Now) (.ref c_Term) = some true
  k1_Shift_Look : PySem.W.kitOne K (.ref c_Shift) (.ref c_Look) = some false
  k1_Shift_Shift : PySem.W.kitOne K (.ref c_Shift) (.ref c_Shift) = some true
  k1_Shift_Term : PySem.W.kitOne K (.ref c_Shift) (.ref c_Term) = some true
  k1_World_World : PySem.W.kitOne K (.ref c_World) (.ref c_World) = some true
  ka_Earlier_Look_Later_Earlier : PySem.W.kitAny K (.ref c_Earlier) [.ref c_Look, .ref c_Later, .ref c_Earlier] = some true
  ka_Either_Look_Later_Earlier : PySem.W.kitAny K (.ref c_Either) [.ref c_Look, .ref c_Later, .ref c_Earlier] = some false
  ka_Later_Look_Later_Earlier : PySem.W.kitAny K (.ref c_Later) [.ref c_Look, .ref c_Later, .ref c_Earlier] = some true
  ka_Look_Look_Later_Earlier : PySem.W.kitAny K (.ref c_Look) [.ref c_Look, .ref c_Later, .ref c_Earlier] = some true
  ka_Now_Look_Later_Earlier : PySem.W.kitAny K (.ref c_Now) [.ref c_Look, .ref c_Later, .ref c_Earlier] = some false
  ka_Shift_Look_Later_Earlier : PySem.W.kitAny K (.ref c_Shift) [.ref c_Look, .ref c_Later, .ref c_Earlier] = some false
  er_BadBound : ErrC K c_BadBound BadBound_init.f "value"
  em_BadBound_BadBound : PySem.W.exmOne K (.ref c_BadBound) (.ref c_BadBound) = some true
  em_BadBound_BadMoment : PySem.W.exmOne K (.ref c_BadBound) (.ref c_BadMoment) = some false
  em_BadBound_BadName : PySem.W.exmOne K (.ref c_BadBound) (.ref c_BadName) = some false
  kb_Stream_init : KBn K Stream_init.fd ["self", "name", "limit"] 2 ["limit"] (fun us ws => us ++ ws) (fun vs zs => vs ++ zs)
  pp_Stream_limit : ∃ p, PropSet K c_Stream "limit" p Stream_limit.f
  pr_Stream_limit : ∃ p, PropOf K c_Stream "limit" p Stream_limitGet.f
  lc_law : LamD K ("law", none) "law" "law" s_law law.f law.fd
  call_Earlier : StX.CallO K c_Earlier Term_call.f
  call_Either : StX.CallO K c_Either Term_call.f
  call_Later : StX.CallO K c_Later Term_call.f
  call_Look : StX.CallO K c_Look Term_call.f
  call_Now : StX.CallO K c_Now Term_call.f
  call_Shift : StX.CallO K c_Shift Term_call.f
  n_isinstance : mg "isinstance" = none
  n_bool : mg "bool" = none
  n_int : mg "int" = none
  n_len : mg "len" = none
  n_str : mg "str" = none
  n_set : mg "set" = none
  n_list : mg "list" = none
  n_sorted : mg "sorted" = none
  n_sum : mg "sum" = none
  n_max : mg "max" = none
  n_super : mg "super" = none
  n_min : mg "min" = none
  n_abs : mg "abs" = none
  n_range : mg "range" = none
  n_tuple : mg "tuple" = none
-- BEGIN RUN
def loose : List Str := (["_wall", "PastError", "BadName", "BadMoment", "BadBound", "BadTerm", "BadWay", "BadPath", "BadWorld", "BadRows", "BadFact", "BadText", "Unknown", "TooMany", "NoPaper", "Unlike", "NotCovered", "NotMost", "NotSettled", "LETTERS", "is_integer", "is_from_zero", "is_name", "check_name", "check_moment", "check_bound", "check_limit", "check_rows", "MOST_ROWS", "limited"] : List Str) ++ (["checked_pairs", "joined", "grouped", "World", "check_world", "WAYS", "DEEPEST", "MOST_PARTS", "MOST_LOOKS", "Term", "Now", "Shift", "Look", "Pair", "Either", "Later", "Earlier", "Stream", "shifted", "fits", "looked_up", "check_term", "_law_open", "_law_pick", "_law_number", "_law_limit", "_law_names", "_law_shift", "_law_tree", "_law_term"] : List Str) ++ (["_law_is_integer", "_law_answer", "_law_refusal", "_law_equal", "_law_made", "_law_is_look"] : List Str)
def fns : List ObD := [⟨("is_integer", none), "is_integer", "is_integer", s_is_integer, []⟩,
  ⟨("is_from_zero", none), "is_from_zero", "is_from_zero", s_is_from_zero, []⟩,
  ⟨("is_name", none), "is_name", "is_name", s_is_name, []⟩,
  ⟨("check_name", none), "check_name", "check_name", s_check_name, []⟩,
  ⟨("check_moment", none), "check_moment", "check_moment", s_check_moment, []⟩,
  ⟨("check_bound", none), "check_bound", "check_bound", s_check_bound, []⟩,
  ⟨("check_limit", none), "check_limit", "check_limit", s_check_limit, []⟩,
  ⟨("check_rows", none), "check_rows", "check_rows", s_check_rows, []⟩,
  ⟨("limited", none), "limited", "limited", s_limited, []⟩,
  ⟨("checked_pairs", none), "checked_pairs", "checked_pairs", s_checked_pairs, []⟩,
  ⟨("check_world", none), "check_world", "check_world", s_check_world, []⟩,
  ⟨("shifted", none), "shifted", "shifted", s_shifted, []⟩,
  ⟨("fits", none), "fits", "fits", s_fits, []⟩,
  ⟨("looked_up", none), "looked_up", "looked_up", s_looked_up, []⟩,
  ⟨("check_term", none), "check_term", "check_term", s_check_term, []⟩,
  ⟨("_law_open", none), "_law_open", "_law_open", s_law_open, []⟩,
  ⟨("_law_pick", none), "_law_pick", "_law_pick", s_law_pick, []⟩,
  ⟨("_law_number", none), "_law_number", "_law_number", s_law_number, []⟩,
  ⟨("_law_limit", none), "_law_limit", "_law_limit", s_law_limit, []⟩,
  ⟨("_law_names", none), "_law_names", "_law_names", s_law_names, []⟩,
  ⟨("_law_shift", none), "_law_shift", "_law_shift", s_law_shift, []⟩,
  ⟨("_law_tree", none), "_law_tree", "_law_tree", s_law_tree, []⟩,
  ⟨("_law_term", none), "_law_term", "_law_term", s_law_term, []⟩,
  ⟨("_law_is_integer", none), "_law_is_integer", "_law_is_integer", s_law_is_integer, []⟩,
  ⟨("_law_answer", none), "_law_answer", "_law_answer", s_law_answer, []⟩,
  ⟨("_law_refusal", none), "_law_refusal", "_law_refusal", s_law_refusal, []⟩,
  ⟨("_law_equal", none), "_law_equal", "_law_equal", s_law_equal, []⟩,
  ⟨("_law_made", none), "_law_made", "_law_made", s_law_made, []⟩,
  ⟨("_law_is_look", none), "_law_is_look", "_law_is_look", s_law_is_look, []⟩,
  ⟨("law", none), "law", "law", s_law, []⟩,
  ⟨("BadBound", some "__init__"), "__init__", "BadBound.__init__", s_BadBound_init, []⟩,
  ⟨("World", some "__init__"), "__init__", "World.__init__", s_World_init, []⟩,
  ⟨("World", some "__getitem__"), "__getitem__", "World.__getitem__", s_World_getitem, []⟩,
  ⟨("Term", some "__init__"), "__init__", "Term.__init__", s_Term_init, []⟩,
  ⟨("Term", some "__add__"), "__add__", "Term.__add__", s_Term_add, []⟩,
  ⟨("Term", some "__sub__"), "__sub__", "Term.__sub__", s_Term_sub, []⟩,
  ⟨("Term", some "__or__"), "__or__", "Term.__or__", s_Term_or, []⟩,
  ⟨("Term", some "__eq__"), "__eq__", "Term.__eq__", s_Term_eq, []⟩,
  ⟨("Term", some "__call__"), "__call__", "Term.__call__", s_Term_call, []⟩,
  ⟨("Term", some "later"), "later", "Term.later", s_Term_later, []⟩,
  ⟨("Term", some "earlier"), "earlier", "Term.earlier", s_Term_earlier, []⟩,
  ⟨("Term", some "form"), "form", "Term.form", s_Term_form, []⟩,
  ⟨("Term", some "answer_in"), "answer_in", "Term.answer_in", s_Term_answer_in, []⟩,
  ⟨("Now", some "__init__"), "__init__", "Now.__init__", s_Now_init, [("__class__" : Str)]⟩,
  ⟨("Shift", some "__init__"), "__init__", "Shift.__init__", s_Shift_init, [("__class__" : Str)]⟩,
  ⟨("Shift", some "form"), "form", "Shift.form", s_Shift_form, []⟩,
  ⟨("Shift", some "answer_in"), "answer_in", "Shift.answer_in", s_Shift_answer_in, []⟩,
  ⟨("Look", some "__init__"), "__init__", "Look.__init__", s_Look_init, [("__class__" : Str)]⟩,
  ⟨("Look", some "form"), "form", "Look.form", s_Look_form, []⟩,
  ⟨("Look", some "answer_in"), "answer_in", "Look.answer_in", s_Look_answer_in, []⟩,
  ⟨("Pair", some "__init__"), "__init__", "Pair.__init__", s_Pair_init, [("__class__" : Str)]⟩,
  ⟨("Either", some "form"), "form", "Either.form", s_Either_form, []⟩,
  ⟨("Either", some "answer_in"), "answer_in", "Either.answer_in", s_Either_answer_in, []⟩,
  ⟨("Later", some "form"), "form", "Later.form", s_Later_form, []⟩,
  ⟨("Later", some "answer_in"), "answer_in", "Later.answer_in", s_Later_answer_in, []⟩,
  ⟨("Earlier", some "form"), "form", "Earlier.form", s_Earlier_form, []⟩,
  ⟨("Earlier", some "answer_in"), "answer_in", "Earlier.answer_in", s_Earlier_answer_in, []⟩,
  ⟨("Stream", some "__init__"), "__init__", "Stream.__init__", s_Stream_init, []⟩,
  ⟨("Stream", some "^limit"), "limit", "Stream.limit", s_Stream_limitGet, []⟩,
  ⟨("Stream", some "=limit"), "limit", "Stream.limit", s_Stream_limit, []⟩,
  ⟨("Stream", some "limit_to"), "limit_to", "Stream.limit_to", s_Stream_limit_to, []⟩,
  ⟨("Stream", some "at"), "at", "Stream.at", s_Stream_at, []⟩,
  ⟨("Stream", some "before"), "before", "Stream.before", s_Stream_before, []⟩,
  ⟨("Stream", some "since"), "since", "Stream.since", s_Stream_since, []⟩,
  ⟨("Stream", some "after"), "after", "Stream.after", s_Stream_after, []⟩]
def cks0 : List (PySem.W.Frag → Bool) := [fun K => He.eqO (PySem.W.nsIn K mainGlobals "BadName") (some (some (.ref (He.ga K "BadName")))),
  fun K => He.eqO (PySem.W.nsIn K mainGlobals "BadMoment") (some (some (.ref (He.ga K "BadMoment")))),
  fun K => He.eqO (PySem.W.nsIn K mainGlobals "BadBound") (some (some (.ref (He.ga K "BadBound")))),
  fun K => He.eqO (PySem.W.nsIn K mainGlobals "BadTerm") (some (some (.ref (He.ga K "BadTerm")))),
  fun K => He.eqO (PySem.W.nsIn K mainGlobals "BadWay") (some (some (.ref (He.ga K "BadWay")))),
  fun K => He.eqO (PySem.W.nsIn K mainGlobals "BadPath") (some (some (.ref (He.ga K "BadPath")))),
  fun K => He.eqO (PySem.W.nsIn K mainGlobals "BadWorld") (some (some (.ref (He.ga K "BadWorld")))),
  fun K => He.eqO (PySem.W.nsIn K mainGlobals "BadRows") (some (some (.ref (He.ga K "BadRows")))),
  fun K => He.eqO (PySem.W.nsIn K mainGlobals "BadFact") (some (some (.ref (He.ga K "BadFact")))),
  fun K => He.eqO (PySem.W.nsIn K mainGlobals "BadText") (some (some (.ref (He.ga K "BadText")))),
  fun K => He.eqO (PySem.W.nsIn K mainGlobals "Unknown") (some (some (.ref (He.ga K "Unknown")))),
  fun K => He.eqO (PySem.W.nsIn K mainGlobals "TooMany") (some (some (.ref (He.ga K "TooMany")))),
  fun K => He.eqO (PySem.W.nsIn K mainGlobals "Unlike") (some (some (.ref (He.ga K "Unlike")))),
  fun K => He.eqO (PySem.W.nsIn K mainGlobals "NotCovered") (some (some (.ref (He.ga K "NotCovered")))),
  fun K => He.eqO (PySem.W.nsIn K mainGlobals "NotMost") (some (some (.ref (He.ga K "NotMost")))),
  fun K => He.eqO (PySem.W.nsIn K mainGlobals "NotSettled") (some (some (.ref (He.ga K "NotSettled")))),
  fun K => He.eqO (PySem.W.nsIn K mainGlobals "World") (some (some (.ref (He.ga K "World")))),
  fun K => He.eqO (PySem.W.nsIn K mainGlobals "Term") (some (some (.ref (He.ga K "Term")))),
  fun K => He.eqO (PySem.W.nsIn K mainGlobals "Now") (some (some (.ref (He.ga K "Now")))),
  fun K => He.eqO (PySem.W.nsIn K mainGlobals "Shift") (some (some (.ref (He.ga K "Shift")))),
  fun K => He.eqO (PySem.W.nsIn K mainGlobals "Look") (some (some (.ref (He.ga K "Look")))),
  fun K => He.eqO (PySem.W.nsIn K mainGlobals "Pair") (some (some (.ref (He.ga K "Pair")))),
  fun K => He.eqO (PySem.W.nsIn K mainGlobals "Either") (some (some (.ref (He.ga K "Either")))),
  fun K => He.eqO (PySem.W.nsIn K mainGlobals "Later") (some (some (.ref (He.ga K "Later")))),
  fun K => He.eqO (PySem.W.nsIn K mainGlobals "Earlier") (some (some (.ref (He.ga K "Earlier")))),
  fun K => He.eqO (PySem.W.nsIn K mainGlobals "Stream") (some (some (.ref (He.ga K "Stream")))),
  fun K => He.eqO (PySem.W.nsIn K mainGlobals "WAYS") (some (some (.ref (He.ga K "WAYS")))),
  fun K => He.tupB K "WAYS" [.str "at", .str "before", .str "since", .str "after"],
  fun K => (He.Fa.int "DEEPEST" 12).ok K,
  fun K => (He.Fa.str "LETTERS" "abcdefghijklmnopqrstuvwxyz").ok K,
  fun K => (He.Fa.int "MOST_LOOKS" 12).ok K,
  fun K => (He.Fa.int "MOST_PARTS" 40).ok K,
  fun K => (He.Fa.int "MOST_ROWS" 300).ok K,
  fun K => plB ("is_integer", none) "is_integer" K,
  fun K => He.eqO (PySem.W.nsIn K mainGlobals "is_integer") (some (some (.ref (He.ga K "is_integer")))),
  fun K => plB ("is_from_zero", none) "is_from_zero" K,
  fun K => He.eqO (PySem.W.nsIn K mainGlobals "is_from_zero") (some (some (.ref (He.ga K "is_from_zero")))),
  fun K => plB ("is_name", none) "is_name" K,
  fun K => He.eqO (PySem.W.nsIn K mainGlobals "is_name") (some (some (.ref (He.ga K "is_name")))),
  fun K => plB ("check_name", none) "check_name" K,
  fun K => He.eqO (PySem.W.nsIn K mainGlobals "check_name") (some (some (.ref (He.ga K "check_name")))),
  fun K => plB ("check_moment", none) "check_moment" K,
  fun K => He.eqO (PySem.W.nsIn K mainGlobals "check_moment") (some (some (.ref (He.ga K "check_moment")))),
  fun K => plB ("check_bound", none) "check_bound" K,
  fun K => He.eqO (PySem.W.nsIn K mainGlobals "check_bound") (some (some (.ref (He.ga K "check_bound")))),
  fun K => plB ("check_limit", none) "check_limit" K,
  fun K => He.eqO (PySem.W.nsIn K mainGlobals "check_limit") (some (some (.ref (He.ga K "check_limit")))),
  fun K => plB ("check_rows", none) "check_rows" K,
  fun K => He.eqO (PySem.W.nsIn K mainGlobals "check_rows") (some (some (.ref (He.ga K "check_rows")))),
  fun K => plB ("limited", none) "limited" K,
  fun K => He.eqO (PySem.W.nsIn K mainGlobals "limited") (some (some (.ref (He.ga K "limited")))),
  fun K => plB ("checked_pairs", none) "checked_pairs" K,
  fun K => He.eqO (PySem.W.nsIn K mainGlobals "checked_pairs") (some (some (.ref (He.ga K "checked_pairs")))),
  fun K => plB ("check_world", none) "check_world" K,
  fun K => He.eqO (PySem.W.nsIn K mainGlobals "check_world") (some (some (.ref (He.ga K "check_world")))),
  fun K => plB ("shifted", none) "shifted" K,
  fun K => He.eqO (PySem.W.nsIn K mainGlobals "shifted") (some (some (.ref (He.ga K "shifted")))),
  fun K => plB ("fits", none) "fits" K,
  fun K => He.eqO (PySem.W.nsIn K mainGlobals "fits") (some (some (.ref (He.ga K "fits")))),
  fun K => plB ("looked_up", none) "looked_up" K]
def cks1 : List (PySem.W.Frag → Bool) := [fun K => He.eqO (PySem.W.nsIn K mainGlobals "looked_up") (some (some (.ref (He.ga K "looked_up")))),
  fun K => plB ("check_term", none) "check_term" K,
  fun K => He.eqO (PySem.W.nsIn K mainGlobals "check_term") (some (some (.ref (He.ga K "check_term")))),
  fun K => plB ("_law_open", none) "_law_open" K,
  fun K => He.eqO (PySem.W.nsIn K mainGlobals "_law_open") (some (some (.ref (He.ga K "_law_open")))),
  fun K => plB ("_law_pick", none) "_law_pick" K,
  fun K => He.eqO (PySem.W.nsIn K mainGlobals "_law_pick") (some (some (.ref (He.ga K "_law_pick")))),
  fun K => plB ("_law_number", none) "_law_number" K,
  fun K => He.eqO (PySem.W.nsIn K mainGlobals "_law_number") (some (some (.ref (He.ga K "_law_number")))),
  fun K => plB ("_law_limit", none) "_law_limit" K,
  fun K => He.eqO (PySem.W.nsIn K mainGlobals "_law_limit") (some (some (.ref (He.ga K "_law_limit")))),
  fun K => plB ("_law_names", none) "_law_names" K,
  fun K => He.eqO (PySem.W.nsIn K mainGlobals "_law_names") (some (some (.ref (He.ga K "_law_names")))),
  fun K => plB ("_law_shift", none) "_law_shift" K,
  fun K => He.eqO (PySem.W.nsIn K mainGlobals "_law_shift") (some (some (.ref (He.ga K "_law_shift")))),
  fun K => plB ("_law_tree", none) "_law_tree" K,
  fun K => He.eqO (PySem.W.nsIn K mainGlobals "_law_tree") (some (some (.ref (He.ga K "_law_tree")))),
  fun K => plB ("_law_term", none) "_law_term" K,
  fun K => He.eqO (PySem.W.nsIn K mainGlobals "_law_term") (some (some (.ref (He.ga K "_law_term")))),
  fun K => plB ("_law_is_integer", none) "_law_is_integer" K,
  fun K => He.eqO (PySem.W.nsIn K mainGlobals "_law_is_integer") (some (some (.ref (He.ga K "_law_is_integer")))),
  fun K => plB ("_law_answer", none) "_law_answer" K,
  fun K => He.eqO (PySem.W.nsIn K mainGlobals "_law_answer") (some (some (.ref (He.ga K "_law_answer")))),
  fun K => plB ("_law_refusal", none) "_law_refusal" K,
  fun K => He.eqO (PySem.W.nsIn K mainGlobals "_law_refusal") (some (some (.ref (He.ga K "_law_refusal")))),
  fun K => plB ("_law_equal", none) "_law_equal" K,
  fun K => He.eqO (PySem.W.nsIn K mainGlobals "_law_equal") (some (some (.ref (He.ga K "_law_equal")))),
  fun K => plB ("_law_made", none) "_law_made" K,
  fun K => He.eqO (PySem.W.nsIn K mainGlobals "_law_made") (some (some (.ref (He.ga K "_law_made")))),
  fun K => plB ("_law_is_look", none) "_law_is_look" K,
  fun K => He.eqO (PySem.W.nsIn K mainGlobals "_law_is_look") (some (some (.ref (He.ga K "_law_is_look")))),
  fun K => plB ("law", none) "law" K,
  fun K => He.eqO (PySem.W.nsIn K mainGlobals "law") (some (some (.ref (He.ga K "law")))),
  fun K => plB ("BadBound", some "__init__") "BadBound.__init__" K,
  fun K => dfB ("World", some "__init__") "World.__init__" K,
  fun K => plB ("World", some "__getitem__") "World.__getitem__" K,
  fun K => plB ("Term", some "__init__") "Term.__init__" K,
  fun K => plB ("Term", some "__add__") "Term.__add__" K,
  fun K => plB ("Term", some "__sub__") "Term.__sub__" K,
  fun K => plB ("Term", some "__or__") "Term.__or__" K,
  fun K => plB ("Term", some "__eq__") "Term.__eq__" K,
  fun K => plB ("Term", some "__call__") "Term.__call__" K,
  fun K => plB ("Term", some "later") "Term.later" K,
  fun K => plB ("Term", some "earlier") "Term.earlier" K,
  fun K => plB ("Term", some "form") "Term.form" K,
  fun K => plB ("Term", some "answer_in") "Term.answer_in" K,
  fun K => supB ("Now", some "__init__") "Now.__init__" "Now" fileS K,
  fun K => (PySem.W.clsIn K (He.ga K "Now")).isSome,
  fun K => He.eqO (PySem.W.nsIn K mainGlobals "super") (some none),
  fun K => He.eqO (PySem.W.nsIn K cStatics "thirdparty.any") (some none),
  fun K => decide (PySem.W.typeIn K (.ref (fAdX K ("Term", some "__init__"))) = some (.type "function")),
  fun K => PySem.W.fnIn K (fAdX K ("Term", some "__init__")),
  fun K => supB ("Shift", some "__init__") "Shift.__init__" "Shift" fileS K,
  fun K => (PySem.W.clsIn K (He.ga K "Shift")).isSome,
  fun K => plB ("Shift", some "form") "Shift.form" K,
  fun K => plB ("Shift", some "answer_in") "Shift.answer_in" K,
  fun K => supB ("Look", some "__init__") "Look.__init__" "Look" fileS K,
  fun K => (PySem.W.clsIn K (He.ga K "Look")).isSome,
  fun K => plB ("Look", some "form") "Look.form" K,
  fun K => plB ("Look", some "answer_in") "Look.answer_in" K]
def cks2 : List (PySem.W.Frag → Bool) := [fun K => supB ("Pair", some "__init__") "Pair.__init__" "Pair" fileS K,
  fun K => (PySem.W.clsIn K (He.ga K "Pair")).isSome,
  fun K => plB ("Either", some "form") "Either.form" K,
  fun K => plB ("Either", some "answer_in") "Either.answer_in" K,
  fun K => plB ("Later", some "form") "Later.form" K,
  fun K => plB ("Later", some "answer_in") "Later.answer_in" K,
  fun K => plB ("Earlier", some "form") "Earlier.form" K,
  fun K => plB ("Earlier", some "answer_in") "Earlier.answer_in" K,
  fun K => dfkB ("Stream", some "__init__") "Stream.__init__" [(("limit" : Str), V.non)] K,
  fun K => plB ("Stream", some "^limit") "Stream.limit" K,
  fun K => plB ("Stream", some "=limit") "Stream.limit" K,
  fun K => plB ("Stream", some "limit_to") "Stream.limit_to" K,
  fun K => plB ("Stream", some "at") "Stream.at" K,
  fun K => plB ("Stream", some "before") "Stream.before" K,
  fun K => plB ("Stream", some "since") "Stream.since" K,
  fun K => plB ("Stream", some "after") "Stream.after" K,
  fun K => PySem.W.plainGet K (He.ga K "Earlier") Str.empty,
  fun K => PySem.W.hasDictIn K (He.ga K "Earlier"),
  fun K => PySem.W.plainOver K (He.ga K "Earlier"),
  fun K => He.eqO (PySem.W.findIn K (.ref (He.ga K "Earlier")) "__setattr__") (some (some (.builtin "object.__setattr__"))),
  fun K => He.eqO (PySem.W.findIn K (.ref (He.ga K "Earlier")) "__class__") (some (some (.builtin "object.__class__"))),
  fun K => He.eqO (PySem.W.specialIn K (.builtin "object.__class__") "__get__") (some (some (.builtin "getset_descriptor.__get__"))),
  fun K => eqB (PySem.W.takesIn K (.builtin "object.__class__")) (some true),
  fun K => eqB (PySem.W.mroIn K (He.ga K "Earlier") (.type "object")) (some true),
  fun K => PySem.W.plainGet K (He.ga K "Either") Str.empty,
  fun K => PySem.W.hasDictIn K (He.ga K "Either"),
  fun K => PySem.W.plainOver K (He.ga K "Either"),
  fun K => He.eqO (PySem.W.findIn K (.ref (He.ga K "Either")) "__setattr__") (some (some (.builtin "object.__setattr__"))),
  fun K => He.eqO (PySem.W.findIn K (.ref (He.ga K "Either")) "__class__") (some (some (.builtin "object.__class__"))),
  fun K => eqB (PySem.W.mroIn K (He.ga K "Either") (.type "object")) (some true),
  fun K => PySem.W.plainGet K (He.ga K "Later") Str.empty,
  fun K => PySem.W.hasDictIn K (He.ga K "Later"),
  fun K => PySem.W.plainOver K (He.ga K "Later"),
  fun K => He.eqO (PySem.W.findIn K (.ref (He.ga K "Later")) "__setattr__") (some (some (.builtin "object.__setattr__"))),
  fun K => He.eqO (PySem.W.findIn K (.ref (He.ga K "Later")) "__class__") (some (some (.builtin "object.__class__"))),
  fun K => eqB (PySem.W.mroIn K (He.ga K "Later") (.type "object")) (some true),
  fun K => PySem.W.plainGet K (He.ga K "Look") Str.empty,
  fun K => PySem.W.hasDictIn K (He.ga K "Look"),
  fun K => PySem.W.plainOver K (He.ga K "Look"),
  fun K => He.eqO (PySem.W.findIn K (.ref (He.ga K "Look")) "__setattr__") (some (some (.builtin "object.__setattr__"))),
  fun K => He.eqO (PySem.W.findIn K (.ref (He.ga K "Look")) "__class__") (some (some (.builtin "object.__class__"))),
  fun K => eqB (PySem.W.mroIn K (He.ga K "Look") (.type "object")) (some true),
  fun K => PySem.W.plainGet K (He.ga K "Now") Str.empty,
  fun K => PySem.W.hasDictIn K (He.ga K "Now"),
  fun K => PySem.W.plainOver K (He.ga K "Now"),
  fun K => He.eqO (PySem.W.findIn K (.ref (He.ga K "Now")) "__setattr__") (some (some (.builtin "object.__setattr__"))),
  fun K => He.eqO (PySem.W.findIn K (.ref (He.ga K "Now")) "__class__") (some (some (.builtin "object.__class__"))),
  fun K => eqB (PySem.W.mroIn K (He.ga K "Now") (.type "object")) (some true),
  fun K => PySem.W.plainGet K (He.ga K "Shift") Str.empty,
  fun K => PySem.W.hasDictIn K (He.ga K "Shift"),
  fun K => PySem.W.plainOver K (He.ga K "Shift"),
  fun K => He.eqO (PySem.W.findIn K (.ref (He.ga K "Shift")) "__setattr__") (some (some (.builtin "object.__setattr__"))),
  fun K => He.eqO (PySem.W.findIn K (.ref (He.ga K "Shift")) "__class__") (some (some (.builtin "object.__class__"))),
  fun K => eqB (PySem.W.mroIn K (He.ga K "Shift") (.type "object")) (some true),
  fun K => PySem.W.plainGet K (He.ga K "Stream") Str.empty,
  fun K => PySem.W.hasDictIn K (He.ga K "Stream"),
  fun K => PySem.W.plainOver K (He.ga K "Stream"),
  fun K => He.eqO (PySem.W.findIn K (.ref (He.ga K "Stream")) "__setattr__") (some (some (.builtin "object.__setattr__"))),
  fun K => He.eqO (PySem.W.findIn K (.ref (He.ga K "Stream")) "__class__") (some (some (.builtin "object.__class__"))),
  fun K => eqB (PySem.W.mroIn K (He.ga K "Stream") (.type "object")) (some true)]
def cks3 : List (PySem.W.Frag → Bool) := [fun K => PySem.W.plainGet K (He.ga K "World") Str.empty,
  fun K => PySem.W.hasDictIn K (He.ga K "World"),
  fun K => PySem.W.plainOver K (He.ga K "World"),
  fun K => He.eqO (PySem.W.findIn K (.ref (He.ga K "World")) "__setattr__") (some (some (.builtin "object.__setattr__"))),
  fun K => He.eqO (PySem.W.findIn K (.ref (He.ga K "World")) "__class__") (some (some (.builtin "object.__class__"))),
  fun K => eqB (PySem.W.mroIn K (He.ga K "World") (.type "object")) (some true),
  fun K => PySem.W.makesIn K (He.ga K "Earlier"),
  fun K => He.eqO (PySem.W.findIn K (.ref (He.ga K "Earlier")) "__init__") (some (some (.ref (fAdX K ("Pair", some "__init__"))))),
  fun K => PySem.W.isFn K (.ref (fAdX K ("Pair", some "__init__"))),
  fun K => PySem.W.keepIn K (.ref (He.ga K "Earlier")),
  fun K => PySem.W.makesIn K (He.ga K "Either"),
  fun K => He.eqO (PySem.W.findIn K (.ref (He.ga K "Either")) "__init__") (some (some (.ref (fAdX K ("Pair", some "__init__"))))),
  fun K => PySem.W.keepIn K (.ref (He.ga K "Either")),
  fun K => PySem.W.makesIn K (He.ga K "Later"),
  fun K => He.eqO (PySem.W.findIn K (.ref (He.ga K "Later")) "__init__") (some (some (.ref (fAdX K ("Pair", some "__init__"))))),
  fun K => PySem.W.keepIn K (.ref (He.ga K "Later")),
  fun K => PySem.W.makesIn K (He.ga K "Look"),
  fun K => He.eqO (PySem.W.findIn K (.ref (He.ga K "Look")) "__init__") (some (some (.ref (fAdX K ("Look", some "__init__"))))),
  fun K => PySem.W.isFn K (.ref (fAdX K ("Look", some "__init__"))),
  fun K => PySem.W.keepIn K (.ref (He.ga K "Look")),
  fun K => PySem.W.makesIn K (He.ga K "Now"),
  fun K => He.eqO (PySem.W.findIn K (.ref (He.ga K "Now")) "__init__") (some (some (.ref (fAdX K ("Now", some "__init__"))))),
  fun K => PySem.W.isFn K (.ref (fAdX K ("Now", some "__init__"))),
  fun K => PySem.W.keepIn K (.ref (He.ga K "Now")),
  fun K => PySem.W.makesIn K (He.ga K "Shift"),
  fun K => He.eqO (PySem.W.findIn K (.ref (He.ga K "Shift")) "__init__") (some (some (.ref (fAdX K ("Shift", some "__init__"))))),
  fun K => PySem.W.isFn K (.ref (fAdX K ("Shift", some "__init__"))),
  fun K => PySem.W.keepIn K (.ref (He.ga K "Shift")),
  fun K => PySem.W.makesIn K (He.ga K "Stream"),
  fun K => He.eqO (PySem.W.findIn K (.ref (He.ga K "Stream")) "__init__") (some (some (.ref (fAdX K ("Stream", some "__init__"))))),
  fun K => PySem.W.isFn K (.ref (fAdX K ("Stream", some "__init__"))),
  fun K => PySem.W.keepIn K (.ref (He.ga K "Stream")),
  fun K => He.eqO (PySem.W.findIn K (.ref (He.ga K "Earlier")) "answer_in") (some (some (.ref (fAdX K ("Earlier", some "answer_in"))))),
  fun K => PySem.W.isFn K (.ref (fAdX K ("Earlier", some "answer_in"))),
  fun K => PySem.W.keepIn K (.ref (fAdX K ("Earlier", some "answer_in"))),
  fun K => He.eqO (PySem.W.findIn K (.ref (He.ga K "Earlier")) "earlier") (some (some (.ref (fAdX K ("Term", some "earlier"))))),
  fun K => PySem.W.isFn K (.ref (fAdX K ("Term", some "earlier"))),
  fun K => PySem.W.keepIn K (.ref (fAdX K ("Term", some "earlier"))),
  fun K => He.eqO (PySem.W.findIn K (.ref (He.ga K "Earlier")) "form") (some (some (.ref (fAdX K ("Earlier", some "form"))))),
  fun K => PySem.W.isFn K (.ref (fAdX K ("Earlier", some "form"))),
  fun K => PySem.W.keepIn K (.ref (fAdX K ("Earlier", some "form"))),
  fun K => He.eqO (PySem.W.findIn K (.ref (He.ga K "Earlier")) "later") (some (some (.ref (fAdX K ("Term", some "later"))))),
  fun K => PySem.W.isFn K (.ref (fAdX K ("Term", some "later"))),
  fun K => PySem.W.keepIn K (.ref (fAdX K ("Term", some "later"))),
  fun K => He.eqO (PySem.W.findIn K (.ref (He.ga K "Either")) "answer_in") (some (some (.ref (fAdX K ("Either", some "answer_in"))))),
  fun K => PySem.W.isFn K (.ref (fAdX K ("Either", some "answer_in"))),
  fun K => PySem.W.keepIn K (.ref (fAdX K ("Either", some "answer_in"))),
  fun K => He.eqO (PySem.W.findIn K (.ref (He.ga K "Either")) "earlier") (some (some (.ref (fAdX K ("Term", some "earlier"))))),
  fun K => He.eqO (PySem.W.findIn K (.ref (He.ga K "Either")) "form") (some (some (.ref (fAdX K ("Either", some "form"))))),
  fun K => PySem.W.isFn K (.ref (fAdX K ("Either", some "form"))),
  fun K => PySem.W.keepIn K (.ref (fAdX K ("Either", some "form"))),
  fun K => He.eqO (PySem.W.findIn K (.ref (He.ga K "Either")) "later") (some (some (.ref (fAdX K ("Term", some "later"))))),
  fun K => He.eqO (PySem.W.findIn K (.ref (He.ga K "Later")) "answer_in") (some (some (.ref (fAdX K ("Later", some "answer_in"))))),
  fun K => PySem.W.isFn K (.ref (fAdX K ("Later", some "answer_in"))),
  fun K => PySem.W.keepIn K (.ref (fAdX K ("Later", some "answer_in"))),
  fun K => He.eqO (PySem.W.findIn K (.ref (He.ga K "Later")) "earlier") (some (some (.ref (fAdX K ("Term", some "earlier"))))),
  fun K => He.eqO (PySem.W.findIn K (.ref (He.ga K "Later")) "form") (some (some (.ref (fAdX K ("Later", some "form"))))),
  fun K => PySem.W.isFn K (.ref (fAdX K ("Later", some "form"))),
  fun K => PySem.W.keepIn K (.ref (fAdX K ("Later", some "form"))),
  fun K => He.eqO (PySem.W.findIn K (.ref (He.ga K "Later")) "later") (some (some (.ref (fAdX K ("Term", some "later")))))]
def cks4 : List (PySem.W.Frag → Bool) := [fun K => He.eqO (PySem.W.findIn K (.ref (He.ga K "Look")) "answer_in") (some (some (.ref (fAdX K ("Look", some "answer_in"))))),
  fun K => PySem.W.isFn K (.ref (fAdX K ("Look", some "answer_in"))),
  fun K => PySem.W.keepIn K (.ref (fAdX K ("Look", some "answer_in"))),
  fun K => He.eqO (PySem.W.findIn K (.ref (He.ga K "Look")) "earlier") (some (some (.ref (fAdX K ("Term", some "earlier"))))),
  fun K => He.eqO (PySem.W.findIn K (.ref (He.ga K "Look")) "form") (some (some (.ref (fAdX K ("Look", some "form"))))),
  fun K => PySem.W.isFn K (.ref (fAdX K ("Look", some "form"))),
  fun K => PySem.W.keepIn K (.ref (fAdX K ("Look", some "form"))),
  fun K => He.eqO (PySem.W.findIn K (.ref (He.ga K "Look")) "later") (some (some (.ref (fAdX K ("Term", some "later"))))),
  fun K => He.eqO (PySem.W.findIn K (.ref (He.ga K "Now")) "answer_in") (some (some (.ref (fAdX K ("Term", some "answer_in"))))),
  fun K => PySem.W.isFn K (.ref (fAdX K ("Term", some "answer_in"))),
  fun K => PySem.W.keepIn K (.ref (fAdX K ("Term", some "answer_in"))),
  fun K => He.eqO (PySem.W.findIn K (.ref (He.ga K "Now")) "earlier") (some (some (.ref (fAdX K ("Term", some "earlier"))))),
  fun K => He.eqO (PySem.W.findIn K (.ref (He.ga K "Now")) "form") (some (some (.ref (fAdX K ("Term", some "form"))))),
  fun K => PySem.W.isFn K (.ref (fAdX K ("Term", some "form"))),
  fun K => PySem.W.keepIn K (.ref (fAdX K ("Term", some "form"))),
  fun K => He.eqO (PySem.W.findIn K (.ref (He.ga K "Now")) "later") (some (some (.ref (fAdX K ("Term", some "later"))))),
  fun K => He.eqO (PySem.W.findIn K (.ref (He.ga K "Shift")) "answer_in") (some (some (.ref (fAdX K ("Shift", some "answer_in"))))),
  fun K => PySem.W.isFn K (.ref (fAdX K ("Shift", some "answer_in"))),
  fun K => PySem.W.keepIn K (.ref (fAdX K ("Shift", some "answer_in"))),
  fun K => He.eqO (PySem.W.findIn K (.ref (He.ga K "Shift")) "earlier") (some (some (.ref (fAdX K ("Term", some "earlier"))))),
  fun K => He.eqO (PySem.W.findIn K (.ref (He.ga K "Shift")) "form") (some (some (.ref (fAdX K ("Shift", some "form"))))),
  fun K => PySem.W.isFn K (.ref (fAdX K ("Shift", some "form"))),
  fun K => PySem.W.keepIn K (.ref (fAdX K ("Shift", some "form"))),
  fun K => He.eqO (PySem.W.findIn K (.ref (He.ga K "Shift")) "later") (some (some (.ref (fAdX K ("Term", some "later"))))),
  fun K => He.eqO (PySem.W.findIn K (.ref (He.ga K "Stream")) "after") (some (some (.ref (fAdX K ("Stream", some "after"))))),
  fun K => PySem.W.isFn K (.ref (fAdX K ("Stream", some "after"))),
  fun K => PySem.W.keepIn K (.ref (fAdX K ("Stream", some "after"))),
  fun K => He.eqO (PySem.W.findIn K (.ref (He.ga K "Stream")) "at") (some (some (.ref (fAdX K ("Stream", some "at"))))),
  fun K => PySem.W.isFn K (.ref (fAdX K ("Stream", some "at"))),
  fun K => PySem.W.keepIn K (.ref (fAdX K ("Stream", some "at"))),
  fun K => He.eqO (PySem.W.findIn K (.ref (He.ga K "Stream")) "before") (some (some (.ref (fAdX K ("Stream", some "before"))))),
  fun K => PySem.W.isFn K (.ref (fAdX K ("Stream", some "before"))),
  fun K => PySem.W.keepIn K (.ref (fAdX K ("Stream", some "before"))),
  fun K => He.eqO (PySem.W.findIn K (.ref (He.ga K "Stream")) "limit_to") (some (some (.ref (fAdX K ("Stream", some "limit_to"))))),
  fun K => PySem.W.isFn K (.ref (fAdX K ("Stream", some "limit_to"))),
  fun K => PySem.W.keepIn K (.ref (fAdX K ("Stream", some "limit_to"))),
  fun K => He.eqO (PySem.W.findIn K (.ref (He.ga K "Stream")) "since") (some (some (.ref (fAdX K ("Stream", some "since"))))),
  fun K => PySem.W.isFn K (.ref (fAdX K ("Stream", some "since"))),
  fun K => PySem.W.keepIn K (.ref (fAdX K ("Stream", some "since"))),
  fun K => He.eqO (PySem.W.findIn K (.ref (He.ga K "Earlier")) "choices") (some none),
  fun K => He.eqO (PySem.W.findIn K (.ref (He.ga K "Earlier")) "depth") (some none),
  fun K => He.eqO (PySem.W.findIn K (.ref (He.ga K "Earlier")) "first") (some none),
  fun K => He.eqO (PySem.W.findIn K (.ref (He.ga K "Earlier")) "looks") (some none),
  fun K => He.eqO (PySem.W.findIn K (.ref (He.ga K "Earlier")) "parts") (some none),
  fun K => He.eqO (PySem.W.findIn K (.ref (He.ga K "Earlier")) "second") (some none),
  fun K => He.eqO (PySem.W.findIn K (.ref (He.ga K "Either")) "choices") (some none),
  fun K => He.eqO (PySem.W.findIn K (.ref (He.ga K "Either")) "depth") (some none),
  fun K => He.eqO (PySem.W.findIn K (.ref (He.ga K "Either")) "first") (some none),
  fun K => He.eqO (PySem.W.findIn K (.ref (He.ga K "Either")) "looks") (some none),
  fun K => He.eqO (PySem.W.findIn K (.ref (He.ga K "Either")) "parts") (some none),
  fun K => He.eqO (PySem.W.findIn K (.ref (He.ga K "Either")) "second") (some none),
  fun K => He.eqO (PySem.W.findIn K (.ref (He.ga K "Later")) "choices") (some none),
  fun K => He.eqO (PySem.W.findIn K (.ref (He.ga K "Later")) "depth") (some none),
  fun K => He.eqO (PySem.W.findIn K (.ref (He.ga K "Later")) "first") (some none),
  fun K => He.eqO (PySem.W.findIn K (.ref (He.ga K "Later")) "looks") (some none),
  fun K => He.eqO (PySem.W.findIn K (.ref (He.ga K "Later")) "parts") (some none),
  fun K => He.eqO (PySem.W.findIn K (.ref (He.ga K "Later")) "second") (some none),
  fun K => He.eqO (PySem.W.findIn K (.ref (He.ga K "Look")) "choices") (some none),
  fun K => He.eqO (PySem.W.findIn K (.ref (He.ga K "Look")) "depth") (some none),
  fun K => He.eqO (PySem.W.findIn K (.ref (He.ga K "Look")) "looks") (some none)]
def cks5 : List (PySem.W.Frag → Bool) := [fun K => He.eqO (PySem.W.findIn K (.ref (He.ga K "Look")) "moment") (some none),
  fun K => He.eqO (PySem.W.findIn K (.ref (He.ga K "Look")) "parts") (some none),
  fun K => He.eqO (PySem.W.findIn K (.ref (He.ga K "Look")) "stream") (some none),
  fun K => He.eqO (PySem.W.findIn K (.ref (He.ga K "Look")) "way") (some none),
  fun K => He.eqO (PySem.W.findIn K (.ref (He.ga K "Look")) "within") (some none),
  fun K => He.eqO (PySem.W.findIn K (.ref (He.ga K "Now")) "choices") (some none),
  fun K => He.eqO (PySem.W.findIn K (.ref (He.ga K "Now")) "depth") (some none),
  fun K => He.eqO (PySem.W.findIn K (.ref (He.ga K "Now")) "looks") (some none),
  fun K => He.eqO (PySem.W.findIn K (.ref (He.ga K "Now")) "parts") (some none),
  fun K => He.eqO (PySem.W.findIn K (.ref (He.ga K "Shift")) "amount") (some none),
  fun K => He.eqO (PySem.W.findIn K (.ref (He.ga K "Shift")) "choices") (some none),
  fun K => He.eqO (PySem.W.findIn K (.ref (He.ga K "Shift")) "depth") (some none),
  fun K => He.eqO (PySem.W.findIn K (.ref (He.ga K "Shift")) "looks") (some none),
  fun K => He.eqO (PySem.W.findIn K (.ref (He.ga K "Shift")) "moment") (some none),
  fun K => He.eqO (PySem.W.findIn K (.ref (He.ga K "Shift")) "parts") (some none),
  fun K => He.eqO (PySem.W.findIn K (.ref (He.ga K "Stream")) "farthest") (some none),
  fun K => He.eqO (PySem.W.findIn K (.ref (He.ga K "Stream")) "name") (some none),
  fun K => He.eqO (PySem.W.findIn K (.ref (He.ga K "World")) "pairs") (some none),
  fun K => eqB (PySem.W.mroIn K (He.ga K "Earlier") (.ref (He.ga K "Pair"))) (some true),
  fun K => He.eqO (PySem.W.ks_superIn K (He.ga K "Earlier") (He.ga K "Pair") "__init__") (some (some (.ref (fAdX K ("Term", some "__init__"))))),
  fun K => eqB (PySem.W.mroIn K (He.ga K "Either") (.ref (He.ga K "Pair"))) (some true),
  fun K => He.eqO (PySem.W.ks_superIn K (He.ga K "Either") (He.ga K "Pair") "__init__") (some (some (.ref (fAdX K ("Term", some "__init__"))))),
  fun K => eqB (PySem.W.mroIn K (He.ga K "Later") (.ref (He.ga K "Pair"))) (some true),
  fun K => He.eqO (PySem.W.ks_superIn K (He.ga K "Later") (He.ga K "Pair") "__init__") (some (some (.ref (fAdX K ("Term", some "__init__"))))),
  fun K => eqB (PySem.W.mroIn K (He.ga K "Look") (.ref (He.ga K "Look"))) (some true),
  fun K => He.eqO (PySem.W.ks_superIn K (He.ga K "Look") (He.ga K "Look") "__init__") (some (some (.ref (fAdX K ("Term", some "__init__"))))),
  fun K => eqB (PySem.W.mroIn K (He.ga K "Now") (.ref (He.ga K "Now"))) (some true),
  fun K => He.eqO (PySem.W.ks_superIn K (He.ga K "Now") (He.ga K "Now") "__init__") (some (some (.ref (fAdX K ("Term", some "__init__"))))),
  fun K => eqB (PySem.W.mroIn K (He.ga K "Shift") (.ref (He.ga K "Shift"))) (some true),
  fun K => He.eqO (PySem.W.ks_superIn K (He.ga K "Shift") (He.ga K "Shift") "__init__") (some (some (.ref (fAdX K ("Term", some "__init__"))))),
  fun K => PySem.W.selfFirst K (He.ga K "Earlier"),
  fun K => He.eqO (PySem.W.findIn K (.ref (He.ga K "Earlier")) "__add__") (some (some (.ref (fAdX K ("Term", some "__add__"))))),
  fun K => PySem.W.isFn K (.ref (fAdX K ("Term", some "__add__"))),
  fun K => He.eqO (PySem.W.findIn K (.ref (He.ga K "Earlier")) "__radd__") (some none),
  fun K => (PySem.W.findIn K (.type "int") "__add__").isSome,
  fun K => (PySem.W.findIn K (.type "int") "__radd__").isSome,
  fun K => eqB (PySem.W.subIn K (.type "int") (.ref (He.ga K "Earlier"))) (some false),
  fun K => PySem.W.selfFirst K (He.ga K "Either"),
  fun K => He.eqO (PySem.W.findIn K (.ref (He.ga K "Either")) "__add__") (some (some (.ref (fAdX K ("Term", some "__add__"))))),
  fun K => He.eqO (PySem.W.findIn K (.ref (He.ga K "Either")) "__radd__") (some none),
  fun K => eqB (PySem.W.subIn K (.type "int") (.ref (He.ga K "Either"))) (some false),
  fun K => PySem.W.selfFirst K (He.ga K "Later"),
  fun K => He.eqO (PySem.W.findIn K (.ref (He.ga K "Later")) "__add__") (some (some (.ref (fAdX K ("Term", some "__add__"))))),
  fun K => He.eqO (PySem.W.findIn K (.ref (He.ga K "Later")) "__radd__") (some none),
  fun K => eqB (PySem.W.subIn K (.type "int") (.ref (He.ga K "Later"))) (some false),
  fun K => PySem.W.selfFirst K (He.ga K "Look"),
  fun K => He.eqO (PySem.W.findIn K (.ref (He.ga K "Look")) "__add__") (some (some (.ref (fAdX K ("Term", some "__add__"))))),
  fun K => He.eqO (PySem.W.findIn K (.ref (He.ga K "Look")) "__radd__") (some none),
  fun K => eqB (PySem.W.subIn K (.type "int") (.ref (He.ga K "Look"))) (some false),
  fun K => PySem.W.selfFirst K (He.ga K "Now"),
  fun K => He.eqO (PySem.W.findIn K (.ref (He.ga K "Now")) "__add__") (some (some (.ref (fAdX K ("Term", some "__add__"))))),
  fun K => He.eqO (PySem.W.findIn K (.ref (He.ga K "Now")) "__radd__") (some none),
  fun K => eqB (PySem.W.subIn K (.type "int") (.ref (He.ga K "Now"))) (some false),
  fun K => PySem.W.selfFirst K (He.ga K "Shift"),
  fun K => He.eqO (PySem.W.findIn K (.ref (He.ga K "Shift")) "__add__") (some (some (.ref (fAdX K ("Term", some "__add__"))))),
  fun K => He.eqO (PySem.W.findIn K (.ref (He.ga K "Shift")) "__radd__") (some none),
  fun K => eqB (PySem.W.subIn K (.type "int") (.ref (He.ga K "Shift"))) (some false),
  fun K => He.eqO (PySem.W.findIn K (.ref (He.ga K "Earlier")) "__or__") (some (some (.ref (fAdX K ("Term", some "__or__"))))),
  fun K => PySem.W.isFn K (.ref (fAdX K ("Term", some "__or__"))),
  fun K => He.eqO (PySem.W.findIn K (.ref (He.ga K "Earlier")) "__ror__") (some none)]
def cks6 : List (PySem.W.Frag → Bool) := [fun K => He.eqO (PySem.W.findIn K (.ref (He.ga K "Either")) "__or__") (some (some (.ref (fAdX K ("Term", some "__or__"))))),
  fun K => He.eqO (PySem.W.findIn K (.ref (He.ga K "Either")) "__ror__") (some none),
  fun K => He.eqO (PySem.W.findIn K (.ref (He.ga K "Later")) "__or__") (some (some (.ref (fAdX K ("Term", some "__or__"))))),
  fun K => He.eqO (PySem.W.findIn K (.ref (He.ga K "Later")) "__ror__") (some none),
  fun K => He.eqO (PySem.W.findIn K (.ref (He.ga K "Look")) "__or__") (some (some (.ref (fAdX K ("Term", some "__or__"))))),
  fun K => He.eqO (PySem.W.findIn K (.ref (He.ga K "Look")) "__ror__") (some none),
  fun K => He.eqO (PySem.W.findIn K (.ref (He.ga K "Now")) "__or__") (some (some (.ref (fAdX K ("Term", some "__or__"))))),
  fun K => He.eqO (PySem.W.findIn K (.ref (He.ga K "Now")) "__ror__") (some none),
  fun K => He.eqO (PySem.W.findIn K (.ref (He.ga K "Shift")) "__or__") (some (some (.ref (fAdX K ("Term", some "__or__"))))),
  fun K => He.eqO (PySem.W.findIn K (.ref (He.ga K "Shift")) "__ror__") (some none),
  fun K => eqB (PySem.W.subIn K (.ref (He.ga K "Earlier")) (.ref (He.ga K "Either"))) (some false),
  fun K => eqB (PySem.W.subIn K (.ref (He.ga K "Earlier")) (.ref (He.ga K "Later"))) (some false),
  fun K => eqB (PySem.W.subIn K (.ref (He.ga K "Earlier")) (.ref (He.ga K "Look"))) (some false),
  fun K => eqB (PySem.W.subIn K (.ref (He.ga K "Earlier")) (.ref (He.ga K "Now"))) (some false),
  fun K => eqB (PySem.W.subIn K (.ref (He.ga K "Earlier")) (.ref (He.ga K "Shift"))) (some false),
  fun K => eqB (PySem.W.subIn K (.ref (He.ga K "Either")) (.ref (He.ga K "Earlier"))) (some false),
  fun K => eqB (PySem.W.subIn K (.ref (He.ga K "Either")) (.ref (He.ga K "Later"))) (some false),
  fun K => eqB (PySem.W.subIn K (.ref (He.ga K "Either")) (.ref (He.ga K "Look"))) (some false),
  fun K => eqB (PySem.W.subIn K (.ref (He.ga K "Either")) (.ref (He.ga K "Now"))) (some false),
  fun K => eqB (PySem.W.subIn K (.ref (He.ga K "Either")) (.ref (He.ga K "Shift"))) (some false),
  fun K => eqB (PySem.W.subIn K (.ref (He.ga K "Later")) (.ref (He.ga K "Earlier"))) (some false),
  fun K => eqB (PySem.W.subIn K (.ref (He.ga K "Later")) (.ref (He.ga K "Either"))) (some false),
  fun K => eqB (PySem.W.subIn K (.ref (He.ga K "Later")) (.ref (He.ga K "Look"))) (some false),
  fun K => eqB (PySem.W.subIn K (.ref (He.ga K "Later")) (.ref (He.ga K "Now"))) (some false),
  fun K => eqB (PySem.W.subIn K (.ref (He.ga K "Later")) (.ref (He.ga K "Shift"))) (some false),
  fun K => eqB (PySem.W.subIn K (.ref (He.ga K "Look")) (.ref (He.ga K "Earlier"))) (some false),
  fun K => eqB (PySem.W.subIn K (.ref (He.ga K "Look")) (.ref (He.ga K "Either"))) (some false),
  fun K => eqB (PySem.W.subIn K (.ref (He.ga K "Look")) (.ref (He.ga K "Later"))) (some false),
  fun K => eqB (PySem.W.subIn K (.ref (He.ga K "Look")) (.ref (He.ga K "Now"))) (some false),
  fun K => eqB (PySem.W.subIn K (.ref (He.ga K "Look")) (.ref (He.ga K "Shift"))) (some false),
  fun K => eqB (PySem.W.subIn K (.ref (He.ga K "Now")) (.ref (He.ga K "Earlier"))) (some false),
  fun K => eqB (PySem.W.subIn K (.ref (He.ga K "Now")) (.ref (He.ga K "Either"))) (some false),
  fun K => eqB (PySem.W.subIn K (.ref (He.ga K "Now")) (.ref (He.ga K "Later"))) (some false),
  fun K => eqB (PySem.W.subIn K (.ref (He.ga K "Now")) (.ref (He.ga K "Look"))) (some false),
  fun K => eqB (PySem.W.subIn K (.ref (He.ga K "Now")) (.ref (He.ga K "Shift"))) (some false),
  fun K => eqB (PySem.W.subIn K (.ref (He.ga K "Shift")) (.ref (He.ga K "Earlier"))) (some false),
  fun K => eqB (PySem.W.subIn K (.ref (He.ga K "Shift")) (.ref (He.ga K "Either"))) (some false),
  fun K => eqB (PySem.W.subIn K (.ref (He.ga K "Shift")) (.ref (He.ga K "Later"))) (some false),
  fun K => eqB (PySem.W.subIn K (.ref (He.ga K "Shift")) (.ref (He.ga K "Look"))) (some false),
  fun K => eqB (PySem.W.subIn K (.ref (He.ga K "Shift")) (.ref (He.ga K "Now"))) (some false),
  fun K => He.eqO (PySem.W.findIn K (.ref (He.ga K "World")) "__getitem__") (some (some (.ref (fAdX K ("World", some "__getitem__"))))),
  fun K => PySem.W.fnIn K (fAdX K ("World", some "__getitem__")),
  fun K => PySem.W.isFn K (.ref (fAdX K ("World", some "__getitem__"))),
  fun K => He.eqO (PySem.W.findIn K (.ref (He.ga K "Earlier")) "__eq__") (some (some (.ref (fAdX K ("Term", some "__eq__"))))),
  fun K => PySem.W.isFn K (.ref (fAdX K ("Term", some "__eq__"))),
  fun K => He.eqO (PySem.W.findIn K (.ref (He.ga K "Either")) "__eq__") (some (some (.ref (fAdX K ("Term", some "__eq__"))))),
  fun K => He.eqO (PySem.W.findIn K (.ref (He.ga K "Later")) "__eq__") (some (some (.ref (fAdX K ("Term", some "__eq__"))))),
  fun K => He.eqO (PySem.W.findIn K (.ref (He.ga K "Look")) "__eq__") (some (some (.ref (fAdX K ("Term", some "__eq__"))))),
  fun K => He.eqO (PySem.W.findIn K (.ref (He.ga K "Now")) "__eq__") (some (some (.ref (fAdX K ("Term", some "__eq__"))))),
  fun K => He.eqO (PySem.W.findIn K (.ref (He.ga K "Shift")) "__eq__") (some (some (.ref (fAdX K ("Term", some "__eq__"))))),
  fun K => He.eqO (PySem.W.findIn K (.ref (He.ga K "Earlier")) "__ne__") (some (some (.builtin "object.__ne__"))),
  fun K => He.eqO (PySem.W.findIn K (.ref (He.ga K "Either")) "__ne__") (some (some (.builtin "object.__ne__"))),
  fun K => He.eqO (PySem.W.findIn K (.ref (He.ga K "Later")) "__ne__") (some (some (.builtin "object.__ne__"))),
  fun K => He.eqO (PySem.W.findIn K (.ref (He.ga K "Look")) "__ne__") (some (some (.builtin "object.__ne__"))),
  fun K => He.eqO (PySem.W.findIn K (.ref (He.ga K "Now")) "__ne__") (some (some (.builtin "object.__ne__"))),
  fun K => He.eqO (PySem.W.findIn K (.ref (He.ga K "Shift")) "__ne__") (some (some (.builtin "object.__ne__"))),
  fun K => PySem.W.notFirst K (He.ga K "Earlier") (.ref (He.ga K "Earlier")),
  fun K => PySem.W.notFirst K (He.ga K "Earlier") (.ref (He.ga K "Either")),
  fun K => PySem.W.notFirst K (He.ga K "Earlier") (.ref (He.ga K "Later")),
  fun K => PySem.W.notFirst K (He.ga K "Earlier") (.ref (He.ga K "Look"))]
def cks7 : List (PySem.W.Frag → Bool) := [fun K => PySem.W.notFirst K (He.ga K "Earlier") (.ref (He.ga K "Now")),
  fun K => PySem.W.notFirst K (He.ga K "Earlier") (.ref (He.ga K "Shift")),
  fun K => PySem.W.notFirst K (He.ga K "Either") (.ref (He.ga K "Earlier")),
  fun K => PySem.W.notFirst K (He.ga K "Either") (.ref (He.ga K "Either")),
  fun K => PySem.W.notFirst K (He.ga K "Either") (.ref (He.ga K "Later")),
  fun K => PySem.W.notFirst K (He.ga K "Either") (.ref (He.ga K "Look")),
  fun K => PySem.W.notFirst K (He.ga K "Either") (.ref (He.ga K "Now")),
  fun K => PySem.W.notFirst K (He.ga K "Either") (.ref (He.ga K "Shift")),
  fun K => PySem.W.notFirst K (He.ga K "Later") (.ref (He.ga K "Earlier")),
  fun K => PySem.W.notFirst K (He.ga K "Later") (.ref (He.ga K "Either")),
  fun K => PySem.W.notFirst K (He.ga K "Later") (.ref (He.ga K "Later")),
  fun K => PySem.W.notFirst K (He.ga K "Later") (.ref (He.ga K "Look")),
  fun K => PySem.W.notFirst K (He.ga K "Later") (.ref (He.ga K "Now")),
  fun K => PySem.W.notFirst K (He.ga K "Later") (.ref (He.ga K "Shift")),
  fun K => PySem.W.notFirst K (He.ga K "Look") (.ref (He.ga K "Earlier")),
  fun K => PySem.W.notFirst K (He.ga K "Look") (.ref (He.ga K "Either")),
  fun K => PySem.W.notFirst K (He.ga K "Look") (.ref (He.ga K "Later")),
  fun K => PySem.W.notFirst K (He.ga K "Look") (.ref (He.ga K "Look")),
  fun K => PySem.W.notFirst K (He.ga K "Look") (.ref (He.ga K "Now")),
  fun K => PySem.W.notFirst K (He.ga K "Look") (.ref (He.ga K "Shift")),
  fun K => PySem.W.notFirst K (He.ga K "Now") (.ref (He.ga K "Earlier")),
  fun K => PySem.W.notFirst K (He.ga K "Now") (.ref (He.ga K "Either")),
  fun K => PySem.W.notFirst K (He.ga K "Now") (.ref (He.ga K "Later")),
  fun K => PySem.W.notFirst K (He.ga K "Now") (.ref (He.ga K "Look")),
  fun K => PySem.W.notFirst K (He.ga K "Now") (.ref (He.ga K "Now")),
  fun K => PySem.W.notFirst K (He.ga K "Now") (.ref (He.ga K "Shift")),
  fun K => PySem.W.notFirst K (He.ga K "Shift") (.ref (He.ga K "Earlier")),
  fun K => PySem.W.notFirst K (He.ga K "Shift") (.ref (He.ga K "Either")),
  fun K => PySem.W.notFirst K (He.ga K "Shift") (.ref (He.ga K "Later")),
  fun K => PySem.W.notFirst K (He.ga K "Shift") (.ref (He.ga K "Look")),
  fun K => PySem.W.notFirst K (He.ga K "Shift") (.ref (He.ga K "Now")),
  fun K => PySem.W.notFirst K (He.ga K "Shift") (.ref (He.ga K "Shift")),
  fun K => eqB (PySem.W.kitOne K (.ref (He.ga K "Earlier")) (.ref (He.ga K "Look"))) (some false),
  fun K => eqB (PySem.W.kitOne K (.ref (He.ga K "Earlier")) (.ref (He.ga K "Shift"))) (some false),
  fun K => eqB (PySem.W.kitOne K (.ref (He.ga K "Earlier")) (.ref (He.ga K "Term"))) (some true),
  fun K => eqB (PySem.W.kitOne K (.ref (He.ga K "Either")) (.ref (He.ga K "Look"))) (some false),
  fun K => eqB (PySem.W.kitOne K (.ref (He.ga K "Either")) (.ref (He.ga K "Shift"))) (some false),
  fun K => eqB (PySem.W.kitOne K (.ref (He.ga K "Either")) (.ref (He.ga K "Term"))) (some true),
  fun K => eqB (PySem.W.kitOne K (.ref (He.ga K "Later")) (.ref (He.ga K "Look"))) (some false),
  fun K => eqB (PySem.W.kitOne K (.ref (He.ga K "Later")) (.ref (He.ga K "Shift"))) (some false),
  fun K => eqB (PySem.W.kitOne K (.ref (He.ga K "Later")) (.ref (He.ga K "Term"))) (some true),
  fun K => eqB (PySem.W.kitOne K (.ref (He.ga K "Look")) (.ref (He.ga K "Look"))) (some true),
  fun K => eqB (PySem.W.kitOne K (.ref (He.ga K "Look")) (.ref (He.ga K "Shift"))) (some false),
  fun K => eqB (PySem.W.kitOne K (.ref (He.ga K "Look")) (.ref (He.ga K "Term"))) (some true),
  fun K => eqB (PySem.W.kitOne K (.ref (He.ga K "Now")) (.ref (He.ga K "Look"))) (some false),
  fun K => eqB (PySem.W.kitOne K (.ref (He.ga K "Now")) (.ref (He.ga K "Shift"))) (some false),
  fun K => eqB (PySem.W.kitOne K (.ref (He.ga K "Now")) (.ref (He.ga K "Term"))) (some true),
  fun K => eqB (PySem.W.kitOne K (.ref (He.ga K "Shift")) (.ref (He.ga K "Look"))) (some false),
  fun K => eqB (PySem.W.kitOne K (.ref (He.ga K "Shift")) (.ref (He.ga K "Shift"))) (some true),
  fun K => eqB (PySem.W.kitOne K (.ref (He.ga K "Shift")) (.ref (He.ga K "Term"))) (some true),
  fun K => eqB (PySem.W.kitOne K (.ref (He.ga K "World")) (.ref (He.ga K "World"))) (some true),
  fun K => eqB (PySem.W.kitAny K (.ref (He.ga K "Earlier")) [.ref (He.ga K "Look"), .ref (He.ga K "Later"), .ref (He.ga K "Earlier")]) (some true),
  fun K => eqB (PySem.W.kitAny K (.ref (He.ga K "Either")) [.ref (He.ga K "Look"), .ref (He.ga K "Later"), .ref (He.ga K "Earlier")]) (some false),
  fun K => eqB (PySem.W.kitAny K (.ref (He.ga K "Later")) [.ref (He.ga K "Look"), .ref (He.ga K "Later"), .ref (He.ga K "Earlier")]) (some true),
  fun K => eqB (PySem.W.kitAny K (.ref (He.ga K "Look")) [.ref (He.ga K "Look"), .ref (He.ga K "Later"), .ref (He.ga K "Earlier")]) (some true),
  fun K => eqB (PySem.W.kitAny K (.ref (He.ga K "Now")) [.ref (He.ga K "Look"), .ref (He.ga K "Later"), .ref (He.ga K "Earlier")]) (some false),
  fun K => eqB (PySem.W.kitAny K (.ref (He.ga K "Shift")) [.ref (He.ga K "Look"), .ref (He.ga K "Later"), .ref (He.ga K "Earlier")]) (some false),
  fun K => oexB K (He.ga K "BadBound"),
  fun K => He.eqO (PySem.W.findIn K (.ref (He.ga K "BadBound")) "__setattr__") (some (some (.builtin "object.__setattr__"))),
  fun K => eqB (PySem.W.subIn K (.ref (He.ga K "BadBound")) (.type "BaseException")) (some true)]
def cks8 : List (PySem.W.Frag → Bool) := [fun K => decide (PySem.W.typeIn K (.ref (He.ga K "BadBound")) = some (.type "type")),
  fun K => PySem.W.keepIn K (.ref (He.ga K "BadBound")),
  fun K => He.eqO (PySem.W.findIn K (.ref (He.ga K "BadBound")) "__init__") (some (some (.ref (fAdX K ("BadBound", some "__init__"))))),
  fun K => decide (PySem.W.typeIn K (.ref (fAdX K ("BadBound", some "__init__"))) = some (.type "function")),
  fun K => He.eqO (PySem.W.findIn K (.ref (He.ga K "BadBound")) "value") (some none),
  fun K => xfB K (He.ga K "BadBound"),
  fun K => eqB (PySem.W.exmOne K (.ref (He.ga K "BadBound")) (.ref (He.ga K "BadBound"))) (some true),
  fun K => eqB (PySem.W.exmOne K (.ref (He.ga K "BadBound")) (.ref (He.ga K "BadMoment"))) (some false),
  fun K => eqB (PySem.W.exmOne K (.ref (He.ga K "BadBound")) (.ref (He.ga K "BadName"))) (some false),
  fun K => He.eqO (PySem.W.takerIn K (He.ga K "Stream") "limit") (some (some (.ref (He.ma K (He.ga K "Stream") "limit")))),
  fun K => decide (PySem.W.typeIn K (.ref (He.ma K (He.ga K "Stream") "limit")) = some (.type "property")),
  fun K => stB "Stream" "limit" K,
  fun K => He.eqO (PySem.W.findIn K (.ref (He.ga K "Stream")) "limit") (some (some (.ref (He.ma K (He.ga K "Stream") "limit")))),
  fun K => He.eqO (PySem.W.specialIn K (.ref (He.ma K (He.ga K "Stream") "limit")) "__get__") (some (some (.builtin "property.__get__"))),
  fun K => eqB (PySem.W.takesIn K (.ref (He.ma K (He.ga K "Stream") "limit"))) (some true),
  fun K => gtB "Stream" "limit" K,
  fun K => He.eqO (PySem.W.findIn K (.ref (He.ga K "Earlier")) "__call__") (some (some (.ref (fAdX K ("Term", some "__call__"))))),
  fun K => PySem.W.isFn K (.ref (fAdX K ("Term", some "__call__"))),
  fun K => PySem.W.fnIn K (fAdX K ("Term", some "__call__")),
  fun K => He.eqO (PySem.W.findIn K (.ref (He.ga K "Either")) "__call__") (some (some (.ref (fAdX K ("Term", some "__call__"))))),
  fun K => He.eqO (PySem.W.findIn K (.ref (He.ga K "Later")) "__call__") (some (some (.ref (fAdX K ("Term", some "__call__"))))),
  fun K => He.eqO (PySem.W.findIn K (.ref (He.ga K "Look")) "__call__") (some (some (.ref (fAdX K ("Term", some "__call__"))))),
  fun K => He.eqO (PySem.W.findIn K (.ref (He.ga K "Now")) "__call__") (some (some (.ref (fAdX K ("Term", some "__call__"))))),
  fun K => He.eqO (PySem.W.findIn K (.ref (He.ga K "Shift")) "__call__") (some (some (.ref (fAdX K ("Term", some "__call__"))))),
  fun K => He.eqO (PySem.W.nsIn K mainGlobals "isinstance") (some none),
  fun K => He.eqO (PySem.W.nsIn K mainGlobals "bool") (some none),
  fun K => He.eqO (PySem.W.nsIn K mainGlobals "int") (some none),
  fun K => He.eqO (PySem.W.nsIn K mainGlobals "len") (some none),
  fun K => He.eqO (PySem.W.nsIn K mainGlobals "str") (some none),
  fun K => He.eqO (PySem.W.nsIn K mainGlobals "set") (some none),
  fun K => He.eqO (PySem.W.nsIn K mainGlobals "list") (some none),
  fun K => He.eqO (PySem.W.nsIn K mainGlobals "sorted") (some none),
  fun K => He.eqO (PySem.W.nsIn K mainGlobals "sum") (some none),
  fun K => He.eqO (PySem.W.nsIn K mainGlobals "max") (some none),
  fun K => He.eqO (PySem.W.nsIn K mainGlobals "min") (some none),
  fun K => He.eqO (PySem.W.nsIn K mainGlobals "abs") (some none),
  fun K => He.eqO (PySem.W.nsIn K mainGlobals "range") (some none),
  fun K => He.eqO (PySem.W.nsIn K mainGlobals "tuple") (some none)]
def css : List (List (PySem.W.Frag → Bool)) := [cks0, cks1, cks2, cks3, cks4, cks5, cks6, cks7, cks8]
abbrev Rw : PySem.W.OpenRow := PySem.W.OpenLaw.row PySem.Challenge.rw_pastlooks_k12_streams_with_limits
def asL0 : List Addr := [3, 2, 6, 4, 21, 31, 51, 70, 89, 108, 127, 146, 165, 184, 203, 222, 241, 253, 265, 277, 289, 301, 313, 322, 329, 334, 341, 348, 355, 362, 369, 376, 381, 388, 393, 506, 517, 518, 645, 668, 717, 774, 809, 842, 875, 908, 980, 991, 998, 1003, 1010, 1017, 1024, 1031, 1038, 1043, 1050, 1057, 1064, 1071, 1078, 1085, 1092, 1099, 1106, 1113, 0, 20, 30, 50, 69, 88, 107, 126, 145, 164, 183, 202, 221, 240, 252, 264, 276, 288, 300, 312, 321, 328, 333, 340, 347, 354, 361, 368, 375, 380, 387, 392, 505, 516]
def asL1 : List Addr := [644, 667, 716, 773, 808, 841, 874, 907, 979, 990, 997, 1002, 1009, 1016, 1023, 1030, 1037, 1042, 1049, 1056, 1063, 1070, 1077, 1084, 1091, 1098, 1105, 1112, 15, 16, 17, 18, 19, 29, 32, 48, 49, 67, 68, 86, 87, 105, 106, 124, 125, 143, 144, 162, 163, 181, 182, 200, 201, 219, 220, 238, 239, 251, 263, 275, 287, 299, 311, 316, 317, 318, 319, 320, 323, 324, 325, 326, 327, 330, 331, 332, 335, 336, 337, 338, 339, 342, 343, 344, 345, 346, 349, 350, 351, 352, 353, 356, 357, 358, 359, 360, 363, 364, 365, 366]
def asL2 : List Addr := [367, 370, 371, 372, 373, 374, 377, 378, 379, 382, 383, 384, 385, 386, 389, 390, 391, 408, 417, 423, 428, 435, 442, 449, 456, 463, 470, 475, 482, 489, 496, 503, 504, 507, 508, 511, 512, 513, 514, 515, 530, 537, 544, 551, 558, 565, 572, 579, 586, 593, 600, 607, 614, 621, 628, 635, 642, 643, 646, 647, 665, 666, 686, 693, 700, 707, 714, 715, 736, 743, 750, 757, 764, 771, 772, 792, 799, 806, 807, 825, 832, 839, 840, 858, 865, 872, 873, 891, 898, 905, 906, 925, 942, 949, 956, 963, 970, 977, 978, 981]
def asL3 : List Addr := [982, 985, 986, 987, 988, 989, 992, 993, 994, 995, 996, 999, 1000, 1001, 1004, 1005, 1006, 1007, 1008, 1011, 1012, 1013, 1014, 1015, 1018, 1019, 1020, 1021, 1022, 1025, 1026, 1027, 1028, 1029, 1032, 1033, 1034, 1035, 1036, 1039, 1040, 1041, 1044, 1045, 1046, 1047, 1048, 1051, 1052, 1053, 1054, 1055, 1058, 1059, 1060, 1061, 1062, 1065, 1066, 1067, 1068, 1069, 1072, 1073, 1074, 1075, 1076, 1079, 1080, 1081, 1082, 1083, 1086, 1087, 1088, 1089, 1090, 1093, 1094, 1095, 1096, 1097, 1100, 1101, 1102, 1103, 1104, 1107, 1109, 1110, 1111, 47, 66, 85, 104, 123, 142, 161, 180, 199]
def asL4 : List Addr := [218, 237, 407, 401, 415, 416, 422, 427, 434, 441, 448, 455, 462, 469, 474, 481, 488, 495, 502, 529, 536, 543, 550, 557, 564, 571, 578, 585, 592, 599, 606, 613, 620, 627, 634, 641, 664, 653, 685, 674, 692, 699, 706, 713, 735, 728, 723, 742, 749, 756, 763, 770, 791, 780, 798, 805, 824, 831, 838, 857, 864, 871, 890, 897, 904, 924, 918, 932, 941, 948, 955, 962, 969, 976, 42, 43, 44, 45, 46, 61, 62, 63, 64, 65, 80, 81, 82, 83, 84, 99, 100, 101, 102, 103, 118, 119, 120, 121, 122, 137]
def asL5 : List Addr := [138, 139, 140, 141, 156, 157, 158, 159, 160, 175, 176, 177, 178, 179, 194, 195, 196, 197, 198, 213, 214, 215, 216, 217, 232, 233, 234, 235, 236, 402, 403, 404, 405, 406, 414, 418, 419, 420, 421, 424, 425, 426, 429, 430, 431, 432, 433, 436, 437, 438, 439, 440, 443, 444, 445, 446, 447, 450, 451, 452, 453, 454, 457, 458, 459, 460, 461, 464, 465, 466, 467, 468, 471, 472, 473, 476, 477, 478, 479, 480, 483, 484, 485, 486, 487, 490, 491, 492, 493, 494, 497, 498, 499, 500, 501, 526, 527, 528, 531, 532]
def asL6 : List Addr := [533, 534, 535, 538, 539, 540, 541, 542, 545, 546, 547, 548, 549, 552, 553, 554, 555, 556, 559, 560, 561, 562, 563, 566, 567, 568, 569, 570, 573, 574, 575, 576, 577, 580, 581, 582, 583, 584, 587, 588, 589, 590, 591, 594, 595, 596, 597, 598, 601, 602, 603, 604, 605, 608, 609, 610, 611, 612, 615, 616, 617, 618, 619, 622, 623, 624, 625, 626, 629, 630, 631, 632, 633, 636, 637, 638, 639, 640, 659, 660, 661, 662, 663, 680, 681, 682, 683, 684, 687, 688, 689, 690, 691, 694, 695, 696, 697, 698, 701, 702]
def asL7 : List Addr := [703, 704, 705, 708, 709, 710, 711, 712, 730, 731, 732, 733, 734, 737, 738, 739, 740, 741, 744, 745, 746, 747, 748, 751, 752, 753, 754, 755, 758, 759, 760, 761, 762, 765, 766, 767, 768, 769, 786, 787, 788, 789, 790, 793, 794, 795, 796, 797, 800, 801, 802, 803, 804, 819, 820, 821, 822, 823, 826, 827, 828, 829, 830, 833, 834, 835, 836, 837, 852, 853, 854, 855, 856, 859, 860, 861, 862, 863, 866, 867, 868, 869, 870, 885, 886, 887, 888, 889, 892, 893, 894, 895, 896, 899, 900, 901, 902, 903, 919, 920]
def asL8 : List Addr := [921, 922, 923, 931, 940, 943, 944, 945, 946, 947, 950, 951, 952, 953, 954, 957, 958, 959, 960, 961, 964, 965, 966, 967, 968, 971, 972, 973, 974, 975]
def asL : List Addr := asL0 ++ asL1 ++ asL2 ++ asL3 ++ asL4 ++ asL5 ++ asL6 ++ asL7 ++ asL8
def tabs : List (Str × Option Str) := [("law", none)]
def asT : List Addr := [1108]
abbrev hk : PySem.W.Hook := hookT asL asT css.flatten fns tabs
def ob (s : PySem.W.SharedT) : AlT := (obsPG asL css.flatten fns (HandSHeadRun.getT s), tabs.all (tabB1 (He.frG (HandSHeadRun.getT s) asL) (He.frG (HandSHeadRun.getT s) asT)))
theorem ob_eq (s : PySem.W.SharedT) : ob s = hk.obs s.abs := obsTG_eq (HandSHeadRun.getT_eq s)
abbrev kf2 (s : PySem.W.SharedT) : PySem.W.Frag := He.frG (HandSHeadRun.getT s) asT
abbrev kf (s : PySem.W.SharedT) : PySem.W.Frag := He.frG (HandSHeadRun.getT s) asL
noncomputable abbrev En (w : World) (os : OsState) : Option PySem.W.SharedT := HandSHeadRun.endF (HandSHeadRun.stepQ (HandSHeadRun.denQ HandSHeadRun.tabQ) Rw.prog w) 60000 Rw.prog w os
abbrev qv : Program := PySem.W.view Rw.prog [71]
open PySem.W in
theorem run0 (w : World) (os : OsState) : (En w os).map (fun s => (HandSHeadRun.looksF Rw.prog (boot_heap w.params) s.abs, HandSHeadRun.seenQ qv loose (importedModules Rw.prog.main.body) (fun s => xlAt qv [] s && recOk Rw.toRowW.records s) s.abs)) = some (true, openGood qv loose) := by
  kernel_rfl
theorem runF (w : World) (os : OsState) : (En w os).map (fun s => fns.map fun d => fnOb (kf s) d.at_) = some (fns.map ObD.val) := by
  kernel_rfl
theorem runC0 (w : World) (os : OsState) : (En w os).map (fun s => cks0.all fun f => f (kf s)) = some true := by
  kernel_rfl
theorem runC1 (w : World) (os : OsState) : (En w os).map (fun s => cks1.all fun f => f (kf s)) = some true := by
  kernel_rfl
theorem runC2 (w : World) (os : OsState) : (En w os).map (fun s => cks2.all fun f => f (kf s)) = some true := by
  kernel_rfl
theorem runC3 (w : World) (os : OsState) : (En w os).map (fun s => cks3.all fun f => f (kf s)) = some true := by
  kernel_rfl
theorem runC4 (w : World) (os : OsState) : (En w os).map (fun s => cks4.all fun f => f (kf s)) = some true := by
  kernel_rfl
theorem runC5 (w : World) (os : OsState) : (En w os).map (fun s => cks5.all fun f => f (kf s)) = some true := by
  kernel_rfl
theorem runC6 (w : World) (os : OsState) : (En w os).map (fun s => cks6.all fun f => f (kf s)) = some true := by
  kernel_rfl
theorem runC7 (w : World) (os : OsState) : (En w os).map (fun s => cks7.all fun f => f (kf s)) = some true := by
  kernel_rfl
theorem runC8 (w : World) (os : OsState) : (En w os).map (fun s => cks8.all fun f => f (kf s)) = some true := by
  kernel_rfl
theorem runT (w : World) (os : OsState) : (En w os).map (fun s => tabs.all (tabB1 (kf s) (kf2 s))) = some true := by
  kernel_rfl
theorem run (w : World) : HandSHeadRun.RunEq Rw qv hk ob 60000 loose w := by
  intro os
  refine run_joinT (css := css) (fn := fns) (ts := tabs) (kf := kf) (kf2 := kf2) (run0 w os) (runF w os) (fun c hc => ?_) (runT w os)
  simp only [css, List.mem_cons, List.not_mem_nil, or_false] at hc
  rcases hc with rfl | rfl | rfl | rfl | rfl | rfl | rfl | rfl | rfl
  · exact runC0 w os
  · exact runC1 w os
  · exact runC2 w os
  · exact runC3 w os
  · exact runC4 w os
  · exact runC5 w os
  · exact runC6 w os
  · exact runC7 w os
  · exact runC8 w os
set_option maxHeartbeats 40000000 in
theorem facts {K : PySem.W.Frag} {h : Heap} {mg : Str → Option Value} {fa : Addr} (X : K.In h) (G : h.Ns mainGlobals mg) (hfa : mg "law" = some (.ref fa)) {K2 : PySem.W.Frag} (ct : SaysT css.flatten fns tabs K K2) :
    ∃ T : Txt PySem.Challenge.rw_pastlooks_k12_streams_with_limits.prog K mg, T.law.f = fa ∧ ∀ (s : Shared) (v : Value), BindsTo s T.law.fd ⟨[v], []⟩ [("_law_script", v)] := by
  have c := ct.p
  have e := hfa.symm.trans (PySem.W.mg_of X G (He.eqO_ok (c.ck2 1 32 rfl rfl)))
  cases e
  have hfile : ((PySem.Challenge.rw_pastlooks_k12_streams_with_limits.prog.main.file : Str) == fileS) = true := by first | rfl | decide +kernel
  have htop : (PySem.Challenge.rw_pastlooks_k12_streams_with_limits.prog.main.scope.names.lookup ("super" : Str)).isSome = false := by first | rfl | decide +kernel
  obtain ⟨u_DEEPEST, k_DEEPEST⟩ := He.int_ok X G (x := "DEEPEST") (i := 12) (c.ck2 0 28 rfl rfl)
  obtain ⟨u_LETTERS, k_LETTERS⟩ := He.str_ok X G (x := "LETTERS") (z := "abcdefghijklmnopqrstuvwxyz") (c.ck2 0 29 rfl rfl)
  obtain ⟨u_MOST_LOOKS, k_MOST_LOOKS⟩ := He.int_ok X G (x := "MOST_LOOKS") (i := 12) (c.ck2 0 30 rfl rfl)
  obtain ⟨u_MOST_PARTS, k_MOST_PARTS⟩ := He.int_ok X G (x := "MOST_PARTS") (i := 40) (c.ck2 0 31 rfl rfl)
  obtain ⟨u_MOST_ROWS, k_MOST_ROWS⟩ := He.int_ok X G (x := "MOST_ROWS") (i := 300) (c.ck2 0 32 rfl rfl)
  obtain ⟨fd0, F0⟩ := ob_fun (c.de 0 (d := ⟨("is_integer", none), "is_integer", "is_integer", s_is_integer, []⟩) rfl) rfl (c.ck2 0 33 rfl rfl)
  have b0 := F0.binds (ps := ["value"]) fun _ _ _ _ _ _ us hl => match us, hl with | [_], _ => rfl
  obtain ⟨fd1, F1⟩ := ob_fun (c.de 1 (d := ⟨("is_from_zero", none), "is_from_zero", "is_from_zero", s_is_from_zero, []⟩) rfl) rfl (c.ck2 0 35 rfl rfl)
  have b1 := F1.binds (ps := ["value"]) fun _ _ _ _ _ _ us hl => match us, hl with | [_], _ => rfl
  obtain ⟨fd2, F2⟩ := ob_fun (c.de 2 (d := ⟨("is_name", none), "is_name", "is_name", s_is_name, []⟩) rfl) rfl (c.ck2 0 37 rfl rfl)
  have b2 := F2.binds (ps := ["name"]) fun _ _ _ _ _ _ us hl => match us, hl with | [_], _ => rfl
  obtain ⟨fd3, F3⟩ := ob_fun (c.de 3 (d := ⟨("check_name", none), "check_name", "check_name", s_check_name, []⟩) rfl) rfl (c.ck2 0 39 rfl rfl)
  have b3 := F3.binds (ps := ["name"]) fun _ _ _ _ _ _ us hl => match us, hl with | [_], _ => rfl
  obtain ⟨fd4, F4⟩ := ob_fun (c.de 4 (d := ⟨("check_moment", none), "check_moment", "check_moment", s_check_moment, []⟩) rfl) rfl (c.ck2 0 41 rfl rfl)
  have b4 := F4.binds (ps := ["value"]) fun _ _ _ _ _ _ us hl => match us, hl with | [_], _ => rfl
  obtain ⟨fd5, F5⟩ := ob_fun (c.de 5 (d := ⟨("check_bound", none), "check_bound", "check_bound", s_check_bound, []⟩) rfl) rfl (c.ck2 0 43 rfl rfl)
  have b5 := F5.binds (ps := ["value"]) fun _ _ _ _ _ _ us hl => match us, hl with | [_], _ => rfl
  obtain ⟨fd6, F6⟩ := ob_fun (c.de 6 (d := ⟨("check_limit", none), "check_limit", "check_limit", s_check_limit, []⟩) rfl) rfl (c.ck2 0 45 rfl rfl)
  have b6 := F6.binds (ps := ["value"]) fun _ _ _ _ _ _ us hl => match us, hl with | [_], _ => rfl
  obtain ⟨fd7, F7⟩ := ob_fun (c.de 7 (d := ⟨("check_rows", none), "check_rows", "check_rows", s_check_rows, []⟩) rfl) rfl (c.ck2 0 47 rfl rfl)
  have b7 := F7.binds (ps := ["name", "moments"]) fun _ _ _ _ _ _ us hl => match us, hl with | [_, _], _ => rfl
  obtain ⟨fd8, F8⟩ := ob_fun (c.de 8 (d := ⟨("limited", none), "limited", "limited", s_limited, []⟩) rfl) rfl (c.ck2 0 49 rfl rfl)
  have b8 := F8.binds (ps := ["pairs"]) fun _ _ _ _ _ _ us hl => match us, hl with | [_], _ => rfl
  obtain ⟨fd9, F9⟩ := ob_fun (c.de 9 (d := ⟨("checked_pairs", none), "checked_pairs", "checked_pairs", s_checked_pairs, []⟩) rfl) rfl (c.ck2 0 51 rfl rfl)
  have b9 := F9.binds (ps := ["rows"]) fun _ _ _ _ _ _ us hl => match us, hl with | [_], _ => rfl
  obtain ⟨fd10, F10⟩ := ob_fun (c.de 10 (d := ⟨("check_world", none), "check_world", "check_world", s_check_world, []⟩) rfl) rfl (c.ck2 0 53 rfl rfl)
  have b10 := F10.binds (ps := ["value"]) fun _ _ _ _ _ _ us hl => match us, hl with | [_], _ => rfl
  obtain ⟨fd11, F11⟩ := ob_fun (c.de 11 (d := ⟨("shifted", none), "shifted", "shifted", s_shifted, []⟩) rfl) rfl (c.ck2 0 55 rfl rfl)
  have b11 := F11.binds (ps := ["term", "amount"]) fun _ _ _ _ _ _ us hl => match us, hl with | [_, _], _ => rfl
  obtain ⟨fd12, F12⟩ := ob_fun (c.de 12 (d := ⟨("fits", none), "fits", "fits", s_fits, []⟩) rfl) rfl (c.ck2 0 57 rfl rfl)
  have b12 := F12.binds (ps := ["row", "moment", "way"]) fun _ _ _ _ _ _ us hl => match us, hl with | [_, _, _], _ => rfl
  obtain ⟨fd13, F13⟩ := ob_fun (c.de 13 (d := ⟨("looked_up", none), "looked_up", "looked_up", s_looked_up, []⟩) rfl) rfl (c.ck2 0 59 rfl rfl)
  have b13 := F13.binds (ps := ["moments", "moment", "way", "within"]) fun _ _ _ _ _ _ us hl => match us, hl with | [_, _, _, _], _ => rfl
  obtain ⟨fd14, F14⟩ := ob_fun (c.de 14 (d := ⟨("check_term", none), "check_term", "check_term", s_check_term, []⟩) rfl) rfl (c.ck2 1 1 rfl rfl)
  have b14 := F14.binds (ps := ["value"]) fun _ _ _ _ _ _ us hl => match us, hl with | [_], _ => rfl
  obtain ⟨fd15, F15⟩ := ob_fun (c.de 15 (d := ⟨("_law_open", none), "_law_open", "_law_open", s_law_open, []⟩) rfl) rfl (c.ck2 1 3 rfl rfl)
  have b15 := F15.binds (ps := ["_law_script"]) fun _ _ _ _ _ _ us hl => match us, hl with | [_], _ => rfl
  obtain ⟨fd16, F16⟩ := ob_fun (c.de 16 (d := ⟨("_law_pick", none), "_law_pick", "_law_pick", s_law_pick, []⟩) rfl) rfl (c.ck2 1 5 rfl rfl)
  have b16 := F16.binds (ps := ["_law_box", "_law_many"]) fun _ _ _ _ _ _ us hl => match us, hl with | [_, _], _ => rfl
  obtain ⟨fd17, F17⟩ := ob_fun (c.de 17 (d := ⟨("_law_number", none), "_law_number", "_law_number", s_law_number, []⟩) rfl) rfl (c.ck2 1 7 rfl rfl)
  have b17 := F17.binds (ps := ["_law_box"]) fun _ _ _ _ _ _ us hl => match us, hl with | [_], _ => rfl
  obtain ⟨fd18, F18⟩ := ob_fun (c.de 18 (d := ⟨("_law_limit", none), "_law_limit", "_law_limit", s_law_limit, []⟩) rfl) rfl (c.ck2 1 9 rfl rfl)
  have b18 := F18.binds (ps := ["_law_box"]) fun _ _ _ _ _ _ us hl => match us, hl with | [_], _ => rfl
  obtain ⟨fd19, F19⟩ := ob_fun (c.de 19 (d := ⟨("_law_names", none), "_law_names", "_law_names", s_law_names, []⟩) rfl) rfl (c.ck2 1 11 rfl rfl)
  have b19 := F19.binds (ps := ["_law_box", "_law_many"]) fun _ _ _ _ _ _ us hl => match us, hl with | [_, _], _ => rfl
  obtain ⟨fd20, F20⟩ := ob_fun (c.de 20 (d := ⟨("_law_shift", none), "_law_shift", "_law_shift", s_law_shift, []⟩) rfl) rfl (c.ck2 1 13 rfl rfl)
  have b20 := F20.binds (ps := ["_law_tree_here", "_law_amount"]) fun _ _ _ _ _ _ us hl => match us, hl with | [_, _], _ => rfl
  obtain ⟨fd21, F21⟩ := ob_fun (c.de 21 (d := ⟨("_law_tree", none), "_law_tree", "_law_tree", s_law_tree, []⟩) rfl) rfl (c.ck2 1 15 rfl rfl)
  have b21 := F21.binds (ps := ["_law_box", "_law_names_here", "_law_looks", "_law_joins"]) fun _ _ _ _ _ _ us hl => match us, hl with | [_, _, _, _], _ => rfl
  obtain ⟨fd22, F22⟩ := ob_fun (c.de 22 (d := ⟨("_law_term", none), "_law_term", "_law_term", s_law_term, []⟩) rfl) rfl (c.ck2 1 17 rfl rfl)
  have b22 := F22.binds (ps := ["_law_tree_here"]) fun _ _ _ _ _ _ us hl => match us, hl with | [_], _ => rfl
  obtain ⟨fd23, F23⟩ := ob_fun (c.de 23 (d := ⟨("_law_is_integer", none), "_law_is_integer", "_law_is_integer", s_law_is_integer, []⟩) rfl) rfl (c.ck2 1 19 rfl rfl)
  have b23 := F23.binds (ps := ["_law_thing"]) fun _ _ _ _ _ _ us hl => match us, hl with | [_], _ => rfl
  obtain ⟨fd24, F24⟩ := ob_fun (c.de 24 (d := ⟨("_law_answer", none), "_law_answer", "_law_answer", s_law_answer, []⟩) rfl) rfl (c.ck2 1 21 rfl rfl)
  have b24 := F24.binds (ps := ["_law_thing", "_law_due"]) fun _ _ _ _ _ _ us hl => match us, hl with | [_, _], _ => rfl
  obtain ⟨fd25, F25⟩ := ob_fun (c.de 25 (d := ⟨("_law_refusal", none), "_law_refusal", "_law_refusal", s_law_refusal, []⟩) rfl) rfl (c.ck2 1 23 rfl rfl)
  have b25 := F25.binds (ps := ["_law_deed"]) fun _ _ _ _ _ _ us hl => match us, hl with | [_], _ => rfl
  obtain ⟨fd26, F26⟩ := ob_fun (c.de 26 (d := ⟨("_law_equal", none), "_law_equal", "_law_equal", s_law_equal, []⟩) rfl) rfl (c.ck2 1 25 rfl rfl)
  have b26 := F26.binds (ps := ["_law_one", "_law_other"]) fun _ _ _ _ _ _ us hl => match us, hl with | [_, _], _ => rfl
  obtain ⟨fd27, F27⟩ := ob_fun (c.de 27 (d := ⟨("_law_made", none), "_law_made", "_law_made", s_law_made, []⟩) rfl) rfl (c.ck2 1 27 rfl rfl)
  have b27 := F27.binds (ps := ["_law_stream", "_law_way", "_law_moment"]) fun _ _ _ _ _ _ us hl => match us, hl with | [_, _, _], _ => rfl
  obtain ⟨fd28, F28⟩ := ob_fun (c.de 28 (d := ⟨("_law_is_look", none), "_law_is_look", "_law_is_look", s_law_is_look, []⟩) rfl) rfl (c.ck2 1 29 rfl rfl)
  have b28 := F28.binds (ps := ["_law_look", "_law_due", "_law_moment"]) fun _ _ _ _ _ _ us hl => match us, hl with | [_, _, _], _ => rfl
  obtain ⟨fd29, F29⟩ := ob_fun (c.de 29 (d := ⟨("law", none), "law", "law", s_law, []⟩) rfl) rfl (c.ck2 1 31 rfl rfl)
  have b29 := F29.binds (ps := ["_law_script"]) fun _ _ _ _ _ _ us hl => match us, hl with | [_], _ => rfl
  obtain ⟨fd30, F30⟩ := ob_fun (c.de 30 (d := ⟨("BadBound", some "__init__"), "__init__", "BadBound.__init__", s_BadBound_init, []⟩) rfl) rfl (c.ck2 1 33 rfl rfl)
  have b30 := F30.binds (ps := ["self", "value"]) fun _ _ _ _ _ _ us hl => match us, hl with | [_, _], _ => rfl
  obtain ⟨fd31, FD31⟩ := ob_dfl (c.de 31 (d := ⟨("World", some "__init__"), "__init__", "World.__init__", s_World_init, []⟩) rfl) rfl (c.ck2 1 34 rfl rfl)
  obtain ⟨ds31, rd31, bd31⟩ := FD31.binds1 (ps := ["self", "rows"]) 2 1 (by simp) rfl (fun _ _ _ _ _ _ _ us its h1 h2 => match us, its, h1, h2 with | [_, _], [_], _, _ => ⟨_, rfl, rfl⟩)
  cases rd31
  have ex31 : ∃ (oc : Value) (od : Option Addr) (dV kV doc pm : Value) (an : Option Addr) (cdv ct : Value) (osl : Array (Option Value)), fd31 = PySem.W.fnOf "__init__" "World.__init__" (defArgs s_World_init) (defBody s_World_init) (defScope s_World_init) dV kV doc pm an cdv ct ∧ K.lookup (fAdX K ("World", some "__init__")) = some ⟨oc, od, .func fd31, osl⟩ ∧ PySem.W.codeIn K cdv "World.__init__" = true := by obtain ⟨⟨oc, od, dV, kV, doc, pm, an, cdv, ct, osl, e1, e2, e3, _, _⟩, _⟩ := FD31; exact ⟨oc, od, dV, kV, doc, pm, an, cdv, ct, osl, e1, e2, e3⟩
  obtain ⟨fd32, F32⟩ := ob_fun (c.de 32 (d := ⟨("World", some "__getitem__"), "__getitem__", "World.__getitem__", s_World_getitem, []⟩) rfl) rfl (c.ck2 1 35 rfl rfl)
  have b32 := F32.binds (ps := ["self", "name"]) fun _ _ _ _ _ _ us hl => match us, hl with | [_, _], _ => rfl
  obtain ⟨fd33, F33⟩ := ob_fun (c.de 33 (d := ⟨("Term", some "__init__"), "__init__", "Term.__init__", s_Term_init, []⟩) rfl) rfl (c.ck2 1 36 rfl rfl)
  obtain ⟨fd34, F34⟩ := ob_fun (c.de 34 (d := ⟨("Term", some "__add__"), "__add__", "Term.__add__", s_Term_add, []⟩) rfl) rfl (c.ck2 1 37 rfl rfl)
  have b34 := F34.binds (ps := ["self", "amount"]) fun _ _ _ _ _ _ us hl => match us, hl with | [_, _], _ => rfl
  obtain ⟨fd35, F35⟩ := ob_fun (c.de 35 (d := ⟨("Term", some "__sub__"), "__sub__", "Term.__sub__", s_Term_sub, []⟩) rfl) rfl (c.ck2 1 38 rfl rfl)
  have b35 := F35.binds (ps := ["self", "amount"]) fun _ _ _ _ _ _ us hl => match us, hl with | [_, _], _ => rfl
  obtain ⟨fd36, F36⟩ := ob_fun (c.de 36 (d := ⟨("Term", some "__or__"), "__or__", "Term.__or__", s_Term_or, []⟩) rfl) rfl (c.ck2 1 39 rfl rfl)
  have b36 := F36.binds (ps := ["self", "other"]) fun _ _ _ _ _ _ us hl => match us, hl with | [_, _], _ => rfl
  obtain ⟨fd37, F37⟩ := ob_fun (c.de 37 (d := ⟨("Term", some "__eq__"), "__eq__", "Term.__eq__", s_Term_eq, []⟩) rfl) rfl (c.ck2 1 40 rfl rfl)
  have b37 := F37.binds (ps := ["self", "other"]) fun _ _ _ _ _ _ us hl => match us, hl with | [_, _], _ => rfl
  obtain ⟨fd38, F38⟩ := ob_fun (c.de 38 (d := ⟨("Term", some "__call__"), "__call__", "Term.__call__", s_Term_call, []⟩) rfl) rfl (c.ck2 1 41 rfl rfl)
  have b38 := F38.binds (ps := ["self", "world", "now"]) fun _ _ _ _ _ _ us hl => match us, hl with | [_, _, _], _ => rfl
  obtain ⟨fd39, F39⟩ := ob_fun (c.de 39 (d := ⟨("Term", some "later"), "later", "Term.later", s_Term_later, []⟩) rfl) rfl (c.ck2 1 42 rfl rfl)
  have b39 := F39.binds (ps := ["self", "other"]) fun _ _ _ _ _ _ us hl => match us, hl with | [_, _], _ => rfl
  obtain ⟨fd40, F40⟩ := ob_fun (c.de 40 (d := ⟨("Term", some "earlier"), "earlier", "Term.earlier", s_Term_earlier, []⟩) rfl) rfl (c.ck2 1 43 rfl rfl)
  have b40 := F40.binds (ps := ["self", "other"]) fun _ _ _ _ _ _ us hl => match us, hl with | [_, _], _ => rfl
  obtain ⟨fd41, F41⟩ := ob_fun (c.de 41 (d := ⟨("Term", some "form"), "form", "Term.form", s_Term_form, []⟩) rfl) rfl (c.ck2 1 44 rfl rfl)
  have b41 := F41.binds (ps := ["self"]) fun _ _ _ _ _ _ us hl => match us, hl with | [_], _ => rfl
  obtain ⟨fd42, F42⟩ := ob_fun (c.de 42 (d := ⟨("Term", some "answer_in"), "answer_in", "Term.answer_in", s_Term_answer_in, []⟩) rfl) rfl (c.ck2 1 45 rfl rfl)
  have b42 := F42.binds (ps := ["self", "world", "now"]) fun _ _ _ _ _ _ us hl => match us, hl with | [_, _, _], _ => rfl
  obtain ⟨cc43, cd43, lk43, hc43, kp43, ce43, co43⟩ := ob_sup (D := "Now") (file := fileS) (c.de 43 (d := ⟨("Now", some "__init__"), "__init__", "Now.__init__", s_Now_init, [("__class__" : Str)]⟩) rfl) rfl (c.ck2 1 46 rfl rfl)
  obtain ⟨x1_43, x2_43, x3_43, x4_43, x5_43, y1_43, y2_43⟩ := co43
  obtain ⟨cc44, cd44, lk44, hc44, kp44, ce44, co44⟩ := ob_sup (D := "Shift") (file := fileS) (c.de 44 (d := ⟨("Shift", some "__init__"), "__init__", "Shift.__init__", s_Shift_init, [("__class__" : Str)]⟩) rfl) rfl (c.ck2 1 52 rfl rfl)
  obtain ⟨x1_44, x2_44, x3_44, x4_44, x5_44, y1_44, y2_44⟩ := co44
  obtain ⟨fd45, F45⟩ := ob_fun (c.de 45 (d := ⟨("Shift", some "form"), "form", "Shift.form", s_Shift_form, []⟩) rfl) rfl (c.ck2 1 54 rfl rfl)
  have b45 := F45.binds (ps := ["self"]) fun _ _ _ _ _ _ us hl => match us, hl with | [_], _ => rfl
  obtain ⟨fd46, F46⟩ := ob_fun (c.de 46 (d := ⟨("Shift", some "answer_in"), "answer_in", "Shift.answer_in", s_Shift_answer_in, []⟩) rfl) rfl (c.ck2 1 55 rfl rfl)
  have b46 := F46.binds (ps := ["self", "world", "now"]) fun _ _ _ _ _ _ us hl => match us, hl with | [_, _, _], _ => rfl
  obtain ⟨cc47, cd47, lk47, hc47, kp47, ce47, co47⟩ := ob_sup (D := "Look") (file := fileS) (c.de 47 (d := ⟨("Look", some "__init__"), "__init__", "Look.__init__", s_Look_init, [("__class__" : Str)]⟩) rfl) rfl (c.ck2 1 56 rfl rfl)
  obtain ⟨x1_47, x2_47, x3_47, x4_47, x5_47, y1_47, y2_47⟩ := co47
  obtain ⟨fd48, F48⟩ := ob_fun (c.de 48 (d := ⟨("Look", some "form"), "form", "Look.form", s_Look_form, []⟩) rfl) rfl (c.ck2 1 58 rfl rfl)
  have b48 := F48.binds (ps := ["self"]) fun _ _ _ _ _ _ us hl => match us, hl with | [_], _ => rfl
  obtain ⟨fd49, F49⟩ := ob_fun (c.de 49 (d := ⟨("Look", some "answer_in"), "answer_in", "Look.answer_in", s_Look_answer_in, []⟩) rfl) rfl (c.ck2 1 59 rfl rfl)
  have b49 := F49.binds (ps := ["self", "world", "now"]) fun _ _ _ _ _ _ us hl => match us, hl with | [_, _, _], _ => rfl
  obtain ⟨cc50, cd50, lk50, hc50, kp50, ce50, co50⟩ := ob_sup (D := "Pair") (file := fileS) (c.de 50 (d := ⟨("Pair", some "__init__"), "__init__", "Pair.__init__", s_Pair_init, [("__class__" : Str)]⟩) rfl) rfl (c.ck2 2 0 rfl rfl)
  obtain ⟨x1_50, x2_50, x3_50, x4_50, x5_50, y1_50, y2_50⟩ := co50
  obtain ⟨fd51, F51⟩ := ob_fun (c.de 51 (d := ⟨("Either", some "form"), "form", "Either.form", s_Either_form, []⟩) rfl) rfl (c.ck2 2 2 rfl rfl)
  have b51 := F51.binds (ps := ["self"]) fun _ _ _ _ _ _ us hl => match us, hl with | [_], _ => rfl
  obtain ⟨fd52, F52⟩ := ob_fun (c.de 52 (d := ⟨("Either", some "answer_in"), "answer_in", "Either.answer_in", s_Either_answer_in, []⟩) rfl) rfl (c.ck2 2 3 rfl rfl)
  have b52 := F52.binds (ps := ["self", "world", "now"]) fun _ _ _ _ _ _ us hl => match us, hl with | [_, _, _], _ => rfl
  obtain ⟨fd53, F53⟩ := ob_fun (c.de 53 (d := ⟨("Later", some "form"), "form", "Later.form", s_Later_form, []⟩) rfl) rfl (c.ck2 2 4 rfl rfl)
  have b53 := F53.binds (ps := ["self"]) fun _ _ _ _ _ _ us hl => match us, hl with | [_], _ => rfl
  obtain ⟨fd54, F54⟩ := ob_fun (c.de 54 (d := ⟨("Later", some "answer_in"), "answer_in", "Later.answer_in", s_Later_answer_in, []⟩) rfl) rfl (c.ck2 2 5 rfl rfl)
  have b54 := F54.binds (ps := ["self", "world", "now"]) fun _ _ _ _ _ _ us hl => match us, hl with | [_, _, _], _ => rfl
  obtain ⟨fd55, F55⟩ := ob_fun (c.de 55 (d := ⟨("Earlier", some "form"), "form", "Earlier.form", s_Earlier_form, []⟩) rfl) rfl (c.ck2 2 6 rfl rfl)
  have b55 := F55.binds (ps := ["self"]) fun _ _ _ _ _ _ us hl => match us, hl with | [_], _ => rfl
  obtain ⟨fd56, F56⟩ := ob_fun (c.de 56 (d := ⟨("Earlier", some "answer_in"), "answer_in", "Earlier.answer_in", s_Earlier_answer_in, []⟩) rfl) rfl (c.ck2 2 7 rfl rfl)
  have b56 := F56.binds (ps := ["self", "world", "now"]) fun _ _ _ _ _ _ us hl => match us, hl with | [_, _, _], _ => rfl
  obtain ⟨fd57, FD57⟩ := ob_dfk (kws := [(("limit" : Str), V.non)]) (c.de 57 (d := ⟨("Stream", some "__init__"), "__init__", "Stream.__init__", s_Stream_init, []⟩) rfl) rfl (c.ck2 2 8 rfl rfl)
  have bd57 := FD57.binds0 (ps := ["self", "name", "limit"]) 2 (by simp) rfl (fun _ _ _ _ _ _ us ks h1 h2 => match us, ks, h1, h2 with | [_, _], [_], _, _ => ⟨_, _, _, _, _, _, rfl, rfl, rfl⟩)
  have ex57 : ∃ (oc : Value) (od : Option Addr) (dV kV doc pm : Value) (an : Option Addr) (cdv ct : Value) (osl : Array (Option Value)), fd57 = PySem.W.fnOf "__init__" "Stream.__init__" (defArgs s_Stream_init) (defBody s_Stream_init) (defScope s_Stream_init) dV kV doc pm an cdv ct ∧ K.lookup (fAdX K ("Stream", some "__init__")) = some ⟨oc, od, .func fd57, osl⟩ ∧ PySem.W.codeIn K cdv "Stream.__init__" = true := by obtain ⟨oc, od, dV, kV, doc, pm, an, cdv, ct, osl, h1, h2, h3, _⟩ := FD57.ex; exact ⟨oc, od, dV, kV, doc, pm, an, cdv, ct, osl, h1, h2, h3⟩
  obtain ⟨fd58, F58⟩ := ob_fun (c.de 58 (d := ⟨("Stream", some "^limit"), "limit", "Stream.limit", s_Stream_limitGet, []⟩) rfl) rfl (c.ck2 2 9 rfl rfl)
  have b58 := F58.binds (ps := ["self"]) fun _ _ _ _ _ _ us hl => match us, hl with | [_], _ => rfl
  obtain ⟨fd59, F59⟩ := ob_fun (c.de 59 (d := ⟨("Stream", some "=limit"), "limit", "Stream.limit", s_Stream_limit, []⟩) rfl) rfl (c.ck2 2 10 rfl rfl)
  have b59 := F59.binds (ps := ["self", "value"]) fun _ _ _ _ _ _ us hl => match us, hl with | [_, _], _ => rfl
  obtain ⟨fd60, F60⟩ := ob_fun (c.de 60 (d := ⟨("Stream", some "limit_to"), "limit_to", "Stream.limit_to", s_Stream_limit_to, []⟩) rfl) rfl (c.ck2 2 11 rfl rfl)
  have b60 := F60.binds (ps := ["self", "value"]) fun _ _ _ _ _ _ us hl => match us, hl with | [_, _], _ => rfl
  obtain ⟨fd61, F61⟩ := ob_fun (c.de 61 (d := ⟨("Stream", some "at"), "at", "Stream.at", s_Stream_at, []⟩) rfl) rfl (c.ck2 2 12 rfl rfl)
  have b61 := F61.binds (ps := ["self", "moment"]) fun _ _ _ _ _ _ us hl => match us, hl with | [_, _], _ => rfl
  obtain ⟨fd62, F62⟩ := ob_fun (c.de 62 (d := ⟨("Stream", some "before"), "before", "Stream.before", s_Stream_before, []⟩) rfl) rfl (c.ck2 2 13 rfl rfl)
  have b62 := F62.binds (ps := ["self", "moment"]) fun _ _ _ _ _ _ us hl => match us, hl with | [_, _], _ => rfl
  obtain ⟨fd63, F63⟩ := ob_fun (c.de 63 (d := ⟨("Stream", some "since"), "since", "Stream.since", s_Stream_since, []⟩) rfl) rfl (c.ck2 2 14 rfl rfl)
  have b63 := F63.binds (ps := ["self", "moment"]) fun _ _ _ _ _ _ us hl => match us, hl with | [_, _], _ => rfl
  obtain ⟨fd64, F64⟩ := ob_fun (c.de 64 (d := ⟨("Stream", some "after"), "after", "Stream.after", s_Stream_after, []⟩) rfl) rfl (c.ck2 2 15 rfl rfl)
  have b64 := F64.binds (ps := ["self", "moment"]) fun _ _ _ _ _ _ us hl => match us, hl with | [_, _], _ => rfl
  obtain ⟨fd29', F29', FC29⟩ := ob_funC (c.de 29 (d := ⟨("law", none), "law", "law", s_law, []⟩) rfl) rfl (c.ck2 1 31 rfl rfl) (ct.t (a := ("law", none)) (by simp [tabs])).1
  have ef29 : fd29' = fd29 := by obtain ⟨_, _, _, _, _, _, _, _, _, e1, e2, _⟩ := F29'.ex; obtain ⟨_, _, _, _, _, _, _, _, _, e3, e4, _⟩ := F29.ex; rw [e2] at e4; have e5 := congrArg Obj.data (Option.some.inj e4); simp only [Data.func.injEq] at e5; exact e5
  rw [ef29] at FC29
  have bl : ∀ (s : Shared) (v : Value), BindsTo s fd29 ⟨[v], []⟩ [("_law_script", v)] := by
    obtain ⟨_, _, _, _, _, _, _, _, _, e, _⟩ := F29.ex
    rw [e]
    exact fun s v => .of_eq rfl
  exact ⟨⟨(He.ga K "BadName"),
    PySem.W.mg_of X G (He.eqO_ok (c.ck2 0 0 rfl rfl)),
    (He.ga K "BadMoment"),
    PySem.W.mg_of X G (He.eqO_ok (c.ck2 0 1 rfl rfl)),
    (He.ga K "BadBound"),
    PySem.W.mg_of X G (He.eqO_ok (c.ck2 0 2 rfl rfl)),
    (He.ga K "BadTerm"),
    PySem.W.mg_of X G (He.eqO_ok (c.ck2 0 3 rfl rfl)),
    (He.ga K "BadWay"),
    PySem.W.mg_of X G (He.eqO_ok (c.ck2 0 4 rfl rfl)),
    (He.ga K "BadPath"),
    PySem.W.mg_of X G (He.eqO_ok (c.ck2 0 5 rfl rfl)),
    (He.ga K "BadWorld"),
    PySem.W.mg_of X G (He.eqO_ok (c.ck2 0 6 rfl rfl)),
    (He.ga K "BadRows"),
    PySem.W.mg_of X G (He.eqO_ok (c.ck2 0 7 rfl rfl)),
    (He.ga K "BadFact"),
    PySem.W.mg_of X G (He.eqO_ok (c.ck2 0 8 rfl rfl)),
    (He.ga K "BadText"),
    PySem.W.mg_of X G (He.eqO_ok (c.ck2 0 9 rfl rfl)),
    (He.ga K "Unknown"),
    PySem.W.mg_of X G (He.eqO_ok (c.ck2 0 10 rfl rfl)),
    (He.ga K "TooMany"),
    PySem.W.mg_of X G (He.eqO_ok (c.ck2 0 11 rfl rfl)),
    (He.ga K "Unlike"),
    PySem.W.mg_of X G (He.eqO_ok (c.ck2 0 12 rfl rfl)),
    (He.ga K "NotCovered"),
    PySem.W.mg_of X G (He.eqO_ok (c.ck2 0 13 rfl rfl)),
    (He.ga K "NotMost"),
    PySem.W.mg_of X G (He.eqO_ok (c.ck2 0 14 rfl rfl)),
    (He.ga K "NotSettled"),
    PySem.W.mg_of X G (He.eqO_ok (c.ck2 0 15 rfl rfl)),
    (He.ga K "World"),
    PySem.W.mg_of X G (He.eqO_ok (c.ck2 0 16 rfl rfl)),
    (He.ga K "Term"),
    PySem.W.mg_of X G (He.eqO_ok (c.ck2 0 17 rfl rfl)),
    (He.ga K "Now"),
    PySem.W.mg_of X G (He.eqO_ok (c.ck2 0 18 rfl rfl)),
    (He.ga K "Shift"),
    PySem.W.mg_of X G (He.eqO_ok (c.ck2 0 19 rfl rfl)),
    (He.ga K "Look"),
    PySem.W.mg_of X G (He.eqO_ok (c.ck2 0 20 rfl rfl)),
    (He.ga K "Pair"),
    PySem.W.mg_of X G (He.eqO_ok (c.ck2 0 21 rfl rfl)),
    (He.ga K "Either"),
    PySem.W.mg_of X G (He.eqO_ok (c.ck2 0 22 rfl rfl)),
    (He.ga K "Later"),
    PySem.W.mg_of X G (He.eqO_ok (c.ck2 0 23 rfl rfl)),
    (He.ga K "Earlier"),
    PySem.W.mg_of X G (He.eqO_ok (c.ck2 0 24 rfl rfl)),
    (He.ga K "Stream"),
    PySem.W.mg_of X G (He.eqO_ok (c.ck2 0 25 rfl rfl)),
    (He.ga K "WAYS"),
    PySem.W.mg_of X G (He.eqO_ok (c.ck2 0 26 rfl rfl)),
    fun H => He.tupB_ok (vs := [.str "at", .str "before", .str "since", .str "after"]) (c.ck2 0 27 rfl rfl) H,
    u_DEEPEST,
    k_DEEPEST,
    u_LETTERS,
    k_LETTERS,
    u_MOST_LOOKS,
    k_MOST_LOOKS,
    u_MOST_PARTS,
    k_MOST_PARTS,
    u_MOST_ROWS,
    k_MOST_ROWS,
    ⟨(fAdX K ("is_integer", none)), fd0, F0, b0, PySem.W.mg_of X G (He.eqO_ok (c.ck2 0 34 rfl rfl))⟩,
    ⟨(fAdX K ("is_from_zero", none)), fd1, F1, b1, PySem.W.mg_of X G (He.eqO_ok (c.ck2 0 36 rfl rfl))⟩,
    ⟨(fAdX K ("is_name", none)), fd2, F2, b2, PySem.W.mg_of X G (He.eqO_ok (c.ck2 0 38 rfl rfl))⟩,
    ⟨(fAdX K ("check_name", none)), fd3, F3, b3, PySem.W.mg_of X G (He.eqO_ok (c.ck2 0 40 rfl rfl))⟩,
    ⟨(fAdX K ("check_moment", none)), fd4, F4, b4, PySem.W.mg_of X G (He.eqO_ok (c.ck2 0 42 rfl rfl))⟩,
    ⟨(fAdX K ("check_bound", none)), fd5, F5, b5, PySem.W.mg_of X G (He.eqO_ok (c.ck2 0 44 rfl rfl))⟩,
    ⟨(fAdX K ("check_limit", none)), fd6, F6, b6, PySem.W.mg_of X G (He.eqO_ok (c.ck2 0 46 rfl rfl))⟩,
    ⟨(fAdX K ("check_rows", none)), fd7, F7, b7, PySem.W.mg_of X G (He.eqO_ok (c.ck2 0 48 rfl rfl))⟩,
    ⟨(fAdX K ("limited", none)), fd8, F8, b8, PySem.W.mg_of X G (He.eqO_ok (c.ck2 0 50 rfl rfl))⟩,
    ⟨(fAdX K ("checked_pairs", none)), fd9, F9, b9, PySem.W.mg_of X G (He.eqO_ok (c.ck2 0 52 rfl rfl))⟩,
    ⟨(fAdX K ("check_world", none)), fd10, F10, b10, PySem.W.mg_of X G (He.eqO_ok (c.ck2 0 54 rfl rfl))⟩,
    ⟨(fAdX K ("shifted", none)), fd11, F11, b11, PySem.W.mg_of X G (He.eqO_ok (c.ck2 0 56 rfl rfl))⟩,
    ⟨(fAdX K ("fits", none)), fd12, F12, b12, PySem.W.mg_of X G (He.eqO_ok (c.ck2 0 58 rfl rfl))⟩,
    ⟨(fAdX K ("looked_up", none)), fd13, F13, b13, PySem.W.mg_of X G (He.eqO_ok (c.ck2 1 0 rfl rfl))⟩,
    ⟨(fAdX K ("check_term", none)), fd14, F14, b14, PySem.W.mg_of X G (He.eqO_ok (c.ck2 1 2 rfl rfl))⟩,
    ⟨(fAdX K ("_law_open", none)), fd15, F15, b15, PySem.W.mg_of X G (He.eqO_ok (c.ck2 1 4 rfl rfl))⟩,
    ⟨(fAdX K ("_law_pick", none)), fd16, F16, b16, PySem.W.mg_of X G (He.eqO_ok (c.ck2 1 6 rfl rfl))⟩,
    ⟨(fAdX K ("_law_number", none)), fd17, F17, b17, PySem.W.mg_of X G (He.eqO_ok (c.ck2 1 8 rfl rfl))⟩,
    ⟨(fAdX K ("_law_limit", none)), fd18, F18, b18, PySem.W.mg_of X G (He.eqO_ok (c.ck2 1 10 rfl rfl))⟩,
    ⟨(fAdX K ("_law_names", none)), fd19, F19, b19, PySem.W.mg_of X G (He.eqO_ok (c.ck2 1 12 rfl rfl))⟩,
    ⟨(fAdX K ("_law_shift", none)), fd20, F20, b20, PySem.W.mg_of X G (He.eqO_ok (c.ck2 1 14 rfl rfl))⟩,
    ⟨(fAdX K ("_law_tree", none)), fd21, F21, b21, PySem.W.mg_of X G (He.eqO_ok (c.ck2 1 16 rfl rfl))⟩,
    ⟨(fAdX K ("_law_term", none)), fd22, F22, b22, PySem.W.mg_of X G (He.eqO_ok (c.ck2 1 18 rfl rfl))⟩,
    ⟨(fAdX K ("_law_is_integer", none)), fd23, F23, b23, PySem.W.mg_of X G (He.eqO_ok (c.ck2 1 20 rfl rfl))⟩,
    ⟨(fAdX K ("_law_answer", none)), fd24, F24, b24, PySem.W.mg_of X G (He.eqO_ok (c.ck2 1 22 rfl rfl))⟩,
    ⟨(fAdX K ("_law_refusal", none)), fd25, F25, b25, PySem.W.mg_of X G (He.eqO_ok (c.ck2 1 24 rfl rfl))⟩,
    ⟨(fAdX K ("_law_equal", none)), fd26, F26, b26, PySem.W.mg_of X G (He.eqO_ok (c.ck2 1 26 rfl rfl))⟩,
    ⟨(fAdX K ("_law_made", none)), fd27, F27, b27, PySem.W.mg_of X G (He.eqO_ok (c.ck2 1 28 rfl rfl))⟩,
    ⟨(fAdX K ("_law_is_look", none)), fd28, F28, b28, PySem.W.mg_of X G (He.eqO_ok (c.ck2 1 30 rfl rfl))⟩,
    ⟨(fAdX K ("law", none)), fd29, F29, b29, PySem.W.mg_of X G (He.eqO_ok (c.ck2 1 32 rfl rfl))⟩,
    ⟨(fAdX K ("BadBound", some "__init__")), fd30, F30, b30⟩,
    ⟨(fAdX K ("World", some "__init__")), fd31, ex31, bd31⟩,
    ⟨(fAdX K ("World", some "__getitem__")), fd32, F32, b32⟩,
    ⟨(fAdX K ("Term", some "__init__")), fd33, F33⟩,
    ⟨(fAdX K ("Term", some "__add__")), fd34, F34, b34⟩,
    ⟨(fAdX K ("Term", some "__sub__")), fd35, F35, b35⟩,
    ⟨(fAdX K ("Term", some "__or__")), fd36, F36, b36⟩,
    ⟨(fAdX K ("Term", some "__eq__")), fd37, F37, b37⟩,
    ⟨(fAdX K ("Term", some "__call__")), fd38, F38, b38⟩,
    ⟨(fAdX K ("Term", some "later")), fd39, F39, b39⟩,
    ⟨(fAdX K ("Term", some "earlier")), fd40, F40, b40⟩,
    ⟨(fAdX K ("Term", some "form")), fd41, F41, b41⟩,
    ⟨(fAdX K ("Term", some "answer_in")), fd42, F42, b42⟩,
    ⟨(fAdX K ("Now", some "__init__")), cc43, cd43, lk43, hc43, kp43, ⟨rfl, ce43, Option.isSome_iff_exists.mp (c.ck2 1 47 rfl rfl), ⟨_, _, _, _, _, _, y1_43, y2_43, hfile⟩, He.eqO_ok (c.ck2 1 48 rfl rfl), He.eqO_ok (c.ck2 1 49 rfl rfl), of_decide_eq_true (c.ck2 1 50 rfl rfl), (c.ck2 1 51 rfl rfl), htop, (by show (defScope s_Now_init).names.lookup ("super" : Str) = _; decide +kernel), (by show (defScope s_Now_init).names.lookup ("__class__" : Str) = _; decide +kernel), by decide⟩⟩,
    ⟨(fAdX K ("Shift", some "__init__")), cc44, cd44, lk44, hc44, kp44, ⟨rfl, ce44, Option.isSome_iff_exists.mp (c.ck2 1 53 rfl rfl), ⟨_, _, _, _, _, _, y1_44, y2_44, hfile⟩, He.eqO_ok (c.ck2 1 48 rfl rfl), He.eqO_ok (c.ck2 1 49 rfl rfl), of_decide_eq_true (c.ck2 1 50 rfl rfl), (c.ck2 1 51 rfl rfl), htop, (by show (defScope s_Shift_init).names.lookup ("super" : Str) = _; decide +kernel), (by show (defScope s_Shift_init).names.lookup ("__class__" : Str) = _; decide +kernel), by decide⟩⟩,
    ⟨(fAdX K ("Shift", some "form")), fd45, F45, b45⟩,
    ⟨(fAdX K ("Shift", some "answer_in")), fd46, F46, b46⟩,
    ⟨(fAdX K ("Look", some "__init__")), cc47, cd47, lk47, hc47, kp47, ⟨rfl, ce47, Option.isSome_iff_exists.mp (c.ck2 1 57 rfl rfl), ⟨_, _, _, _, _, _, y1_47, y2_47, hfile⟩, He.eqO_ok (c.ck2 1 48 rfl rfl), He.eqO_ok (c.ck2 1 49 rfl rfl), of_decide_eq_true (c.ck2 1 50 rfl rfl), (c.ck2 1 51 rfl rfl), htop, (by show (defScope s_Look_init).names.lookup ("super" : Str) = _; decide +kernel), (by show (defScope s_Look_init).names.lookup ("__class__" : Str) = _; decide +kernel), by decide⟩⟩,
    ⟨(fAdX K ("Look", some "form")), fd48, F48, b48⟩,
    ⟨(fAdX K ("Look", some "answer_in")), fd49, F49, b49⟩,
    ⟨(fAdX K ("Pair", some "__init__")), cc50, cd50, lk50, hc50, kp50, ⟨rfl, ce50, Option.isSome_iff_exists.mp (c.ck2 2 1 rfl rfl), ⟨_, _, _, _, _, _, y1_50, y2_50, hfile⟩, He.eqO_ok (c.ck2 1 48 rfl rfl), He.eqO_ok (c.ck2 1 49 rfl rfl), of_decide_eq_true (c.ck2 1 50 rfl rfl), (c.ck2 1 51 rfl rfl), htop, (by show (defScope s_Pair_init).names.lookup ("super" : Str) = _; decide +kernel), (by show (defScope s_Pair_init).names.lookup ("__class__" : Str) = _; decide +kernel), by decide⟩⟩,
    ⟨(fAdX K ("Either", some "form")), fd51, F51, b51⟩,
    ⟨(fAdX K ("Either", some "answer_in")), fd52, F52, b52⟩,
    ⟨(fAdX K ("Later", some "form")), fd53, F53, b53⟩,
    ⟨(fAdX K ("Later", some "answer_in")), fd54, F54, b54⟩,
    ⟨(fAdX K ("Earlier", some "form")), fd55, F55, b55⟩,
    ⟨(fAdX K ("Earlier", some "answer_in")), fd56, F56, b56⟩,
    ⟨(fAdX K ("Stream", some "__init__")), fd57, ex57, bd57⟩,
    ⟨(fAdX K ("Stream", some "^limit")), fd58, F58, b58⟩,
    ⟨(fAdX K ("Stream", some "=limit")), fd59, F59, b59⟩,
    ⟨(fAdX K ("Stream", some "limit_to")), fd60, F60, b60⟩,
    ⟨(fAdX K ("Stream", some "at")), fd61, F61, b61⟩,
    ⟨(fAdX K ("Stream", some "before")), fd62, F62, b62⟩,
    ⟨(fAdX K ("Stream", some "since")), fd63, F63, b63⟩,
    ⟨(fAdX K ("Stream", some "after")), fd64, F64, b64⟩,
    ⟨⟨(c.ck2 2 16 rfl rfl), (c.ck2 2 17 rfl rfl), (c.ck2 2 18 rfl rfl), (He.eqO_ok (c.ck2 2 19 rfl rfl))⟩, (He.eqO_ok (c.ck2 2 20 rfl rfl)), (He.eqO_ok (c.ck2 2 21 rfl rfl)), (eqB_ok (c.ck2 2 22 rfl rfl)), (eqB_ok (c.ck2 2 23 rfl rfl))⟩,
    ⟨⟨(c.ck2 2 24 rfl rfl), (c.ck2 2 25 rfl rfl), (c.ck2 2 26 rfl rfl), (He.eqO_ok (c.ck2 2 27 rfl rfl))⟩, (He.eqO_ok (c.ck2 2 28 rfl rfl)), (He.eqO_ok (c.ck2 2 21 rfl rfl)), (eqB_ok (c.ck2 2 22 rfl rfl)), (eqB_ok (c.ck2 2 29 rfl rfl))⟩,
    ⟨⟨(c.ck2 2 30 rfl rfl), (c.ck2 2 31 rfl rfl), (c.ck2 2 32 rfl rfl), (He.eqO_ok (c.ck2 2 33 rfl rfl))⟩, (He.eqO_ok (c.ck2 2 34 rfl rfl)), (He.eqO_ok (c.ck2 2 21 rfl rfl)), (eqB_ok (c.ck2 2 22 rfl rfl)), (eqB_ok (c.ck2 2 35 rfl rfl))⟩,
    ⟨⟨(c.ck2 2 36 rfl rfl), (c.ck2 2 37 rfl rfl), (c.ck2 2 38 rfl rfl), (He.eqO_ok (c.ck2 2 39 rfl rfl))⟩, (He.eqO_ok (c.ck2 2 40 rfl rfl)), (He.eqO_ok (c.ck2 2 21 rfl rfl)), (eqB_ok (c.ck2 2 22 rfl rfl)), (eqB_ok (c.ck2 2 41 rfl rfl))⟩,
    ⟨⟨(c.ck2 2 42 rfl rfl), (c.ck2 2 43 rfl rfl), (c.ck2 2 44 rfl rfl), (He.eqO_ok (c.ck2 2 45 rfl rfl))⟩, (He.eqO_ok (c.ck2 2 46 rfl rfl)), (He.eqO_ok (c.ck2 2 21 rfl rfl)), (eqB_ok (c.ck2 2 22 rfl rfl)), (eqB_ok (c.ck2 2 47 rfl rfl))⟩,
    ⟨⟨(c.ck2 2 48 rfl rfl), (c.ck2 2 49 rfl rfl), (c.ck2 2 50 rfl rfl), (He.eqO_ok (c.ck2 2 51 rfl rfl))⟩, (He.eqO_ok (c.ck2 2 52 rfl rfl)), (He.eqO_ok (c.ck2 2 21 rfl rfl)), (eqB_ok (c.ck2 2 22 rfl rfl)), (eqB_ok (c.ck2 2 53 rfl rfl))⟩,
    ⟨⟨(c.ck2 2 54 rfl rfl), (c.ck2 2 55 rfl rfl), (c.ck2 2 56 rfl rfl), (He.eqO_ok (c.ck2 2 57 rfl rfl))⟩, (He.eqO_ok (c.ck2 2 58 rfl rfl)), (He.eqO_ok (c.ck2 2 21 rfl rfl)), (eqB_ok (c.ck2 2 22 rfl rfl)), (eqB_ok (c.ck2 2 59 rfl rfl))⟩,
    ⟨⟨(c.ck2 3 0 rfl rfl), (c.ck2 3 1 rfl rfl), (c.ck2 3 2 rfl rfl), (He.eqO_ok (c.ck2 3 3 rfl rfl))⟩, (He.eqO_ok (c.ck2 3 4 rfl rfl)), (He.eqO_ok (c.ck2 2 21 rfl rfl)), (eqB_ok (c.ck2 2 22 rfl rfl)), (eqB_ok (c.ck2 3 5 rfl rfl))⟩,
    ⟨(c.ck2 3 6 rfl rfl), (He.eqO_ok (c.ck2 3 7 rfl rfl)), (c.ck2 3 8 rfl rfl), (c.ck2 3 9 rfl rfl)⟩,
    ⟨(c.ck2 3 10 rfl rfl), (He.eqO_ok (c.ck2 3 11 rfl rfl)), (c.ck2 3 8 rfl rfl), (c.ck2 3 12 rfl rfl)⟩,
    ⟨(c.ck2 3 13 rfl rfl), (He.eqO_ok (c.ck2 3 14 rfl rfl)), (c.ck2 3 8 rfl rfl), (c.ck2 3 15 rfl rfl)⟩,
    ⟨(c.ck2 3 16 rfl rfl), (He.eqO_ok (c.ck2 3 17 rfl rfl)), (c.ck2 3 18 rfl rfl), (c.ck2 3 19 rfl rfl)⟩,
    ⟨(c.ck2 3 20 rfl rfl), (He.eqO_ok (c.ck2 3 21 rfl rfl)), (c.ck2 3 22 rfl rfl), (c.ck2 3 23 rfl rfl)⟩,
    ⟨(c.ck2 3 24 rfl rfl), (He.eqO_ok (c.ck2 3 25 rfl rfl)), (c.ck2 3 26 rfl rfl), (c.ck2 3 27 rfl rfl)⟩,
    ⟨(c.ck2 3 28 rfl rfl), (He.eqO_ok (c.ck2 3 29 rfl rfl)), (c.ck2 3 30 rfl rfl), (c.ck2 3 31 rfl rfl)⟩,
    ⟨(He.eqO_ok (c.ck2 3 32 rfl rfl)), (c.ck2 3 33 rfl rfl), (c.ck2 3 34 rfl rfl)⟩,
    ⟨(He.eqO_ok (c.ck2 3 35 rfl rfl)), (c.ck2 3 36 rfl rfl), (c.ck2 3 37 rfl rfl)⟩,
    ⟨(He.eqO_ok (c.ck2 3 38 rfl rfl)), (c.ck2 3 39 rfl rfl), (c.ck2 3 40 rfl rfl)⟩,
    ⟨(He.eqO_ok (c.ck2 3 41 rfl rfl)), (c.ck2 3 42 rfl rfl), (c.ck2 3 43 rfl rfl)⟩,
    ⟨(He.eqO_ok (c.ck2 3 44 rfl rfl)), (c.ck2 3 45 rfl rfl), (c.ck2 3 46 rfl rfl)⟩,
    ⟨(He.eqO_ok (c.ck2 3 47 rfl rfl)), (c.ck2 3 36 rfl rfl), (c.ck2 3 37 rfl rfl)⟩,
    ⟨(He.eqO_ok (c.ck2 3 48 rfl rfl)), (c.ck2 3 49 rfl rfl), (c.ck2 3 50 rfl rfl)⟩,
    ⟨(He.eqO_ok (c.ck2 3 51 rfl rfl)), (c.ck2 3 42 rfl rfl), (c.ck2 3 43 rfl rfl)⟩,
    ⟨(He.eqO_ok (c.ck2 3 52 rfl rfl)), (c.ck2 3 53 rfl rfl), (c.ck2 3 54 rfl rfl)⟩,
    ⟨(He.eqO_ok (c.ck2 3 55 rfl rfl)), (c.ck2 3 36 rfl rfl), (c.ck2 3 37 rfl rfl)⟩,
    ⟨(He.eqO_ok (c.ck2 3 56 rfl rfl)), (c.ck2 3 57 rfl rfl), (c.ck2 3 58 rfl rfl)⟩,
    ⟨(He.eqO_ok (c.ck2 3 59 rfl rfl)), (c.ck2 3 42 rfl rfl), (c.ck2 3 43 rfl rfl)⟩,
    ⟨(He.eqO_ok (c.ck2 4 0 rfl rfl)), (c.ck2 4 1 rfl rfl), (c.ck2 4 2 rfl rfl)⟩,
    ⟨(He.eqO_ok (c.ck2 4 3 rfl rfl)), (c.ck2 3 36 rfl rfl), (c.ck2 3 37 rfl rfl)⟩,
    ⟨(He.eqO_ok (c.ck2 4 4 rfl rfl)), (c.ck2 4 5 rfl rfl), (c.ck2 4 6 rfl rfl)⟩,
    ⟨(He.eqO_ok (c.ck2 4 7 rfl rfl)), (c.ck2 3 42 rfl rfl), (c.ck2 3 43 rfl rfl)⟩,
    ⟨(He.eqO_ok (c.ck2 4 8 rfl rfl)), (c.ck2 4 9 rfl rfl), (c.ck2 4 10 rfl rfl)⟩,
    ⟨(He.eqO_ok (c.ck2 4 11 rfl rfl)), (c.ck2 3 36 rfl rfl), (c.ck2 3 37 rfl rfl)⟩,
    ⟨(He.eqO_ok (c.ck2 4 12 rfl rfl)), (c.ck2 4 13 rfl rfl), (c.ck2 4 14 rfl rfl)⟩,
    ⟨(He.eqO_ok (c.ck2 4 15 rfl rfl)), (c.ck2 3 42 rfl rfl), (c.ck2 3 43 rfl rfl)⟩,
    ⟨(He.eqO_ok (c.ck2 4 16 rfl rfl)), (c.ck2 4 17 rfl rfl), (c.ck2 4 18 rfl rfl)⟩,
    ⟨(He.eqO_ok (c.ck2 4 19 rfl rfl)), (c.ck2 3 36 rfl rfl), (c.ck2 3 37 rfl rfl)⟩,
    ⟨(He.eqO_ok (c.ck2 4 20 rfl rfl)), (c.ck2 4 21 rfl rfl), (c.ck2 4 22 rfl rfl)⟩,
    ⟨(He.eqO_ok (c.ck2 4 23 rfl rfl)), (c.ck2 3 42 rfl rfl), (c.ck2 3 43 rfl rfl)⟩,
    ⟨(He.eqO_ok (c.ck2 4 24 rfl rfl)), (c.ck2 4 25 rfl rfl), (c.ck2 4 26 rfl rfl)⟩,
    ⟨(He.eqO_ok (c.ck2 4 27 rfl rfl)), (c.ck2 4 28 rfl rfl), (c.ck2 4 29 rfl rfl)⟩,
    ⟨(He.eqO_ok (c.ck2 4 30 rfl rfl)), (c.ck2 4 31 rfl rfl), (c.ck2 4 32 rfl rfl)⟩,
    ⟨(He.eqO_ok (c.ck2 4 33 rfl rfl)), (c.ck2 4 34 rfl rfl), (c.ck2 4 35 rfl rfl)⟩,
    ⟨(He.eqO_ok (c.ck2 4 36 rfl rfl)), (c.ck2 4 37 rfl rfl), (c.ck2 4 38 rfl rfl)⟩,
    (He.eqO_ok (c.ck2 4 39 rfl rfl)),
    (He.eqO_ok (c.ck2 4 40 rfl rfl)),
    (He.eqO_ok (c.ck2 4 41 rfl rfl)),
    (He.eqO_ok (c.ck2 4 42 rfl rfl)),
    (He.eqO_ok (c.ck2 4 43 rfl rfl)),
    (He.eqO_ok (c.ck2 4 44 rfl rfl)),
    (He.eqO_ok (c.ck2 4 45 rfl rfl)),
    (He.eqO_ok (c.ck2 4 46 rfl rfl)),
    (He.eqO_ok (c.ck2 4 47 rfl rfl)),
    (He.eqO_ok (c.ck2 4 48 rfl rfl)),
    (He.eqO_ok (c.ck2 4 49 rfl rfl)),
    (He.eqO_ok (c.ck2 4 50 rfl rfl)),
    (He.eqO_ok (c.ck2 4 51 rfl rfl)),
    (He.eqO_ok (c.ck2 4 52 rfl rfl)),
    (He.eqO_ok (c.ck2 4 53 rfl rfl)),
    (He.eqO_ok (c.ck2 4 54 rfl rfl)),
    (He.eqO_ok (c.ck2 4 55 rfl rfl)),
    (He.eqO_ok (c.ck2 4 56 rfl rfl)),
    (He.eqO_ok (c.ck2 4 57 rfl rfl)),
    (He.eqO_ok (c.ck2 4 58 rfl rfl)),
    (He.eqO_ok (c.ck2 4 59 rfl rfl)),
    (He.eqO_ok (c.ck2 5 0 rfl rfl)),
    (He.eqO_ok (c.ck2 5 1 rfl rfl)),
    (He.eqO_ok (c.ck2 5 2 rfl rfl)),
    (He.eqO_ok (c.ck2 5 3 rfl rfl)),
    (He.eqO_ok (c.ck2 5 4 rfl rfl)),
    (He.eqO_ok (c.ck2 5 5 rfl rfl)),
    (He.eqO_ok (c.ck2 5 6 rfl rfl)),
    (He.eqO_ok (c.ck2 5 7 rfl rfl)),
    (He.eqO_ok (c.ck2 5 8 rfl rfl)),
    (He.eqO_ok (c.ck2 5 9 rfl rfl)),
    (He.eqO_ok (c.ck2 5 10 rfl rfl)),
    (He.eqO_ok (c.ck2 5 11 rfl rfl)),
    (He.eqO_ok (c.ck2 5 12 rfl rfl)),
    (He.eqO_ok (c.ck2 5 13 rfl rfl)),
    (He.eqO_ok (c.ck2 5 14 rfl rfl)),
    (He.eqO_ok (c.ck2 5 15 rfl rfl)),
    (He.eqO_ok (c.ck2 5 16 rfl rfl)),
    (He.eqO_ok (c.ck2 5 17 rfl rfl)),
    ⟨(eqB_ok (c.ck2 5 18 rfl rfl)), (He.eqO_ok (c.ck2 5 19 rfl rfl))⟩,
    ⟨(eqB_ok (c.ck2 5 20 rfl rfl)), (He.eqO_ok (c.ck2 5 21 rfl rfl))⟩,
    ⟨(eqB_ok (c.ck2 5 22 rfl rfl)), (He.eqO_ok (c.ck2 5 23 rfl rfl))⟩,
    ⟨(eqB_ok (c.ck2 5 24 rfl rfl)), (He.eqO_ok (c.ck2 5 25 rfl rfl))⟩,
    ⟨(eqB_ok (c.ck2 5 26 rfl rfl)), (He.eqO_ok (c.ck2 5 27 rfl rfl))⟩,
    ⟨(eqB_ok (c.ck2 5 28 rfl rfl)), (He.eqO_ok (c.ck2 5 29 rfl rfl))⟩,
    ⟨(c.ck2 5 30 rfl rfl), (He.eqO_ok (c.ck2 5 31 rfl rfl)), (c.ck2 5 32 rfl rfl), (He.eqO_ok (c.ck2 5 33 rfl rfl)), (c.ck2 5 34 rfl rfl), (c.ck2 5 35 rfl rfl), (eqB_ok (c.ck2 5 36 rfl rfl))⟩,
    ⟨(c.ck2 5 37 rfl rfl), (He.eqO_ok (c.ck2 5 38 rfl rfl)), (c.ck2 5 32 rfl rfl), (He.eqO_ok (c.ck2 5 39 rfl rfl)), (c.ck2 5 34 rfl rfl), (c.ck2 5 35 rfl rfl), (eqB_ok (c.ck2 5 40 rfl rfl))⟩,
    ⟨(c.ck2 5 41 rfl rfl), (He.eqO_ok (c.ck2 5 42 rfl rfl)), (c.ck2 5 32 rfl rfl), (He.eqO_ok (c.ck2 5 43 rfl rfl)), (c.ck2 5 34 rfl rfl), (c.ck2 5 35 rfl rfl), (eqB_ok (c.ck2 5 44 rfl rfl))⟩,
    ⟨(c.ck2 5 45 rfl rfl), (He.eqO_ok (c.ck2 5 46 rfl rfl)), (c.ck2 5 32 rfl rfl), (He.eqO_ok (c.ck2 5 47 rfl rfl)), (c.ck2 5 34 rfl rfl), (c.ck2 5 35 rfl rfl), (eqB_ok (c.ck2 5 48 rfl rfl))⟩,
    ⟨(c.ck2 5 49 rfl rfl), (He.eqO_ok (c.ck2 5 50 rfl rfl)), (c.ck2 5 32 rfl rfl), (He.eqO_ok (c.ck2 5 51 rfl rfl)), (c.ck2 5 34 rfl rfl), (c.ck2 5 35 rfl rfl), (eqB_ok (c.ck2 5 52 rfl rfl))⟩,
    ⟨(c.ck2 5 53 rfl rfl), (He.eqO_ok (c.ck2 5 54 rfl rfl)), (c.ck2 5 32 rfl rfl), (He.eqO_ok (c.ck2 5 55 rfl rfl)), (c.ck2 5 34 rfl rfl), (c.ck2 5 35 rfl rfl), (eqB_ok (c.ck2 5 56 rfl rfl))⟩,
    ⟨(c.ck2 5 30 rfl rfl), (He.eqO_ok (c.ck2 5 57 rfl rfl)), (c.ck2 5 58 rfl rfl), (He.eqO_ok (c.ck2 5 59 rfl rfl))⟩,
    ⟨(c.ck2 5 37 rfl rfl), (He.eqO_ok (c.ck2 6 0 rfl rfl)), (c.ck2 5 58 rfl rfl), (He.eqO_ok (c.ck2 6 1 rfl rfl))⟩,
    ⟨(c.ck2 5 41 rfl rfl), (He.eqO_ok (c.ck2 6 2 rfl rfl)), (c.ck2 5 58 rfl rfl), (He.eqO_ok (c.ck2 6 3 rfl rfl))⟩,
    ⟨(c.ck2 5 45 rfl rfl), (He.eqO_ok (c.ck2 6 4 rfl rfl)), (c.ck2 5 58 rfl rfl), (He.eqO_ok (c.ck2 6 5 rfl rfl))⟩,
    ⟨(c.ck2 5 49 rfl rfl), (He.eqO_ok (c.ck2 6 6 rfl rfl)), (c.ck2 5 58 rfl rfl), (He.eqO_ok (c.ck2 6 7 rfl rfl))⟩,
    ⟨(c.ck2 5 53 rfl rfl), (He.eqO_ok (c.ck2 6 8 rfl rfl)), (c.ck2 5 58 rfl rfl), (He.eqO_ok (c.ck2 6 9 rfl rfl))⟩,
    (eqB_ok (c.ck2 6 10 rfl rfl)),
    (eqB_ok (c.ck2 6 11 rfl rfl)),
    (eqB_ok (c.ck2 6 12 rfl rfl)),
    (eqB_ok (c.ck2 6 13 rfl rfl)),
    (eqB_ok (c.ck2 6 14 rfl rfl)),
    (eqB_ok (c.ck2 6 15 rfl rfl)),
    (eqB_ok (c.ck2 6 16 rfl rfl)),
    (eqB_ok (c.ck2 6 17 rfl rfl)),
    (eqB_ok (c.ck2 6 18 rfl rfl)),
    (eqB_ok (c.ck2 6 19 rfl rfl)),
    (eqB_ok (c.ck2 6 20 rfl rfl)),
    (eqB_ok (c.ck2 6 21 rfl rfl)),
    (eqB_ok (c.ck2 6 22 rfl rfl)),
    (eqB_ok (c.ck2 6 23 rfl rfl)),
    (eqB_ok (c.ck2 6 24 rfl rfl)),
    (eqB_ok (c.ck2 6 25 rfl rfl)),
    (eqB_ok (c.ck2 6 26 rfl rfl)),
    (eqB_ok (c.ck2 6 27 rfl rfl)),
    (eqB_ok (c.ck2 6 28 rfl rfl)),
    (eqB_ok (c.ck2 6 29 rfl rfl)),
    (eqB_ok (c.ck2 6 30 rfl rfl)),
    (eqB_ok (c.ck2 6 31 rfl rfl)),
    (eqB_ok (c.ck2 6 32 rfl rfl)),
    (eqB_ok (c.ck2 6 33 rfl rfl)),
    (eqB_ok (c.ck2 6 34 rfl rfl)),
    (eqB_ok (c.ck2 6 35 rfl rfl)),
    (eqB_ok (c.ck2 6 36 rfl rfl)),
    (eqB_ok (c.ck2 6 37 rfl rfl)),
    (eqB_ok (c.ck2 6 38 rfl rfl)),
    (eqB_ok (c.ck2 6 39 rfl rfl)),
    ⟨(He.eqO_ok (c.ck2 6 40 rfl rfl)), (c.ck2 6 41 rfl rfl), (c.ck2 6 42 rfl rfl)⟩,
    ⟨(He.eqO_ok (c.ck2 6 43 rfl rfl)), (c.ck2 6 44 rfl rfl)⟩,
    ⟨(He.eqO_ok (c.ck2 6 45 rfl rfl)), (c.ck2 6 44 rfl rfl)⟩,
    ⟨(He.eqO_ok (c.ck2 6 46 rfl rfl)), (c.ck2 6 44 rfl rfl)⟩,
    ⟨(He.eqO_ok (c.ck2 6 47 rfl rfl)), (c.ck2 6 44 rfl rfl)⟩,
    ⟨(He.eqO_ok (c.ck2 6 48 rfl rfl)), (c.ck2 6 44 rfl rfl)⟩,
    ⟨(He.eqO_ok (c.ck2 6 49 rfl rfl)), (c.ck2 6 44 rfl rfl)⟩,
    ⟨(He.eqO_ok (c.ck2 6 43 rfl rfl)), (c.ck2 6 44 rfl rfl), (He.eqO_ok (c.ck2 6 50 rfl rfl)), (eqB_ok (c.ck2 2 23 rfl rfl))⟩,
    ⟨(He.eqO_ok (c.ck2 6 45 rfl rfl)), (c.ck2 6 44 rfl rfl), (He.eqO_ok (c.ck2 6 51 rfl rfl)), (eqB_ok (c.ck2 2 29 rfl rfl))⟩,
    ⟨(He.eqO_ok (c.ck2 6 46 rfl rfl)), (c.ck2 6 44 rfl rfl), (He.eqO_ok (c.ck2 6 52 rfl rfl)), (eqB_ok (c.ck2 2 35 rfl rfl))⟩,
    ⟨(He.eqO_ok (c.ck2 6 47 rfl rfl)), (c.ck2 6 44 rfl rfl), (He.eqO_ok (c.ck2 6 53 rfl rfl)), (eqB_ok (c.ck2 2 41 rfl rfl))⟩,
    ⟨(He.eqO_ok (c.ck2 6 48 rfl rfl)), (c.ck2 6 44 rfl rfl), (He.eqO_ok (c.ck2 6 54 rfl rfl)), (eqB_ok (c.ck2 2 47 rfl rfl))⟩,
    ⟨(He.eqO_ok (c.ck2 6 49 rfl rfl)), (c.ck2 6 44 rfl rfl), (He.eqO_ok (c.ck2 6 55 rfl rfl)), (eqB_ok (c.ck2 2 53 rfl rfl))⟩,
    (c.ck2 6 56 rfl rfl),
    (c.ck2 6 57 rfl rfl),
    (c.ck2 6 58 rfl rfl),
    (c.ck2 6 59 rfl rfl),
    (c.ck2 7 0 rfl rfl),
    (c.ck2 7 1 rfl rfl),
    (c.ck2 7 2 rfl rfl),
    (c.ck2 7 3 rfl rfl),
    (c.ck2 7 4 rfl rfl),
    (c.ck2 7 5 rfl rfl),
    (c.ck2 7 6 rfl rfl),
    (c.ck2 7 7 rfl rfl),
    (c.ck2 7 8 rfl rfl),
    (c.ck2 7 9 rfl rfl),
    (c.ck2 7 10 rfl rfl),
    (c.ck2 7 11 rfl rfl),
    (c.ck2 7 12 rfl rfl),
    (c.ck2 7 13 rfl rfl),
    (c.ck2 7 14 rfl rfl),
    (c.ck2 7 15 rfl rfl),
    (c.ck2 7 16 rfl rfl),
    (c.ck2 7 17 rfl rfl),
    (c.ck2 7 18 rfl rfl),
    (c.ck2 7 19 rfl rfl),
    (c.ck2 7 20 rfl rfl),
    (c.ck2 7 21 rfl rfl),
    (c.ck2 7 22 rfl rfl),
    (c.ck2 7 23 rfl rfl),
    (c.ck2 7 24 rfl rfl),
    (c.ck2 7 25 rfl rfl),
    (c.ck2 7 26 rfl rfl),
    (c.ck2 7 27 rfl rfl),
    (c.ck2 7 28 rfl rfl),
    (c.ck2 7 29 rfl rfl),
    (c.ck2 7 30 rfl rfl),
    (c.ck2 7 31 rfl rfl),
    (eqB_ok (c.ck2 7 32 rfl rfl)),
    (eqB_ok (c.ck2 7 33 rfl rfl)),
    (eqB_ok (c.ck2 7 34 rfl rfl)),
    (eqB_ok (c.ck2 7 35 rfl rfl)),
    (eqB_ok (c.ck2 7 36 rfl rfl)),
    (eqB_ok (c.ck2 7 37 rfl rfl)),
    (eqB_ok (c.ck2 7 38 rfl rfl)),
    (eqB_ok (c.ck2 7 39 rfl rfl)),
    (eqB_ok (c.ck2 7 40 rfl rfl)),
    (eqB_ok (c.ck2 7 41 rfl rfl)),
    (eqB_ok (c.ck2 7 42 rfl rfl)),
    (eqB_ok (c.ck2 7 43 rfl rfl)),
    (eqB_ok (c.ck2 7 44 rfl rfl)),
    (eqB_ok (c.ck2 7 45 rfl rfl)),
    (eqB_ok (c.ck2 7 46 rfl rfl)),
    (eqB_ok (c.ck2 7 47 rfl rfl)),
    (eqB_ok (c.ck2 7 48 rfl rfl)),
    (eqB_ok (c.ck2 7 49 rfl rfl)),
    (eqB_ok (c.ck2 7 50 rfl rfl)),
    (eqB_ok (c.ck2 7 51 rfl rfl)),
    (eqB_ok (c.ck2 7 52 rfl rfl)),
    (eqB_ok (c.ck2 7 53 rfl rfl)),
    (eqB_ok (c.ck2 7 54 rfl rfl)),
    (eqB_ok (c.ck2 7 55 rfl rfl)),
    (eqB_ok (c.ck2 7 56 rfl rfl)),
    ⟨⟨oexB_ok (c.ck2 7 57 rfl rfl), (He.eqO_ok (c.ck2 7 58 rfl rfl)), (eqB_ok (c.ck2 7 59 rfl rfl)), of_decide_eq_true (c.ck2 8 0 rfl rfl), (c.ck2 8 1 rfl rfl)⟩, (He.eqO_ok (c.ck2 8 2 rfl rfl)), of_decide_eq_true (c.ck2 8 3 rfl rfl), (He.eqO_ok (c.ck2 8 4 rfl rfl)), xfB_ok (c.ck2 8 5 rfl rfl)⟩,
    (eqB_ok (c.ck2 8 6 rfl rfl)),
    (eqB_ok (c.ck2 8 7 rfl rfl)),
    (eqB_ok (c.ck2 8 8 rfl rfl)),
    (Exists.elim (FD57.kbinds0 (ps := ["self", "name", "limit"]) 2 ["limit"] [] (fun us _ ws => us ++ ws) (by simp) (fun _ h => nomatch h) (fun r1 _ r3 => r1.append r3) (fun _ _ _ _ _ _ us mv ws h1 h2 h3 => match us, mv, ws, h1, h2, h3 with | [_, _], [], [_], _, _, _ => rfl)) fun _ h => h),
    ⟨(He.ma K (He.ga K "Stream") "limit"), ⟨(He.eqO_ok (c.ck2 8 9 rfl rfl)), of_decide_eq_true (c.ck2 8 10 rfl rfl), stB_ok (c.ck2 8 11 rfl rfl)⟩⟩,
    ⟨(He.ma K (He.ga K "Stream") "limit"), ⟨(He.eqO_ok (c.ck2 8 12 rfl rfl)), (He.eqO_ok (c.ck2 8 13 rfl rfl)), (eqB_ok (c.ck2 8 14 rfl rfl)), gtB_ok (c.ck2 8 15 rfl rfl)⟩⟩,
    ⟨cdA K ("law", none), cdP K ("law", none), rfl, rfl, FC29⟩,
    ⟨(He.eqO_ok (c.ck2 8 16 rfl rfl)), (c.ck2 8 17 rfl rfl), (c.ck2 8 18 rfl rfl)⟩,
    ⟨(He.eqO_ok (c.ck2 8 19 rfl rfl)), (c.ck2 8 17 rfl rfl), (c.ck2 8 18 rfl rfl)⟩,
    ⟨(He.eqO_ok (c.ck2 8 20 rfl rfl)), (c.ck2 8 17 rfl rfl), (c.ck2 8 18 rfl rfl)⟩,
    ⟨(He.eqO_ok (c.ck2 8 21 rfl rfl)), (c.ck2 8 17 rfl rfl), (c.ck2 8 18 rfl rfl)⟩,
    ⟨(He.eqO_ok (c.ck2 8 22 rfl rfl)), (c.ck2 8 17 rfl rfl), (c.ck2 8 18 rfl rfl)⟩,
    ⟨(He.eqO_ok (c.ck2 8 23 rfl rfl)), (c.ck2 8 17 rfl rfl), (c.ck2 8 18 rfl rfl)⟩,
    PySem.W.mg_none_of X G (He.eqO_ok (c.ck2 8 24 rfl rfl)),
    PySem.W.mg_none_of X G (He.eqO_ok (c.ck2 8 25 rfl rfl)),
    PySem.W.mg_none_of X G (He.eqO_ok (c.ck2 8 26 rfl rfl)),
    PySem.W.mg_none_of X G (He.eqO_ok (c.ck2 8 27 rfl rfl)),
    PySem.W.mg_none_of X G (He.eqO_ok (c.ck2 8 28 rfl rfl)),
    PySem.W.mg_none_of X G (He.eqO_ok (c.ck2 8 29 rfl rfl)),
    PySem.W.mg_none_of X G (He.eqO_ok (c.ck2 8 30 rfl rfl)),
    PySem.W.mg_none_of X G (He.eqO_ok (c.ck2 8 31 rfl rfl)),
    PySem.W.mg_none_of X G (He.eqO_ok (c.ck2 8 32 rfl rfl)),
    PySem.W.mg_none_of X G (He.eqO_ok (c.ck2 8 33 rfl rfl)),
    PySem.W.mg_none_of X G (He.eqO_ok (c.ck2 1 48 rfl rfl)),
    PySem.W.mg_none_of X G (He.eqO_ok (c.ck2 8 34 rfl rfl)),
    PySem.W.mg_none_of X G (He.eqO_ok (c.ck2 8 35 rfl rfl)),
    PySem.W.mg_none_of X G (He.eqO_ok (c.ck2 8 36 rfl rfl)),
    PySem.W.mg_none_of X G (He.eqO_ok (c.ck2 8 37 rfl rfl))⟩, rfl, bl⟩
-- END RUN
-- LAWIX: 71
end Pl

set_option Elab.async false
set_option linter.all false
set_option maxRecDepth 100000
set_option maxHeartbeats 4000000
/-! sorted over data, max with a default, C() -/
namespace Pl
open PySem PySem.Spec PyProof.Rows L2
section
variable {X : Cx}
/-- xs reads as data, item by item -/
def RdAll (K : PySem.W.Frag) (H : Hp) {β : Type} (enc : β → PyData) (vs : List V) (bs : List β) : Prop := vs.length = bs.length ∧ ∀ (i : Nat) (v : V) (b : β), vs[i]? = some v → bs[i]? = some b → Dp K H v (enc b)
theorem each_of {R : Value → β → Prop} : ∀ {us : List Value} {bs : List β}, us.length = bs.length → (∀ (i : Nat) u b, us[i]? = some u → bs[i]? = some b → R u b) → PySem.W.EachIs R us bs
  | [], [], _, _ => .nil
  | u :: us, b :: bs, hl, h => .cons (h 0 u b rfl rfl) (each_of (Nat.succ.inj hl) fun i u b h1 h2 => h (i + 1) u b h1 h2)
theorem each_at {R : Value → β → Prop} : ∀ {us : List Value} {bs : List β}, PySem.W.EachIs R us bs → ∀ (i : Nat) u b, us[i]? = some u → bs[i]? = some b → R u b
  | _, _, .cons r _, 0, u, b, h1, h2 => by
    cases h1
    cases h2
    exact r
  | _, _, .cons _ t, i + 1, u, b, h1, h2 => each_at t i u b h1 h2
  | _, _, .nil, _, u, b, h1, _ => by simp at h1
theorem vals_of : ∀ {vs : List V} {us : List Value}, PySem.W.EachIs (fun u v => RelV v u) us vs → Vals vs us
  | _, _, .nil => .nil
  | _, _, .cons r t => .cons r (vals_of t)
theorem each_fst {β : Type} : ∀ {us : List Value} {ps : List (V × β)}, PySem.W.EachIs (fun u (p : V × β) => RelV p.1 u) us ps → Vals (ps.map (·.1)) us
  | _, _, .nil => .nil
  | _, _, .cons r t => .cons r (each_fst t)
/-- sorted(xs): xs a list that reads as alike data -/
def rSortD (K : PySem.W.Frag) {β : Type} (enc : β → PyData) : List V → Hp → VK → Prop := fun xs H Q => ∃ (a : Addr) (ps : List (V × β)), xs = [V.ref a] ∧ SqL K H a (ps.map (·.1)) ∧ ps.length ≤ 100000 ∧ (∀ p ∈ ps, Dp K H p.1 (enc p.2)) ∧
  PySem.W.AllAlike ((ps.map (·.2)).map enc) ∧ PySem.W.Sortable ((ps.map (·.2)).map enc) ∧ (∀ p ∈ ps, (enc p.2).depth ≤ 10) ∧ ∀ q, H q = none → Q (.ref q) (upd H q (.lst ((ps.mergeSort (PySem.W.dataLe false fun p => enc p.2)).map (·.1))))
theorem cr_sortD {β : Type} {enc : β → PyData} (hu : X.A.units + 64 < cLine) : CallR X (.builtin "sorted") (rSortD X.K enc) := by
  intro pins s σ H xs us Q I r h
  obtain ⟨a, ps, rfl, hs, hl, hd, hal, hsr, hdp, q⟩ := h
  obtain ⟨its, rv, hli, _⟩ := I.list hs
  rw [Vals.ref1 r]
  have hle : its.length = ps.length := by rw [← rv.length, List.length_map]
  have rel : ∀ (i : Nat) u p, its[i]? = some u → ps[i]? = some p → RelV p.1 u := fun i u p h1 h2 => by
    obtain ⟨u', hu', r'⟩ := rv.get (i := i) (x := p.1) (by rw [List.getElem?_map, h2]; rfl)
    rw [h1] at hu'
    cases hu'
    exact r'
  have e1 : PySem.W.EachIs (fun u (p : V × β) => RelV p.1 u) its ps := each_of hle rel
  have e2 : PySem.W.EachIs (fun u (p : V × β) => ∃ as, Reads s.heap u (enc p.2) as) its ps := each_of hle fun i u p h1 h2 => Dp.reads I _ _ _ (hd p (List.mem_of_getElem? h2)) (rel i u p h1 h2)
  have em : (ps.map (·.2)).map enc = ps.map fun p => enc p.2 := by rw [List.map_map]; rfl
  refine PySem.W.sorted_data (bs := ps) (enc := fun p => enc p.2) hli.isList e1 e2 (by rw [← em]; exact hal) (by rw [← em]; exact hsr) (Nat.le_trans hl (by decide)) (fun p hp => by have := hdp p hp; show X.A.units + 2 + (enc p.2).depth < cLine; omega) fun out ho eo => ?_
  obtain ⟨c, hc⟩ := sortedAll_at s.heap its out.toArray
  have fr : H (s.heap.objs.size + 1) = none := I.hok.fresh (Nat.le_succ _)
  refine ⟨.ref (s.heap.objs.size + 1), _, I.laid (t' := s.toks) (fun _ _ => sortedAll_old) (Nat.le_succ _) ?_, rfl, q _ fr⟩
  have hv := each_fst eo
  refine ⟨?_, out, c, hv, hc⟩
  rw [List.length_map, List.length_mergeSort]
  exact Nat.le_trans hl (by decide)
def mxD (d : Int) : List Int → Int
  | [] => d
  | n :: r => r.foldl max n
/-- max(xs, default=d): a list of numbers -/
def rMaxDef (K : PySem.W.Frag) : List V → List V → Hp → VK → Prop := fun xs zs H Q => ∃ (a : Addr) (ns : List Int) (d : Int), xs = [V.ref a] ∧ zs = [V.int d] ∧ SqL K H a (ns.map V.int) ∧ Q (.int (mxD d ns)) H
theorem dp_ints {K : PySem.W.Frag} {H : Hp} : ∀ ns : List Int, DpAll K H (ns.map V.int) (ns.map PyData.int)
  | [] => .nil
  | n :: ns => .cons (.int n) (dp_ints ns)
theorem crk_maxDef (hc : X.calm = true) (hu : X.A.units + 64 < cLine) : CallRK X (.builtin "max") [("default" : Str)] (rMaxDef X.K) := by
  intro pins s σ H xs zs us ws Q I r1 r2 h
  obtain ⟨a, ns, d, rfl, rfl, hs, q⟩ := h
  obtain ⟨its, rv, hli, _⟩ := I.list hs
  rw [Vals.ref1 r1]
  obtain ⟨w, rfl, rw'⟩ := r2.one
  obtain ⟨t, rfl⟩ := (show ∃ t, w = Value.int d t from rw')
  obtain ⟨as, hr⟩ := Dp.readsAll I _ _ _ (dp_ints ns) rv
  have hdp := PySem.W.depth_ints ns
  refine PySem.W.max_list_default (A := X.A) (xs := ns.map PyData.int) (vs := its.toArray) (I.ok.hd hc) hli.isList hr ?_ ?_ ?_ ?_
  · refine ⟨fun x hx y hy => ?_, fun x hx => ?_⟩
    · obtain ⟨i, _, rfl⟩ := List.mem_map.mp hx
      obtain ⟨j, _, rfl⟩ := List.mem_map.mp hy
      rfl
    · obtain ⟨i, _, rfl⟩ := List.mem_map.mp hx
      intro z
      cases z
  · rw [hdp]
    omega
  · intro e h' tk hk
    have e' : ns = [] := List.map_eq_nil_iff.mp e
    subst e'
    exact ⟨.int d, H, I.kept hk, ⟨_, rfl⟩, q⟩
  · intro y ys i v h' tk bs e hv hr' hk
    cases ns with
    | nil => cases e
    | cons n r =>
      cases e
      rw [PySem.W.maxD_ints] at hr'
      cases hr'
      exact ⟨.int _, H, I.kept hk, ⟨_, rfl⟩, q⟩
/-- C() by a positional promise -/
theorem pe_makeR0 {CX : CXT} {k : Nat} {f C : Addr} {sp : Sp} {E : XK} {x : Str} {p pos : Pos} (M : Mk X.K C f) (F : FnR X.prog X.w X.K X.mg X.base CX k f sp) (hr : Room (k + 1) X.A) (hg : Gl X x) (hm : X.mg x = some (.ref C)) (hx : Passes CX X E) (hdb : (x == ("__debug__" : Str)) = false := by decide) :
    PE X (.Call (.Name x p) [] [] pos) (StX.tMakeR C sp E tNil) := by
  refine ⟨fun pins s σ H Q I h => ?_⟩
  refine wpAny_Call_Name_kw (ld_glob I hg hm ?_ hdb)
  exact PySem.W.callWith_K0 I.kIn M.kp (StX.run_makeR (us := []) M F hr hx I .nil h)
end
end Pl

set_option Elab.async false
set_option linter.all false
set_option maxRecDepth 100000
set_option maxHeartbeats 4000000
/-! Looks and rows in plain words; comprehensions that only read. -/
namespace Pl
open PySem L2
/-! ### looks -/
def fitsB (row m : Int) (way : Str) : Bool := if way = "at" then decide (row ≤ m) else if way = "before" then decide (row < m) else if way = "since" then decide (row ≥ m) else decide (row > m)
def isBack (way : Str) : Bool := decide (way = "at") || decide (way = "before")
def tooFar (row m : Int) : Option Int → Bool
  | none => false
  | some l => decide ((if row - m < 0 then -(row - m) else row - m) > l)
def lookedUp (ms : List Int) (m : Int) (way : Str) (lim : Option Int) : Option Int :=
  match ms.filter (fitsB · m way) with
  | [] => none
  | r :: rs => if tooFar (if isBack way then (r :: rs).getLast (by simp) else r) m lim then none else some (if isBack way then (r :: rs).getLast (by simp) else r)
/-- the row that a look takes -/
structure Best (ms : List Int) (m : Int) (way : Str) (x : Int) : Prop where
  mem : x ∈ ms
  fit : fitsB x m way = true
  top : ∀ y ∈ ms, fitsB y m way = true → if isBack way then y ≤ x else x ≤ y
theorem Best.uniq {ms ms' : List Int} {m : Int} {way : Str} {x y : Int} (h : Best ms m way x) (g : Best ms' m way y) (e : ∀ z, z ∈ ms ↔ z ∈ ms') : x = y := by
  have h1 := h.top y ((e y).mpr g.mem) g.fit
  have h2 := g.top x ((e x).mp h.mem) h.fit
  split at h1
  · rename_i q; rw [if_pos q] at h2; omega
  · rename_i q; rw [if_neg q] at h2; omega
theorem sorted_last {l : List Int} (h : l.Pairwise (· ≤ ·)) (hn : l ≠ []) : ∀ y ∈ l, y ≤ l.getLast hn := by
  induction l with
  | nil => exact absurd rfl hn
  | cons a l ih =>
    cases l with
    | nil =>
      intro y hy
      simp at hy
      subst hy
      exact Int.le_refl _
    | cons b l =>
      rw [List.getLast_cons (by simp)]
      intro y hy
      rw [List.pairwise_cons] at h
      rcases List.mem_cons.mp hy with rfl | hy
      · exact h.1 _ (List.getLast_mem _)
      · exact ih h.2 (by simp) y hy
theorem lookedUp_cases {ms : List Int} (hs : ms.Pairwise (· ≤ ·)) (m : Int) (way : Str) (lim : Option Int) :
    ((∀ y ∈ ms, fitsB y m way = false) ∧ lookedUp ms m way lim = none) ∨ ∃ x, Best ms m way x ∧ lookedUp ms m way lim = if tooFar x m lim then none else some x := by
  unfold lookedUp
  have hf : (ms.filter (fitsB · m way)).Pairwise (· ≤ ·) := hs.filter _
  have hm : ∀ y, y ∈ ms.filter (fitsB · m way) ↔ y ∈ ms ∧ fitsB y m way = true := fun y => List.mem_filter
  generalize ms.filter (fitsB · m way) = l at hf hm
  cases l with
  | nil =>
    refine .inl ⟨fun y hy => ?_, rfl⟩
    cases e : fitsB y m way with
    | false => rfl
    | true => exact absurd ((hm y).mpr ⟨hy, e⟩) (by simp)
  | cons r rs =>
    refine .inr ⟨if isBack way then (r :: rs).getLast (by simp) else r, ?_, rfl⟩
    by_cases hb : isBack way = true
    · rw [if_pos hb]
      have h1 := (hm _).mp (List.getLast_mem (l := r :: rs) (by simp))
      refine ⟨h1.1, h1.2, fun y hy hyf => ?_⟩
      rw [if_pos hb]
      exact sorted_last hf (by simp) y ((hm y).mpr ⟨hy, hyf⟩)
    · rw [if_neg hb]
      have h1 := (hm r).mp (by simp)
      refine ⟨h1.1, h1.2, fun y hy hyf => ?_⟩
      rw [if_neg hb]
      rcases List.mem_cons.mp ((hm y).mpr ⟨hy, hyf⟩) with e | e
      · rw [e]; exact Int.le_refl _
      · exact (List.pairwise_cons.mp hf).1 y e
theorem lookedUp_congr {l l' : List Int} (h : l.Pairwise (· ≤ ·)) (h' : l'.Pairwise (· ≤ ·)) (e : ∀ z, z ∈ l ↔ z ∈ l') (m : Int) (way : Str) (lim : Option Int) : lookedUp l m way lim = lookedUp l' m way lim := by
  rcases lookedUp_cases h m way lim with ⟨a1, a2⟩ | ⟨x, bx, ex⟩
  · rcases lookedUp_cases h' m way lim with ⟨b1, b2⟩ | ⟨y, by_, ey⟩
    · rw [a2, b2]
    · have := a1 y ((e y).mpr by_.mem)
      rw [by_.fit] at this
      cases this
  · rcases lookedUp_cases h' m way lim with ⟨b1, b2⟩ | ⟨y, by_, ey⟩
    · have := b1 x ((e x).mp bx.mem)
      rw [bx.fit] at this
      cases this
    · rw [ex, ey, bx.uniq by_ e]
theorem fits_back {y m : Int} {way : Str} (h : fitsB y m way = true) (hb : isBack way = true) : y ≤ m := by
  unfold fitsB at h
  unfold isBack at hb
  split at h
  · exact of_decide_eq_true h
  · split at h
    · have := of_decide_eq_true h; omega
    · rename_i h1 h2; simp [h1, h2] at hb
theorem fits_fore {y m : Int} {way : Str} (h : fitsB y m way = true) (hb : ¬ isBack way = true) : m ≤ y := by
  unfold fitsB at h
  unfold isBack at hb
  split at h
  · rename_i h1; simp [h1] at hb
  · split at h
    · rename_i h1; simp [h1] at hb
    · split at h
      · have := of_decide_eq_true h; omega
      · have := of_decide_eq_true h; omega
/-! ### rows -/
def rowsOf (ps : List (Str × Int)) (s : Str) : List Int := (ps.filter fun p => decide (p.1 = s)).map (·.2)
def encP : Str × Int → PyData := fun p => .tuple [.str p.1, .int p.2]
def sortP (ps : List (Str × Int)) : List (Str × Int) := ps.mergeSort (PySem.W.dataLe false encP)
def leP (p q : Str × Int) : Prop := p.1.cps.toList < q.1.cps.toList ∨ (p.1 = q.1 ∧ p.2 ≤ q.2)
theorem str_ext {a b : Str} (h : a.cps.toList = b.cps.toList) : a = b := by
  cases a; cases b
  simp only at h
  rw [Array.toList_inj] at h
  rw [h]
theorem dataLt_si (x x' : Str) (y y' : Int) : PySem.W.dataLt (.tuple [.str x, .int y]) (.tuple [.str x', .int y']) = decide (x.cps.toList < x'.cps.toList ∨ (x = x' ∧ y < y')) := by
  rw [PySem.W.dataLt_pair (by simp [PySem.W.alike]) (by simp [PySem.W.alike]), PySem.W.dataLt_int, PySem.W.dataLt_str]
  simp only [PyData.eqv, beq_iff_eq]
  by_cases h1 : x = x'
  · subst h1
    by_cases h2 : y = y' <;> simp [h2, List.lt_irrefl]
  · simp [h1]
theorem dataLe_si (p q : Str × Int) : PySem.W.dataLe false encP p q = true ↔ leP p q := by
  show (!PySem.W.dataLt (.tuple [.str q.1, .int q.2]) (.tuple [.str p.1, .int p.2])) = true ↔ _
  rw [dataLt_si]
  simp only [Bool.not_eq_true', decide_eq_false_iff_not]
  unfold leP
  constructor
  · intro h
    by_cases e : p.1 = q.1
    · exact .inr ⟨e, by
        have : ¬ (q.1 = p.1 ∧ q.2 < p.2) := fun z => h (.inr z)
        have : ¬ q.2 < p.2 := fun z => this ⟨e.symm, z⟩
        omega⟩
    · refine .inl ?_
      have h1 : ¬ q.1.cps.toList < p.1.cps.toList := fun z => h (.inl z)
      have h2 : p.1.cps.toList ≤ q.1.cps.toList := List.not_lt.mp h1
      rcases List.le_iff_lt_or_eq.mp h2 with z | z
      · exact z
      · exact absurd (str_ext z) e
  · rintro (h | ⟨h1, h2⟩) (g | ⟨g1, g2⟩)
    · exact List.lt_irrefl _ (List.lt_trans h g)
    · rw [g1] at h; exact List.lt_irrefl _ h
    · rw [h1] at g; exact List.lt_irrefl _ g
    · omega
theorem leP_trans {p q r : Str × Int} (h : leP p q) (g : leP q r) : leP p r := by
  rcases h with h | ⟨h1, h2⟩
  · rcases g with g | ⟨g1, g2⟩
    · exact .inl (List.lt_trans h g)
    · rw [g1] at h; exact .inl h
  · rcases g with g | ⟨g1, g2⟩
    · rw [← h1] at g; exact .inl g
    · exact .inr ⟨h1.trans g1, by omega⟩
theorem leP_total (p q : Str × Int) : leP p q ∨ leP q p := by
  by_cases e : p.1 = q.1
  · rcases Int.le_total p.2 q.2 with h | h
    · exact .inl (.inr ⟨e, h⟩)
    · exact .inr (.inr ⟨e.symm, h⟩)
  · by_cases h : p.1.cps.toList < q.1.cps.toList
    · exact .inl (.inl h)
    · have h2 : q.1.cps.toList ≤ p.1.cps.toList := List.not_lt.mp h
      rcases List.le_iff_lt_or_eq.mp h2 with z | z
      · exact .inr (.inl z)
      · exact absurd (str_ext z).symm e
theorem sortP_perm (ps : List (Str × Int)) : (sortP ps).Perm ps := List.mergeSort_perm _ _
theorem sortP_pw (ps : List (Str × Int)) : (sortP ps).Pairwise leP := by
  have h := List.pairwise_mergeSort (le := PySem.W.dataLe false encP) (fun a b c h1 h2 => (dataLe_si a c).mpr (leP_trans ((dataLe_si a b).mp h1) ((dataLe_si b c).mp h2))) (fun a b => by
    rw [Bool.or_eq_true]
    rcases leP_total a b with h | h
    · exact .inl ((dataLe_si a b).mpr h)
    · exact .inr ((dataLe_si b a).mpr h)) ps
  exact h.imp fun h => (dataLe_si _ _).mp h
theorem sortP_len (ps : List (Str × Int)) : (sortP ps).length = ps.length := (sortP_perm ps).length_eq
theorem rowsOf_sorted {ps : List (Str × Int)} (h : ps.Pairwise leP) (s : Str) : (rowsOf ps s).Pairwise (· ≤ ·) := by
  unfold rowsOf
  rw [List.pairwise_map]
  refine (List.Pairwise.and_mem.mp (h.filter _)).imp ?_
  rintro a b ⟨ha, hb, hab⟩
  have e1 : a.1 = s := of_decide_eq_true (List.mem_filter.mp ha).2
  have e2 : b.1 = s := of_decide_eq_true (List.mem_filter.mp hb).2
  rcases hab with h | h
  · rw [e1, e2] at h
    exact absurd h (List.lt_irrefl _)
  · exact h.2
theorem rowsOf_perm {ps qs : List (Str × Int)} (h : ps.Perm qs) (s : Str) : (rowsOf ps s).Perm (rowsOf qs s) := (h.filter _).map _
theorem mem_rowsOf {ps : List (Str × Int)} {s : Str} {x : Int} : x ∈ rowsOf ps s ↔ (s, x) ∈ ps := by
  unfold rowsOf
  rw [List.mem_map]
  constructor
  · rintro ⟨⟨a, b⟩, h, rfl⟩
    obtain ⟨h1, h2⟩ := List.mem_filter.mp h
    have : a = s := of_decide_eq_true h2
    subst this
    exact h1
  · intro h
    exact ⟨(s, x), List.mem_filter.mpr ⟨h, decide_eq_true rfl⟩, rfl⟩
/-! ### names, ways, limits, rows as the heap has them -/
abbrev letters : Str := "abcdefghijklmnopqrstuvwxyz"
def goodName (z : Str) : Prop := 1 ≤ z.length ∧ z.length ≤ 12 ∧ ∀ c ∈ z.cps.toList, c ∈ letters.cps.toList
abbrev ways : List Str := ["at", "before", "since", "after"]
def limOk : Option Int → Prop
  | none => True
  | some l => 0 ≤ l
/-- rows: names and lists of numbers -/
abbrev Rws := List (Str × List Int)
def EntAt (H : Hp) (kv : Key × V) (r : Str × List Int) : Prop := kv.1 = .inr r.1 ∧ ∃ a, kv.2 = .ref a ∧ H a = some (.lst (r.2.map V.int))
def EntsAt (H : Hp) (kvs : List (Key × V)) (rs : Rws) : Prop := kvs.length = rs.length ∧ ∀ (i : Nat) kv r, kvs[i]? = some kv → rs[i]? = some r → EntAt H kv r
theorem EntsAt.same {H H' : Hp} {kvs : List (Key × V)} {rs : Rws} (s : Same H H') (h : EntsAt H kvs rs) : EntsAt H' kvs rs := ⟨h.1, fun i kv r h1 h2 => by
  obtain ⟨e, a, e2, ha⟩ := h.2 i kv r h1 h2
  exact ⟨e, a, e2, s _ _ ha⟩⟩
def goodRows (rs : Rws) : Prop := (∀ r ∈ rs, goodName r.1 ∧ r.2.Nodup ∧ r.2.length ≤ 300) ∧ (rs.map fun r => r.2.length).sum ≤ 300
/-- the pairs of a row -/
def prsOf (r : Str × List Int) : List (Str × Int) := r.2.map fun m => (r.1, m)
def PrsAt (H : Hp) (vs : List V) (ps : List (Str × Int)) : Prop := vs.length = ps.length ∧ ∀ (i : Nat) p, ps[i]? = some p → ∃ t, vs[i]? = some (.ref t) ∧ H t = some (.tup [.str p.1, .int p.2])
theorem PrsAt.same {H H' : Hp} {vs : List V} {ps : List (Str × Int)} (s : Same H H') (h : PrsAt H vs ps) : PrsAt H' vs ps := ⟨h.1, fun i p e => by
  obtain ⟨t, e1, e2⟩ := h.2 i p e
  exact ⟨t, e1, s _ _ e2⟩⟩
theorem PrsAt.app {H : Hp} {vs us : List V} {ps qs : List (Str × Int)} (h : PrsAt H vs ps) (g : PrsAt H us qs) : PrsAt H (vs ++ us) (ps ++ qs) := by
  refine ⟨by rw [List.length_append, List.length_append, h.1, g.1], fun i p e => ?_⟩
  rw [List.getElem?_append] at e ⊢
  by_cases hl : i < ps.length
  · rw [if_pos hl] at e
    rw [if_pos (by rw [h.1]; exact hl)]
    exact h.2 i p e
  · rw [if_neg hl] at e
    rw [if_neg (by rw [h.1]; exact hl), h.1]
    exact g.2 _ p e
theorem PrsAt.put {H : Hp} {vs xs : List V} {ps : List (Str × Int)} {D : Addr} {o : HO} (hD : H D = some (.lst xs)) (h : PrsAt H vs ps) : PrsAt (upd H D o) vs ps := ⟨h.1, fun i p e => by
  obtain ⟨t, e1, e2⟩ := h.2 i p e
  refine ⟨t, e1, ?_⟩
  rw [upd_ne (fun z => by rw [z, hD] at e2; cases e2)]
  exact e2⟩
/-- the rows of a name -/
def getR (rs : Rws) (z : Str) : List Int := match rs.find? (fun r => decide (r.1 = z)) with
  | none => []
  | some r => r.2
def wRows (rs : Rws) : List (Str × Int) := sortP (rs.flatMap prsOf)
theorem mem_prs {rs : Rws} {z : Str} {x : Int} : (z, x) ∈ rs.flatMap prsOf ↔ ∃ r ∈ rs, r.1 = z ∧ x ∈ r.2 := by
  rw [List.mem_flatMap]
  constructor
  · rintro ⟨r, h1, h2⟩
    obtain ⟨y, h3, h4⟩ := List.mem_map.mp h2
    cases h4
    exact ⟨r, h1, rfl, h3⟩
  · rintro ⟨r, h1, rfl, h3⟩
    exact ⟨r, h1, List.mem_map.mpr ⟨x, h3, rfl⟩⟩
theorem mem_getR {rs : Rws} (hn : (rs.map (·.1)).Nodup) {z : Str} {x : Int} : x ∈ getR rs z ↔ ∃ r ∈ rs, r.1 = z ∧ x ∈ r.2 := by
  unfold getR
  constructor
  · intro h
    cases e : rs.find? (fun r => decide (r.1 = z)) with
    | none => rw [e] at h; cases h
    | some r =>
      rw [e] at h
      exact ⟨r, List.mem_of_find?_eq_some e, of_decide_eq_true (List.find?_some (p := fun r : Str × List Int => decide (r.1 = z)) e), h⟩
  · rintro ⟨r, h1, h2, h3⟩
    cases e : rs.find? (fun r => decide (r.1 = z)) with
    | none =>
      have := List.find?_eq_none.mp e r h1
      simp [h2] at this
    | some q =>
      have hq := List.mem_of_find?_eq_some e
      have eq : q.1 = z := of_decide_eq_true (List.find?_some (p := fun r : Str × List Int => decide (r.1 = z)) e)
      have : q = r := by
        obtain ⟨i, hi⟩ := List.mem_iff_getElem?.mp hq
        obtain ⟨j, hj⟩ := List.mem_iff_getElem?.mp h1
        have a1 : (rs.map (·.1))[i]? = some z := by rw [List.getElem?_map, hi, ← eq]; rfl
        have a2 : (rs.map (·.1))[j]? = some z := by rw [List.getElem?_map, hj, ← h2]; rfl
        have hl1 := List.getElem?_eq_some_iff.mp a1
        have hl2 := List.getElem?_eq_some_iff.mp a2
        have : i = j := by
          rcases Nat.lt_trichotomy i j with h | h | h
          · exact absurd (hl1.2.trans hl2.2.symm) (List.pairwise_iff_getElem.mp hn i j hl1.1 hl2.1 h)
          · exact h
          · exact absurd (hl2.2.trans hl1.2.symm) (List.pairwise_iff_getElem.mp hn j i hl2.1 hl1.1 h)
        subst this
        rw [hi] at hj
        exact Option.some.inj hj
      rw [this]
      exact h3
theorem mem_world {rs : Rws} (hn : (rs.map (·.1)).Nodup) (z : Str) (x : Int) : x ∈ rowsOf (wRows rs) z ↔ x ∈ getR rs z := by
  rw [mem_rowsOf, mem_getR hn, ← mem_prs]
  exact (sortP_perm _).mem_iff
theorem world_sorted (rs : Rws) (z : Str) : (rowsOf (wRows rs) z).Pairwise (· ≤ ·) := rowsOf_sorted (sortP_pw _) z
theorem wRows_len (rs : Rws) : (wRows rs).length = (rs.map fun r => r.2.length).sum := by
  unfold wRows
  rw [sortP_len]
  induction rs with
  | nil => rfl
  | cons x rs ih =>
    simp only [List.flatMap_cons, List.length_append, List.map_cons, List.sum_cons, ih]
    simp [prsOf]
theorem prs_sort {H : Hp} {us : List V} {ps : List (Str × Int)} (h : PrsAt H us ps) : PrsAt H (((us.zip ps).mergeSort (PySem.W.dataLe false fun p => encP p.2)).map (·.1)) (sortP ps) := by
  have e2 : (us.zip ps).map (·.2) = ps := List.map_snd_zip (by rw [h.1]; exact Nat.le_refl _)
  have e3 : sortP ps = ((us.zip ps).mergeSort (PySem.W.dataLe false fun p => encP p.2)).map (·.2) := by
    have z := List.map_mergeSort (r := PySem.W.dataLe false fun p : V × (Str × Int) => encP p.2) (s := PySem.W.dataLe false encP) (f := fun p : V × (Str × Int) => p.2) (l := us.zip ps) (fun a _ b _ => rfl)
    rw [z, e2]
    rfl
  rw [e3]
  refine ⟨by rw [List.length_map, List.length_map], fun i p e => ?_⟩
  rw [List.getElem?_map] at e ⊢
  cases hz : ((us.zip ps).mergeSort (PySem.W.dataLe false fun p => encP p.2))[i]? with
  | none => rw [hz] at e; cases e
  | some z =>
    rw [hz] at e
    obtain ⟨v, q⟩ := z
    have eq : q = p := Option.some.inj e
    subst eq
    have hm := List.mem_mergeSort.mp (List.mem_of_getElem? hz)
    obtain ⟨j, hj⟩ := List.mem_iff_getElem?.mp hm
    rw [List.getElem?_zip_eq_some] at hj
    obtain ⟨t, t1, t2⟩ := h.2 j q hj.2
    rw [hj.1] at t1
    exact ⟨t, t1, t2⟩
/-! ### what stands beside the box -/
def mn (S : List Addr) (H : Hp) : Hp := fun a => if a ∈ S then none else H a
theorem mn_at {S : List Addr} {H : Hp} {a : Addr} (h : a ∉ S) : mn S H a = H a := if_neg h
theorem mn_in {S : List Addr} {H : Hp} {a : Addr} (h : a ∈ S) : mn S H a = none := if_pos h
theorem mn_same {S : List Addr} {H : Hp} : Same (mn S H) H := fun a o e => by
  unfold mn at e
  split at e
  · cases e
  · exact e
theorem same_mn {S : List Addr} {G H : Hp} (s : Same G H) (h : ∀ a ∈ S, G a = none) : Same G (mn S H) := fun a o e => by
  rw [mn_at (fun z => by rw [h a z] at e; cases e)]
  exact s a o e
/-- S: lists -/
def Lsts (S : List Addr) (H : Hp) : Prop := ∀ a ∈ S, ∃ xs, H a = some (.lst xs)
theorem mn_nl {S : List Addr} {H : Hp} {a : Addr} {o : HO} (hS : Lsts S H) (h : H a = some o) (ho : ∀ xs, o ≠ .lst xs) : mn S H a = some o := by
  rw [mn_at (fun z => by obtain ⟨xs, e⟩ := hS a z; rw [h] at e; exact ho xs (Option.some.inj e))]
  exact h
theorem PrsAt.mn {S : List Addr} {H : Hp} (hS : Lsts S H) {vs : List V} {ps : List (Str × Int)} (h : PrsAt H vs ps) : PrsAt (mn S H) vs ps := ⟨h.1, fun i p e => by
  obtain ⟨t, e1, e2⟩ := h.2 i p e
  exact ⟨t, e1, mn_nl hS e2 (fun _ z => nomatch z)⟩⟩
theorem Wd.lsts {b c : Addr} {G H : Hp} (W : Wd b c G H) : Lsts [b, c] H := fun a ha => by
  obtain ⟨_, cs, k, b1, b2, _⟩ := W.box
  simp only [List.mem_cons, List.not_mem_nil, or_false] at ha
  rcases ha with rfl | rfl
  · exact ⟨_, b1⟩
  · exact ⟨_, b2⟩
theorem Wd.sm {b c : Addr} {G H H' : Hp} (W : Wd b c G H) (s : Same H H') : Wd b c G H' := ⟨W.box.same s, W.gh.trans s, W.gb, W.gc⟩
/-- all but the box is taken among what stays -/
theorem Wd.all {b c : Addr} {G H : Hp} (W : Wd b c G H) : Wd b c (mn [b, c] H) H := ⟨W.box, mn_same, mn_in (by simp), mn_in (by simp)⟩
theorem Wd.allS {b c : Addr} {G H : Hp} (W : Wd b c G H) : Same G (mn [b, c] H) := same_mn W.gh fun a ha => by
  simp only [List.mem_cons, List.not_mem_nil, or_false] at ha
  rcases ha with rfl | rfl
  · exact W.gb
  · exact W.gc
theorem Wd.weak {b c : Addr} {G G' H : Hp} (x : Wd b c G' H) (s : Same G G') : Wd b c G H := ⟨x.box, s.trans x.gh, s.free x.gb, s.free x.gc⟩
/-- what stands at p is taken among what stays -/
theorem Wd.keep {b c p : Addr} {G H : Hp} {o : HO} (x : Wd b c G H) (h : H p = some o) (hb : p ≠ b) (hc : p ≠ c) : Wd b c (upd G p o) H :=
  ⟨x.box, fun a u e => by
    by_cases q : a = p
    · subst q; rw [upd_same] at e; cases e; exact h
    · rw [upd_ne q] at e; exact x.gh a u e, by rw [upd_ne (Ne.symm hb)]; exact x.gb, by rw [upd_ne (Ne.symm hc)]; exact x.gc⟩
theorem Wd.nb {b c p : Addr} {G H : Hp} (x : Wd b c G H) (h : H p = none) : p ≠ b ∧ p ≠ c := by
  obtain ⟨_, h1⟩ := x.box.b
  obtain ⟨_, h2⟩ := x.box.c
  exact ⟨fun e => (by rw [e, h1] at h; cases h), fun e => (by rw [e, h2] at h; cases h)⟩
/-! ### comprehensions that only read and make -/
theorem lc_pure {K : PySem.W.Frag} {a : Addr} {xs : List V} {g : TG} {tt : TT} {te : TE} {vs : List Nat} {σ : St} {H1 : Hp} {D : Addr} {Qd : Hp → Prop} (F : V → Option V) (hS : SqL K H1 a xs) (hD : H1 D = none) (hz : xs.length ≤ 100000)
    (hs : ∀ x H (N : V → Hp → Prop) (N' : Hp → Prop), x ∈ xs → Same H1 H → (∀ y H', Same H H' → F x = some y → N y H') → (∀ H', Same H H' → F x = none → N' H') → g x (wipe σ vs) H fun σ2 H2 => wipe σ2 vs = wipe σ vs ∧ tt σ2 H2 fun b H3 => if b = true then te σ2 H3 N else N' H3)
    (hd : ∀ H', Same H1 H' → H' D = some (.lst (xs.filterMap F)) → Qd H') :
    ∃ W : Nat → Nat → Hp → Prop, (∃ m, W 0 m (upd H1 D (.lst []))) ∧ ∀ i m H, W i m H →
      ((Itl K a).stop i H ∧ Qd H) ∨ ((Itl K a).go i H ∧ ∃ Nx : Hp → Prop, (∀ H', Nx H' → ∃ m', m' < m ∧ W (i + 1) m' H') ∧ ∀ x H', (Itl K a).yld i H x H' → g x (wipe σ vs) H' fun σ2 H2 => wipe σ2 vs = wipe σ vs ∧ tt σ2 H2 fun b H3 =>
        if b = true then te σ2 H3 fun y H4 => ∃ acc, H4 D = some (.lst acc) ∧ acc.length < sizeLine ∧ Nx (upd H4 D (.lst (acc ++ [y]))) else Nx H3) := by
  refine lc_list (K := K) (a := a) (xs := xs) (fun i H' => Same H1 H' ∧ H' D = some (.lst ((xs.take i).filterMap F))) ⟨same_upd hD, upd_same⟩ (fun i H' _ pp => pp.1.seq hS) (fun i x H' hx pp => ?_) (fun H' pp => ?_)
  · obtain ⟨s1, hd1⟩ := pp
    have ht : xs.take (i + 1) = xs.take i ++ [x] := by rw [List.take_add_one, hx]; rfl
    refine hs x H' _ _ (List.mem_of_getElem? hx) s1 (fun y H4 s4 ey => ⟨_, s4 _ _ hd1, ?_, ?_, ?_⟩) (fun H4 s4 ey => ⟨s1.trans s4, ?_⟩)
    · have h1 := List.length_filterMap_le F (xs.take i)
      rw [List.length_take] at h1
      have h2 := (List.getElem?_eq_some_iff.mp hx).1
      exact szl (by omega)
    · exact same_mut (s1.trans s4) hD
    · rw [upd_same, ht, List.filterMap_append]
      simp [List.filterMap, ey]
    · rw [s4 _ _ hd1, ht, List.filterMap_append]
      simp [List.filterMap, ey]
  · rw [List.take_of_length_le (Nat.le_refl _)] at pp
    exact hd H' pp.1 pp.2
end Pl

namespace Pl
open PySem L2
/-! ### tests whose answer is known -/
theorem iT {c : Bool} {A B : Prop} (h : c = true) (x : A) : if c = true then A else B := by rw [if_pos h]; exact x
theorem iF {c : Bool} {A B : Prop} (h : c = false) (x : B) : if c = true then A else B := by rw [if_neg (by rw [h]; exact Bool.false_ne_true)]; exact x
theorem yes_if {σ : St} {H : Hp} {A B : Hp → Prop} (h : A H) : tYes σ H (fun b H3 => if b = true then A H3 else B H3) := by
  show if true = true then A H else B H
  rw [if_pos rfl]
  exact h
def oV : Option Int → V
  | none => .non
  | some x => .int x
def H0 : Hp := fun _ => none
theorem same0 (H : Hp) : Same H0 H := fun _ _ h => nomatch h
theorem Wd.begin {b c : Addr} {H : Hp} (x : BoxAt b c H) : Wd b c H0 H := ⟨x, same0 H, rfl, rfl⟩
section
variable {P : Program} {w : World} {K : PySem.W.Frag} {mg : Str → Option Value} {base : Heap}
def spIsInteger : Sp := fun vs H Q _ => ∃ (v : V) (t : String), vs = [v] ∧ Ty H v t ∧ Q (.bl (isInt v)) H
theorem ok_is_integer (T : Txt P K mg) {k : Nat} : FnOk P w K mg base CX0 (k + 1) T.is_integer.f T.is_integer.fd ["value"] spIsInteger := by
  refine T.is_integer.F.ok sc_is_integer (fun vs H Q E h => ?_) (fun cdv A outer s H vs Q E hr h => ?_)
  · obtain ⟨v, t, rfl, _⟩ := h
    rfl
  · obtain ⟨v, t, rfl, ty, q⟩ := h
    refine ⟨_, (pss_one (ps_ret (pe_and (pe_callB call_isi (by rfl) T.n_isinstance (by decide +kernel) (pa_cons (pv 0) (pa_cons (pe_bltn (v := .ty "int") (by rfl) T.n_int (by decide +kernel) rfl) pa_nil))) (pe_one (pe_not (pe_callB call_isi (by rfl) T.n_isinstance (by decide +kernel) (pa_cons (pv 0) (pa_cons (pe_bltn (v := .ty "bool") (by rfl) T.n_bool (by decide +kernel) rfl) pa_nil)))))))), ?_⟩
    refine ⟨v, rfl, _, _, _, _, _, rfl, .ty "int", ty.x, isI_int ty, _, rfl, ?_⟩
    rw [← isInt_of ty] at q
    cases h1 : tyB t "int" with
    | false =>
      rw [h1] at q
      exact iF rfl q
    | true =>
      rw [h1] at q
      refine iT rfl ⟨v, rfl, _, _, _, _, _, rfl, .ty "bool", ty.x, isI_bool ty, _, rfl, ?_⟩
      rw [Bool.true_and] at q
      exact q
/-- check_moment of a number -/
def spCkMoment : Sp := fun vs H Q _ => ∃ i : Int, vs = [.int i] ∧ Q .non H
theorem ok_check_moment (T : Txt P K mg) {k : Nat} : FnOk P w K mg base CX0 (k + 2) T.check_moment.f T.check_moment.fd ["value"] spCkMoment := by
  have G_is_integer : FnOk P w K mg base CX0 (k + 1) T.is_integer.f T.is_integer.fd ["value"] spIsInteger := ok_is_integer T
  refine T.check_moment.F.ok sc_check_moment (fun vs H Q E h => ?_) (fun cdv A outer s H vs Q E hr h => ?_)
  · obtain ⟨i, rfl, _⟩ := h
    rfl
  · obtain ⟨i, rfl, q⟩ := h
    refine ⟨_, (pss_one (ps_if (pt_not (pt_val (pe_call G_is_integer (hr.mono (by omega)) (by rfl) T.is_integer.g T.is_integer.F.kp T.is_integer.b .nil pass0 (pa_cons (pv 0) pa_nil)))) (pss_one ps_never) pss_nil)), ?_⟩
    refine ⟨.int i, rfl, .int i, "int", rfl, .int i, _, rfl, ?_⟩
    exact iF rfl q
end
end Pl

namespace Pl
open PySem L2
section
variable {P : Program} {w : World} {K : PySem.W.Frag} {mg : Str → Option Value} {base : Heap}
/-- a world's object -/
def WoIs (T : Txt P K mg) (H : Hp) (a : Addr) : Prop := ∃ dx fs, H a = some (.ins T.c_World dx fs)
/-- a world at a, its list of pairs at l, its rows ps -/
def WoA (T : Txt P K mg) (H : Hp) (a l : Addr) (ps : List (Str × Int)) : Prop := ∃ dx vs, H a = some (.ins T.c_World dx [("pairs", .ref l)]) ∧ H l = some (.lst vs) ∧ PrsAt H vs ps
theorem WoA.same {T : Txt P K mg} {H H' : Hp} {a l : Addr} {ps : List (Str × Int)} (s : Same H H') (h : WoA T H a l ps) : WoA T H' a l ps := by
  obtain ⟨dx, vs, h1, h2, h3⟩ := h
  exact ⟨dx, vs, s _ _ h1, s _ _ h2, h3.same s⟩
theorem WoA.is {T : Txt P K mg} {H : Hp} {a l : Addr} {ps : List (Str × Int)} (h : WoA T H a l ps) : WoIs T H a := by
  obtain ⟨dx, vs, h1, _⟩ := h
  exact ⟨dx, _, h1⟩
theorem WoA.mn {T : Txt P K mg} {S : List Addr} {H : Hp} {a l : Addr} {ps : List (Str × Int)} (hS : Lsts S H) (hl : l ∉ S) (h : WoA T H a l ps) : WoA T (mn S H) a l ps := by
  obtain ⟨dx, vs, h1, h2, h3⟩ := h
  exact ⟨dx, vs, mn_nl hS h1 (fun _ z => nomatch z), by rw [mn_at hl]; exact h2, h3.mn hS⟩
def spCkWorld (T : Txt P K mg) : Sp := fun vs H Q _ => ∃ (a : Addr), vs = [.ref a] ∧ WoIs T H a ∧ Q .non H
theorem ok_check_world (T : Txt P K mg) {k : Nat} : FnOk P w K mg base CX0 (k + 1) T.check_world.f T.check_world.fd ["value"] (spCkWorld T) := by
  refine T.check_world.F.ok (k := k) sc_check_world (fun vs H Q E h => ?_) (fun cdv A outer s H vs Q E hr h => ?_)
  · obtain ⟨a, rfl, _⟩ := h
    rfl
  · obtain ⟨a, rfl, ⟨dx, fs, ha⟩, q⟩ := h
    refine ⟨_, (pss_one (ps_if (pt_not (pt_val (pe_callB call_isi (by rfl) T.n_isinstance (by decide +kernel) (pa_cons (pv 0) (pa_cons (pe_glob (v := .ref T.c_World) (by rfl) T.g_World rfl) pa_nil))))) (pss_one ps_never) pss_nil)), ?_⟩
    exact ⟨.ref a, rfl, _, _, _, _, _, rfl, .own _, T.o_World.ty ha, T.k1_World_World, _, rfl, iF rfl q⟩
end
end Pl

namespace Pl
open PySem L2
section
variable {P : Program} {w : World} {K : PySem.W.Frag} {mg : Str → Option Value} {base : Heap}
def spIsName : Sp := fun vs H Q _ => ∃ z : Str, vs = [.str z] ∧ goodName z ∧ ∀ H', Same H H' → Q (.bl true) H'
theorem ok_is_name (T : Txt P K mg) {k : Nat} : FnOk P w K mg base CX0 (k + 1) T.is_name.f T.is_name.fd ["name"] spIsName := by
  refine T.is_name.F.ok (k := k) sc_is_name (fun vs H Q E h => ?_) (fun cdv A outer s H vs Q E hr h => ?_)
  · obtain ⟨z, rfl, _⟩ := h
    rfl
  · obtain ⟨z, rfl, ⟨g1, g2, g3⟩, q⟩ := h
    refine ⟨_, (pss_cons (ps_if (PW.pt (pw_or (pt_not (pt_val (pe_callB call_isi (by rfl) T.n_isinstance (by decide +kernel) (pa_cons (pv 0) (pa_cons (pe_bltn (v := .ty "str") (by rfl) T.n_str (by decide +kernel) rfl) pa_nil))))) (pw_or1 (pt_not (pt_chain op_le op_le pe_int (pe_callB call_len_str (by rfl) T.n_len PySem.boot_len (pa_cons (pv 0) pa_nil)) pe_int))))) (pss_one (ps_ret pe_bl)) pss_nil)
  (pss_one (ps_ret (pe_cmpR op_eq (pe_callB call_len_seq (by rfl) T.n_len PySem.boot_len (pa_cons (pe_lc (own := [("letter", 1)]) (g := gName 1) (tt := (tTest (tOp _ (tVar 1) (tC _)))) (te := (tVar 1)) rfl sc_is_name.nd (pi_str (pv 0)) (blkOk_by (own := [("letter", 1)]) (N := N_is_name) (sc := defScope s_is_name) (by decide +kernel)) (fun _ _ _ _ _ => (pg_name (i := 1) sc_is_name.nd rfl (.inl rfl))) (fun _ _ _ _ _ => (pts_one (pt_cmpR op_notIn_sign (pv 1) (pe_glob (v := .str "abcdefghijklmnopqrstuvwxyz") (by rfl) T.k_LETTERS ⟨_, rfl⟩) (by with_unfolding_all rfl)))) (fun _ _ _ _ _ => (pv 1))) pa_nil)) pe_int (nomark _))))), ?_⟩
    have ty : Ty H (.str z) "str" := .str z
    have hz : z.length ≤ sizeLine := Nat.le_trans g2 (by decide)
    refine ⟨.str z, rfl, _, _, _, _, _, rfl, .ty "str", ty.x, isI_str ty, _, rfl, iF (by unfold tyB; rw [kb_str_str]; rfl) ?_⟩
    refine ⟨.str z, rfl, z, rfl, hz, ?_⟩
    refine ⟨_, _, rfl, rfl, _, rfl, iT (decide_eq_true (by omega)) ⟨_, _, rfl, rfl, _, rfl, iF (by rw [decide_eq_true (by omega : ((z.length : Nat) : Int) ≤ 12)]; rfl) ?_⟩⟩
    refine ⟨.str z, rfl, z, rfl, fun D hD => ?_⟩
    refine lc_it (walk_str (z := z)) (fun i H' => Same H H' ∧ H' D = some (.lst [])) ⟨same_upd hD, upd_same⟩ (fun _ _ _ _ => trivial) (fun i x H1 H2 hi pp y => ?_) (fun H' pp => ?_)
    · obtain ⟨rfl, c, hc, rfl⟩ := y
      refine ⟨rfl, ?_⟩
      refine ⟨.str ⟨#[c]⟩, rfl, c, _, rfl, rfl, _, rfl, ?_⟩
      have hin : c ∈ letters.cps.toList := g3 c (by
        have := Array.mem_of_getElem? hc
        exact Array.mem_toList_iff.mpr this)
      exact iF (by rw [decide_eq_true hin]; rfl) pp
    · exact ⟨D, _, rfl, .inl (SqL.of pp.2), rfl, q H' pp.1⟩
def spCkName : Sp := fun vs H Q _ => ∃ z : Str, vs = [.str z] ∧ goodName z ∧ ∀ H', Same H H' → Q .non H'
theorem ok_check_name (T : Txt P K mg) {k : Nat} : FnOk P w K mg base CX0 (k + 2) T.check_name.f T.check_name.fd ["name"] spCkName := by
  have G_is_name : FnOk P w K mg base CX0 (k + 1) T.is_name.f T.is_name.fd ["name"] spIsName := ok_is_name T
  refine T.check_name.F.ok (k := k + 1) sc_check_name (fun vs H Q E h => ?_) (fun cdv A outer s H vs Q E hr h => ?_)
  · obtain ⟨z, rfl, _⟩ := h
    rfl
  · obtain ⟨z, rfl, g, q⟩ := h
    refine ⟨_, (pss_one (ps_if (pt_not (pt_val (pe_call G_is_name (hr.mono (by omega)) (by rfl) T.is_name.g T.is_name.F.kp T.is_name.b .nil pass0 (pa_cons (pv 0) pa_nil)))) (pss_one ps_never) pss_nil)), ?_⟩
    exact ⟨.str z, rfl, z, rfl, g, fun H' s' => ⟨_, rfl, iF rfl (q H' s')⟩⟩
/-- check_rows of a list of distinct numbers -/
def spCkRows : Sp := fun vs H Q _ => ∃ (v : V) (a : Addr) (ns : List Int), vs = [v, .ref a] ∧ H a = some (.lst (ns.map V.int)) ∧ ns.Nodup ∧ ns.length ≤ 300 ∧ Q .non H
theorem ok_check_rows (T : Txt P K mg) {k : Nat} : FnOk P w K mg base CX0 (k + 2) T.check_rows.f T.check_rows.fd ["name", "moments"] spCkRows := by
  have G_is_integer : FnOk P w K mg base CX0 (k + 1) T.is_integer.f T.is_integer.fd ["value"] spIsInteger := ok_is_integer T
  refine T.check_rows.F.ok (k := k + 1) sc_check_rows (fun vs H Q E h => ?_) (fun cdv A outer s H vs Q E hr h => ?_)
  · obtain ⟨v, a, ns, rfl, _⟩ := h
    rfl
  · obtain ⟨v, a, ns, rfl, ha, hnd, hl, q⟩ := h
    refine ⟨_, (pss_cons (ps_if (pt_not (pt_val (pe_callB call_isi (by rfl) T.n_isinstance (by decide +kernel) (pa_cons (pv 1) (pa_cons (pe_bltn (v := .ty "list") (by rfl) T.n_list (by decide +kernel) rfl) pa_nil))))) (pss_one ps_never) pss_nil)
  (pss_cons (ps_for PassesOwn.never rfl (pi_list (pv 1)) (pg_name (i := 2) sc_check_rows.nd rfl (.inl rfl))
   (pss_one (ps_if (pt_not (pt_val (pe_call G_is_integer (hr.mono (by omega)) (by rfl) T.is_integer.g T.is_integer.F.kp T.is_integer.b .nil pass0 (pa_cons (pv 2) pa_nil)))) (pss_one ps_never) pss_nil)))
  (pss_one (ps_if (pt_cmpR op_lt (RZ.pe_lenSetI (by rfl) T.n_len (by rfl) T.n_set (pv 1)) (pe_callB call_len_seq (by rfl) T.n_len PySem.boot_len (pa_cons (pv 1) pa_nil)) (nomark _)) (pss_one ps_never) pss_nil)))), ?_⟩
    have ty : Ty H (.ref a) "list" := .lst ha
    refine ⟨.ref a, rfl, _, _, _, _, _, rfl, .ty "list", ty.x, isI_list ty, _, rfl, iF (by unfold tyB; rw [kb_list_list]; rfl) ?_⟩
    refine ⟨.ref a, rfl, a, rfl, ⟨_, SqL.of ha⟩, ?_⟩
    refine for_list (K := K) (a := a) (xs := ns.map V.int) (fun i σ H' => H' = H ∧ ∃ u, σ = [some v, some (.ref a), u]) ⟨rfl, _, rfl⟩ (fun i σ H' _ pp => by rw [pp.1]; exact SqL.of ha) (fun i x σ H' hx pp => ?_) (fun σ H' pp => ?_)
    · obtain ⟨rfl, u, rfl⟩ := pp
      obtain ⟨j, rfl⟩ : ∃ j, x = V.int j := by
        rw [List.getElem?_map] at hx
        cases e : ns[i]? with
        | none => rw [e] at hx; cases hx
        | some j => rw [e] at hx; exact ⟨j, (Option.some.inj hx).symm⟩
      exact ⟨.int j, rfl, .int j, "int", rfl, .int j, _, rfl, iF rfl ⟨rfl, _, rfl⟩⟩
    · obtain ⟨rfl, u, rfl⟩ := pp
      refine ⟨.ref a, rfl, a, ns, rfl, SqL.of ha, hnd, by omega, .ref a, rfl, a, _, rfl, .inl (SqL.of ha), _, _, rfl, rfl, _, rfl, ?_⟩
      exact iF (decide_eq_false (by rw [List.length_map]; omega)) q
/-- limited(pairs) -/
def spLimited : Sp := fun vs H Q _ => ∃ (a : Addr) (xs : List V), vs = [.ref a] ∧ H a = some (.lst xs) ∧ xs.length ≤ 300 ∧ Q (.ref a) H
theorem ok_limited (T : Txt P K mg) {k : Nat} : FnOk P w K mg base CX0 (k + 1) T.limited.f T.limited.fd ["pairs"] spLimited := by
  refine T.limited.F.ok (k := k) sc_limited (fun vs H Q E h => ?_) (fun cdv A outer s H vs Q E hr h => ?_)
  · obtain ⟨a, xs, rfl, _⟩ := h
    rfl
  · obtain ⟨a, xs, rfl, ha, hl, q⟩ := h
    refine ⟨_, (pss_cons (ps_if (pt_cmpR op_gt (pe_callB call_len_seq (by rfl) T.n_len PySem.boot_len (pa_cons (pv 0) pa_nil)) (pe_glob (v := .int 300) (by rfl) T.k_MOST_ROWS ⟨_, rfl⟩) (nomark _)) (pss_one ps_never) pss_nil)
  (pss_one (ps_ret (pv 0)))), ?_⟩
    refine ⟨.ref a, rfl, a, _, rfl, .inl (SqL.of ha), _, _, rfl, rfl, _, rfl, iF (decide_eq_false (by omega)) ?_⟩
    exact ⟨.ref a, rfl, q⟩
end
end Pl

namespace Pl
open PySem L2
/-! ### terms and their sizes -/
inductive Tm
  | now
  | shift (m : Tm) (n : Int)
  | look (s : Str) (m : Tm) (way : Str) (lim : Option Int)
  | either (a b : Tm)
  | later (a b : Tm)
  | earlier (a b : Tm)
def Tm.depth : Tm → Nat
  | .now => 1
  | .shift m _ => 1 + m.depth
  | .look _ m _ _ => 1 + m.depth
  | .either a b => 1 + max a.depth b.depth
  | .later a b => 1 + max a.depth b.depth
  | .earlier a b => 1 + max a.depth b.depth
def Tm.parts : Tm → Nat
  | .now => 1
  | .shift m _ => 1 + m.parts
  | .look _ m _ _ => 1 + m.parts
  | .either a b => 1 + (a.parts + b.parts)
  | .later a b => 1 + (a.parts + b.parts)
  | .earlier a b => 1 + (a.parts + b.parts)
def Tm.looks : Tm → Nat
  | .now => 0
  | .shift m _ => m.looks
  | .look _ m _ _ => m.looks + 1
  | .either a b => a.looks + b.looks
  | .later a b => a.looks + b.looks
  | .earlier a b => a.looks + b.looks
def Tm.choices : Tm → Nat
  | .now => 0
  | .shift m _ => m.choices
  | .look _ m _ _ => m.choices + 1
  | .either a b => a.choices + b.choices
  | .later a b => a.choices + b.choices + 1
  | .earlier a b => a.choices + b.choices + 1
def Tm.fits (t : Tm) : Prop := t.depth ≤ 12 ∧ t.parts ≤ 40 ∧ t.looks ≤ 12
/-- the fields of a term's object -/
def szF (t : Tm) : List (Str × V) := [("depth", .int t.depth), ("parts", .int t.parts), ("looks", .int t.looks), ("choices", .int t.choices)]
/-- the classes' places -/
structure CA where
  now : Addr
  shift : Addr
  look : Addr
  either : Addr
  later : Addr
  earlier : Addr
def shF (b : Addr) (n : Int) : List (Str × V) := [("moment", .ref b), ("amount", .int n)]
def loF (s : Str) (b : Addr) (wy : Str) (lim : Option Int) : List (Str × V) := [("stream", .str s), ("moment", .ref b), ("way", .str wy), ("within", oV lim)]
def paF (b d : Addr) : List (Str × V) := [("first", .ref b), ("second", .ref d)]
def TmAt (c : CA) (H : Hp) : Tm → Addr → Prop
  | .now, a => ∃ dx, H a = some (.ins c.now dx (szF .now))
  | .shift m n, a => ∃ dx b, H a = some (.ins c.shift dx (shF b n ++ szF (.shift m n))) ∧ TmAt c H m b
  | .look s m wy lim, a => ∃ dx b, H a = some (.ins c.look dx (loF s b wy lim ++ szF (.look s m wy lim))) ∧ TmAt c H m b
  | .either x y, a => ∃ dx b d, H a = some (.ins c.either dx (paF b d ++ szF (.either x y))) ∧ TmAt c H x b ∧ TmAt c H y d
  | .later x y, a => ∃ dx b d, H a = some (.ins c.later dx (paF b d ++ szF (.later x y))) ∧ TmAt c H x b ∧ TmAt c H y d
  | .earlier x y, a => ∃ dx b d, H a = some (.ins c.earlier dx (paF b d ++ szF (.earlier x y))) ∧ TmAt c H x b ∧ TmAt c H y d
theorem TmAt.same {c : CA} {H H' : Hp} (s : Same H H') : ∀ {t : Tm} {a : Addr}, TmAt c H t a → TmAt c H' t a
  | .now, _, ⟨dx, h⟩ => ⟨dx, s _ _ h⟩
  | .shift _ _, _, ⟨dx, b, h, h1⟩ => ⟨dx, b, s _ _ h, h1.same s⟩
  | .look _ _ _ _, _, ⟨dx, b, h, h1⟩ => ⟨dx, b, s _ _ h, h1.same s⟩
  | .either _ _, _, ⟨dx, b, d, h, h1, h2⟩ => ⟨dx, b, d, s _ _ h, h1.same s, h2.same s⟩
  | .later _ _, _, ⟨dx, b, d, h, h1, h2⟩ => ⟨dx, b, d, s _ _ h, h1.same s, h2.same s⟩
  | .earlier _ _, _, ⟨dx, b, d, h, h1, h2⟩ => ⟨dx, b, d, s _ _ h, h1.same s, h2.same s⟩

/-- the object of a term, its class and sizes -/
def Tm.cls (c : CA) : Tm → Addr
  | .now => c.now
  | .shift _ _ => c.shift
  | .look _ _ _ _ => c.look
  | .either _ _ => c.either
  | .later _ _ => c.later
  | .earlier _ _ => c.earlier
theorem TmAt.obj {c : CA} {H : Hp} {t : Tm} {a : Addr} (h : TmAt c H t a) : ∃ dx fs, H a = some (.ins (t.cls c) dx fs) ∧ fs.lookup ("depth" : Str) = some (.int t.depth) ∧ fs.lookup ("parts" : Str) = some (.int t.parts) ∧ fs.lookup ("looks" : Str) = some (.int t.looks) ∧ fs.lookup ("choices" : Str) = some (.int t.choices) ∧
    fs.lookup ("form" : Str) = none ∧ fs.lookup ("answer_in" : Str) = none := by
  cases t with
  | now => obtain ⟨dx, h⟩ := h; exact ⟨dx, _, h, rfl, rfl, rfl, rfl, rfl, rfl⟩
  | shift m n => obtain ⟨dx, b, h, _⟩ := h; exact ⟨dx, _, h, rfl, rfl, rfl, rfl, rfl, rfl⟩
  | look s m wy lim => obtain ⟨dx, b, h, _⟩ := h; exact ⟨dx, _, h, rfl, rfl, rfl, rfl, rfl, rfl⟩
  | either x y => obtain ⟨dx, b, d, h, _⟩ := h; exact ⟨dx, _, h, rfl, rfl, rfl, rfl, rfl, rfl⟩
  | later x y => obtain ⟨dx, b, d, h, _⟩ := h; exact ⟨dx, _, h, rfl, rfl, rfl, rfl, rfl, rfl⟩
  | earlier x y => obtain ⟨dx, b, d, h, _⟩ := h; exact ⟨dx, _, h, rfl, rfl, rfl, rfl, rfl, rfl⟩
def Tm.kids : Tm → List Tm
  | .now => []
  | .shift m _ => [m]
  | .look _ m _ _ => [m]
  | .either a b => [a, b]
  | .later a b => [a, b]
  | .earlier a b => [a, b]
def Tm.isLook : Tm → Bool
  | .look _ _ _ _ => true
  | _ => false
def Tm.chooses : Tm → Bool
  | .look _ _ _ _ => true
  | .later _ _ => true
  | .earlier _ _ => true
  | _ => false
theorem Tm.depth_kids (t : Tm) : (t.depth : Int) = 1 + mxD 0 (t.kids.map fun k => (k.depth : Int)) := by
  cases t <;> simp only [Tm.depth, Tm.kids, List.map, mxD, List.foldl] <;> omega
theorem Tm.parts_kids (t : Tm) : (t.parts : Int) = 1 + (t.kids.map fun k => (k.parts : Int)).sum := by
  cases t <;> simp only [Tm.parts, Tm.kids, List.map, List.sum_cons, List.sum_nil] <;> omega
theorem Tm.looks_kids (t : Tm) : (t.looks : Int) = (t.kids.map fun k => (k.looks : Int)).sum + (if t.isLook then 1 else 0) := by
  cases t <;> simp [Tm.looks, Tm.kids, Tm.isLook, List.map, List.sum_cons, List.sum_nil]
theorem Tm.choices_kids (t : Tm) : (t.choices : Int) = (t.kids.map fun k => (k.choices : Int)).sum + (if t.chooses then 1 else 0) := by
  cases t <;> simp [Tm.choices, Tm.kids, Tm.chooses, List.map, List.sum_cons, List.sum_nil]
/-- terms stand at places -/
def KidsAt (c : CA) (H : Hp) : List Tm → List Addr → Prop
  | [], [] => True
  | t :: ts, a :: as => TmAt c H t a ∧ KidsAt c H ts as
  | _, _ => False
theorem KidsAt.same {c : CA} {H H' : Hp} (s : Same H H') : ∀ {ts : List Tm} {as : List Addr}, KidsAt c H ts as → KidsAt c H' ts as
  | [], [], _ => trivial
  | _ :: _, _ :: _, ⟨h1, h2⟩ => ⟨h1.same s, KidsAt.same s h2⟩
theorem KidsAt.len {c : CA} {H : Hp} : ∀ {ts : List Tm} {as : List Addr}, KidsAt c H ts as → as.length = ts.length
  | [], [], _ => rfl
  | _ :: _, _ :: _, ⟨_, h2⟩ => congrArg Nat.succ h2.len
theorem KidsAt.at {c : CA} {H : Hp} : ∀ {ts : List Tm} {as : List Addr}, KidsAt c H ts as → ∀ (i : Nat) (a : Addr), as[i]? = some a → ∃ t, ts[i]? = some t ∧ TmAt c H t a
  | _ :: _, _ :: _, ⟨h1, _⟩, 0, a, e => by cases e; exact ⟨_, rfl, h1⟩
  | _ :: _, _ :: _, ⟨_, h2⟩, i + 1, a, e => KidsAt.at h2 i a e
  | [], [], _, _, _, e => by simp at e
end Pl

namespace Pl
open PySem L2
/-! ### what the text has of the terms' classes -/
section
variable {P : Program} {w : World} {K : PySem.W.Frag} {mg : Str → Option Value} {base : Heap}
def Txt.ca (T : Txt P K mg) : CA := ⟨T.c_Now, T.c_Shift, T.c_Look, T.c_Either, T.c_Later, T.c_Earlier⟩
structure KCls (T : Txt P K mg) (t : Tm) : Prop where
  o : OCls K (t.cls T.ca)
  nd : NoAttr K (t.cls T.ca) "depth"
  np : NoAttr K (t.cls T.ca) "parts"
  nl : NoAttr K (t.cls T.ca) "looks"
  nc : NoAttr K (t.cls T.ca) "choices"
  kt : PySem.W.kitOne K (.ref (t.cls T.ca)) (.ref T.c_Term) = some true
  kl : PySem.W.kitOne K (.ref (t.cls T.ca)) (.ref T.c_Look) = some t.isLook
  ka : PySem.W.kitAny K (.ref (t.cls T.ca)) [.ref T.c_Look, .ref T.c_Later, .ref T.c_Earlier] = some t.chooses
theorem Txt.kc (T : Txt P K mg) (t : Tm) : KCls T t := by
  cases t with
  | now => exact ⟨T.o_Now, T.n_Now_depth, T.n_Now_parts, T.n_Now_looks, T.n_Now_choices, T.k1_Now_Term, T.k1_Now_Look, T.ka_Now_Look_Later_Earlier⟩
  | shift => exact ⟨T.o_Shift, T.n_Shift_depth, T.n_Shift_parts, T.n_Shift_looks, T.n_Shift_choices, T.k1_Shift_Term, T.k1_Shift_Look, T.ka_Shift_Look_Later_Earlier⟩
  | look => exact ⟨T.o_Look, T.n_Look_depth, T.n_Look_parts, T.n_Look_looks, T.n_Look_choices, T.k1_Look_Term, T.k1_Look_Look, T.ka_Look_Look_Later_Earlier⟩
  | either => exact ⟨T.o_Either, T.n_Either_depth, T.n_Either_parts, T.n_Either_looks, T.n_Either_choices, T.k1_Either_Term, T.k1_Either_Look, T.ka_Either_Look_Later_Earlier⟩
  | later => exact ⟨T.o_Later, T.n_Later_depth, T.n_Later_parts, T.n_Later_looks, T.n_Later_choices, T.k1_Later_Term, T.k1_Later_Look, T.ka_Later_Look_Later_Earlier⟩
  | earlier => exact ⟨T.o_Earlier, T.n_Earlier_depth, T.n_Earlier_parts, T.n_Earlier_looks, T.n_Earlier_choices, T.k1_Earlier_Term, T.k1_Earlier_Look, T.ka_Earlier_Look_Later_Earlier⟩
/-- all but x is as it was -/
def But (x : Addr) (H H' : Hp) : Prop := ∀ b o, b ≠ x → H b = some o → H' b = some o
/-- [child.f for child in children]: a list of the children's sizes -/
theorem lc_kids (T : Txt P K mg) {s0 s1 s2 s3 : Option V} {H1 : Hp} {D p : Addr} {as : List Addr} {ts : List Tm} {f : Str} {g : Tm → Nat} {Qd : Hp → Prop} (hD : H1 D = none) (hp : H1 p = some (.tup (as.map V.ref))) (hk : KidsAt T.ca H1 ts as) (hl : as.length ≤ 2)
    (hf : ∀ t : Tm, NoAttr K (t.cls T.ca) f) (hg : ∀ {H : Hp} {t : Tm} {a : Addr}, TmAt T.ca H t a → ∃ dx fs, H a = some (.ins (t.cls T.ca) dx fs) ∧ fs.lookup f = some (.int (g t)))
    (q : ∀ H', Same H1 H' → H' D = some (.lst ((ts.map fun t => (g t : Int)).map V.int)) → Qd H') :
    ∃ W : Nat → Nat → Hp → Prop, (∃ m, W 0 m (upd H1 D (.lst []))) ∧ ∀ i m H, W i m H →
      ((Itt K p).stop i H ∧ Qd H) ∨ ((Itt K p).go i H ∧ ∃ Nx : Hp → Prop, (∀ H', Nx H' → ∃ m', m' < m ∧ W (i + 1) m' H') ∧ ∀ x H', (Itt K p).yld i H x H' → gName 3 x (wipe [s0, s1, s2, s3] [3]) H' fun σ2 H2 => wipe σ2 [3] = wipe [s0, s1, s2, s3] [3] ∧ tYes σ2 H2 fun b H3 =>
        if b = true then tFld K (tVar 3) f σ2 H3 fun y H4 => ∃ acc, H4 D = some (.lst acc) ∧ acc.length < sizeLine ∧ Nx (upd H4 D (.lst (acc ++ [y]))) else Nx H3) := by
  have hlen := hk.len
  refine lc_tup (K := K) (a := p) (xs := as.map V.ref) (fun i H' => Same H1 H' ∧ H' D = some (.lst (((ts.take i).map fun t => (g t : Int)).map V.int))) ⟨same_upd hD, upd_same⟩ (fun i H' _ pp => SqT.of (pp.1 _ _ hp)) (fun i x H' hx pp => ?_) (fun H' pp => ?_)
  · obtain ⟨s1, hd⟩ := pp
    obtain ⟨a, ha, rfl⟩ : ∃ a, as[i]? = some a ∧ x = .ref a := by
      rw [List.getElem?_map] at hx
      cases e : as[i]? with
      | none => rw [e] at hx; cases hx
      | some a => rw [e] at hx; exact ⟨a, rfl, (Option.some.inj hx).symm⟩
    obtain ⟨t, ht, hta⟩ := hk.at i a ha
    obtain ⟨dx, fs, ho, hfs⟩ := hg (hta.same s1)
    refine ⟨rfl, yes_if ⟨.ref a, rfl, a, _, dx, fs, _, rfl, ho, (T.kc t).o.cl, hf t, hfs, _, hd, ?_, ?_, ?_⟩⟩
    · rw [List.length_map, List.length_map, List.length_take]
      have := (List.getElem?_eq_some_iff.mp ht).1
      exact szl (by omega)
    · exact same_mut s1 hD
    · rw [upd_same, List.take_add_one, ht, List.map_append, List.map_append]
      rfl
  · rw [List.length_map, hlen, List.take_of_length_le (Nat.le_refl _)] at pp
    exact q H' pp.1 pp.2
end
end Pl

namespace Pl
open PySem L2
section
variable {P : Program} {w : World} {K : PySem.W.Frag} {mg : Str → Option Value} {base : Heap}
def szP (t : Tm) (fs : List (Str × V)) : List (Str × V) := putF "choices" (.int t.choices) (putF "looks" (.int t.looks) (putF "parts" (.int t.parts) (putF "depth" (.int t.depth) fs)))
/-- Term.__init__(self, *children): x gets its sizes -/
def spTI0 (T : Txt P K mg) : Sp := fun vs H Q _ => ∃ (G : Hp) (t : Tm) (x p dx : Addr) (fs : List (Str × V)) (as : List Addr), vs = [.ref x, .ref p] ∧ Same G H ∧ G x = none ∧ G p = some (.tup (as.map V.ref)) ∧ KidsAt T.ca G t.kids as ∧ H x = some (.ins (t.cls T.ca) dx fs) ∧ fs.length ≤ 10 ∧ t.fits ∧
  ∀ H', Same G H' → But x H H' → H' x = some (.ins (t.cls T.ca) dx (szP t fs)) → Q .non H'
def spTInit (T : Txt P K mg) : Sp := fun vs H Q _ => ∃ (G : Hp) (t : Tm) (x dx : Addr) (fs : List (Str × V)) (as : List Addr), vs = .ref x :: as.map V.ref ∧ Same G H ∧ G x = none ∧ KidsAt T.ca G t.kids as ∧ H x = some (.ins (t.cls T.ca) dx fs) ∧ fs.length ≤ 10 ∧ t.fits ∧
  ∀ H', Same G H' → But x H H' → H' x = some (.ins (t.cls T.ca) dx (szP t fs)) → Q .non H'
theorem But.refl (x : Addr) (H : Hp) : But x H H := fun _ _ _ h => h
theorem But.trans {x : Addr} {H H1 H2 : Hp} (a : But x H H1) (b : But x H1 H2) : But x H H2 := fun c o n h => b c o n (a c o n h)
theorem But.of {x : Addr} {H H1 : Hp} (s : Same H H1) : But x H H1 := fun b o _ h => s b o h
theorem But.put {x : Addr} {H H1 : Hp} {o : HO} (s : But x H H1) : But x H (upd H1 x o) := fun b u n h => by rw [upd_ne n]; exact s b u n h
theorem kids2 (t : Tm) : t.kids.length ≤ 2 := by cases t <;> simp [Tm.kids]
theorem length_putF_le (f : Str) (y : V) (fs : List (Str × V)) : (putF f y fs).length ≤ fs.length + 1 := by
  have := length_putF f y fs
  omega
theorem ok_term_init (T : Txt P K mg) {k : Nat} : FnR P w K mg base CX0 (k + 1) T.Term_init.f (spTInit T) := by
  obtain ⟨oc, od, kV, doc, pm, an, cdv, ct, osl, efd, lk, hcd⟩ := T.Term_init.F.ex
  rw [efd] at lk
  have F := StX.fn_star (P := P) (w := w) (mg := mg) (base := base) (CX := CX0) (k := k) (ps := ["self"]) (pv := "children") (sp := spTI0 T) lk hcd sc_Term_init StX.cxUp_none (StX.bind_star1 (B := fun l => bindArgs (PySem.W.fnOf "__init__" "Term.__init__" (defArgs s_Term_init) (defBody s_Term_init) (defScope s_Term_init) Value.none kV doc pm an cdv ct) ⟨l, []⟩) (fun a => rfl) (fun a r rs => rfl)) (fun A outer s H vs Q E hr h => by
    obtain ⟨G, t, x, p, dx, fs, as, rfl, sG, xG, pG, hk, hx, hl, hfit, q⟩ := h
    have kc := T.kc t
    have hle := hk.len
    have hl2 : as.length ≤ 2 := by rw [hle]; exact kids2 t
    refine ⟨_, (pss_cons (ps_fld (pv 0) (pe_op op_add pe_int (pe_callBK (crk_maxDef rfl hr.units) (by rfl) T.n_max (by decide +kernel) (pa_cons (pe_lc (own := [("child", 3)]) (g := gName 3) (tt := tYes) (te := (tFld K (tVar 3) "depth")) rfl sc_Term_init.nd (pi_tup (pv 1)) (blkOk_by (own := [("child", 3)]) (N := N_Term_init) (sc := defScope s_Term_init) (by decide +kernel)) (fun _ _ _ _ _ => (pg_name (i := 3) sc_Term_init.nd rfl (.inl rfl))) (fun _ _ _ _ _ => pts_nil) (fun _ _ _ _ _ => (pe_fld (pv 3) rfl))) pa_nil) (pk_cons pe_int pk_nil))) rfl)
  (pss_cons (ps_fld (pv 0) (pe_op op_add pe_int (pe_callB (cr_sum rfl) (by rfl) T.n_sum (by decide +kernel) (pa_cons (pe_lc (own := [("child", 3)]) (g := gName 3) (tt := tYes) (te := (tFld K (tVar 3) "parts")) rfl sc_Term_init.nd (pi_tup (pv 1)) (blkOk_by (own := [("child", 3)]) (N := N_Term_init) (sc := defScope s_Term_init) (by decide +kernel)) (fun _ _ _ _ _ => (pg_name (i := 3) sc_Term_init.nd rfl (.inl rfl))) (fun _ _ _ _ _ => pts_nil) (fun _ _ _ _ _ => (pe_fld (pv 3) rfl))) pa_nil))) rfl)
  (pss_cons (ps_fld (pv 0) (pe_op op_add (pe_callB (cr_sum rfl) (by rfl) T.n_sum (by decide +kernel) (pa_cons (pe_lc (own := [("child", 3)]) (g := gName 3) (tt := tYes) (te := (tFld K (tVar 3) "looks")) rfl sc_Term_init.nd (pi_tup (pv 1)) (blkOk_by (own := [("child", 3)]) (N := N_Term_init) (sc := defScope s_Term_init) (by decide +kernel)) (fun _ _ _ _ _ => (pg_name (i := 3) sc_Term_init.nd rfl (.inl rfl))) (fun _ _ _ _ _ => pts_nil) (fun _ _ _ _ _ => (pe_fld (pv 3) rfl))) pa_nil)) (pe_callTy call_int1 (by rfl) T.n_int (by decide +kernel) (pa_cons (pe_callB call_isi (by rfl) T.n_isinstance (by decide +kernel) (pa_cons (pv 0) (pa_cons (pe_glob (v := .ref T.c_Look) (by rfl) T.g_Look rfl) pa_nil))) pa_nil))) rfl)
  (pss_cons (ps_set (i := 2) sc_Term_init.nd rfl (.inl rfl) (pe_callB call_isiT (by rfl) T.n_isinstance (by decide +kernel) (pa_cons (pv 0) (pa_cons (pe_tup (pa_cons (pe_glob (v := .ref T.c_Look) (by rfl) T.g_Look rfl) (pa_cons (pe_glob (v := .ref T.c_Later) (by rfl) T.g_Later rfl) (pa_cons (pe_glob (v := .ref T.c_Earlier) (by rfl) T.g_Earlier rfl) pa_nil)))) pa_nil))))
  (pss_cons (ps_fld (pv 0) (pe_op op_add (pe_callB (cr_sum rfl) (by rfl) T.n_sum (by decide +kernel) (pa_cons (pe_lc (own := [("child", 3)]) (g := gName 3) (tt := tYes) (te := (tFld K (tVar 3) "choices")) rfl sc_Term_init.nd (pi_tup (pv 1)) (blkOk_by (own := [("child", 3)]) (N := N_Term_init) (sc := defScope s_Term_init) (by decide +kernel)) (fun _ _ _ _ _ => (pg_name (i := 3) sc_Term_init.nd rfl (.inl rfl))) (fun _ _ _ _ _ => pts_nil) (fun _ _ _ _ _ => (pe_fld (pv 3) rfl))) pa_nil)) (pe_callTy call_int1 (by rfl) T.n_int (by decide +kernel) (pa_cons (pv 2) pa_nil))) rfl)
  (pss_one (ps_if (PW.pt (pw_or (pt_cmpR op_gt (pe_fld (pv 0) rfl) (pe_glob (v := .int 12) (by rfl) T.k_DEEPEST ⟨_, rfl⟩) (nomark _)) (pw_or (pt_cmpR op_gt (pe_fld (pv 0) rfl) (pe_glob (v := .int 40) (by rfl) T.k_MOST_PARTS ⟨_, rfl⟩) (nomark _)) (pw_or1 (pt_cmpR op_gt (pe_fld (pv 0) rfl) (pe_glob (v := .int 12) (by rfl) T.k_MOST_LOOKS ⟨_, rfl⟩) (nomark _)))))) (pss_one ps_never) pss_nil))))))), ?_⟩
    refine ⟨.ref p, rfl, p, rfl, ⟨_, SqT.of (sG _ _ pG)⟩, fun D1 hD1 => ?_⟩
    refine lc_kids T (f := "depth") (g := Tm.depth) hD1 (sG _ _ pG) (hk.same sG) hl2 (fun t => (T.kc t).nd) (fun ht => by obtain ⟨dx, fs, h1, h2, _⟩ := ht.obj; exact ⟨dx, fs, h1, h2⟩) (fun H1 s1 d1 => ?_)
    refine ⟨D1, _, 0, rfl, rfl, SqL.of d1, _, _, rfl, rfl, .ref x, rfl, x, _, dx, fs, rfl, s1 _ _ hx, kc.o.cl, kc.nd, by omega, ?_⟩
    -- parts
    have e1 : (1 + mxD 0 (t.kids.map fun t => (t.depth : Int))) = (t.depth : Int) := (Tm.depth_kids t).symm
    have hx1 := upd_same (H := H1) (a := x) (o := HO.ins (t.cls T.ca) dx (putF "depth" (.int t.depth) fs))
    have sG1 : Same G (upd H1 x (.ins (t.cls T.ca) dx (putF "depth" (.int t.depth) fs))) := same_mut (sG.trans s1) xG
    have b1 : But x H (upd H1 x (.ins (t.cls T.ca) dx (putF "depth" (.int t.depth) fs))) := (But.of s1).put
    dsimp only
    rw [e1]
    have l1 := length_putF_le "depth" (.int t.depth) fs
    generalize upd H1 x (.ins (t.cls T.ca) dx (putF "depth" (.int t.depth) fs)) = H2 at hx1 sG1 b1 ⊢
    refine ⟨.ref p, rfl, p, rfl, ⟨_, SqT.of (sG1 _ _ pG)⟩, fun D2 hD2 => ?_⟩
    refine lc_kids T (f := "parts") (g := Tm.parts) hD2 (sG1 _ _ pG) (hk.same sG1) hl2 (fun t => (T.kc t).np) (fun ht => by obtain ⟨dx, fs, h1, _, h2, _⟩ := ht.obj; exact ⟨dx, fs, h1, h2⟩) (fun H3 s3 d3 => ?_)
    refine ⟨D2, _, rfl, SqL.of d3, _, _, rfl, rfl, .ref x, rfl, x, _, dx, _, rfl, s3 _ _ hx1, kc.o.cl, kc.np, by omega, ?_⟩
    have e2 : (1 + (t.kids.map fun t => (t.parts : Int)).sum) = (t.parts : Int) := (Tm.parts_kids t).symm
    dsimp only
    rw [e2]
    have hx2 := upd_same (H := H3) (a := x) (o := HO.ins (t.cls T.ca) dx (putF "parts" (.int t.parts) (putF "depth" (.int t.depth) fs)))
    have sG2 : Same G (upd H3 x (.ins (t.cls T.ca) dx (putF "parts" (.int t.parts) (putF "depth" (.int t.depth) fs)))) := same_mut (sG1.trans s3) xG
    have b2 : But x H (upd H3 x (.ins (t.cls T.ca) dx (putF "parts" (.int t.parts) (putF "depth" (.int t.depth) fs)))) := (b1.trans (But.of s3)).put
    have l2 := length_putF_le "parts" (.int t.parts) (putF "depth" (.int t.depth) fs)
    generalize upd H3 x (.ins (t.cls T.ca) dx (putF "parts" (.int t.parts) (putF "depth" (.int t.depth) fs))) = H4 at hx2 sG2 b2 ⊢
    -- looks
    refine ⟨.ref p, rfl, p, rfl, ⟨_, SqT.of (sG2 _ _ pG)⟩, fun D3 hD3 => ?_⟩
    refine lc_kids T (f := "looks") (g := Tm.looks) hD3 (sG2 _ _ pG) (hk.same sG2) hl2 (fun t => (T.kc t).nl) (fun ht => by obtain ⟨dx, fs, h1, _, _, h2, _⟩ := ht.obj; exact ⟨dx, fs, h1, h2⟩) (fun H5 s5 d5 => ?_)
    refine ⟨D3, _, rfl, SqL.of d5, .ref x, rfl, _, _, _, _, _, rfl, .own _, kc.o.ty (s5 _ _ hx2), kc.kl, .inr ⟨_, rfl, _, _, rfl, rfl, .ref x, rfl, x, _, dx, _, rfl, s5 _ _ hx2, kc.o.cl, kc.nl, by omega, ?_⟩⟩
    have e3 : ((t.kids.map fun t => (t.looks : Int)).sum + (if t.isLook then 1 else 0)) = (t.looks : Int) := (Tm.looks_kids t).symm
    dsimp only
    rw [e3]
    have hx3 := upd_same (H := H5) (a := x) (o := HO.ins (t.cls T.ca) dx (putF "looks" (.int t.looks) (putF "parts" (.int t.parts) (putF "depth" (.int t.depth) fs))))
    have sG3 : Same G (upd H5 x (.ins (t.cls T.ca) dx (putF "looks" (.int t.looks) (putF "parts" (.int t.parts) (putF "depth" (.int t.depth) fs))))) := same_mut (sG2.trans s5) xG
    have b3 : But x H (upd H5 x (.ins (t.cls T.ca) dx (putF "looks" (.int t.looks) (putF "parts" (.int t.parts) (putF "depth" (.int t.depth) fs))))) := (b2.trans (But.of s5)).put
    have l3 := length_putF_le "looks" (.int t.looks) (putF "parts" (.int t.parts) (putF "depth" (.int t.depth) fs))
    generalize upd H5 x (.ins (t.cls T.ca) dx (putF "looks" (.int t.looks) (putF "parts" (.int t.parts) (putF "depth" (.int t.depth) fs)))) = H6 at hx3 sG3 b3 ⊢
    -- chooses
    refine ⟨.ref x, rfl, sz (by show 3 ≤ 100000; decide), fun r hr0 => ?_⟩
    have s6 : Same H6 (upd H6 r (.tup [.ref T.c_Look, .ref T.c_Later, .ref T.c_Earlier])) := same_upd hr0
    refine ⟨_, r, _, _, _, _, rfl, upd_same, .cons (.own _) (.cons (.own _) (.cons (.own _) .nil)), kc.o.ty (s6 _ _ hx3), kc.ka, ?_⟩
    have hx4 := s6 _ _ hx3
    have sG4 := sG3.trans s6
    have b4 := b3.trans (But.of s6)
    generalize upd H6 r (.tup [.ref T.c_Look, .ref T.c_Later, .ref T.c_Earlier]) = H7 at hx4 sG4 b4 ⊢
    refine ⟨.ref p, rfl, p, rfl, ⟨_, SqT.of (sG4 _ _ pG)⟩, fun D4 hD4 => ?_⟩
    refine lc_kids T (f := "choices") (g := Tm.choices) hD4 (sG4 _ _ pG) (hk.same sG4) hl2 (fun t => (T.kc t).nc) (fun ht => by obtain ⟨dx, fs, h1, _, _, _, h2, _⟩ := ht.obj; exact ⟨dx, fs, h1, h2⟩) (fun H8 s8 d8 => ?_)
    refine ⟨D4, _, rfl, SqL.of d8, .bl t.chooses, rfl, .inr ⟨_, rfl, _, _, rfl, rfl, .ref x, rfl, x, _, dx, _, rfl, s8 _ _ hx4, kc.o.cl, kc.nc, by omega, ?_⟩⟩
    have e4 : ((t.kids.map fun t => (t.choices : Int)).sum + (if t.chooses then 1 else 0)) = (t.choices : Int) := (Tm.choices_kids t).symm
    dsimp only
    rw [e4]
    have hx5 := upd_same (H := H8) (a := x) (o := HO.ins (t.cls T.ca) dx (szP t fs))
    have sG5 : Same G (upd H8 x (.ins (t.cls T.ca) dx (szP t fs))) := same_mut (sG4.trans s8) xG
    have b5 : But x H (upd H8 x (.ins (t.cls T.ca) dx (szP t fs))) := (b4.trans (But.of s8)).put
    show _
    change _
    obtain ⟨f1, f2, f3⟩ := hfit
    have k1 : (szP t fs).lookup ("depth" : Str) = some (.int t.depth) := by
      unfold szP
      rw [lookup_putF, if_neg (by decide +kernel), lookup_putF, if_neg (by decide +kernel), lookup_putF, if_neg (by decide +kernel), lookup_putF, if_pos rfl]
    have k2 : (szP t fs).lookup ("parts" : Str) = some (.int t.parts) := by
      unfold szP
      rw [lookup_putF, if_neg (by decide +kernel), lookup_putF, if_neg (by decide +kernel), lookup_putF, if_pos rfl]
    have k3 : (szP t fs).lookup ("looks" : Str) = some (.int t.looks) := by
      unfold szP
      rw [lookup_putF, if_neg (by decide +kernel), lookup_putF, if_pos rfl]
    refine ⟨.ref x, rfl, x, _, dx, _, _, rfl, hx5, kc.o.cl, kc.nd, k1, _, _, rfl, rfl, _, rfl, iF (decide_eq_false (by omega)) ?_⟩
    refine ⟨.ref x, rfl, x, _, dx, _, _, rfl, hx5, kc.o.cl, kc.np, k2, _, _, rfl, rfl, _, rfl, iF (decide_eq_false (by omega)) ?_⟩
    refine ⟨.ref x, rfl, x, _, dx, _, _, rfl, hx5, kc.o.cl, kc.nl, k3, _, _, rfl, rfl, _, rfl, iF (decide_eq_false (by omega)) ?_⟩
    exact q _ sG5 b5 hx5)
  refine F.imp fun vs H Q E h => ?_
  obtain ⟨G, t, x, dx, fs, as, rfl, sG, xG, hk, hx, hl, hfit, q⟩ := h
  refine ⟨[.ref x], as.map V.ref, rfl, rfl, ?_, fun p hp => ?_⟩
  · rw [List.length_map, hk.len]
    exact Nat.le_trans (kids2 t) (by decide)
  · refine ⟨upd G p (.tup (as.map V.ref)), t, x, p, dx, fs, as, rfl, same_both sG, ?_, upd_same, hk.same (same_upd (sG.free hp)), ?_, hl, hfit, fun H' s' b' h' => ?_⟩
    · rw [upd_ne (ne_of_none hx hp)]
      exact xG
    · rw [upd_ne (ne_of_none hx hp)]
      exact hx
    · exact q H' ((same_upd (sG.free hp)).trans s') (fun b o n e => b' b o n (by rw [upd_ne (ne_of_none e hp)]; exact e)) h'
end
end Pl

namespace Pl
open PySem L2
section
variable {P : Program} {w : World} {K : PySem.W.Frag} {mg : Str → Option Value} {base : Heap}
/-- Now.__init__(self) -/
def spNowInit (T : Txt P K mg) : Sp := fun vs H Q _ => ∃ (G : Hp) (x dx : Addr), vs = [.ref x] ∧ Same G H ∧ G x = none ∧ H x = some (.ins T.c_Now dx []) ∧ ∀ H', Same G H' → TmAt T.ca H' .now x → Q .non H'
theorem ok_now_init (T : Txt P K mg) {k : Nat} : FnR P w K mg base CX0 (k + 2) T.Now_init.f (spNowInit T) := by
  refine T.Now_init.ok0 (pre := []) rfl sc_Now_init rfl rfl (by decide +kernel) (by decide) rfl T.n_super (fun _ _ _ _ _ _ _ us hl => match us, hl with | [_], _ => rfl) (ok_term_init T (k := k)) (fun vs H Q E h => ?_) (fun A outer s H vs Q E hr h => ?_)
  · obtain ⟨G, x, dx, rfl, _⟩ := h
    rfl
  · obtain ⟨G, x, dx, rfl, sG, xG, hx, q⟩ := h
    refine ⟨_, pss_nil, ?_⟩
    refine ⟨x, _, dx, [], rfl, rfl, hx, T.s_Now_Now, G, .now, x, dx, [], [], rfl, sG, xG, trivial, hx, by decide, ⟨by decide, by decide, by decide⟩, fun H' s' b' h' => q H' s' ⟨dx, h'⟩⟩
/-- Shift.__init__(self, moment, amount) -/
def spShiftInit (T : Txt P K mg) : Sp := fun vs H Q _ => ∃ (G : Hp) (m : Tm) (n : Int) (x a dx : Addr), vs = [.ref x, .ref a, .int n] ∧ Same G H ∧ G x = none ∧ TmAt T.ca G m a ∧ (Tm.shift m n).fits ∧ H x = some (.ins T.c_Shift dx []) ∧ ∀ H', Same G H' → TmAt T.ca H' (.shift m n) x → Q .non H'
theorem ok_shift_init (T : Txt P K mg) {k : Nat} : FnR P w K mg base CX0 (k + 2) T.Shift_init.f (spShiftInit T) := by
  refine T.Shift_init.ok (pre := (defBody s_Shift_init).take 2) rfl sc_Shift_init rfl rfl (by decide +kernel) (by decide) rfl T.n_super (fun _ _ _ _ _ _ _ us hl => match us, hl with | [_, _, _], _ => rfl) (ok_term_init T (k := k)) (fun vs H Q E h => ?_) (fun A outer s H vs Q E hr h => ?_)
  · obtain ⟨G, m, n, x, a, dx, rfl, _⟩ := h
    rfl
  · obtain ⟨G, m, n, x, a, dx, rfl, sG, xG, hm, hfit, hx, q⟩ := h
    refine ⟨_, _, (pss_cons (ps_fld (pv 0) (pv 1) rfl)
  (pss_one (ps_fld (pv 0) (pv 2) rfl))), (pa_cons (pv 1) pa_nil), ?_⟩
    refine ⟨.ref a, rfl, .ref x, rfl, x, _, dx, [], rfl, hx, T.o_Shift.cl, T.n_Shift_moment, by decide, ?_⟩
    refine ⟨.int n, rfl, .ref x, rfl, x, _, dx, _, rfl, upd_same, T.o_Shift.cl, T.n_Shift_amount, (by show 1 < 1000; decide), ?_⟩
    rw [upd_upd]
    have sG1 : Same G (upd H x (.ins T.c_Shift dx (putF "amount" (.int n) (putF "moment" (.ref a) [])))) := same_mut sG xG
    refine ⟨x, _, dx, _, rfl, rfl, upd_same, T.s_Shift_Shift, .ref a, rfl, G, .shift m n, x, dx, shF a n, [a], rfl, sG1, xG, ⟨hm, trivial⟩, upd_same, (by show 2 ≤ 10; decide), hfit, fun H' s' b' h' => q H' s' ⟨dx, a, h', hm.same s'⟩⟩
end
end Pl

namespace Pl
open PySem L2
/-! ### what a term's form reads as -/
inductive Kd
  | now | shift | look | either | later | earlier
def Tm.kind : Tm → Kd
  | .now => .now
  | .shift _ _ => .shift
  | .look _ _ _ _ => .look
  | .either _ _ => .either
  | .later _ _ => .later
  | .earlier _ _ => .earlier
def oD : Option Int → PyData
  | none => .none
  | some i => .int i
def Tm.data : Tm → PyData
  | .now => .tuple [.str "now"]
  | .shift m n => .tuple [.str "shift", .int n, m.data]
  | .look s m wy lim => .tuple [.str wy, .str s, oD lim, m.data]
  | .either a b => .tuple [.str "either", a.data, b.data]
  | .later a b => .tuple [.str "later", a.data, b.data]
  | .earlier a b => .tuple [.str "earlier", a.data, b.data]
mutual
theorem Dp.same {K : PySem.W.Frag} {H H' : Hp} (s : Same H H') : ∀ (d : PyData) (v : V), Dp K H v d → Dp K H' v d
  | .none, _, h => by cases h; exact .non
  | .bool b, _, h => by cases h; exact .bl b
  | .int i, _, h => by cases h; exact .int i
  | .str x, _, h => by cases h; exact .str x
  | .list ds, _, h => by
    cases h with
    | lst hs ha => exact .lst (s.seq hs) (DpAll.same s ds _ ha)
  | .tuple ds, _, h => by
    cases h with
    | tup hs ha => exact .tup (Same.tup s hs) (DpAll.same s ds _ ha)
  | .dict _, _, h => by cases h
theorem DpAll.same {K : PySem.W.Frag} {H H' : Hp} (s : Same H H') : ∀ (ds : List PyData) (vs : List V), DpAll K H vs ds → DpAll K H' vs ds
  | [], _, h => by cases h; exact .nil
  | d :: ds, _, h => by
    cases h with
    | cons h1 h2 => exact .cons (Dp.same s d _ h1) (DpAll.same s ds _ h2)
end
theorem dp_oV {K : PySem.W.Frag} {H : Hp} (o : Option Int) : Dp K H (oV o) (oD o) := by
  cases o
  · exact .non
  · exact .int _
section
variable {P : Program} {w : World} {K : PySem.W.Frag} {mg : Str → Option Value} {base : Heap}
def Txt.formF (T : Txt P K mg) : Kd → Addr
  | .now => T.Term_form.f
  | .shift => T.Shift_form.f
  | .look => T.Look_form.f
  | .either => T.Either_form.f
  | .later => T.Later_form.f
  | .earlier => T.Earlier_form.f
theorem Txt.formM (T : Txt P K mg) (t : Tm) : Meth K (t.cls T.ca) "form" (T.formF t.kind) := by
  cases t
  · exact T.m_Now_form
  · exact T.m_Shift_form
  · exact T.m_Look_form
  · exact T.m_Either_form
  · exact T.m_Later_form
  · exact T.m_Earlier_form
def spForm (T : Txt P K mg) (n : Nat) (kd : Kd) : Sp := fun vs H Q _ => ∃ (t : Tm) (a : Addr), vs = [.ref a] ∧ t.kind = kd ∧ t.depth ≤ n ∧ TmAt T.ca H t a ∧ ∀ r H', Same H H' → Dp K H' (.ref r) t.data → Q (.ref r) H'
/-- o.form() -/
theorem rd_form (T : Txt P K mg) {n : Nat} {σ : St} {H : Hp} {Q : VK} {ta : TE} {t : Tm} {a : Addr} (hd : t.depth ≤ n) (hta : TmAt T.ca H t a) (q : ∀ r H', Same H H' → Dp K H' (.ref r) t.data → Q (.ref r) H') :
    ∃ a' C dx fs i, V.ref a = .ref a' ∧ H a' = some (.ins C dx fs) ∧ fs.lookup ("form" : Str) = none ∧ Cls K C ∧ Meth K C "form" (T.formF i) ∧ tNil σ H fun vs H2 => spForm T n i (.ref a :: vs) H2 Q E0 := by
  obtain ⟨dx, fs, h1, _, _, _, _, h2, _⟩ := hta.obj
  exact ⟨a, _, dx, fs, t.kind, rfl, h1, h2, (T.kc t).o.cl, T.formM t, t, a, rfl, rfl, hd, hta, q⟩
theorem depth_pos (t : Tm) : 0 < t.depth := by cases t <;> simp only [Tm.depth] <;> omega
theorem ok_form (T : Txt P K mg) {k : Nat} : ∀ (n : Nat) (kd : Kd), FnR P w K mg base CX0 (k + n) (T.formF kd) (spForm T n kd)
  | 0, kd => fun A outer s H us vs Q E hr e0 r h => by
    obtain ⟨t, a, _, _, hd, _⟩ := h
    have := depth_pos t
    omega
  | n + 1, kd => by
    have G_form : ∀ kd, FnR P w K mg base CX0 (k + n) (T.formF kd) (spForm T n kd) := fun kd => ok_form T n kd
    cases kd with
    | now =>
      refine toR (T.Term_form.F.ok (k := k + n) sc_Term_form (fun vs H Q E h => ?_) (fun cdv A outer s H vs Q E hr h => ?_)) T.Term_form.b
      · obtain ⟨t, a, rfl, _⟩ := h
        rfl
      · obtain ⟨t, a, rfl, hk, hd, hta, q⟩ := h
        cases t with
        | now =>
          refine ⟨_, (pss_one (ps_ret (pe_tup (pa_cons pe_str pa_nil)))), ?_⟩
          refine ⟨sz (by show 1 ≤ 100000; decide), fun p hp => ?_⟩
          exact q p _ (same_upd hp) (.tup (SqT.of upd_same) (.cons (.str _) .nil))
        | _ => cases hk
    | shift =>
      refine toR (T.Shift_form.F.ok (k := k + n) sc_Shift_form (fun vs H Q E h => ?_) (fun cdv A outer s H vs Q E hr h => ?_)) T.Shift_form.b
      · obtain ⟨t, a, rfl, _⟩ := h
        rfl
      · obtain ⟨t, a, rfl, hk, hd, hta, q⟩ := h
        cases t with
        | shift m i =>
          obtain ⟨dx, b, ha, hm⟩ := hta
          have hd' : m.depth ≤ n := by simp only [Tm.depth] at hd; omega
          refine ⟨_, (pss_one (ps_ret (pe_tup (pa_cons pe_str (pa_cons (pe_fld (pv 0) rfl) (pa_cons (pe_methV0 (pe_fld (pv 0) rfl) G_form (hr.mono (by omega)) pass0) pa_nil)))))), ?_⟩
          refine ⟨.ref a, rfl, a, _, dx, _, _, rfl, ha, T.o_Shift.cl, T.n_Shift_amount, rfl, .ref a, rfl, a, _, dx, _, _, rfl, ha, T.o_Shift.cl, T.n_Shift_moment, rfl, ?_⟩
          refine rd_form T (ta := tVar 0) hd' hm fun r H' s' hr' => ?_
          refine ⟨sz (by show 3 ≤ 100000; decide), fun p hp => ?_⟩
          exact q p _ (s'.trans (same_upd hp)) (.tup (SqT.of upd_same) (.cons (.str _) (.cons (.int _) (.cons (Dp.same (same_upd hp) _ _ hr') .nil))))
        | _ => cases hk
    | look =>
      refine toR (T.Look_form.F.ok (k := k + n) sc_Look_form (fun vs H Q E h => ?_) (fun cdv A outer s H vs Q E hr h => ?_)) T.Look_form.b
      · obtain ⟨t, a, rfl, _⟩ := h
        rfl
      · obtain ⟨t, a, rfl, hk, hd, hta, q⟩ := h
        cases t with
        | look st m wy lim =>
          obtain ⟨dx, b, ha, hm⟩ := hta
          have hd' : m.depth ≤ n := by simp only [Tm.depth] at hd; omega
          refine ⟨_, (pss_one (ps_ret (pe_tup (pa_cons (pe_fld (pv 0) rfl) (pa_cons (pe_fld (pv 0) rfl) (pa_cons (pe_fld (pv 0) rfl) (pa_cons (pe_methV0 (pe_fld (pv 0) rfl) G_form (hr.mono (by omega)) pass0) pa_nil))))))), ?_⟩
          refine ⟨.ref a, rfl, a, _, dx, _, _, rfl, ha, T.o_Look.cl, T.n_Look_way, rfl, .ref a, rfl, a, _, dx, _, _, rfl, ha, T.o_Look.cl, T.n_Look_stream, rfl, .ref a, rfl, a, _, dx, _, _, rfl, ha, T.o_Look.cl, T.n_Look_within, rfl, .ref a, rfl, a, _, dx, _, _, rfl, ha, T.o_Look.cl, T.n_Look_moment, rfl, ?_⟩
          refine rd_form T (ta := tVar 0) hd' hm fun r H' s' hr' => ?_
          refine ⟨sz (by show 4 ≤ 100000; decide), fun p hp => ?_⟩
          exact q p _ (s'.trans (same_upd hp)) (.tup (SqT.of upd_same) (.cons (.str _) (.cons (.str _) (.cons (dp_oV _) (.cons (Dp.same (same_upd hp) _ _ hr') .nil)))))
        | _ => cases hk
    | either =>
      refine toR (T.Either_form.F.ok (k := k + n) sc_Either_form (fun vs H Q E h => ?_) (fun cdv A outer s H vs Q E hr h => ?_)) T.Either_form.b
      · obtain ⟨t, a, rfl, _⟩ := h
        rfl
      · obtain ⟨t, a, rfl, hk, hd, hta, q⟩ := h
        cases t with
        | either x y =>
          obtain ⟨dx, b, d, ha, hx, hy⟩ := hta
          have hd1 : x.depth ≤ n := by simp only [Tm.depth] at hd; omega
          have hd2 : y.depth ≤ n := by simp only [Tm.depth] at hd; omega
          refine ⟨_, (pss_one (ps_ret (pe_tup (pa_cons pe_str (pa_cons (pe_methV0 (pe_fld (pv 0) rfl) G_form (hr.mono (by omega)) pass0) (pa_cons (pe_methV0 (pe_fld (pv 0) rfl) G_form (hr.mono (by omega)) pass0) pa_nil)))))), ?_⟩
          refine ⟨.ref a, rfl, a, _, dx, _, _, rfl, ha, T.o_Either.cl, T.n_Either_first, rfl, ?_⟩
          refine rd_form T (ta := tVar 0) hd1 hx fun r1 H1 s1 hr1 => ?_
          refine ⟨.ref a, rfl, a, _, dx, _, _, rfl, s1 _ _ ha, T.o_Either.cl, T.n_Either_second, rfl, ?_⟩
          refine rd_form T (ta := tVar 0) hd2 (hy.same s1) fun r2 H2 s2 hr2 => ?_
          refine ⟨sz (by show 3 ≤ 100000; decide), fun p hp => ?_⟩
          exact q p _ ((s1.trans s2).trans (same_upd hp)) (.tup (SqT.of upd_same) (.cons (.str _) (.cons (Dp.same (s2.trans (same_upd hp)) _ _ hr1) (.cons (Dp.same (same_upd hp) _ _ hr2) .nil))))
        | _ => cases hk
    | later =>
      refine toR (T.Later_form.F.ok (k := k + n) sc_Later_form (fun vs H Q E h => ?_) (fun cdv A outer s H vs Q E hr h => ?_)) T.Later_form.b
      · obtain ⟨t, a, rfl, _⟩ := h
        rfl
      · obtain ⟨t, a, rfl, hk, hd, hta, q⟩ := h
        cases t with
        | later x y =>
          obtain ⟨dx, b, d, ha, hx, hy⟩ := hta
          have hd1 : x.depth ≤ n := by simp only [Tm.depth] at hd; omega
          have hd2 : y.depth ≤ n := by simp only [Tm.depth] at hd; omega
          refine ⟨_, (pss_one (ps_ret (pe_tup (pa_cons pe_str (pa_cons (pe_methV0 (pe_fld (pv 0) rfl) G_form (hr.mono (by omega)) pass0) (pa_cons (pe_methV0 (pe_fld (pv 0) rfl) G_form (hr.mono (by omega)) pass0) pa_nil)))))), ?_⟩
          refine ⟨.ref a, rfl, a, _, dx, _, _, rfl, ha, T.o_Later.cl, T.n_Later_first, rfl, ?_⟩
          refine rd_form T (ta := tVar 0) hd1 hx fun r1 H1 s1 hr1 => ?_
          refine ⟨.ref a, rfl, a, _, dx, _, _, rfl, s1 _ _ ha, T.o_Later.cl, T.n_Later_second, rfl, ?_⟩
          refine rd_form T (ta := tVar 0) hd2 (hy.same s1) fun r2 H2 s2 hr2 => ?_
          refine ⟨sz (by show 3 ≤ 100000; decide), fun p hp => ?_⟩
          exact q p _ ((s1.trans s2).trans (same_upd hp)) (.tup (SqT.of upd_same) (.cons (.str _) (.cons (Dp.same (s2.trans (same_upd hp)) _ _ hr1) (.cons (Dp.same (same_upd hp) _ _ hr2) .nil))))
        | _ => cases hk
    | earlier =>
      refine toR (T.Earlier_form.F.ok (k := k + n) sc_Earlier_form (fun vs H Q E h => ?_) (fun cdv A outer s H vs Q E hr h => ?_)) T.Earlier_form.b
      · obtain ⟨t, a, rfl, _⟩ := h
        rfl
      · obtain ⟨t, a, rfl, hk, hd, hta, q⟩ := h
        cases t with
        | earlier x y =>
          obtain ⟨dx, b, d, ha, hx, hy⟩ := hta
          have hd1 : x.depth ≤ n := by simp only [Tm.depth] at hd; omega
          have hd2 : y.depth ≤ n := by simp only [Tm.depth] at hd; omega
          refine ⟨_, (pss_one (ps_ret (pe_tup (pa_cons pe_str (pa_cons (pe_methV0 (pe_fld (pv 0) rfl) G_form (hr.mono (by omega)) pass0) (pa_cons (pe_methV0 (pe_fld (pv 0) rfl) G_form (hr.mono (by omega)) pass0) pa_nil)))))), ?_⟩
          refine ⟨.ref a, rfl, a, _, dx, _, _, rfl, ha, T.o_Earlier.cl, T.n_Earlier_first, rfl, ?_⟩
          refine rd_form T (ta := tVar 0) hd1 hx fun r1 H1 s1 hr1 => ?_
          refine ⟨.ref a, rfl, a, _, dx, _, _, rfl, s1 _ _ ha, T.o_Earlier.cl, T.n_Earlier_second, rfl, ?_⟩
          refine rd_form T (ta := tVar 0) hd2 (hy.same s1) fun r2 H2 s2 hr2 => ?_
          refine ⟨sz (by show 3 ≤ 100000; decide), fun p hp => ?_⟩
          exact q p _ ((s1.trans s2).trans (same_upd hp)) (.tup (SqT.of upd_same) (.cons (.str _) (.cons (Dp.same (s2.trans (same_upd hp)) _ _ hr1) (.cons (Dp.same (same_upd hp) _ _ hr2) .nil))))
        | _ => cases hk
end
end Pl

namespace Pl
open PySem L2
/-- the term plus an amount -/
def Tm.plus : Tm → Int → Tm
  | .shift m n, k => if k = 0 then .shift m n else if k + n = 0 then m else .shift m (k + n)
  | t, k => if k = 0 then t else .shift t k
def Tm.sok : Tm → Prop
  | .now => True
  | .shift m _ => m.sok
  | .look s m wy _ => PyData.strOk s = true ∧ PyData.strOk wy = true ∧ m.sok
  | .either a b => a.sok ∧ b.sok
  | .later a b => a.sok ∧ b.sok
  | .earlier a b => a.sok ∧ b.sok
theorem oD_ok (o : Option Int) : (oD o).canLay0 = true ∧ (oD o).depth = 0 := by cases o <;> simp [oD, PyData.canLay0, PyData.depth]
theorem Tm.canLay : ∀ (t : Tm), t.sok → t.data.canLay0 = true
  | .now, _ => by simp only [Tm.data, PyData.canLay0, PyData.canLayAll0]; decide +kernel
  | .shift m n, h => by
    have := Tm.canLay m h
    simp only [Tm.data, PyData.canLay0, PyData.canLayAll0, this, Bool.and_true, Bool.true_and]
    decide +kernel
  | .look s m wy lim, ⟨h1, h2, h3⟩ => by
    have := Tm.canLay m h3
    simp only [Tm.data, PyData.canLay0, PyData.canLayAll0, this, h1, h2, (oD_ok lim).1, Bool.and_true, Bool.true_and]
  | .either a b, ⟨h1, h2⟩ => by
    have e1 := Tm.canLay a h1
    have e2 := Tm.canLay b h2
    simp only [Tm.data, PyData.canLay0, PyData.canLayAll0, e1, e2, Bool.and_true, Bool.true_and]
    decide +kernel
  | .later a b, ⟨h1, h2⟩ => by
    have e1 := Tm.canLay a h1
    have e2 := Tm.canLay b h2
    simp only [Tm.data, PyData.canLay0, PyData.canLayAll0, e1, e2, Bool.and_true, Bool.true_and]
    decide +kernel
  | .earlier a b, ⟨h1, h2⟩ => by
    have e1 := Tm.canLay a h1
    have e2 := Tm.canLay b h2
    simp only [Tm.data, PyData.canLay0, PyData.canLayAll0, e1, e2, Bool.and_true, Bool.true_and]
    decide +kernel
theorem Tm.dataDepth : ∀ (t : Tm), t.data.depth = t.depth
  | .now => by simp [Tm.data, PyData.depth, PyData.depthAll, Tm.depth]
  | .shift m n => by
    have := Tm.dataDepth m
    simp only [Tm.data, PyData.depth, PyData.depthAll, Tm.depth, this]
    omega
  | .look s m wy lim => by
    have := Tm.dataDepth m
    simp only [Tm.data, PyData.depth, PyData.depthAll, Tm.depth, this, (oD_ok lim).2]
    omega
  | .either a b => by
    have e1 := Tm.dataDepth a
    have e2 := Tm.dataDepth b
    simp only [Tm.data, PyData.depth, PyData.depthAll, Tm.depth, e1, e2]
    omega
  | .later a b => by
    have e1 := Tm.dataDepth a
    have e2 := Tm.dataDepth b
    simp only [Tm.data, PyData.depth, PyData.depthAll, Tm.depth, e1, e2]
    omega
  | .earlier a b => by
    have e1 := Tm.dataDepth a
    have e2 := Tm.dataDepth b
    simp only [Tm.data, PyData.depth, PyData.depthAll, Tm.depth, e1, e2]
    omega
theorem Tm.shaped {t : Tm} (h : t.sok) (hd : t.depth ≤ 12) : SeqAt.shaped t.data = true := by
  unfold SeqAt.shaped
  rw [t.canLay h, t.dataDepth]
  simp only [Bool.true_and, decide_eq_true_eq]
  omega
section
variable {P : Program} {w : World} {K : PySem.W.Frag} {mg : Str → Option Value} {base : Heap}
theorem Txt.ks (T : Txt P K mg) (t : Tm) : PySem.W.kitOne K (.ref (t.cls T.ca)) (.ref T.c_Shift) = some (match t with | .shift _ _ => true | _ => false) := by
  cases t
  · exact T.k1_Now_Shift
  · exact T.k1_Shift_Shift
  · exact T.k1_Look_Shift
  · exact T.k1_Either_Shift
  · exact T.k1_Later_Shift
  · exact T.k1_Earlier_Shift
theorem TmAt.ty {T : Txt P K mg} {H : Hp} {t : Tm} {a : Addr} (h : TmAt T.ca H t a) : TyX K H (.ref a) (.ref (t.cls T.ca)) := by
  obtain ⟨dx, fs, h1, _⟩ := h.obj
  exact (T.kc t).o.ty h1
/-- Term.__eq__ -/
def spTEq (T : Txt P K mg) : Sp := fun vs H Q _ => ∃ (t u : Tm) (a b : Addr), vs = [.ref a, .ref b] ∧ TmAt T.ca H t a ∧ TmAt T.ca H u b ∧ t.sok ∧ u.sok ∧ t.depth ≤ 12 ∧ u.depth ≤ 12 ∧ ∀ H', Same H H' → Q (.bl (PyData.eqv t.data u.data)) H'
theorem ok_term_eq (T : Txt P K mg) {k : Nat} : FnR P w K mg base CX0 (k + 13) T.Term_eq.f (spTEq T) := by
  have G_form : ∀ kd, FnR P w K mg base CX0 (k + 12) (T.formF kd) (spForm T 12 kd) := fun kd => ok_form T 12 kd
  refine toR (T.Term_eq.F.ok (k := k + 12) sc_Term_eq (fun vs H Q E h => ?_) (fun cdv A outer s H vs Q E hr h => ?_)) T.Term_eq.b
  · obtain ⟨t, u, a, b, rfl, _⟩ := h
    rfl
  · obtain ⟨t, u, a, b, rfl, ht, hu, st, su, dt, du, q⟩ := h
    refine ⟨_, (pss_one (ps_ret (pe_and (pe_callB call_isi (by rfl) T.n_isinstance (by decide +kernel) (pa_cons (pv 1) (pa_cons (pe_glob (v := .ref T.c_Term) (by rfl) T.g_Term rfl) pa_nil))) (pe_one (pe_cmpR (op_eqD hr.units) (pe_methV0 (pv 0) G_form (hr.mono (by omega)) pass0) (pe_methV0 (pv 1) G_form (hr.mono (by omega)) pass0) (nomark _)))))), ?_⟩
    refine ⟨.ref b, rfl, _, _, _, _, _, rfl, .own _, hu.ty, (T.kc u).kt, _, rfl, iT rfl ⟨.ref a, rfl, ?_⟩⟩
    refine rd_form T (ta := tVar 0) dt ht fun r1 H1 s1 hr1 => ?_
    refine ⟨.ref b, rfl, ?_⟩
    refine rd_form T (ta := tVar 1) du (hu.same s1) fun r2 H2 s2 hr2 => ?_
    exact ⟨_, _, Dp.same s2 _ _ hr1, hr2, Tm.shaped st dt, Tm.shaped su du, q H2 (s1.trans s2)⟩
/-- shifted(term, amount) -/
def spShifted (T : Txt P K mg) : Sp := fun vs H Q _ => ∃ (t : Tm) (a : Addr) (k : Int), vs = [.ref a, .int k] ∧ TmAt T.ca H t a ∧ (t.plus k).fits ∧ ∀ r H', Same H H' → TmAt T.ca H' (t.plus k) r → Q (.ref r) H'
theorem ok_shifted (T : Txt P K mg) {k : Nat} : FnOk P w K mg base CX0 (k + 4) T.shifted.f T.shifted.fd ["term", "amount"] (spShifted T) := by
  have G_Shift_init : FnR P w K mg base CX0 (k + 2) T.Shift_init.f (spShiftInit T) := ok_shift_init T
  refine T.shifted.F.ok (k := k + 3) sc_shifted (fun vs H Q E h => ?_) (fun cdv A outer s H vs Q E hr h => ?_)
  · obtain ⟨t, a, k, rfl, _⟩ := h
    rfl
  · obtain ⟨t, a, n, rfl, ht, hf, q⟩ := h
    refine ⟨_, (pss_cons (ps_if (PW.pt (pw_and (pt_val (pe_callB call_isi (by rfl) T.n_isinstance (by decide +kernel) (pa_cons (pv 0) (pa_cons (pe_glob (v := .ref T.c_Shift) (by rfl) T.g_Shift rfl) pa_nil)))) (pw_and1 (pt_cmpR op_ne (pv 1) pe_int (nomark _))))) (pss_cons (ps_set (i := 1) sc_shifted.nd rfl (.inl rfl) (pe_op op_add (pv 1) (pe_fld (pv 0) rfl)))
  (pss_one (ps_set (i := 0) sc_shifted.nd rfl (.inl rfl) (pe_fld (pv 0) rfl)))) pss_nil)
  (pss_cons (ps_if (pt_cmpR op_eq (pv 1) pe_int (nomark _)) (pss_one (ps_ret (pv 0))) pss_nil)
  (pss_one (ps_ret (StX.pe_makeR T.mk_Shift G_Shift_init (hr.mono (by omega)) (by rfl) T.g_Shift pass0 (pa_cons (pv 0) (pa_cons (pv 1) pa_nil))))))), ?_⟩
    have mk : ∀ (m : Tm) (b : Addr) (n : Int) (H : Hp) (Q : VK), TmAt T.ca H m b → (Tm.shift m n).fits → (∀ r H', Same H H' → TmAt T.ca H' (.shift m n) r → Q (.ref r) H') → ∀ x dx, H x = none → H dx = none → dx ≠ x →
        spShiftInit T [.ref x, .ref b, .int n] (upd (upd H dx (.own x)) x (.ins T.c_Shift dx [])) (fun v H2 => v = .non ∧ Q (.ref x) H2) E0 := fun m b n H Q hm hf q x dx hx hdx hne => by
      have s1 : Same H (upd (upd H dx (.own x)) x (.ins T.c_Shift dx [])) := fun c o e => by
        rw [upd_ne (ne_of_none e hx), upd_ne (ne_of_none e hdx)]
        exact e
      exact ⟨H, m, n, x, b, dx, rfl, s1, hx, hm, hf, upd_same, fun H' s' h' => ⟨rfl, q x H' s' h'⟩⟩
    by_cases hs : ∃ m i, t = .shift m i
    · obtain ⟨m, i, rfl⟩ := hs
      obtain ⟨dx, b, ha, hm⟩ := id ht
      refine ⟨.ref a, rfl, _, _, _, _, _, rfl, .own _, ht.ty, T.k1_Shift_Shift, _, rfl, iT rfl ⟨.int n, rfl, rfl, _, rfl, ?_⟩⟩
      by_cases n0 : n = 0
      · subst n0
        refine iF rfl ?_
        refine ⟨.int 0, rfl, rfl, _, rfl, iT rfl ⟨.ref a, rfl, ?_⟩⟩
        exact q a H (Same.refl H) ht
      · refine iT (by simp [n0]) ?_
        refine ⟨.int n, rfl, .ref a, rfl, a, _, dx, _, _, rfl, ha, T.o_Shift.cl, T.n_Shift_amount, rfl, _, _, rfl, rfl, .ref a, rfl, a, _, dx, _, _, rfl, ha, T.o_Shift.cl, T.n_Shift_moment, rfl, ?_⟩
        refine ⟨.int (n + i), rfl, rfl, _, rfl, ?_⟩
        by_cases e : n + i = 0
        · have ep : (Tm.shift m i).plus n = m := by simp only [Tm.plus]; rw [if_neg n0, if_pos e]
          rw [ep] at q
          exact iT (decide_eq_true (by rw [e])) ⟨.ref b, rfl, q b H (Same.refl H) hm⟩
        · have ep : (Tm.shift m i).plus n = .shift m (n + i) := by simp only [Tm.plus]; rw [if_neg n0, if_neg e]
          rw [ep] at q hf
          exact iF (decide_eq_false (fun h => e (V.int.inj h))) ⟨.ref b, rfl, .int (n + i), rfl, mk m b (n + i) H Q hm hf q⟩
    · have ek : PySem.W.kitOne K (.ref (t.cls T.ca)) (.ref T.c_Shift) = some false := by
        have := T.ks t
        cases t with
        | shift m i => exact absurd ⟨m, i, rfl⟩ hs
        | _ => exact this
      refine ⟨.ref a, rfl, _, _, _, _, _, rfl, .own _, ht.ty, ek, _, rfl, iF rfl ?_⟩
      refine ⟨.int n, rfl, rfl, _, rfl, ?_⟩
      have ep : t.plus n = if n = 0 then t else .shift t n := by
        cases t with
        | shift m i => exact absurd ⟨m, i, rfl⟩ hs
        | _ => rfl
      rw [ep] at q hf
      by_cases n0 : n = 0
      · rw [if_pos n0] at q
        exact iT (decide_eq_true (by rw [n0])) ⟨.ref a, rfl, q a H (Same.refl H) ht⟩
      · rw [if_neg n0] at q hf
        exact iF (decide_eq_false (fun h => n0 (V.int.inj h))) ⟨.ref a, rfl, .int n, rfl, mk t a n H Q ht hf q⟩
/-- Term.__add__, Term.__sub__ -/
def spTAdd (T : Txt P K mg) (sg : Int) : Sp := fun vs H Q _ => ∃ (t : Tm) (a : Addr) (k : Int), vs = [.ref a, .int k] ∧ TmAt T.ca H t a ∧ (t.plus (sg * k)).fits ∧ ∀ r H', Same H H' → TmAt T.ca H' (t.plus (sg * k)) r → Q (.ref r) H'
theorem ok_term_add (T : Txt P K mg) {k : Nat} : FnR P w K mg base CX0 (k + 5) T.Term_add.f (spTAdd T 1) := by
  have G_check_moment : FnOk P w K mg base CX0 (k + 2) T.check_moment.f T.check_moment.fd ["value"] spCkMoment := ok_check_moment T
  have G_shifted : FnOk P w K mg base CX0 (k + 4) T.shifted.f T.shifted.fd ["term", "amount"] (spShifted T) := ok_shifted T
  refine toR (T.Term_add.F.ok (k := k + 4) sc_Term_add (fun vs H Q E h => ?_) (fun cdv A outer s H vs Q E hr h => ?_)) T.Term_add.b
  · obtain ⟨t, a, k, rfl, _⟩ := h
    rfl
  · obtain ⟨t, a, n, rfl, ht, hf, q⟩ := h
    rw [Int.one_mul] at hf q
    refine ⟨_, (pss_cons (ps_expr (pe_call G_check_moment (hr.mono (by omega)) (by rfl) T.check_moment.g T.check_moment.F.kp T.check_moment.b .nil pass0 (pa_cons (pv 1) pa_nil)))
  (pss_one (ps_ret (pe_call G_shifted (hr.mono (by omega)) (by rfl) T.shifted.g T.shifted.F.kp T.shifted.b .nil pass0 (pa_cons (pv 0) (pa_cons (pv 1) pa_nil)))))), ?_⟩
    exact ⟨.int n, rfl, n, rfl, .ref a, rfl, .int n, rfl, t, a, n, rfl, ht, hf, q⟩
theorem ok_term_sub (T : Txt P K mg) {k : Nat} : FnR P w K mg base CX0 (k + 5) T.Term_sub.f (spTAdd T (-1)) := by
  have G_check_moment : FnOk P w K mg base CX0 (k + 2) T.check_moment.f T.check_moment.fd ["value"] spCkMoment := ok_check_moment T
  have G_shifted : FnOk P w K mg base CX0 (k + 4) T.shifted.f T.shifted.fd ["term", "amount"] (spShifted T) := ok_shifted T
  refine toR (T.Term_sub.F.ok (k := k + 4) sc_Term_sub (fun vs H Q E h => ?_) (fun cdv A outer s H vs Q E hr h => ?_)) T.Term_sub.b
  · obtain ⟨t, a, k, rfl, _⟩ := h
    rfl
  · obtain ⟨t, a, n, rfl, ht, hf, q⟩ := h
    rw [show -1 * n = -n by omega] at hf q
    refine ⟨_, (pss_cons (ps_expr (pe_call G_check_moment (hr.mono (by omega)) (by rfl) T.check_moment.g T.check_moment.F.kp T.check_moment.b .nil pass0 (pa_cons (pv 1) pa_nil)))
  (pss_one (ps_ret (pe_call G_shifted (hr.mono (by omega)) (by rfl) T.shifted.g T.shifted.F.kp T.shifted.b .nil pass0 (pa_cons (pv 0) (pa_cons (pe_un un_neg (pv 1)) pa_nil)))))), ?_⟩
    exact ⟨.int n, rfl, n, rfl, .ref a, rfl, .int n, rfl, n, rfl, t, a, -n, rfl, ht, hf, q⟩
/-- check_term of a term -/
def spCkTerm (T : Txt P K mg) : Sp := fun vs H Q _ => ∃ (t : Tm) (a : Addr), vs = [.ref a] ∧ TmAt T.ca H t a ∧ Q .non H
theorem ok_check_term (T : Txt P K mg) {k : Nat} : FnOk P w K mg base CX0 (k + 1) T.check_term.f T.check_term.fd ["value"] (spCkTerm T) := by
  refine T.check_term.F.ok (k := k) sc_check_term (fun vs H Q E h => ?_) (fun cdv A outer s H vs Q E hr h => ?_)
  · obtain ⟨t, a, rfl, _⟩ := h
    rfl
  · obtain ⟨t, a, rfl, ht, q⟩ := h
    refine ⟨_, (pss_one (ps_if (pt_not (pt_val (pe_callB call_isi (by rfl) T.n_isinstance (by decide +kernel) (pa_cons (pv 0) (pa_cons (pe_glob (v := .ref T.c_Term) (by rfl) T.g_Term rfl) pa_nil))))) (pss_one ps_never) pss_nil)), ?_⟩
    exact ⟨.ref a, rfl, _, _, _, _, _, rfl, .own _, ht.ty, (T.kc t).kt, _, rfl, iF rfl q⟩
theorem TmAt.mn {c : CA} {S : List Addr} {H : Hp} (hS : Lsts S H) : ∀ {t : Tm} {a : Addr}, TmAt c H t a → TmAt c (mn S H) t a := by
  have key : ∀ {a C dx : Addr} {fs : List (Str × V)}, H a = some (.ins C dx fs) → Pl.mn S H a = some (.ins C dx fs) := fun {a C dx fs} h => mn_nl hS h (fun _ z => nomatch z)
  intro t
  induction t with
  | now => intro a ⟨dx, h⟩; exact ⟨dx, key h⟩
  | shift m n ih => intro a ⟨dx, b, h, h1⟩; exact ⟨dx, b, key h, ih h1⟩
  | look s m wy lim ih => intro a ⟨dx, b, h, h1⟩; exact ⟨dx, b, key h, ih h1⟩
  | either x y i1 i2 => intro a ⟨dx, b, d, h, h1, h2⟩; exact ⟨dx, b, d, key h, i1 h1, i2 h2⟩
  | later x y i1 i2 => intro a ⟨dx, b, d, h, h1, h2⟩; exact ⟨dx, b, d, key h, i1 h1, i2 h2⟩
  | earlier x y i1 i2 => intro a ⟨dx, b, d, h, h1, h2⟩; exact ⟨dx, b, d, key h, i1 h1, i2 h2⟩
end
end Pl

namespace Pl
open PySem L2
section
variable {P : Program} {w : World} {K : PySem.W.Frag} {mg : Str → Option Value} {base : Heap}
theorem dstr {a b : Str} : decide (V.str a = V.str b) = decide (a = b) := by
  by_cases h : a = b
  · subst h; simp
  · have : ¬ V.str a = V.str b := fun z => h (V.str.inj z)
    simp [h, this]
def rowF (H : Hp) (z : Str) : V → Option V
  | .ref t => match H t with
    | some (.tup [.str s, .int m]) => if s = z then some (.int m) else none
    | _ => none
  | _ => none
theorem rowF_all {H : Hp} {z : Str} : ∀ {vs : List V} {ps : List (Str × Int)}, PrsAt H vs ps → vs.filterMap (rowF H z) = (rowsOf ps z).map V.int
  | [], [], _ => rfl
  | v :: vs, p :: ps, h => by
    obtain ⟨t, e1, e2⟩ := h.2 0 p rfl
    cases e1
    have ih := rowF_all (z := z) (vs := vs) (ps := ps) ⟨Nat.succ.inj h.1, fun i q e => h.2 (i + 1) q e⟩
    unfold rowsOf at ih ⊢
    rw [List.filterMap_cons, List.filter_cons]
    have e3 : rowF H z (.ref t) = if p.1 = z then some (.int p.2) else none := by
      simp only [rowF, e2]
    rw [e3]
    by_cases hz : p.1 = z
    · rw [if_pos hz, if_pos (decide_eq_true hz), List.map_cons, List.map_cons, ih]
    · rw [if_neg hz, if_neg (by simp [hz]), ih]
  | [], _ :: _, h => nomatch h.1
  | _ :: _, [], h => nomatch h.1
/-- world[name] -/
def spGetItem (T : Txt P K mg) : Sp := fun vs H Q _ => ∃ (a l : Addr) (z : Str) (ps : List (Str × Int)), vs = [.ref a, .str z] ∧ WoA T H a l ps ∧ goodName z ∧ ps.length ≤ 1000 ∧ ∀ r H', Same H H' → H r = none → H' r = some (.lst ((rowsOf ps z).map V.int)) → Q (.ref r) H'
theorem ok_getitem (T : Txt P K mg) {k : Nat} : FnR P w K mg base CX0 (k + 3) T.World_getitem.f (spGetItem T) := by
  have G_check_name : FnOk P w K mg base CX0 (k + 2) T.check_name.f T.check_name.fd ["name"] spCkName := ok_check_name T
  refine toR (T.World_getitem.F.ok (k := k + 2) sc_World_getitem (fun vs H Q E h => ?_) (fun cdv A outer s H vs Q E hr h => ?_)) T.World_getitem.b
  · obtain ⟨a, l, z, ps, rfl, _⟩ := h
    rfl
  · obtain ⟨a, l, z, ps, rfl, hw, hz, hl, q⟩ := h
    refine ⟨_, (pss_cons (ps_expr (pe_call G_check_name (hr.mono (by omega)) (by rfl) T.check_name.g T.check_name.F.kp T.check_name.b .nil pass0 (pa_cons (pv 1) pa_nil)))
  (pss_one (ps_ret (pe_lc (own := [("stream", 2), ("moment", 3)]) (g := gTup K 2 (gCons (gName 2) (gCons (gName 3) gNil))) (tt := (tTest (tOp _ (tVar 2) (tVar 1)))) (te := (tVar 3)) rfl sc_World_getitem.nd (pi_list (pe_fld (pv 0) rfl)) (blkOk_by (own := [("stream", 2), ("moment", 3)]) (N := N_World_getitem) (sc := defScope s_World_getitem) (by decide +kernel)) (fun _ _ _ _ _ => (pg_tup rfl (pgs_cons (pg_name (i := 2) sc_World_getitem.nd rfl (.inl rfl)) (pgs_cons (pg_name (i := 3) sc_World_getitem.nd rfl (.inl rfl)) pgs_nil)))) (fun _ _ _ _ _ => (pts_one (pt_cmpR op_eq (pv 2) (pv 1) (nomark _)))) (fun _ _ _ _ _ => (pv 3)))))), ?_⟩
    refine ⟨.str z, rfl, z, rfl, hz, fun H1 s1 => ?_⟩
    obtain ⟨dx, vs, h1, h2, h3⟩ := hw.same s1
    refine ⟨.ref a, rfl, a, _, dx, _, _, rfl, h1, T.o_World.cl, T.n_World_pairs, rfl, l, rfl, ⟨_, SqL.of h2⟩, fun D hD => ?_⟩
    refine lc_pure (K := K) (a := l) (xs := vs) (rowF H1 z) (SqL.of h2) hD (by rw [h3.1]; omega) (fun x H2 N N' hx s2 n1 n2 => ?_) (fun H2 s2 hD2 => ?_)
    · obtain ⟨i, hi⟩ := List.mem_iff_getElem?.mp hx
      have hip : i < ps.length := by rw [← h3.1]; exact (List.getElem?_eq_some_iff.mp hi).1
      obtain ⟨t, e1, e2⟩ := h3.2 i ps[i] (List.getElem?_eq_getElem hip)
      rw [hi] at e1
      cases e1
      refine ⟨t, _, rfl, SqT.of (s2 _ _ e2), rfl, ?_⟩
      refine ⟨_, _, rfl, _, _, rfl, ?_⟩
      refine ⟨rfl, rfl, ?_⟩
      refine ⟨_, rfl, _, rfl, rfl, _, rfl, ?_⟩
      have e3 : rowF H1 z (.ref t) = if ps[i].1 = z then some (.int ps[i].2) else none := by simp only [rowF, e2]
      rw [dstr]
      by_cases hz : ps[i].1 = z
      · rw [if_pos hz] at e3
        exact iT (decide_eq_true hz) ⟨_, rfl, n1 _ _ (Same.refl _) e3⟩
      · rw [if_neg hz] at e3
        exact iF (decide_eq_false hz) (n2 _ (Same.refl _) e3)
    · rw [rowF_all h3] at hD2
      exact q D H2 (s1.trans s2) (s1.free hD) hD2
end
end Pl

namespace Pl
open PySem L2
section
variable {P : Program} {w : World} {K : PySem.W.Frag} {mg : Str → Option Value} {base : Heap}
def geZ : V → Bool
  | .int i => decide (i ≥ 0)
  | _ => false
def spFromZero : Sp := fun vs H Q _ => ∃ (v : V) (t : String), vs = [v] ∧ Ty H v t ∧ Q (.bl (geZ v)) H
theorem ok_is_from_zero (T : Txt P K mg) {k : Nat} : FnOk P w K mg base CX0 (k + 2) T.is_from_zero.f T.is_from_zero.fd ["value"] spFromZero := by
  have G_is_integer : FnOk P w K mg base CX0 (k + 1) T.is_integer.f T.is_integer.fd ["value"] spIsInteger := ok_is_integer T
  refine T.is_from_zero.F.ok (k := k + 1) sc_is_from_zero (fun vs H Q E h => ?_) (fun cdv A outer s H vs Q E hr h => ?_)
  · obtain ⟨v, t, rfl, _⟩ := h
    rfl
  · obtain ⟨v, t, rfl, ty, q⟩ := h
    refine ⟨_, (pss_one (ps_ret (pe_and (pe_call G_is_integer (hr.mono (by omega)) (by rfl) T.is_integer.g T.is_integer.F.kp T.is_integer.b .nil pass0 (pa_cons (pv 0) pa_nil)) (pe_one (pe_cmpR op_ge (pv 0) pe_int (nomark _)))))), ?_⟩
    refine ⟨v, rfl, v, t, rfl, ty, _, rfl, ?_⟩
    cases v with
    | int i => exact iT rfl ⟨.int i, rfl, i, 0, rfl, rfl, q⟩
    | _ => exact iF rfl q
def spCkBound : Sp := fun vs H Q _ => ∃ i : Int, vs = [.int i] ∧ 0 ≤ i ∧ Q .non H
theorem ok_check_bound (T : Txt P K mg) {k : Nat} : FnOk P w K mg base CX0 (k + 3) T.check_bound.f T.check_bound.fd ["value"] spCkBound := by
  have G_is_from_zero : FnOk P w K mg base CX0 (k + 2) T.is_from_zero.f T.is_from_zero.fd ["value"] spFromZero := ok_is_from_zero T
  refine T.check_bound.F.ok (k := k + 2) sc_check_bound (fun vs H Q E h => ?_) (fun cdv A outer s H vs Q E hr h => ?_)
  · obtain ⟨i, rfl, _⟩ := h
    rfl
  · obtain ⟨i, rfl, i0, q⟩ := h
    refine ⟨_, (pss_one (ps_if (pt_not (pt_val (pe_call G_is_from_zero (hr.mono (by omega)) (by rfl) T.is_from_zero.g T.is_from_zero.F.kp T.is_from_zero.b .nil pass0 (pa_cons (pv 0) pa_nil)))) (pss_one ps_never) pss_nil)), ?_⟩
    exact ⟨.int i, rfl, .int i, "int", rfl, .int i, _, rfl, iF (by rw [show geZ (.int i) = true from decide_eq_true i0]; rfl) q⟩
end
end Pl

namespace Pl
open PySem L2
section
variable {P : Program} {w : World} {K : PySem.W.Frag} {mg : Str → Option Value} {base : Heap}
def spCkLimit : Sp := fun vs H Q _ => ∃ lim : Option Int, vs = [oV lim] ∧ limOk lim ∧ Q .non H
theorem ok_check_limit (T : Txt P K mg) {k : Nat} : FnOk P w K mg base CX0 (k + 4) T.check_limit.f T.check_limit.fd ["value"] spCkLimit := by
  have G_check_bound : FnOk P w K mg base CX0 (k + 3) T.check_bound.f T.check_bound.fd ["value"] spCkBound := ok_check_bound T
  refine T.check_limit.F.ok (k := k + 3) sc_check_limit (fun vs H Q E h => ?_) (fun cdv A outer s H vs Q E hr h => ?_)
  · obtain ⟨i, rfl, _⟩ := h
    rfl
  · obtain ⟨lim, rfl, h, q⟩ := h
    refine ⟨_, (pss_one (ps_if (pt_cmpR op_notN (pv 0) pe_non (nomark _)) (pss_one (ps_expr (pe_call G_check_bound (hr.mono (by omega)) (by rfl) T.check_bound.g T.check_bound.F.kp T.check_bound.b .nil pass0 (pa_cons (pv 0) pa_nil)))) pss_nil)), ?_⟩
    cases lim with
    | none => exact ⟨_, rfl, rfl, _, rfl, iF rfl q⟩
    | some i => exact ⟨_, rfl, rfl, _, rfl, iT rfl ⟨_, rfl, i, rfl, h, q⟩⟩
theorem inV_ways {z : Str} (h : z ∈ ways) : inV (.str z) [.str "at", .str "before", .str "since", .str "after"] = true := by
  simp only [ways, List.mem_cons, List.not_mem_nil, or_false] at h
  rcases h with rfl | rfl | rfl | rfl <;> decide +kernel
/-- Look.__init__(self, stream, moment, way, *, within) -/
def spLookInit (T : Txt P K mg) : Sp := fun vs H Q _ => ∃ (G : Hp) (m : Tm) (z wy : Str) (lim : Option Int) (x a dx : Addr), vs = [.ref x, .str z, .ref a, .str wy, oV lim] ∧ Same G H ∧ G x = none ∧ TmAt T.ca G m a ∧ goodName z ∧ wy ∈ ways ∧ limOk lim ∧ (Tm.look z m wy lim).fits ∧ H x = some (.ins T.c_Look dx []) ∧
  ∀ H', Same G H' → TmAt T.ca H' (.look z m wy lim) x → Q .non H'
theorem ok_look_init (T : Txt P K mg) {k : Nat} : ∃ fd, FnOk P w K mg base CX0 (k + 5) T.Look_init.f fd ["self", "stream", "moment", "way", "within"] (spLookInit T) ∧ KBn K fd ["self", "stream", "moment", "way", "within"] 4 ["within"] (fun us ws => us ++ ws) (fun vs zs => vs ++ zs) := by
  have G_check_name : FnOk P w K mg base CX0 (k + 2) T.check_name.f T.check_name.fd ["name"] spCkName := ok_check_name T
  have G_check_term : FnOk P w K mg base CX0 (k + 1) T.check_term.f T.check_term.fd ["value"] (spCkTerm T) := ok_check_term T
  have G_check_limit : FnOk P w K mg base CX0 (k + 4) T.check_limit.f T.check_limit.fd ["value"] spCkLimit := ok_check_limit T
  refine T.Look_init.okK (pre := (defBody s_Look_init).take 8) 4 ["within"] rfl sc_Look_init rfl rfl (by decide +kernel) (by decide) rfl T.n_super (fun _ _ _ _ _ _ _ us ws hl hl2 => match us, ws, hl, hl2 with | [_, _, _, _], [_], _, _ => rfl) ((ok_term_init T (k := k)).mono (show k + 1 ≤ k + 4 by omega)) (fun vs H Q E h => ?_) (fun A outer s H vs Q E hr h => ?_)
  · obtain ⟨G, m, z, wy, lim, x, a, dx, rfl, _⟩ := h
    rfl
  · obtain ⟨G, m, z, wy, lim, x, a, dx, rfl, sG, xG, hm, hz, hw, hlm, hfit, hx, q⟩ := h
    refine ⟨_, _, (pss_cons (ps_expr (pe_call G_check_name (hr.mono (by omega)) (by rfl) T.check_name.g T.check_name.F.kp T.check_name.b .nil pass0 (pa_cons (pv 1) pa_nil)))
  (pss_cons (ps_expr (pe_call G_check_term (hr.mono (by omega)) (by rfl) T.check_term.g T.check_term.F.kp T.check_term.b .nil pass0 (pa_cons (pv 2) pa_nil)))
  (pss_cons (ps_if (PW.pt (pw_or (pt_not (pt_val (pe_callB call_isi (by rfl) T.n_isinstance (by decide +kernel) (pa_cons (pv 3) (pa_cons (pe_bltn (v := .ty "str") (by rfl) T.n_str (by decide +kernel) rfl) pa_nil))))) (pw_or1 (pt_cmpR op_notIn_seq (pv 3) (pe_glob (v := .ref T.a_WAYS) (by rfl) T.k_WAYS rfl) (by with_unfolding_all rfl))))) (pss_one ps_never) pss_nil)
  (pss_cons (ps_expr (pe_call G_check_limit (hr.mono (by omega)) (by rfl) T.check_limit.g T.check_limit.F.kp T.check_limit.b .nil pass0 (pa_cons (pv 4) pa_nil)))
  (pss_cons (ps_fld (pv 0) (pv 1) rfl)
  (pss_cons (ps_fld (pv 0) (pv 2) rfl)
  (pss_cons (ps_fld (pv 0) (pv 3) rfl)
  (pss_one (ps_fld (pv 0) (pv 4) rfl))))))))), (pa_cons (pv 2) pa_nil), ?_⟩
    refine ⟨.str z, rfl, z, rfl, hz, fun H1 s1 => ?_⟩
    have sG1 := sG.trans s1
    have ty : Ty H1 (.str wy) "str" := .str wy
    refine ⟨.ref a, rfl, m, a, rfl, hm.same sG1, ?_⟩
    refine ⟨.str wy, rfl, _, _, _, _, _, rfl, .ty "str", ty.x, isI_str ty, _, rfl, iF (by unfold tyB; rw [kb_str_str]; rfl) ?_⟩
    refine ⟨.str wy, rfl, T.a_WAYS, _, rfl, .inr (T.t_WAYS H1), rfl, by decide +kernel, _, rfl, iF (by rw [inV_ways hw]; rfl) ?_⟩
    refine ⟨oV lim, rfl, lim, rfl, hlm, ?_⟩
    refine ⟨.str z, rfl, .ref x, rfl, x, _, dx, [], rfl, s1 _ _ hx, T.o_Look.cl, T.n_Look_stream, by decide, ?_⟩
    refine ⟨.ref a, rfl, .ref x, rfl, x, _, dx, _, rfl, upd_same, T.o_Look.cl, T.n_Look_moment, (by show 1 < 1000; decide), ?_⟩
    rw [upd_upd]
    refine ⟨.str wy, rfl, .ref x, rfl, x, _, dx, _, rfl, upd_same, T.o_Look.cl, T.n_Look_way, (by show 2 < 1000; decide), ?_⟩
    rw [upd_upd]
    refine ⟨oV lim, rfl, .ref x, rfl, x, _, dx, _, rfl, upd_same, T.o_Look.cl, T.n_Look_within, (by show 3 < 1000; decide), ?_⟩
    rw [upd_upd]
    have sG2 : Same G (upd H1 x (.ins T.c_Look dx (loF z a wy lim))) := same_mut sG1 xG
    refine ⟨x, _, dx, loF z a wy lim, rfl, rfl, upd_same, T.s_Look_Look, .ref a, rfl, G, .look z m wy lim, x, dx, loF z a wy lim, [a], rfl, sG2, xG, ⟨hm, trivial⟩, upd_same, (by show 4 ≤ 10; decide), hfit, fun H' s' b' h' => q H' s' ⟨dx, a, h', hm.same s'⟩⟩
/-- fits(row, moment, way) -/
def spFits : Sp := fun vs H Q _ => ∃ (r m : Int) (wy : Str), vs = [.int r, .int m, .str wy] ∧ Q (.bl (fitsB r m wy)) H
theorem ok_fits (T : Txt P K mg) {k : Nat} : FnOk P w K mg base CX0 (k + 1) T.fits.f T.fits.fd ["row", "moment", "way"] spFits := by
  refine T.fits.F.ok (k := k) sc_fits (fun vs H Q E h => ?_) (fun cdv A outer s H vs Q E hr h => ?_)
  · obtain ⟨r, m, wy, rfl, _⟩ := h
    rfl
  · obtain ⟨r, m, wy, rfl, q⟩ := h
    refine ⟨_, (pss_cons (ps_if (pt_cmpR op_eq (pv 2) pe_str (nomark _)) (pss_one (ps_ret (pe_cmpR op_le (pv 0) (pv 1) (nomark _)))) pss_nil)
  (pss_cons (ps_if (pt_cmpR op_eq (pv 2) pe_str (nomark _)) (pss_one (ps_ret (pe_cmpR op_lt (pv 0) (pv 1) (nomark _)))) pss_nil)
  (pss_cons (ps_if (pt_cmpR op_eq (pv 2) pe_str (nomark _)) (pss_one (ps_ret (pe_cmpR op_ge (pv 0) (pv 1) (nomark _)))) pss_nil)
  (pss_one (ps_ret (pe_cmpR op_gt (pv 0) (pv 1) (nomark _))))))), ?_⟩
    unfold fitsB at q
    refine ⟨.str wy, rfl, rfl, _, rfl, ?_⟩
    rw [dstr]
    by_cases h1 : wy = "at"
    · rw [if_pos h1] at q
      exact iT (decide_eq_true h1) ⟨_, rfl, _, rfl, r, m, rfl, rfl, q⟩
    rw [if_neg h1] at q
    refine iF (decide_eq_false h1) ⟨.str wy, rfl, rfl, _, rfl, ?_⟩
    rw [dstr]
    by_cases h2 : wy = "before"
    · rw [if_pos h2] at q
      exact iT (decide_eq_true h2) ⟨_, rfl, _, rfl, r, m, rfl, rfl, q⟩
    rw [if_neg h2] at q
    refine iF (decide_eq_false h2) ⟨.str wy, rfl, rfl, _, rfl, ?_⟩
    rw [dstr]
    by_cases h3 : wy = "since"
    · rw [if_pos h3] at q
      exact iT (decide_eq_true h3) ⟨_, rfl, _, rfl, r, m, rfl, rfl, q⟩
    rw [if_neg h3] at q
    exact iF (decide_eq_false h3) ⟨_, rfl, _, rfl, r, m, rfl, rfl, q⟩
def intF (p : Int → Bool) : V → Option V
  | .int r => if p r then some (.int r) else none
  | _ => none
theorem filt_ints (p : Int → Bool) : ∀ ns : List Int, (ns.map V.int).filterMap (intF p) = (ns.filter p).map V.int
  | [] => rfl
  | n :: ns => by
    rw [List.map_cons, List.filterMap_cons, filt_ints p ns]
    cases h : p n <;> simp [intF, h]
theorem mem_ints {x : V} {ns : List Int} (h : x ∈ ns.map V.int) : ∃ r, r ∈ ns ∧ x = .int r := by
  obtain ⟨r, h1, h2⟩ := List.mem_map.mp h
  exact ⟨r, h1, h2.symm⟩
/-- looked_up(moments, moment, way, within) -/
def spLookedUp (K : PySem.W.Frag) : Sp := fun vs H Q _ => ∃ (a : Addr) (ms : List Int) (m : Int) (wy : Str) (lim : Option Int), vs = [.ref a, .int m, .str wy, oV lim] ∧ SqL K H a (ms.map V.int) ∧ ms.length ≤ 1000 ∧ ∀ H', Same H H' → Q (oV (lookedUp ms m wy lim)) H'
theorem ok_looked_up (T : Txt P K mg) {k : Nat} : FnOk P w K mg base CX0 (k + 2) T.looked_up.f T.looked_up.fd ["moments", "moment", "way", "within"] (spLookedUp K) := by
  have G_fits : FnOk P w K mg base CX0 (k + 1) T.fits.f T.fits.fd ["row", "moment", "way"] spFits := ok_fits T
  refine T.looked_up.F.ok (k := k + 1) sc_looked_up (fun vs H Q E h => ?_) (fun cdv A outer s H vs Q E hr h => ?_)
  · obtain ⟨a, ms, m, wy, lim, rfl, _⟩ := h
    rfl
  · obtain ⟨a, ms, m, wy, lim, rfl, ha, hl, q⟩ := h
    refine ⟨_, (pss_cons (ps_setLc (i := 4) (own := [("row", 5)]) (g := gName 5) (tt := (tB (tCall _ _ _ (tCons (tVar 5) (tCons (tVar 1) (tCons (tVar 2) tNil)))))) (te := (tVar 5)) rfl sc_looked_up.nd rfl rfl (sw_true rfl rfl rfl (by decide +kernel)) (pi_list (pv 0)) (blkOk_by (own := [("row", 5)]) (N := N_looked_up) (sc := defScope s_looked_up) (by decide +kernel)) (fun _ _ _ _ _ => (pg_name (i := 5) sc_looked_up.nd rfl (.inl rfl))) (fun _ _ _ _ _ => (pts_one (pt_val (pe_call G_fits (hr.mono (by omega)) (by rfl) T.fits.g T.fits.F.kp T.fits.b .nil pass0 (pa_cons (pv 5) (pa_cons (pv 1) (pa_cons (pv 2) pa_nil))))))) (fun _ _ _ _ _ => (pv 5)))
  (pss_cons (ps_if (pt_cmpR op_eq (pe_callB call_len_seq (by rfl) T.n_len PySem.boot_len (pa_cons (pv 4) pa_nil)) pe_int (nomark _)) (pss_one (ps_ret pe_non)) pss_nil)
  (pss_cons (ps_set (i := 5) sc_looked_up.nd rfl (.inl rfl) (pe_ix ix_list (pv 4) pe_int (fun _ _ => rfl)))
  (Evl.pss_cut (ps_if (PW.pt (pw_or (pt_cmpR op_eq (pv 2) pe_str (nomark _)) (pw_or1 (pt_cmpR op_eq (pv 2) pe_str (nomark _))))) (pss_one (ps_set (i := 5) sc_looked_up.nd rfl (.inl rfl) (pe_ix ix_list (pv 4) (pe_un un_neg pe_int) (fun _ _ => rfl)))) pss_nil)
  (pss_cons (ps_if (PW.pt (pw_and (pt_cmpR op_notN (pv 3) pe_non (nomark _)) (pw_and1 (pt_cmpR op_gt (pe_callB call_abs (by rfl) T.n_abs (by decide +kernel) (pa_cons (pe_op op_sub (pv 5) (pv 1)) pa_nil)) (pv 3) (nomark _))))) (pss_one (ps_ret pe_non)) pss_nil)
  (pss_one (ps_ret (pv 5)))))))), ?_⟩
    refine ⟨.ref a, rfl, a, rfl, ⟨_, ha⟩, fun D hD => ?_⟩
    refine lc_pure (K := K) (a := a) (xs := ms.map V.int) (intF fun r => fitsB r m wy) ha hD (by rw [List.length_map]; omega) (fun x H1 N N' hx s1 n1 n2 => ?_) (fun H1 s1 hD1 => ?_)
    · obtain ⟨r, _, rfl⟩ := mem_ints hx
      refine ⟨rfl, .int r, rfl, .int m, rfl, .str wy, rfl, r, m, wy, rfl, _, rfl, ?_⟩
      cases hf : fitsB r m wy with
      | true => exact iT rfl ⟨.int r, rfl, n1 _ _ (Same.refl _) (by simp [intF, hf])⟩
      | false => exact iF rfl (n2 _ (Same.refl _) (by simp [intF, hf]))
    · rw [filt_ints] at hD1
      unfold lookedUp at q
      generalize ms.filter (fitsB · m wy) = l at q hD1
      refine ⟨.ref D, rfl, D, _, rfl, .inl (SqL.of hD1), rfl, _, rfl, ?_⟩
      cases l with
      | nil => exact iT rfl (q H1 s1)
      | cons r rs =>
        refine iF (decide_eq_false (fun e => by
          have := V.int.inj e
          simp at this
          omega)) ?_
        refine ⟨.ref D, rfl, D, _, 0, .int r, rfl, rfl, SqL.of hD1, at_ix (by decide) rfl, ?_⟩
        have hlast : atI ((r :: rs).map V.int) (-1) = some (.int ((r :: rs).getLast (by simp))) := by
          have e : (r :: rs).map V.int = ((r :: rs).dropLast).map V.int ++ [V.int ((r :: rs).getLast (by simp))] := by
            rw [← List.map_singleton, ← List.map_append, List.dropLast_concat_getLast]
          rw [e]
          exact atI_last _ _
        refine ⟨fun σ H2 => H2 = H1 ∧ σ = [some (.ref a), some (.int m), some (.str wy), some (oV lim), some (.ref D), some (.int (if isBack wy then (r :: rs).getLast (by simp) else r))], ?_, ?_⟩
        · refine ⟨.str wy, rfl, rfl, _, rfl, ?_⟩
          rw [dstr]
          by_cases h1 : wy = "at"
          · refine iT (decide_eq_true h1) (iT rfl ?_)
            refine ⟨.ref D, rfl, 1, rfl, D, _, -1, _, rfl, rfl, SqL.of hD1, hlast, ?_⟩
            rw [if_pos (by simp [isBack, h1])]
            exact ⟨rfl, rfl⟩
          · refine iF (decide_eq_false h1) ⟨.str wy, rfl, rfl, _, rfl, ?_⟩
            rw [dstr]
            by_cases h2 : wy = "before"
            · refine iT (decide_eq_true h2) ?_
              refine ⟨.ref D, rfl, 1, rfl, D, _, -1, _, rfl, rfl, SqL.of hD1, hlast, ?_⟩
              rw [if_pos (by simp [isBack, h2])]
              exact ⟨rfl, rfl⟩
            · refine iF (decide_eq_false h2) ?_
              rw [if_neg (by simp [isBack, h1, h2])]
              exact ⟨rfl, rfl⟩
        · rintro σ H2 ⟨rfl, rfl⟩
          dsimp only at q
          generalize (if isBack wy then (r :: rs).getLast (by simp) else r) = y at q ⊢
          cases lim with
          | none => exact ⟨_, rfl, rfl, _, rfl, iF rfl (iF rfl ⟨_, rfl, q _ s1⟩)⟩
          | some l =>
            refine ⟨_, rfl, rfl, _, rfl, iT rfl ⟨_, rfl, _, rfl, y, m, rfl, rfl, _, rfl, _, rfl, _, l, rfl, rfl, _, rfl, ?_⟩⟩
            cases hf : tooFar y m (some l) with
            | true =>
              rw [hf, if_pos rfl] at q
              exact iT hf (q _ s1)
            | false =>
              rw [hf, if_neg Bool.false_ne_true] at q
              exact iF hf ⟨_, rfl, q _ s1⟩
end
end Pl

namespace Pl
open PySem L2
local macro_rules | `(tactic| infer_instance) => `(tactic| first
  | with_reducible assumption
  | with_reducible exact Same.refl _
  | exact Wd.gh (by with_reducible assumption)
  | exact sm2 (by with_reducible assumption) (by infer_instance)
  | exact sm2 (same_upd (by with_reducible assumption)) (by infer_instance)
  | exact sm2 (Wd.gh (by with_reducible assumption)) (by infer_instance))
local macro_rules | `(tactic| trivial) => `(tactic| first
  | with_reducible assumption
  | with_reducible exact upd_same
  | exact at_same (by with_reducible assumption) (by trivial)
  | exact at_same (same_upd (by with_reducible assumption)) (by trivial)
  | exact at_same (Wd.gh (by with_reducible assumption)) (by trivial))
local macro_rules | `(tactic| ac_rfl) => `(tactic| first
  | exact Ty.int _
  | exact Ty.str _
  | exact Ty.non
  | exact Ty.bl _
  | exact Ty.tup (by trivial)
  | exact Ty.lst (by trivial))
local macro_rules | `(tactic| contradiction) => `(tactic| first
  | exact rfl
  | exact decide_eq_true (by first | assumption | omega)
  | exact decide_eq_false (by first | assumption | omega)
  | exact dI_t (by first | assumption | omega)
  | exact dI_f (by first | assumption | omega)
  | exact dS_t (by first | assumption | decide)
  | exact dS_f (by first | assumption | decide)
  | exact nI_t (by first | assumption | omega)
  | exact nI_f (by first | assumption | omega)
  | exact nS_t (by first | assumption | decide)
  | exact nS_f (by first | assumption | decide)
  | assumption
  | exact q_none_int | exact q_none_bool | exact q_none_tuple | exact q_none_list | exact q_none_str | exact q_bool_int | exact q_bool_bool | exact q_bool_tuple | exact q_bool_list | exact q_bool_str | exact q_int_int | exact q_int_bool | exact q_int_tuple | exact q_int_list | exact q_int_str | exact q_str_int | exact q_str_bool | exact q_str_tuple | exact q_str_list | exact q_str_str | exact q_list_int | exact q_list_bool | exact q_list_tuple | exact q_list_list | exact q_list_str | exact q_tuple_int | exact q_tuple_bool | exact q_tuple_tuple | exact q_tuple_list | exact q_tuple_str
  | exact nb_t (by contradiction)
  | exact nb_f (by contradiction))
local macro_rules | `(tactic| and_intros) => `(tactic| repeat (first
  | refine ⟨_, rfl, ?_⟩
  | refine ⟨_, _, rfl, rfl, ?_⟩
  | refine ⟨rfl, ?_⟩
  | refine ⟨_, _, _, _, rfl, rfl, SqT.of (by trivial), at_ix (by decide) rfl, ?_⟩
  | refine ⟨_, _, _, _, rfl, rfl, SqL.of (by trivial), at_ix (by decide) rfl, ?_⟩
  | refine ⟨_, _, rfl, Or.inl (SqL.of (by trivial)), ?_⟩
  | refine ⟨_, _, rfl, Or.inr (SqT.of (by trivial)), ?_⟩
  | refine ⟨_, _, _, _, _, rfl, (by trivial), (by trivial), (by trivial), rfl, ?_⟩
  | refine ⟨_, _, _, _, _, rfl, ClsV.ty _, Ty.x (by ac_rfl), isI_tuple (by ac_rfl), ?_⟩
  | refine ⟨_, _, _, _, _, rfl, ClsV.ty _, Ty.x (by ac_rfl), isI_list (by ac_rfl), ?_⟩
  | refine ⟨_, _, _, _, _, rfl, ClsV.ty _, Ty.x (by ac_rfl), isI_int (by ac_rfl), ?_⟩
  | refine ⟨_, _, _, _, _, rfl, ClsV.ty _, Ty.x (by ac_rfl), isI_bool (by ac_rfl), ?_⟩
  | refine ⟨_, _, _, _, _, rfl, ClsV.ty _, Ty.x (by ac_rfl), isI_str (by ac_rfl), ?_⟩
  | refine ⟨sz (Nat.le_of_ble_eq_true rfl), ?_⟩
  | refine ⟨Or.inl ⟨rfl, _, SqL.of (by trivial)⟩, ?_⟩
  | refine ⟨_, _, rfl, SqT.of (by trivial), rfl, _, _, rfl, _, _, rfl, _, _, rfl, _, _, rfl, rfl, ?_⟩
  | refine ⟨_, _, rfl, SqT.of (by trivial), rfl, _, _, rfl, _, _, rfl, _, _, rfl, rfl, ?_⟩
  | refine ⟨_, _, rfl, SqT.of (by trivial), rfl, _, _, rfl, _, _, rfl, rfl, ?_⟩
  | refine ⟨_, _, _, _, rfl, (by with_reducible assumption : Wd _ _ _ _), (by first | decide | omega), (by first | decide | omega), ?_⟩
  | refine ⟨_, _, _, rfl, (by with_reducible assumption : Wd _ _ _ _), ?_⟩
  | refine iT (by contradiction) ?_
  | refine iF (by contradiction) ?_))
-- USE RD
section
variable {P : Program} {w : World} {K : PySem.W.Frag} {mg : Str → Option Value} {base : Heap}
/-- the setter of a stream's limit -/
def spLimSet (T : Txt P K mg) : Sp := fun vs H Q _ => ∃ (a dx : Addr) (fs : List (Str × V)) (lim : Option Int), vs = [.ref a, oV lim] ∧ limOk lim ∧ H a = some (.ins T.c_Stream dx fs) ∧ fs.length < 900 ∧ Q .non (upd H a (.ins T.c_Stream dx (putF "farthest" (oV lim) fs)))
theorem ok_lim_set (T : Txt P K mg) {k : Nat} : FnR P w K mg base CX0 (k + 5) T.Stream_limit.f (spLimSet T) := by
  have G_check_limit : FnOk P w K mg base CX0 (k + 4) T.check_limit.f T.check_limit.fd ["value"] spCkLimit := ok_check_limit T
  refine toR (T.Stream_limit.F.ok (k := k + 4) sc_Stream_limit (fun vs H Q E h => ?_) (fun cdv A outer s H vs Q E hr h => ?_)) T.Stream_limit.b
  · obtain ⟨a, dx, fs, lim, rfl, _⟩ := h
    rfl
  · obtain ⟨a, dx, fs, lim, rfl, hl, ha, hf, q⟩ := h
    refine ⟨_, (pss_cons (ps_expr (pe_call G_check_limit (hr.mono (by omega)) (by rfl) T.check_limit.g T.check_limit.F.kp T.check_limit.b .nil pass0 (pa_cons (pv 1) pa_nil)))
  (pss_one (ps_fld (pv 0) (pv 1) rfl))), ?_⟩
    exact ⟨oV lim, rfl, lim, rfl, hl, oV lim, rfl, .ref a, rfl, a, _, dx, fs, rfl, ha, T.o_Stream.cl, T.n_Stream_farthest, by omega, q⟩
/-- Stream.__init__, no limit -/
def spStInit (T : Txt P K mg) : Sp := fun vs H Q _ => ∃ (a dx : Addr) (z : Str), vs = [.ref a, .str z, .non] ∧ goodName z ∧ H a = some (.ins T.c_Stream dx []) ∧ ∀ H', (∀ c o, c ≠ a → H c = some o → H' c = some o) → H' a = some (.ins T.c_Stream dx [("name", .str z), ("farthest", .non)]) → Q .non H'
theorem ok_stream_init (T : Txt P K mg) {k : Nat} : FnR P w K mg base CX0 (k + 8) T.Stream_init.f (fun vs H Q E => spStInit T (vs ++ [V.non]) H Q E) := by
  have G_check_name : FnOk P w K mg base CX0 (k + 2) T.check_name.f T.check_name.fd ["name"] spCkName := ok_check_name T
  have G_limit_set : FnR P w K mg base CX0 (k + 5) T.Stream_limit.f (spLimSet T) := ok_lim_set T
  refine toRD (T.Stream_init.ok (k := k + 7) sc_Stream_init (fun vs H Q E h => ?_) (fun cdv A outer s H vs Q E hr h => ?_)) T.Stream_init.b
  · obtain ⟨a, dx, z, rfl, _⟩ := h
    rfl
  · obtain ⟨a, dx, z, rfl, hz, ha, q⟩ := h
    refine ⟨_, (pss_cons (ps_expr (pe_call G_check_name (hr.mono (by omega)) (by rfl) T.check_name.g T.check_name.F.kp T.check_name.b .nil pass0 (pa_cons (pv 1) pa_nil)))
  (pss_cons (ps_fld (pv 0) (pv 1) rfl)
  (pss_one (ps_prop G_limit_set (hr.mono (by omega)) pass0 (pv 0) (pv 2) rfl)))), ?_⟩
    obtain ⟨p, hp⟩ := T.pp_Stream_limit
    refine ⟨.str z, rfl, z, rfl, hz, fun H1 s1 => ?_⟩
    have ha1 := s1 _ _ ha
    refine ⟨.str z, rfl, .ref a, rfl, a, _, dx, [], rfl, ha1, T.o_Stream.cl, T.n_Stream_name, by decide, ?_⟩
    refine ⟨.non, rfl, .ref a, rfl, a, _, dx, _, p, rfl, upd_same, T.o_Stream.cl, hp, a, dx, _, none, rfl, trivial, upd_same, (by show 1 < 900; decide), ?_⟩
    rw [upd_upd]
    refine q _ (fun c o hc h => ?_) upd_same
    rw [upd_ne hc]
    exact s1 _ _ h
end
end Pl

namespace Pl
open PySem L2
local macro_rules | `(tactic| infer_instance) => `(tactic| first
  | with_reducible assumption
  | with_reducible exact Same.refl _
  | exact Wd.gh (by with_reducible assumption)
  | exact sm2 (by with_reducible assumption) (by infer_instance)
  | exact sm2 (same_upd (by with_reducible assumption)) (by infer_instance)
  | exact sm2 (Wd.gh (by with_reducible assumption)) (by infer_instance))
local macro_rules | `(tactic| trivial) => `(tactic| first
  | with_reducible assumption
  | with_reducible exact upd_same
  | exact at_same (by with_reducible assumption) (by trivial)
  | exact at_same (same_upd (by with_reducible assumption)) (by trivial)
  | exact at_same (Wd.gh (by with_reducible assumption)) (by trivial))
local macro_rules | `(tactic| ac_rfl) => `(tactic| first
  | exact Ty.int _
  | exact Ty.str _
  | exact Ty.non
  | exact Ty.bl _
  | exact Ty.tup (by trivial)
  | exact Ty.lst (by trivial))
local macro_rules | `(tactic| contradiction) => `(tactic| first
  | exact rfl
  | exact decide_eq_true (by first | assumption | omega)
  | exact decide_eq_false (by first | assumption | omega)
  | exact dI_t (by first | assumption | omega)
  | exact dI_f (by first | assumption | omega)
  | exact dS_t (by first | assumption | decide)
  | exact dS_f (by first | assumption | decide)
  | exact nI_t (by first | assumption | omega)
  | exact nI_f (by first | assumption | omega)
  | exact nS_t (by first | assumption | decide)
  | exact nS_f (by first | assumption | decide)
  | assumption
  | exact q_none_int | exact q_none_bool | exact q_none_tuple | exact q_none_list | exact q_none_str | exact q_bool_int | exact q_bool_bool | exact q_bool_tuple | exact q_bool_list | exact q_bool_str | exact q_int_int | exact q_int_bool | exact q_int_tuple | exact q_int_list | exact q_int_str | exact q_str_int | exact q_str_bool | exact q_str_tuple | exact q_str_list | exact q_str_str | exact q_list_int | exact q_list_bool | exact q_list_tuple | exact q_list_list | exact q_list_str | exact q_tuple_int | exact q_tuple_bool | exact q_tuple_tuple | exact q_tuple_list | exact q_tuple_str
  | exact nb_t (by contradiction)
  | exact nb_f (by contradiction))
local macro_rules | `(tactic| and_intros) => `(tactic| repeat (first
  | refine ⟨_, rfl, ?_⟩
  | refine ⟨_, _, rfl, rfl, ?_⟩
  | refine ⟨rfl, ?_⟩
  | refine ⟨_, _, _, _, rfl, rfl, SqT.of (by trivial), at_ix (by decide) rfl, ?_⟩
  | refine ⟨_, _, _, _, rfl, rfl, SqL.of (by trivial), at_ix (by decide) rfl, ?_⟩
  | refine ⟨_, _, rfl, Or.inl (SqL.of (by trivial)), ?_⟩
  | refine ⟨_, _, rfl, Or.inr (SqT.of (by trivial)), ?_⟩
  | refine ⟨_, _, _, _, _, rfl, (by trivial), (by trivial), (by trivial), rfl, ?_⟩
  | refine ⟨_, _, _, _, _, rfl, ClsV.ty _, Ty.x (by ac_rfl), isI_tuple (by ac_rfl), ?_⟩
  | refine ⟨_, _, _, _, _, rfl, ClsV.ty _, Ty.x (by ac_rfl), isI_list (by ac_rfl), ?_⟩
  | refine ⟨_, _, _, _, _, rfl, ClsV.ty _, Ty.x (by ac_rfl), isI_int (by ac_rfl), ?_⟩
  | refine ⟨_, _, _, _, _, rfl, ClsV.ty _, Ty.x (by ac_rfl), isI_bool (by ac_rfl), ?_⟩
  | refine ⟨_, _, _, _, _, rfl, ClsV.ty _, Ty.x (by ac_rfl), isI_str (by ac_rfl), ?_⟩
  | refine ⟨sz (Nat.le_of_ble_eq_true rfl), ?_⟩
  | refine ⟨Or.inl ⟨rfl, _, SqL.of (by trivial)⟩, ?_⟩
  | refine ⟨_, _, rfl, SqT.of (by trivial), rfl, _, _, rfl, _, _, rfl, _, _, rfl, _, _, rfl, rfl, ?_⟩
  | refine ⟨_, _, rfl, SqT.of (by trivial), rfl, _, _, rfl, _, _, rfl, _, _, rfl, rfl, ?_⟩
  | refine ⟨_, _, rfl, SqT.of (by trivial), rfl, _, _, rfl, _, _, rfl, rfl, ?_⟩
  | refine ⟨_, _, _, _, rfl, (by with_reducible assumption : Wd _ _ _ _), (by first | decide | omega), (by first | decide | omega), ?_⟩
  | refine ⟨_, _, _, rfl, (by with_reducible assumption : Wd _ _ _ _), ?_⟩
  | refine iT (by contradiction) ?_
  | refine iF (by contradiction) ?_))
-- USE RD
section
variable {P : Program} {w : World} {K : PySem.W.Frag} {mg : Str → Option Value} {base : Heap}
/-- the fields of a stream -/
def stF (z : Str) (lim : Option Int) : List (Str × V) := [("name", .str z), ("farthest", oV lim)]
/-- Stream.__init__ with a limit -/
def spStInitK (T : Txt P K mg) : Sp := fun vs H Q _ => ∃ (a dx : Addr) (z : Str) (lim : Option Int), vs = [.ref a, .str z, oV lim] ∧ goodName z ∧ limOk lim ∧ H a = some (.ins T.c_Stream dx []) ∧ ∀ H', (∀ c o, c ≠ a → H c = some o → H' c = some o) → H' a = some (.ins T.c_Stream dx (stF z lim)) → Q .non H'
theorem ok_stream_initK (T : Txt P K mg) {k : Nat} : FnOk P w K mg base CX0 (k + 8) T.Stream_init.f T.Stream_init.fd ["self", "name", "limit"] (spStInitK T) := by
  have G_check_name : FnOk P w K mg base CX0 (k + 2) T.check_name.f T.check_name.fd ["name"] spCkName := ok_check_name T
  have G_limit_set : FnR P w K mg base CX0 (k + 5) T.Stream_limit.f (spLimSet T) := ok_lim_set T
  refine T.Stream_init.ok (k := k + 7) sc_Stream_init (fun vs H Q E h => ?_) (fun cdv A outer s H vs Q E hr h => ?_)
  · obtain ⟨a, dx, z, lim, rfl, _⟩ := h
    rfl
  · obtain ⟨a, dx, z, lim, rfl, hz, hlm, ha, q⟩ := h
    refine ⟨_, (pss_cons (ps_expr (pe_call G_check_name (hr.mono (by omega)) (by rfl) T.check_name.g T.check_name.F.kp T.check_name.b .nil pass0 (pa_cons (pv 1) pa_nil)))
  (pss_cons (ps_fld (pv 0) (pv 1) rfl)
  (pss_one (ps_prop G_limit_set (hr.mono (by omega)) pass0 (pv 0) (pv 2) rfl)))), ?_⟩
    obtain ⟨p, hp⟩ := T.pp_Stream_limit
    refine ⟨.str z, rfl, z, rfl, hz, fun H1 s1 => ?_⟩
    have ha1 := s1 _ _ ha
    refine ⟨.str z, rfl, .ref a, rfl, a, _, dx, [], rfl, ha1, T.o_Stream.cl, T.n_Stream_name, by decide, ?_⟩
    refine ⟨oV lim, rfl, .ref a, rfl, a, _, dx, _, p, rfl, upd_same, T.o_Stream.cl, hp, a, dx, _, lim, rfl, hlm, upd_same, (by show 1 < 900; decide), ?_⟩
    rw [upd_upd]
    refine q _ (fun c o hc h => ?_) upd_same
    rw [upd_ne hc]
    exact s1 _ _ h
/-- stream.limit_to(value) -/
def spLimTo (T : Txt P K mg) : Sp := fun vs H Q _ => ∃ (a dx : Addr) (z : Str) (l lim : Option Int), vs = [.ref a, oV lim] ∧ limOk lim ∧ H a = some (.ins T.c_Stream dx (stF z l)) ∧ Q .non (upd H a (.ins T.c_Stream dx (stF z lim)))
theorem ok_limit_to (T : Txt P K mg) {k : Nat} : FnR P w K mg base CX0 (k + 8) T.Stream_limit_to.f (spLimTo T) := by
  have G_limit_set : FnR P w K mg base CX0 (k + 5) T.Stream_limit.f (spLimSet T) := ok_lim_set T
  refine toR (T.Stream_limit_to.F.ok (k := k + 7) sc_Stream_limit_to (fun vs H Q E h => ?_) (fun cdv A outer s H vs Q E hr h => ?_)) T.Stream_limit_to.b
  · obtain ⟨a, dx, z, l, lim, rfl, _⟩ := h
    rfl
  · obtain ⟨a, dx, z, l, lim, rfl, hlm, ha, q⟩ := h
    refine ⟨_, (pss_one (ps_prop G_limit_set (hr.mono (by omega)) pass0 (pv 0) (pv 1) rfl)), ?_⟩
    obtain ⟨p, hp⟩ := T.pp_Stream_limit
    exact ⟨oV lim, rfl, .ref a, rfl, a, _, dx, _, p, rfl, ha, T.o_Stream.cl, hp, a, dx, _, lim, rfl, hlm, ha, (by show 2 < 900; decide), q⟩
/-- stream.limit -/
def spLimGet (T : Txt P K mg) : Sp := fun vs H Q _ => ∃ (a dx : Addr) (z : Str) (l : Option Int), vs = [.ref a] ∧ H a = some (.ins T.c_Stream dx (stF z l)) ∧ Q (oV l) H
theorem ok_limit_get (T : Txt P K mg) {k : Nat} : FnR P w K mg base CX0 (k + 1) T.Stream_limitGet.f (spLimGet T) := by
  refine toR (T.Stream_limitGet.F.ok (k := k) sc_Stream_limitGet (fun vs H Q E h => ?_) (fun cdv A outer s H vs Q E hr h => ?_)) T.Stream_limitGet.b
  · obtain ⟨a, dx, z, l, rfl, _⟩ := h
    rfl
  · obtain ⟨a, dx, z, l, rfl, ha, q⟩ := h
    refine ⟨_, (pss_one (ps_ret (pe_fld (pv 0) rfl))), ?_⟩
    exact ⟨_, rfl, a, _, dx, _, _, rfl, ha, T.o_Stream.cl, T.n_Stream_farthest, rfl, q⟩
/-- stream.at(moment) and the like -/
def spStAt (T : Txt P K mg) (wy : Str) : Sp := fun vs H Q _ => ∃ (a dx b : Addr) (z : Str) (l : Option Int) (t : Tm), vs = [.ref a, .ref b] ∧ H a = some (.ins T.c_Stream dx (stF z l)) ∧ goodName z ∧ limOk l ∧ TmAt T.ca H t b ∧ (Tm.look z t wy l).fits ∧ ∀ r H', Same H H' → TmAt T.ca H' (.look z t wy l) r → Q (.ref r) H'
theorem mk_same2 {H : Hp} {x dx C : Addr} (hx : H x = none) (hd : H dx = none) : Same H (upd (upd H dx (.own x)) x (.ins C dx [])) := fun c o h => by
  rw [upd_ne (ne_of_none h hx), upd_ne (ne_of_none h hd)]
  exact h
theorem ok_stream_at (T : Txt P K mg) {k : Nat} : FnR P w K mg base CX0 (k + 7) T.Stream_at.f (spStAt T "at") := by
  obtain ⟨fdL, G_Look_init, B_Look_init⟩ := ok_look_init (P := P) (w := w) (base := base) T (k := k)
  refine toR (T.Stream_at.F.ok (k := k + 6) sc_Stream_at (fun vs H Q E h => ?_) (fun cdv A outer s H vs Q E hr h => ?_)) T.Stream_at.b
  · obtain ⟨a, dx, b, z, l, t, rfl, _⟩ := h
    rfl
  · obtain ⟨a, dx, b, z, l, t, rfl, ha, hz, hl, ht, hf, q⟩ := h
    refine ⟨_, (pss_one (ps_ret (pe_makeK (n := 3) T.mk_Look G_Look_init (hr.mono (by omega)) (by rfl) T.g_Look B_Look_init pass0 (pa_cons (pe_fld (pv 0) rfl) (pa_cons (pv 1) (pa_cons pe_str pa_nil))) (pk_cons (pe_fld (pv 0) rfl) pk_nil)))), ?_⟩
    exact ⟨_, rfl, a, _, dx, _, _, rfl, ha, T.o_Stream.cl, T.n_Stream_name, rfl, _, rfl, _, rfl, a, _, dx, _, _, rfl, ha, T.o_Stream.cl, T.n_Stream_farthest, rfl, rfl, rfl, fun x d hx hd hne => ⟨H, t, z, "at", l, x, b, d, rfl, mk_same2 hx hd, hx, ht, hz, by decide, hl, hf, upd_same, fun H' s' h' => ⟨rfl, q x H' s' h'⟩⟩⟩
theorem ok_stream_before (T : Txt P K mg) {k : Nat} : FnR P w K mg base CX0 (k + 7) T.Stream_before.f (spStAt T "before") := by
  obtain ⟨fdL, G_Look_init, B_Look_init⟩ := ok_look_init (P := P) (w := w) (base := base) T (k := k)
  refine toR (T.Stream_before.F.ok (k := k + 6) sc_Stream_before (fun vs H Q E h => ?_) (fun cdv A outer s H vs Q E hr h => ?_)) T.Stream_before.b
  · obtain ⟨a, dx, b, z, l, t, rfl, _⟩ := h
    rfl
  · obtain ⟨a, dx, b, z, l, t, rfl, ha, hz, hl, ht, hf, q⟩ := h
    refine ⟨_, (pss_one (ps_ret (pe_makeK (n := 3) T.mk_Look G_Look_init (hr.mono (by omega)) (by rfl) T.g_Look B_Look_init pass0 (pa_cons (pe_fld (pv 0) rfl) (pa_cons (pv 1) (pa_cons pe_str pa_nil))) (pk_cons (pe_fld (pv 0) rfl) pk_nil)))), ?_⟩
    exact ⟨_, rfl, a, _, dx, _, _, rfl, ha, T.o_Stream.cl, T.n_Stream_name, rfl, _, rfl, _, rfl, a, _, dx, _, _, rfl, ha, T.o_Stream.cl, T.n_Stream_farthest, rfl, rfl, rfl, fun x d hx hd hne => ⟨H, t, z, "before", l, x, b, d, rfl, mk_same2 hx hd, hx, ht, hz, by decide, hl, hf, upd_same, fun H' s' h' => ⟨rfl, q x H' s' h'⟩⟩⟩
theorem ok_stream_since (T : Txt P K mg) {k : Nat} : FnR P w K mg base CX0 (k + 7) T.Stream_since.f (spStAt T "since") := by
  obtain ⟨fdL, G_Look_init, B_Look_init⟩ := ok_look_init (P := P) (w := w) (base := base) T (k := k)
  refine toR (T.Stream_since.F.ok (k := k + 6) sc_Stream_since (fun vs H Q E h => ?_) (fun cdv A outer s H vs Q E hr h => ?_)) T.Stream_since.b
  · obtain ⟨a, dx, b, z, l, t, rfl, _⟩ := h
    rfl
  · obtain ⟨a, dx, b, z, l, t, rfl, ha, hz, hl, ht, hf, q⟩ := h
    refine ⟨_, (pss_one (ps_ret (pe_makeK (n := 3) T.mk_Look G_Look_init (hr.mono (by omega)) (by rfl) T.g_Look B_Look_init pass0 (pa_cons (pe_fld (pv 0) rfl) (pa_cons (pv 1) (pa_cons pe_str pa_nil))) (pk_cons (pe_fld (pv 0) rfl) pk_nil)))), ?_⟩
    exact ⟨_, rfl, a, _, dx, _, _, rfl, ha, T.o_Stream.cl, T.n_Stream_name, rfl, _, rfl, _, rfl, a, _, dx, _, _, rfl, ha, T.o_Stream.cl, T.n_Stream_farthest, rfl, rfl, rfl, fun x d hx hd hne => ⟨H, t, z, "since", l, x, b, d, rfl, mk_same2 hx hd, hx, ht, hz, by decide, hl, hf, upd_same, fun H' s' h' => ⟨rfl, q x H' s' h'⟩⟩⟩
theorem ok_stream_after (T : Txt P K mg) {k : Nat} : FnR P w K mg base CX0 (k + 7) T.Stream_after.f (spStAt T "after") := by
  obtain ⟨fdL, G_Look_init, B_Look_init⟩ := ok_look_init (P := P) (w := w) (base := base) T (k := k)
  refine toR (T.Stream_after.F.ok (k := k + 6) sc_Stream_after (fun vs H Q E h => ?_) (fun cdv A outer s H vs Q E hr h => ?_)) T.Stream_after.b
  · obtain ⟨a, dx, b, z, l, t, rfl, _⟩ := h
    rfl
  · obtain ⟨a, dx, b, z, l, t, rfl, ha, hz, hl, ht, hf, q⟩ := h
    refine ⟨_, (pss_one (ps_ret (pe_makeK (n := 3) T.mk_Look G_Look_init (hr.mono (by omega)) (by rfl) T.g_Look B_Look_init pass0 (pa_cons (pe_fld (pv 0) rfl) (pa_cons (pv 1) (pa_cons pe_str pa_nil))) (pk_cons (pe_fld (pv 0) rfl) pk_nil)))), ?_⟩
    exact ⟨_, rfl, a, _, dx, _, _, rfl, ha, T.o_Stream.cl, T.n_Stream_name, rfl, _, rfl, _, rfl, a, _, dx, _, _, rfl, ha, T.o_Stream.cl, T.n_Stream_farthest, rfl, rfl, rfl, fun x d hx hd hne => ⟨H, t, z, "after", l, x, b, d, rfl, mk_same2 hx hd, hx, ht, hz, by decide, hl, hf, upd_same, fun H' s' h' => ⟨rfl, q x H' s' h'⟩⟩⟩
/-- _law_made(stream, way, moment) -/
def wayN (n : Nat) : Str := (["at", "before", "since", "after"] : List Str).getD n "after"
def spMadeL (T : Txt P K mg) : Sp := fun vs H Q _ => ∃ (a dx b : Addr) (z : Str) (l : Option Int) (t : Tm) (n : Nat), vs = [.ref a, .int (n : Nat), .ref b] ∧ n < 4 ∧ H a = some (.ins T.c_Stream dx (stF z l)) ∧ goodName z ∧ limOk l ∧ TmAt T.ca H t b ∧ (Tm.look z t (wayN n) l).fits ∧ ∀ r H', Same H H' → TmAt T.ca H' (.look z t (wayN n) l) r → Q (.ref r) H'
theorem ok_law_made (T : Txt P K mg) {k : Nat} : FnOk P w K mg base CX0 (k + 10) T.law_made.f T.law_made.fd ["_law_stream", "_law_way", "_law_moment"] (spMadeL T) := by
  have G_at : ∀ _ : Unit, FnR P w K mg base CX0 (k + 7) T.Stream_at.f (spStAt T "at") := fun _ => ok_stream_at T
  have G_before : ∀ _ : Unit, FnR P w K mg base CX0 (k + 7) T.Stream_before.f (spStAt T "before") := fun _ => ok_stream_before T
  have G_since : ∀ _ : Unit, FnR P w K mg base CX0 (k + 7) T.Stream_since.f (spStAt T "since") := fun _ => ok_stream_since T
  have G_after : ∀ _ : Unit, FnR P w K mg base CX0 (k + 7) T.Stream_after.f (spStAt T "after") := fun _ => ok_stream_after T
  refine T.law_made.F.ok (k := k + 9) sc_law_made (fun vs H Q E h => ?_) (fun cdv A outer s H vs Q E hr h => ?_)
  · obtain ⟨a, dx, b, z, l, t, n, rfl, _⟩ := h
    rfl
  · obtain ⟨a, dx, b, z, l, t, n, rfl, hn, ha, hz, hl, ht, hf, q⟩ := h
    refine ⟨_, (pss_cons (ps_if (pt_cmpR op_eq (pv 1) pe_int (nomark _)) (pss_one (ps_ret (pe_methV (pv 0) G_at (hr.mono (by omega)) pass0 (pa_cons (pv 2) pa_nil)))) pss_nil)
  (pss_cons (ps_if (pt_cmpR op_eq (pv 1) pe_int (nomark _)) (pss_one (ps_ret (pe_methV (pv 0) G_before (hr.mono (by omega)) pass0 (pa_cons (pv 2) pa_nil)))) pss_nil)
  (pss_cons (ps_if (pt_cmpR op_eq (pv 1) pe_int (nomark _)) (pss_one (ps_ret (pe_methV (pv 0) G_since (hr.mono (by omega)) pass0 (pa_cons (pv 2) pa_nil)))) pss_nil)
  (pss_one (ps_ret (pe_methV (pv 0) G_after (hr.mono (by omega)) pass0 (pa_cons (pv 2) pa_nil))))))), ?_⟩
    match n, hn with
    | 0, _ =>
      refine ⟨_, rfl, rfl, _, rfl, iT rfl ?_⟩
      exact ⟨_, rfl, a, _, dx, _, (), rfl, ha, rfl, T.o_Stream.cl, T.m_Stream_at, _, rfl, a, dx, b, z, l, t, rfl, ha, hz, hl, ht, hf, q⟩
    | 1, _ =>
      refine ⟨_, rfl, rfl, _, rfl, iF rfl ⟨_, rfl, rfl, _, rfl, iT rfl ?_⟩⟩
      exact ⟨_, rfl, a, _, dx, _, (), rfl, ha, rfl, T.o_Stream.cl, T.m_Stream_before, _, rfl, a, dx, b, z, l, t, rfl, ha, hz, hl, ht, hf, q⟩
    | 2, _ =>
      refine ⟨_, rfl, rfl, _, rfl, iF rfl ⟨_, rfl, rfl, _, rfl, iF rfl ⟨_, rfl, rfl, _, rfl, iT rfl ?_⟩⟩⟩
      exact ⟨_, rfl, a, _, dx, _, (), rfl, ha, rfl, T.o_Stream.cl, T.m_Stream_since, _, rfl, a, dx, b, z, l, t, rfl, ha, hz, hl, ht, hf, q⟩
    | 3, _ =>
      refine ⟨_, rfl, rfl, _, rfl, iF rfl ⟨_, rfl, rfl, _, rfl, iF rfl ⟨_, rfl, rfl, _, rfl, iF rfl ?_⟩⟩⟩
      exact ⟨_, rfl, a, _, dx, _, (), rfl, ha, rfl, T.o_Stream.cl, T.m_Stream_after, _, rfl, a, dx, b, z, l, t, rfl, ha, hz, hl, ht, hf, q⟩
end
end Pl

set_option Elab.async false
set_option linter.all false
set_option maxRecDepth 100000
set_option maxHeartbeats 4000000
/-! Short words for readings. -/
namespace Pl
open PySem L2
theorem at_same {H H' : Hp} {a : Addr} {o : HO} (s : Same H H') (h : H a = some o) : H' a = some o := s _ _ h
theorem sm2 {H H1 H2 : Hp} (b : Same H1 H2) (a : Same H H1) : Same H H2 := a.trans b
theorem nw1 {H K : Hp} {p : Addr} {o : HO} (e : upd H p o = K) (h : H p = none) : Same H K ∧ K p = some o := by subst e; exact ⟨same_upd h, upd_same⟩
theorem hu65 {k : Nat} {A : Around} (r : Room k A) : A.units + 65 < cLine := by have := r.un; omega
theorem dI_t {x y : Int} (h : x = y) : decide (V.int x = V.int y) = true := by subst h; exact decide_eq_true rfl
theorem dI_f {x y : Int} (h : ¬ x = y) : decide (V.int x = V.int y) = false := decide_eq_false fun z => h (V.int.inj z)
theorem dS_t {x y : Str} (h : x = y) : decide (V.str x = V.str y) = true := by subst h; exact decide_eq_true rfl
theorem dS_f {x y : Str} (h : ¬ x = y) : decide (V.str x = V.str y) = false := decide_eq_false fun z => h (V.str.inj z)
theorem nI_t {x y : Int} (h : x = y) : (!decide (V.int x = V.int y)) = false := by rw [dI_t h]; rfl
theorem nI_f {x y : Int} (h : ¬ x = y) : (!decide (V.int x = V.int y)) = true := by rw [dI_f h]; rfl
theorem nS_t {x y : Str} (h : x = y) : (!decide (V.str x = V.str y)) = false := by rw [dS_t h]; rfl
theorem nS_f {x y : Str} (h : ¬ x = y) : (!decide (V.str x = V.str y)) = true := by rw [dS_f h]; rfl
theorem nb_t {b : Bool} (h : b = false) : (!b) = true := by rw [h]; rfl
theorem nb_f {b : Bool} (h : b = true) : (!b) = false := by rw [h]; rfl
theorem q_none_int : tyB "NoneType" "int" = false := by unfold tyB; rw [kb_none_int]; rfl
theorem q_none_bool : tyB "NoneType" "bool" = false := by unfold tyB; rw [kb_none_bool]; rfl
theorem q_none_tuple : tyB "NoneType" "tuple" = false := by unfold tyB; rw [kb_none_tuple]; rfl
theorem q_none_list : tyB "NoneType" "list" = false := by unfold tyB; rw [kb_none_list]; rfl
theorem q_none_str : tyB "NoneType" "str" = false := by unfold tyB; rw [kb_none_str]; rfl
theorem q_bool_int : tyB "bool" "int" = true := by unfold tyB; rw [kb_bool_int]; rfl
theorem q_bool_bool : tyB "bool" "bool" = true := by unfold tyB; rw [kb_bool_bool]; rfl
theorem q_bool_tuple : tyB "bool" "tuple" = false := by unfold tyB; rw [kb_bool_tuple]; rfl
theorem q_bool_list : tyB "bool" "list" = false := by unfold tyB; rw [kb_bool_list]; rfl
theorem q_bool_str : tyB "bool" "str" = false := by unfold tyB; rw [kb_bool_str]; rfl
theorem q_int_int : tyB "int" "int" = true := by unfold tyB; rw [kb_int_int]; rfl
theorem q_int_bool : tyB "int" "bool" = false := by unfold tyB; rw [kb_int_bool]; rfl
theorem q_int_tuple : tyB "int" "tuple" = false := by unfold tyB; rw [kb_int_tuple]; rfl
theorem q_int_list : tyB "int" "list" = false := by unfold tyB; rw [kb_int_list]; rfl
theorem q_int_str : tyB "int" "str" = false := by unfold tyB; rw [kb_int_str]; rfl
theorem q_str_int : tyB "str" "int" = false := by unfold tyB; rw [kb_str_int]; rfl
theorem q_str_bool : tyB "str" "bool" = false := by unfold tyB; rw [kb_str_bool]; rfl
theorem q_str_tuple : tyB "str" "tuple" = false := by unfold tyB; rw [kb_str_tuple]; rfl
theorem q_str_list : tyB "str" "list" = false := by unfold tyB; rw [kb_str_list]; rfl
theorem q_str_str : tyB "str" "str" = true := by unfold tyB; rw [kb_str_str]; rfl
theorem q_list_int : tyB "list" "int" = false := by unfold tyB; rw [kb_list_int]; rfl
theorem q_list_bool : tyB "list" "bool" = false := by unfold tyB; rw [kb_list_bool]; rfl
theorem q_list_tuple : tyB "list" "tuple" = false := by unfold tyB; rw [kb_list_tuple]; rfl
theorem q_list_list : tyB "list" "list" = true := by unfold tyB; rw [kb_list_list]; rfl
theorem q_list_str : tyB "list" "str" = false := by unfold tyB; rw [kb_list_str]; rfl
theorem q_tuple_int : tyB "tuple" "int" = false := by unfold tyB; rw [kb_tuple_int]; rfl
theorem q_tuple_bool : tyB "tuple" "bool" = false := by unfold tyB; rw [kb_tuple_bool]; rfl
theorem q_tuple_tuple : tyB "tuple" "tuple" = true := by unfold tyB; rw [kb_tuple_tuple]; rfl
theorem q_tuple_list : tyB "tuple" "list" = false := by unfold tyB; rw [kb_tuple_list]; rfl
theorem q_tuple_str : tyB "tuple" "str" = false := by unfold tyB; rw [kb_tuple_str]; rfl
end Pl

namespace Pl
open PySem L2
local macro_rules | `(tactic| infer_instance) => `(tactic| first
  | with_reducible assumption
  | with_reducible exact Same.refl _
  | exact Wd.gh (by with_reducible assumption)
  | exact sm2 (by with_reducible assumption) (by infer_instance)
  | exact sm2 (same_upd (by with_reducible assumption)) (by infer_instance)
  | exact sm2 (Wd.gh (by with_reducible assumption)) (by infer_instance))
local macro_rules | `(tactic| trivial) => `(tactic| first
  | with_reducible assumption
  | with_reducible exact upd_same
  | exact at_same (by with_reducible assumption) (by trivial)
  | exact at_same (same_upd (by with_reducible assumption)) (by trivial)
  | exact at_same (Wd.gh (by with_reducible assumption)) (by trivial))
local macro_rules | `(tactic| ac_rfl) => `(tactic| first
  | exact Ty.int _
  | exact Ty.str _
  | exact Ty.non
  | exact Ty.bl _
  | exact Ty.tup (by trivial)
  | exact Ty.lst (by trivial))
local macro_rules | `(tactic| contradiction) => `(tactic| first
  | exact rfl
  | exact decide_eq_true (by first | assumption | omega)
  | exact decide_eq_false (by first | assumption | omega)
  | exact dI_t (by first | assumption | omega)
  | exact dI_f (by first | assumption | omega)
  | exact dS_t (by first | assumption | decide)
  | exact dS_f (by first | assumption | decide)
  | exact nI_t (by first | assumption | omega)
  | exact nI_f (by first | assumption | omega)
  | exact nS_t (by first | assumption | decide)
  | exact nS_f (by first | assumption | decide)
  | assumption
  | exact q_none_int | exact q_none_bool | exact q_none_tuple | exact q_none_list | exact q_none_str | exact q_bool_int | exact q_bool_bool | exact q_bool_tuple | exact q_bool_list | exact q_bool_str | exact q_int_int | exact q_int_bool | exact q_int_tuple | exact q_int_list | exact q_int_str | exact q_str_int | exact q_str_bool | exact q_str_tuple | exact q_str_list | exact q_str_str | exact q_list_int | exact q_list_bool | exact q_list_tuple | exact q_list_list | exact q_list_str | exact q_tuple_int | exact q_tuple_bool | exact q_tuple_tuple | exact q_tuple_list | exact q_tuple_str
  | exact nb_t (by contradiction)
  | exact nb_f (by contradiction))
local macro_rules | `(tactic| and_intros) => `(tactic| repeat (first
  | refine ⟨_, rfl, ?_⟩
  | refine ⟨_, _, rfl, rfl, ?_⟩
  | refine ⟨rfl, ?_⟩
  | refine ⟨_, _, _, _, rfl, rfl, SqT.of (by trivial), at_ix (by decide) rfl, ?_⟩
  | refine ⟨_, _, _, _, rfl, rfl, SqL.of (by trivial), at_ix (by decide) rfl, ?_⟩
  | refine ⟨_, _, rfl, Or.inl (SqL.of (by trivial)), ?_⟩
  | refine ⟨_, _, rfl, Or.inr (SqT.of (by trivial)), ?_⟩
  | refine ⟨_, _, _, _, _, rfl, (by trivial), (by trivial), (by trivial), rfl, ?_⟩
  | refine ⟨_, _, _, _, _, rfl, ClsV.ty _, Ty.x (by ac_rfl), isI_tuple (by ac_rfl), ?_⟩
  | refine ⟨_, _, _, _, _, rfl, ClsV.ty _, Ty.x (by ac_rfl), isI_list (by ac_rfl), ?_⟩
  | refine ⟨_, _, _, _, _, rfl, ClsV.ty _, Ty.x (by ac_rfl), isI_int (by ac_rfl), ?_⟩
  | refine ⟨_, _, _, _, _, rfl, ClsV.ty _, Ty.x (by ac_rfl), isI_bool (by ac_rfl), ?_⟩
  | refine ⟨_, _, _, _, _, rfl, ClsV.ty _, Ty.x (by ac_rfl), isI_str (by ac_rfl), ?_⟩
  | refine ⟨sz (Nat.le_of_ble_eq_true rfl), ?_⟩
  | refine ⟨Or.inl ⟨rfl, _, SqL.of (by trivial)⟩, ?_⟩
  | refine ⟨_, _, rfl, SqT.of (by trivial), rfl, _, _, rfl, _, _, rfl, _, _, rfl, _, _, rfl, rfl, ?_⟩
  | refine ⟨_, _, rfl, SqT.of (by trivial), rfl, _, _, rfl, _, _, rfl, _, _, rfl, rfl, ?_⟩
  | refine ⟨_, _, rfl, SqT.of (by trivial), rfl, _, _, rfl, _, _, rfl, rfl, ?_⟩
  | refine ⟨_, _, _, _, rfl, (by with_reducible assumption : Wd _ _ _ _), (by first | decide | omega), (by first | decide | omega), ?_⟩
  | refine ⟨_, _, _, rfl, (by with_reducible assumption : Wd _ _ _ _), ?_⟩
  | refine iT (by contradiction) ?_
  | refine iF (by contradiction) ?_))
-- USE RD
open LamX
section
variable {P : Program} {w : World} {K : PySem.W.Frag} {mg : Str → Option Value} {base : Heap}
theorem ok_BadBound_init (T : Txt P K mg) {k : Nat} : FnOk P w K mg base CX0 (k + 1) T.BadBound_init.f T.BadBound_init.fd ["self", "value"] (spExI K "value") := by
  refine T.BadBound_init.F.ok (k := k) sc_BadBound_init (fun vs H Q E h => ?_) (fun cdv A outer s H vs Q E hr h => ?_)
  · obtain ⟨a, C, y, rfl, _⟩ := h
    rfl
  · obtain ⟨a, C, y, rfl, hT, ha, hno, q⟩ := h
    exact ⟨_, (pss_one (ps_ost (pv 0) (pv 1))), ⟨_, rfl, _, rfl, a, C, rfl, hT, hno, .inl ⟨ha, fun dx h1 h2 => q dx h1 h2⟩⟩⟩
end
def erL {K : PySem.W.Frag} {mg : Str → Option Value} {P : Program} (T : Txt P K mg) : List Er := [(T.c_BadBound, "BadBound", some "value")]
theorem gives_law_refusal {P : Program} {X : Cx} {K : PySem.W.Frag} {mg : Str → Option Value} (T : Txt P K mg) (hK : X.K = K) (hmg : X.mg = mg) {q : Str} (cdg : Value) : GivesTo X N_law_refusal "_law_refusal" (defScope s_law_refusal) T.law_refusal.f cdg (defBody s_law_refusal) "_law_deed" q (TRef (erL T)) := by
  subst hK hmg
  intro f c' s H Q tl act hc h
  refine ⟨_, (pss_cons (ps_set (i := 1) sc_law_refusal.nd rfl (.inl rfl) (pe_tup (pa_cons pe_str pa_nil)))
  (pss_cons (ps_try_mix rfl rfl sc_law_refusal.nd L2.takes0 (fun W pn xe tk _ => pss_act (fun E p1 p2 hW => act W pn xe E p1 p2 tk hW)) (.consAs (i := 2) rfl rfl ⟨rfl, by decide, .inl T.g_BadName⟩ (fun a oe cls d pn hz hf => (pss_one ps_never))
  (.consAs (i := 2) rfl rfl ⟨rfl, by decide, .inl T.g_BadMoment⟩ (fun a oe cls d pn hz hf => (pss_one ps_never))
  (.consAs (i := 2) rfl rfl ⟨rfl, by decide, .inl T.g_BadBound⟩ (fun a oe cls d pn hz hf => (pss_one (ps_set (i := 1) sc_law_refusal.nd rfl (.inl rfl) (pe_tup (pa_cons pe_str (pa_cons (pe_xf T.er_BadBound.xf T.er_BadBound.no hz hf (pv 2)) pa_nil))))))
  (.consAs (i := 2) rfl rfl ⟨rfl, by decide, .inl T.g_BadTerm⟩ (fun a oe cls d pn hz hf => (pss_one ps_never))
  (.consAs (i := 2) rfl rfl ⟨rfl, by decide, .inl T.g_BadWay⟩ (fun a oe cls d pn hz hf => (pss_one ps_never))
  (.consAs (i := 2) rfl rfl ⟨rfl, by decide, .inl T.g_BadPath⟩ (fun a oe cls d pn hz hf => (pss_one ps_never))
  (.consAs (i := 2) rfl rfl ⟨rfl, by decide, .inl T.g_BadWorld⟩ (fun a oe cls d pn hz hf => (pss_one ps_never))
  (.consAs (i := 2) rfl rfl ⟨rfl, by decide, .inl T.g_BadRows⟩ (fun a oe cls d pn hz hf => (pss_one ps_never))
  (.consAs (i := 2) rfl rfl ⟨rfl, by decide, .inl T.g_BadFact⟩ (fun a oe cls d pn hz hf => (pss_one ps_never))
  (.consAs (i := 2) rfl rfl ⟨rfl, by decide, .inl T.g_BadText⟩ (fun a oe cls d pn hz hf => (pss_one ps_never))
  (.consAs (i := 2) rfl rfl ⟨rfl, by decide, .inl T.g_Unknown⟩ (fun a oe cls d pn hz hf => (pss_one ps_never))
  (.cons ⟨rfl, by decide, .inl T.g_TooMany⟩ (fun a oe cls d pn hz hf => (pss_one ps_never))
  (.cons ⟨rfl, by decide, .inl T.g_Unlike⟩ (fun a oe cls d pn hz hf => (pss_one ps_never))
  (.cons ⟨rfl, by decide, .inl T.g_NotCovered⟩ (fun a oe cls d pn hz hf => (pss_one ps_never))
  (.cons ⟨rfl, by decide, .inl T.g_NotMost⟩ (fun a oe cls d pn hz hf => (pss_one ps_never))
  (.cons ⟨rfl, by decide, .inl T.g_NotSettled⟩ (fun a oe cls d pn hz hf => (pss_one ps_never))
  .nil)))))))))))))))))
  (pss_one (ps_ret (pv 1))))), ?_⟩
  and_intros
  intro p hp
  generalize el : upd _ p _ = H1
  have h1 : H1 = upd H p (.tup [.str "nothing"]) := el.symm
  obtain ⟨s1, q1⟩ := nw1 el hp
  clear el
  refine ⟨rfE (erL T) Q, fun cls d σ' H' hE hlen => ?_, rfl, s1 _ _ hc, ?_⟩
  · obtain ⟨e, he, rfl, hm⟩ := hE
    match σ', hlen with
    | [x0, x1, x2], _ =>
    simp only [erL, List.mem_cons, List.not_mem_nil, or_false] at he
    rcases he with rfl
    · refine ⟨false, T.em_BadBound_BadName, (fun z => nomatch z), fun _ => ⟨false, T.em_BadBound_BadMoment, (fun z => nomatch z), fun _ => ⟨true, T.em_BadBound_BadBound, fun _ a ha => ?_, fun z => nomatch z⟩⟩⟩
      obtain ⟨dd, fs, v, rfl, hx, hlk, hq⟩ := hm
      exact ⟨_, rfl, rfl, rfl, dd, fs, v, rfl, hx, hlk, sz (Nat.le_of_ble_eq_true rfl), fun p1 hp1 => ⟨_, rfl, hq p1 hp1⟩⟩
  · rw [h1]
    exact h p hp _ (fun v H' z => ⟨_, rfl, z⟩)
end Pl

namespace Pl
open PySem L2
local macro_rules | `(tactic| infer_instance) => `(tactic| first
  | with_reducible assumption
  | with_reducible exact Same.refl _
  | exact Wd.gh (by with_reducible assumption)
  | exact sm2 (by with_reducible assumption) (by infer_instance)
  | exact sm2 (same_upd (by with_reducible assumption)) (by infer_instance)
  | exact sm2 (Wd.gh (by with_reducible assumption)) (by infer_instance))
local macro_rules | `(tactic| trivial) => `(tactic| first
  | with_reducible assumption
  | with_reducible exact upd_same
  | exact at_same (by with_reducible assumption) (by trivial)
  | exact at_same (same_upd (by with_reducible assumption)) (by trivial)
  | exact at_same (Wd.gh (by with_reducible assumption)) (by trivial))
local macro_rules | `(tactic| ac_rfl) => `(tactic| first
  | exact Ty.int _
  | exact Ty.str _
  | exact Ty.non
  | exact Ty.bl _
  | exact Ty.tup (by trivial)
  | exact Ty.lst (by trivial))
local macro_rules | `(tactic| contradiction) => `(tactic| first
  | exact rfl
  | exact decide_eq_true (by first | assumption | omega)
  | exact decide_eq_false (by first | assumption | omega)
  | exact dI_t (by first | assumption | omega)
  | exact dI_f (by first | assumption | omega)
  | exact dS_t (by first | assumption | decide)
  | exact dS_f (by first | assumption | decide)
  | exact nI_t (by first | assumption | omega)
  | exact nI_f (by first | assumption | omega)
  | exact nS_t (by first | assumption | decide)
  | exact nS_f (by first | assumption | decide)
  | assumption
  | exact q_none_int | exact q_none_bool | exact q_none_tuple | exact q_none_list | exact q_none_str | exact q_bool_int | exact q_bool_bool | exact q_bool_tuple | exact q_bool_list | exact q_bool_str | exact q_int_int | exact q_int_bool | exact q_int_tuple | exact q_int_list | exact q_int_str | exact q_str_int | exact q_str_bool | exact q_str_tuple | exact q_str_list | exact q_str_str | exact q_list_int | exact q_list_bool | exact q_list_tuple | exact q_list_list | exact q_list_str | exact q_tuple_int | exact q_tuple_bool | exact q_tuple_tuple | exact q_tuple_list | exact q_tuple_str
  | exact nb_t (by contradiction)
  | exact nb_f (by contradiction))
local macro_rules | `(tactic| and_intros) => `(tactic| repeat (first
  | refine ⟨_, rfl, ?_⟩
  | refine ⟨_, _, rfl, rfl, ?_⟩
  | refine ⟨rfl, ?_⟩
  | refine ⟨_, _, _, _, rfl, rfl, SqT.of (by trivial), at_ix (by decide) rfl, ?_⟩
  | refine ⟨_, _, _, _, rfl, rfl, SqL.of (by trivial), at_ix (by decide) rfl, ?_⟩
  | refine ⟨_, _, rfl, Or.inl (SqL.of (by trivial)), ?_⟩
  | refine ⟨_, _, rfl, Or.inr (SqT.of (by trivial)), ?_⟩
  | refine ⟨_, _, _, _, _, rfl, (by trivial), (by trivial), (by trivial), rfl, ?_⟩
  | refine ⟨_, _, _, _, _, rfl, ClsV.ty _, Ty.x (by ac_rfl), isI_tuple (by ac_rfl), ?_⟩
  | refine ⟨_, _, _, _, _, rfl, ClsV.ty _, Ty.x (by ac_rfl), isI_list (by ac_rfl), ?_⟩
  | refine ⟨_, _, _, _, _, rfl, ClsV.ty _, Ty.x (by ac_rfl), isI_int (by ac_rfl), ?_⟩
  | refine ⟨_, _, _, _, _, rfl, ClsV.ty _, Ty.x (by ac_rfl), isI_bool (by ac_rfl), ?_⟩
  | refine ⟨_, _, _, _, _, rfl, ClsV.ty _, Ty.x (by ac_rfl), isI_str (by ac_rfl), ?_⟩
  | refine ⟨sz (Nat.le_of_ble_eq_true rfl), ?_⟩
  | refine ⟨Or.inl ⟨rfl, _, SqL.of (by trivial)⟩, ?_⟩
  | refine ⟨_, _, rfl, SqT.of (by trivial), rfl, _, _, rfl, _, _, rfl, _, _, rfl, _, _, rfl, rfl, ?_⟩
  | refine ⟨_, _, rfl, SqT.of (by trivial), rfl, _, _, rfl, _, _, rfl, _, _, rfl, rfl, ?_⟩
  | refine ⟨_, _, rfl, SqT.of (by trivial), rfl, _, _, rfl, _, _, rfl, rfl, ?_⟩
  | refine ⟨_, _, _, _, rfl, (by with_reducible assumption : Wd _ _ _ _), (by first | decide | omega), (by first | decide | omega), ?_⟩
  | refine ⟨_, _, _, rfl, (by with_reducible assumption : Wd _ _ _ _), ?_⟩
  | refine iT (by contradiction) ?_
  | refine iF (by contradiction) ?_))
-- USE RD
section
variable {P : Program} {w : World} {K : PySem.W.Frag} {mg : Str → Option Value} {base : Heap}
/-- what is no limit -/
def spLimBad (T : Txt P K mg) : Sp := fun vs H _ E => ∃ (v : V) (t : String), vs = [v] ∧ Ty H v t ∧ geZ v = false ∧ v ≠ .non ∧ ∀ H' d, Same H H' → H' d = none → E (.ref T.c_BadBound) (some d) (upd H' d (.xd [(("value" : Str), v)]))
theorem ok_check_bound_bad (T : Txt P K mg) {k : Nat} : FnOk P w K mg base (L2.CX P w) (k + 3) T.check_bound.f T.check_bound.fd ["value"] (spLimBad T) := by
  have G_BadBound_init : FnOk P w K mg base CX0 (k + 1) T.BadBound_init.f T.BadBound_init.fd ["self", "value"] (spExI K "value") := ok_BadBound_init T
  have G_is_from_zero : FnOk P w K mg base CX0 (k + 2) T.is_from_zero.f T.is_from_zero.fd ["value"] spFromZero := ok_is_from_zero T
  refine T.check_bound.F.okX (k := k + 2) sc_check_bound (fun vs H Q E h => ?_) (fun cdv A outer s H vs Q E hr h => ?_)
  · obtain ⟨v, t, rfl, _⟩ := h
    rfl
  · obtain ⟨v, t, rfl, ty, hz, _, q⟩ := h
    refine ⟨_, (pss_one (ps_if (pt_not (pt_val (pe_call G_is_from_zero (hr.mono (by omega)) (by rfl) T.is_from_zero.g T.is_from_zero.F.kp T.is_from_zero.b .nil pass0 (pa_cons (pv 0) pa_nil)))) (pss_one (ps_raise rfl (takes_of rfl rfl rfl rfl) (pmk_oex T.er_BadBound.x T.er_BadBound.i T.er_BadBound.t G_BadBound_init (hr.mono (by omega)) T.BadBound_init.b .nil pass0 (by rfl) T.g_BadBound (pa_cons (pv 0) pa_nil)))) pss_nil)), ?_⟩
    refine ⟨v, rfl, v, t, rfl, ty, _, rfl, iT (by rw [hz]; rfl) ?_⟩
    exact ⟨_, rfl, exI_made T.er_BadBound.x T.er_BadBound.no (fun d hd => q H d (Same.refl _) hd)⟩
theorem ok_check_limit_bad (T : Txt P K mg) {k : Nat} : FnOk P w K mg base (L2.CX P w) (k + 4) T.check_limit.f T.check_limit.fd ["value"] (spLimBad T) := by
  have G_check_bound : FnOk P w K mg base (L2.CX P w) (k + 3) T.check_bound.f T.check_bound.fd ["value"] (spLimBad T) := ok_check_bound_bad T
  refine T.check_limit.F.okX (k := k + 3) sc_check_limit (fun vs H Q E h => ?_) (fun cdv A outer s H vs Q E hr h => ?_)
  · obtain ⟨v, t, rfl, _⟩ := h
    rfl
  · obtain ⟨v, t, rfl, ty, hz, hn, q⟩ := h
    refine ⟨_, (pss_one (ps_if (pt_cmpR op_notN (pv 0) pe_non (nomark _)) (pss_one (ps_expr (pe_call G_check_bound (hr.mono (by omega)) (by rfl) T.check_bound.g T.check_bound.F.kp T.check_bound.b .nil (passes_call (takes_of rfl rfl rfl rfl) (fun _ _ _ _ h => h)) (pa_cons (pv 0) pa_nil)))) pss_nil)), ?_⟩
    refine ⟨v, rfl, rfl, _, rfl, iT (by simp [hn]) ?_⟩
    exact ⟨v, rfl, v, t, rfl, ty, hz, hn, q⟩
def spLimSetBad (T : Txt P K mg) : Sp := fun vs H _ E => ∃ (a : Addr) (v : V) (t : String), vs = [.ref a, v] ∧ Ty H v t ∧ geZ v = false ∧ v ≠ .non ∧ ∀ H' d, Same H H' → H' d = none → E (.ref T.c_BadBound) (some d) (upd H' d (.xd [(("value" : Str), v)]))
theorem ok_lim_set_bad (T : Txt P K mg) {k : Nat} : FnR P w K mg base (L2.CX P w) (k + 5) T.Stream_limit.f (spLimSetBad T) := by
  have G_check_limit : FnOk P w K mg base (L2.CX P w) (k + 4) T.check_limit.f T.check_limit.fd ["value"] (spLimBad T) := ok_check_limit_bad T
  refine toR (T.Stream_limit.F.okX (k := k + 4) sc_Stream_limit (fun vs H Q E h => ?_) (fun cdv A outer s H vs Q E hr h => ?_)) T.Stream_limit.b
  · obtain ⟨a, v, t, rfl, _⟩ := h
    rfl
  · obtain ⟨a, v, t, rfl, ty, hz, hn, q⟩ := h
    refine ⟨_, (pss_cons (ps_expr (pe_call G_check_limit (hr.mono (by omega)) (by rfl) T.check_limit.g T.check_limit.F.kp T.check_limit.b .nil (passes_call (takes_of rfl rfl rfl rfl) (fun _ _ _ _ h => h)) (pa_cons (pv 1) pa_nil)))
  (pss_one (ps_fld (pv 0) (pv 1) rfl))), ?_⟩
    exact ⟨v, rfl, v, t, rfl, ty, hz, hn, q⟩
def spLimToBad (T : Txt P K mg) : Sp := fun vs H _ E => ∃ (a dx : Addr) (fs : List (Str × V)) (v : V) (t : String), vs = [.ref a, v] ∧ H a = some (.ins T.c_Stream dx fs) ∧ Ty H v t ∧ geZ v = false ∧ v ≠ .non ∧ ∀ H' d, Same H H' → H' d = none → E (.ref T.c_BadBound) (some d) (upd H' d (.xd [(("value" : Str), v)]))
theorem ok_limit_to_bad (T : Txt P K mg) {k : Nat} : FnR P w K mg base (L2.CX P w) (k + 8) T.Stream_limit_to.f (spLimToBad T) := by
  have G_limit_set : FnR P w K mg base (L2.CX P w) (k + 5) T.Stream_limit.f (spLimSetBad T) := ok_lim_set_bad T
  refine toR (T.Stream_limit_to.F.okX (k := k + 7) sc_Stream_limit_to (fun vs H Q E h => ?_) (fun cdv A outer s H vs Q E hr h => ?_)) T.Stream_limit_to.b
  · obtain ⟨a, dx, fs, v, t, rfl, _⟩ := h
    rfl
  · obtain ⟨a, dx, fs, v, t, rfl, ha, ty, hz, hn, q⟩ := h
    refine ⟨_, (pss_one (ps_prop G_limit_set (hr.mono (by omega)) (passes_call (takes_of rfl rfl rfl rfl) (fun _ _ _ _ h => h)) (pv 0) (pv 1) rfl)), ?_⟩
    obtain ⟨p, hp⟩ := T.pp_Stream_limit
    exact ⟨v, rfl, .ref a, rfl, a, _, dx, _, p, rfl, ha, T.o_Stream.cl, hp, a, v, t, rfl, ty, hz, hn, q⟩
end
end Pl

set_option Elab.async false
set_option linter.all false
set_option maxRecDepth 100000
set_option maxHeartbeats 4000000
/-! The pure layer: values as trees, slots, what a reading does to them (no heap in sight). -/
namespace Pl
open PySem L2
/-! ### heaps alike but for locks -/
def Alk (o o' : HO) : Prop := o = o' ∨ ∃ kvs, (o = .dK kvs ∨ ∃ x, o = .frz x (.dK kvs)) ∧ (o' = .dK kvs ∨ ∃ x, o' = .frz x (.dK kvs))
def Sm (H H' : Hp) : Prop := ∀ a o, H a = some o → ∃ o', H' a = some o' ∧ Alk o o'
theorem Sm.of {H H' : Hp} (s : Same H H') : Sm H H' := fun a o h => ⟨o, s a o h, .inl rfl⟩
theorem Sm.refl (H : Hp) : Sm H H := Sm.of (Same.refl H)
theorem Alk.trans {a b c : HO} (h : Alk a b) (k : Alk b c) : Alk a c := by
  rcases h with rfl | ⟨kvs, h1, h2⟩
  · exact k
  · rcases k with rfl | ⟨kvs', k1, k2⟩
    · exact .inr ⟨kvs, h1, h2⟩
    · have e : kvs = kvs' := by
        rcases h2 with rfl | ⟨x, rfl⟩ <;> rcases k1 with h | ⟨y, h⟩ <;> cases h <;> rfl
      subst e
      exact .inr ⟨kvs, h1, k2⟩
theorem Sm.trans {A B C : Hp} (h : Sm A B) (k : Sm B C) : Sm A C := fun a o e => by
  obtain ⟨o1, e1, a1⟩ := h a o e
  obtain ⟨o2, e2, a2⟩ := k a o1 e1
  exact ⟨o2, e2, a1.trans a2⟩
theorem Sm.at {H H' : Hp} (s : Sm H H') {a : Addr} {o : HO} (h : H a = some o) (h1 : ∀ kvs, o ≠ .dK kvs) (h2 : ∀ x kvs, o ≠ .frz x (.dK kvs)) : H' a = some o := by
  obtain ⟨o', e, q⟩ := s a o h
  rcases q with rfl | ⟨kvs, q | ⟨x, q⟩, _⟩
  · exact e
  · exact absurd q (h1 kvs)
  · exact absurd q (h2 x kvs)
theorem Sm.lst {H H' : Hp} (s : Sm H H') {a : Addr} {xs : List V} (h : H a = some (.lst xs)) : H' a = some (.lst xs) := s.at h (by simp) (by simp)
theorem Sm.tup {H H' : Hp} (s : Sm H H') {a : Addr} {xs : List V} (h : H a = some (.tup xs)) : H' a = some (.tup xs) := s.at h (by simp) (by simp)
theorem Sm.ins {H H' : Hp} (s : Sm H H') {a C d : Addr} {fs : List (Str × V)} (h : H a = some (.ins C d fs)) : H' a = some (.ins C d fs) := s.at h (by simp) (by simp)
theorem Sm.rd {H H' : Hp} (s : Sm H H') {a : Addr} {kvs : List (Key × V)} (h : Rd H a (.dK kvs)) : Rd H' a (.dK kvs) := by
  rcases h with h | ⟨x, h⟩
  · obtain ⟨o', e, q⟩ := s a _ h
    rcases q with rfl | ⟨k, q, q'⟩
    · exact .inl e
    · have : k = kvs := by rcases q with q | ⟨x, q⟩ <;> cases q <;> rfl
      subst this
      rcases q' with rfl | ⟨x, rfl⟩
      · exact .inl e
      · exact .inr ⟨x, e⟩
  · obtain ⟨o', e, q⟩ := s a _ h
    rcases q with rfl | ⟨k, q, q'⟩
    · exact .inr ⟨x, e⟩
    · have : k = kvs := by rcases q with q | ⟨x, q⟩ <;> cases q <;> rfl
      subst this
      rcases q' with rfl | ⟨x, rfl⟩
      · exact .inl e
      · exact .inr ⟨x, e⟩
/-! ### all but the tables of code objects -/
def kt (H : Hp) : Hp := fun b => match H b with
  | some (.tbl _) => none
  | o => o
def NT (o : HO) : Prop := ∀ ps, o ≠ .tbl ps
theorem kt_at {H : Hp} {a : Addr} {o : HO} (h : H a = some o) (n : NT o) : kt H a = some o := by
  unfold kt
  rw [h]
  cases o <;> first | rfl | exact absurd rfl (n _)
theorem kt_sub {H : Hp} {a : Addr} {o : HO} (h : kt H a = some o) : H a = some o ∧ NT o := by
  unfold kt at h
  cases e : H a with
  | none => rw [e] at h; cases h
  | some u =>
    rw [e] at h
    cases u <;> first | (cases h; exact ⟨rfl, fun ps z => nomatch z⟩) | cases h
theorem kt_none {H : Hp} {a : Addr} (h : H a = none) : kt H a = none := by
  unfold kt
  rw [h]
theorem kt_le {H : Hp} : Same (kt H) H := fun b o h => (kt_sub h).1
theorem kt_mono {H H' : Hp} (s : Same H H') : Same (kt H) (kt H') := fun b o h => kt_at (s b o (kt_sub h).1) (kt_sub h).2
theorem kt_upd {H : Hp} {a : Addr} {o : HO} (n : NT o) : kt (upd H a o) = upd (kt H) a o := by
  funext b
  by_cases e : b = a
  · rw [e, upd_same, kt_at upd_same n]
  · rw [upd_ne e]
    unfold kt
    rw [upd_ne e]
/-! ### trees of values -/
structure TvSem where
  R : Hp → V → Prop
  mono : ∀ {H H' : Hp} {v : V}, Sm H H' → R H v → R H' v
  tk : ∀ {H : Hp} {v : V}, R H v → R (kt H) v
inductive Tv where
  | int (i : Int)
  | str (s : Str)
  | bl (b : Bool)
  | non
  | tup (xs : List Tv)
  | lst (xs : List Tv)
  | dic (l : Bool) (ks : List Key) (ts : List Tv)
  | ext (S : TvSem)
def Dat (H : Hp) (l : Bool) (a : Addr) (us : List (Key × V)) : Prop := if l = true then Rd H a (.dK us) else H a = some (.dK us)
theorem Dat.rd {H : Hp} {l : Bool} {a : Addr} {us : List (Key × V)} (h : Dat H l a us) : Rd H a (.dK us) := by
  unfold Dat at h
  split at h
  · exact h
  · exact .inl h
theorem Dat.same {H H' : Hp} (s : Same H H') {l : Bool} {a : Addr} {us : List (Key × V)} (h : Dat H l a us) : Dat H' l a us := by
  unfold Dat at h ⊢
  by_cases e : l = true
  · rw [if_pos e] at h ⊢
    exact Same.rd s h
  · rw [if_neg e] at h ⊢
    exact s _ _ h
mutual
def Rep (H : Hp) : Tv → V → Prop
  | .int i, v => v = .int i
  | .str s, v => v = .str s
  | .bl b, v => v = .bl b
  | .non, v => v = .non
  | .tup xs, v => ∃ a us, v = .ref a ∧ H a = some (.tup us) ∧ RepL H xs us
  | .lst xs, v => ∃ a us, v = .ref a ∧ H a = some (.lst us) ∧ RepL H xs us
  | .dic l ks ts, v => ∃ a us, v = .ref a ∧ Dat H l a us ∧ us.map (·.1) = ks ∧ RepL H ts (us.map (·.2))
  | .ext S, v => S.R H v
def RepL (H : Hp) : List Tv → List V → Prop
  | [], us => us = []
  | x :: xs, us => ∃ u r, us = u :: r ∧ Rep H x u ∧ RepL H xs r
end
mutual
theorem Rep.mono {H H' : Hp} (s : Same H H') : ∀ {t : Tv} {v : V}, Rep H t v → Rep H' t v
  | .int _, _, h => h
  | .str _, _, h => h
  | .bl _, _, h => h
  | .non, _, h => h
  | .tup xs, _, h => by
    obtain ⟨a, us, e, h1, h2⟩ := h
    exact ⟨a, us, e, s _ _ h1, RepL.mono s h2⟩
  | .lst xs, _, h => by
    obtain ⟨a, us, e, h1, h2⟩ := h
    exact ⟨a, us, e, s _ _ h1, RepL.mono s h2⟩
  | .dic l ks ts, _, h => by
    obtain ⟨a, us, e, h1, h2, h3⟩ := h
    exact ⟨a, us, e, h1.same s, h2, RepL.mono s h3⟩
  | .ext S, _, h => S.mono (Sm.of s) h
theorem RepL.mono {H H' : Hp} (s : Same H H') : ∀ {ts : List Tv} {vs : List V}, RepL H ts vs → RepL H' ts vs
  | [], _, h => h
  | x :: xs, _, h => by
    obtain ⟨u, r, e, h1, h2⟩ := h
    exact ⟨u, r, e, Rep.mono s h1, RepL.mono s h2⟩
end
mutual
/-- what is left of it while some dict may be locked -/
def Tv.fz : Tv → Tv
  | .tup xs => .tup (fzL xs)
  | .lst xs => .lst (fzL xs)
  | .dic _ ks ts => .dic true ks (fzL ts)
  | .int i => .int i
  | .str s => .str s
  | .bl b => .bl b
  | .non => .non
  | .ext S => .ext S
def fzL : List Tv → List Tv
  | [] => []
  | x :: xs => x.fz :: fzL xs
end
mutual
theorem Rep.fz {H H' : Hp} (s : Sm H H') : ∀ {t : Tv} {v : V}, Rep H t v → Rep H' t.fz v
  | .int _, _, h => by simpa [Tv.fz, Rep] using h
  | .str _, _, h => by simpa [Tv.fz, Rep] using h
  | .bl _, _, h => by simpa [Tv.fz, Rep] using h
  | .non, _, h => by simpa [Tv.fz, Rep] using h
  | .tup xs, _, h => by
    obtain ⟨a, us, e, h1, h2⟩ := h
    rw [Tv.fz]
    exact ⟨a, us, e, s.tup h1, RepL.fz s h2⟩
  | .lst xs, _, h => by
    obtain ⟨a, us, e, h1, h2⟩ := h
    rw [Tv.fz]
    exact ⟨a, us, e, s.lst h1, RepL.fz s h2⟩
  | .dic l ks ts, _, h => by
    obtain ⟨a, us, e, h1, h2, h3⟩ := h
    rw [Tv.fz]
    exact ⟨a, us, e, (by unfold Dat; rw [if_pos rfl]; exact s.rd h1.rd), h2, RepL.fz s h3⟩
  | .ext S, _, h => by
    rw [Tv.fz]
    exact S.mono s h
theorem RepL.fz {H H' : Hp} (s : Sm H H') : ∀ {ts : List Tv} {vs : List V}, RepL H ts vs → RepL H' (fzL ts) vs
  | [], _, h => h
  | x :: xs, _, h => by
    obtain ⟨u, r, e, h1, h2⟩ := h
    exact ⟨u, r, e, Rep.fz s h1, RepL.fz s h2⟩
end
theorem Dat.tk {H : Hp} {l : Bool} {a : Addr} {us : List (Key × V)} (h : Dat H l a us) : Dat (kt H) l a us := by
  unfold Dat at h ⊢
  by_cases e : l = true
  · rw [if_pos e] at h ⊢
    rcases h with h | ⟨x, h⟩
    · exact .inl (kt_at h fun _ z => nomatch z)
    · exact .inr ⟨x, kt_at h fun _ z => nomatch z⟩
  · rw [if_neg e] at h ⊢
    exact kt_at h fun _ z => nomatch z
mutual
theorem Rep.tk {H : Hp} : ∀ {t : Tv} {v : V}, Rep H t v → Rep (kt H) t v
  | .int _, _, h => h
  | .str _, _, h => h
  | .bl _, _, h => h
  | .non, _, h => h
  | .tup xs, _, h => by
    obtain ⟨a, us, e, h1, h2⟩ := h
    exact ⟨a, us, e, kt_at h1 (fun _ z => nomatch z), RepL.tk h2⟩
  | .lst xs, _, h => by
    obtain ⟨a, us, e, h1, h2⟩ := h
    exact ⟨a, us, e, kt_at h1 (fun _ z => nomatch z), RepL.tk h2⟩
  | .dic l ks ts, _, h => by
    obtain ⟨a, us, e, h1, h2, h3⟩ := h
    exact ⟨a, us, e, h1.tk, h2, RepL.tk h3⟩
  | .ext S, _, h => S.tk h
theorem RepL.tk {H : Hp} : ∀ {ts : List Tv} {vs : List V}, RepL H ts vs → RepL (kt H) ts vs
  | [], _, h => h
  | x :: xs, _, h => by
    obtain ⟨u, r, e, h1, h2⟩ := h
    exact ⟨u, r, e, Rep.tk h1, RepL.tk h2⟩
end
theorem RepL.len {H : Hp} : ∀ {ts : List Tv} {vs : List V}, RepL H ts vs → vs.length = ts.length
  | [], _, h => by rw [show _ = [] from h]; rfl
  | x :: xs, _, h => by
    obtain ⟨u, r, rfl, h1, h2⟩ := h
    rw [List.length_cons, List.length_cons, RepL.len h2]
theorem RepL.get {H : Hp} : ∀ {ts : List Tv} {vs : List V}, RepL H ts vs → ∀ (i : Nat) (t : Tv), ts[i]? = some t → ∃ v, vs[i]? = some v ∧ Rep H t v
  | [], _, h, i, t, e => by simp at e
  | x :: xs, _, h, i, t, e => by
    obtain ⟨u, r, rfl, h1, h2⟩ := h
    cases i with
    | zero => exact ⟨u, rfl, by simp at e; subst e; exact h1⟩
    | succ n =>
      obtain ⟨v, e1, e2⟩ := RepL.get h2 n t (by simpa using e)
      exact ⟨v, by simpa using e1, e2⟩
theorem RepL.app {H : Hp} : ∀ {ts us : List Tv} {vs ws : List V}, RepL H ts vs → RepL H us ws → RepL H (ts ++ us) (vs ++ ws)
  | [], _, _, _, h, k => by rw [show _ = [] from h]; exact k
  | x :: xs, _, _, _, h, k => by
    obtain ⟨u, r, rfl, h1, h2⟩ := h
    exact ⟨u, r ++ _, rfl, h1, RepL.app h2 k⟩
theorem RepL.one {H : Hp} {t : Tv} {v : V} (h : Rep H t v) : RepL H [t] [v] := ⟨v, [], rfl, h, rfl⟩
theorem RepL.drop {H : Hp} : ∀ {ts : List Tv} {vs : List V} (n : Nat), RepL H ts vs → RepL H (ts.drop n) (vs.drop n)
  | _, _, 0, h => h
  | [], _, n + 1, h => by rw [show _ = [] from h]; rfl
  | x :: xs, _, n + 1, h => by
    obtain ⟨u, r, rfl, h1, h2⟩ := h
    exact RepL.drop n h2
theorem RepL.take {H : Hp} : ∀ {ts : List Tv} {vs : List V} (n : Nat), RepL H ts vs → RepL H (ts.take n) (vs.take n)
  | _, _, 0, h => rfl
  | [], _, n + 1, h => by rw [show _ = [] from h]; rfl
  | x :: xs, _, n + 1, h => by
    obtain ⟨u, r, rfl, h1, h2⟩ := h
    exact ⟨u, r.take n, rfl, h1, RepL.take n h2⟩
theorem RepL.set {H : Hp} {t : Tv} {v : V} (hv : Rep H t v) : ∀ {ts : List Tv} {vs : List V} (n : Nat), RepL H ts vs → RepL H (ts.set n t) (vs.set n v)
  | [], _, n, h => by rw [show _ = [] from h]; exact rfl
  | x :: xs, _, 0, h => by
    obtain ⟨u, r, rfl, h1, h2⟩ := h
    exact ⟨v, r, rfl, hv, h2⟩
  | x :: xs, _, n + 1, h => by
    obtain ⟨u, r, rfl, h1, h2⟩ := h
    exact ⟨u, r.set n v, rfl, h1, RepL.set hv n h2⟩
theorem RepL.rev {H : Hp} : ∀ {ts : List Tv} {vs : List V}, RepL H ts vs → RepL H ts.reverse vs.reverse
  | [], _, h => by rw [show _ = [] from h]; rfl
  | x :: xs, _, h => by
    obtain ⟨u, r, rfl, h1, h2⟩ := h
    rw [List.reverse_cons, List.reverse_cons]
    exact RepL.app (RepL.rev h2) (RepL.one h1)
theorem RepL.mem {H : Hp} {ts : List Tv} {vs : List V} (h : RepL H ts vs) {v : V} (hv : v ∈ vs) : ∃ t ∈ ts, Rep H t v := by
  obtain ⟨i, hi⟩ := List.mem_iff_getElem?.mp hv
  have hl : i < ts.length := by rw [← h.len]; exact (List.getElem?_eq_some_iff.mp hi).1
  obtain ⟨v', e, r⟩ := h.get i ts[i] (List.getElem?_eq_getElem hl)
  rw [hi] at e
  cases e
  exact ⟨_, List.getElem_mem hl, r⟩
theorem RepL.at {H : Hp} {ts : List Tv} {vs : List V} (h : RepL H ts vs) {i : Int} {t : Tv} (e : atI ts i = some t) : ∃ v, atI vs i = some v ∧ Rep H t v := by
  unfold atI at e ⊢
  rw [h.len]
  cases q : ixN ts.length i with
  | none => rw [q] at e; cases e
  | some j => rw [q] at e; exact h.get j t e
theorem RepL.ints {H : Hp} {ns : List Int} {vs : List V} (h : RepL H (ns.map Tv.int) vs) : vs = ns.map V.int := by
  induction ns generalizing vs with
  | nil => exact h
  | cons n r ih =>
    obtain ⟨u, w, rfl, h1, h2⟩ := h
    rw [ih h2]
    cases h1
    rfl
theorem RepL.strs {H : Hp} {ns : List Str} {vs : List V} (h : RepL H (ns.map Tv.str) vs) : vs = ns.map V.str := by
  induction ns generalizing vs with
  | nil => exact h
  | cons n r ih =>
    obtain ⟨u, w, rfl, h1, h2⟩ := h
    rw [ih h2]
    cases h1
    rfl
theorem RepL.of_ints {H : Hp} : ∀ (ns : List Int), RepL H (ns.map Tv.int) (ns.map V.int)
  | [] => rfl
  | n :: r => ⟨_, _, rfl, rfl, RepL.of_ints r⟩
theorem RepL.of_strs {H : Hp} : ∀ (ns : List Str), RepL H (ns.map Tv.str) (ns.map V.str)
  | [] => rfl
  | n :: r => ⟨_, _, rfl, rfl, RepL.of_strs r⟩
/-! ### the box, the steps -/
/-- the box of numbers; the table of a def that makes lambdas -/
abbrev Bx := Option (Addr × Addr) × Option (Addr × Str)
def bxl : Option (Addr × Addr) → List Addr
  | none => []
  | some (b, c) => [b, c]
def bxs (B : Bx) : List Addr := bxl B.1
theorem bxs_eq {B : Bx} {b c : Addr} (e : B.1 = some (b, c)) : bxs B = [b, c] := by
  unfold bxs
  rw [e]
  rfl
def BxOk (B : Bx) (H : Hp) : Prop := ∀ b c, B.1 = some (b, c) → BoxAt b c H
theorem BxOk.st {B : Bx} {H : Hp} (h : BxOk B H) {a : Addr} (ha : a ∈ bxs B) : ∃ o, H a = some o := by
  rcases B with ⟨_ | ⟨b, c⟩, t⟩
  · cases ha
  · rcases List.mem_cons.mp ha with rfl | ha
    · exact (h _ _ rfl).b
    · cases List.mem_singleton.mp ha
      exact (h _ _ rfl).c
theorem BxOk.lst {B : Bx} {H : Hp} (h : BxOk B H) {a : Addr} (ha : a ∈ bxs B) : ∃ xs, H a = some (.lst xs) := by
  rcases B with ⟨_ | ⟨b, c⟩, t⟩
  · cases ha
  · obtain ⟨_, cs, k, b1, b2, _⟩ := h b c rfl
    rcases List.mem_cons.mp ha with rfl | ha
    · exact ⟨_, b1⟩
    · cases List.mem_singleton.mp ha
      exact ⟨_, b2⟩
theorem BxOk.nin {B : Bx} {H : Hp} (h : BxOk B H) {a : Addr} (ha : H a = none) : a ∉ bxs B := fun hm => by
  obtain ⟨o, e⟩ := h.st hm
  rw [ha] at e
  cases e
/-- what stood stays, the box apart -/
def Stay (B : Bx) (H H' : Hp) : Prop := ∀ a o, H a = some o → a ∉ bxs B → H' a = some o
theorem Stay.refl (B : Bx) (H : Hp) : Stay B H H := fun _ _ h _ => h
theorem Stay.trans {B : Bx} {H H1 H2 : Hp} (a : Stay B H H1) (b : Stay B H1 H2) : Stay B H H2 := fun x o h n => b x o (a x o h n) n
theorem Stay.of {B : Bx} {H H' : Hp} (s : Same H H') : Stay B H H' := fun a o h _ => s a o h
theorem Stay.free {B : Bx} {H H' : Hp} (s : Stay B H H') (b : BxOk B H') {a : Addr} (h : H' a = none) : H a = none := by
  cases e : H a with
  | none => rfl
  | some o =>
    have := s a o e (b.nin h)
    rw [h] at this
    cases this
theorem BxOk.same {B : Bx} {H H' : Hp} (h : BxOk B H) (s : Same H H') : BxOk B H' := fun b c e => (h b c e).same s
abbrev kn (B : Bx) (O : List Addr) (H : Hp) : Hp := kt (mn (O ++ bxs B) H)
theorem kn_eq {B : Bx} {O : List Addr} {H : Hp} {a : Addr} (h1 : a ∉ O) (h2 : a ∉ bxs B) : mn (O ++ bxs B) H a = H a := mn_at fun h => by
  rcases List.mem_append.mp h with h | h
  · exact h1 h
  · exact h2 h
theorem kn_at {B : Bx} {O : List Addr} {H : Hp} {a : Addr} {o : HO} (h1 : a ∉ O) (h2 : a ∉ bxs B) (h : H a = some o) (n : NT o := by exact fun _ z => nomatch z) : kn B O H a = some o := kt_at (by rw [kn_eq h1 h2]; exact h) n
theorem kn_inv {B : Bx} {O : List Addr} {H : Hp} {a : Addr} {o : HO} (h : kn B O H a = some o) : H a = some o ∧ a ∉ O ∧ a ∉ bxs B := by
  have h := (kt_sub h).1
  by_cases hm : a ∈ O ++ bxs B
  · rw [mn_in hm] at h
    cases h
  · rw [mn_at hm] at h
    exact ⟨h, fun x => hm (List.mem_append_left _ x), fun x => hm (List.mem_append_right _ x)⟩
theorem kn_nt {B : Bx} {O : List Addr} {H : Hp} {a : Addr} {o : HO} (h : kn B O H a = some o) : NT o := (kt_sub h).2
/-- hidden more, but nothing that was known -/
theorem kn_sm {B : Bx} {O O' : List Addr} {H H' : Hp} (s : Stay B H H') (ho : ∀ a ∈ O', a ∈ O ∨ H a = none) : Same (kn B O H) (kn B O' H') := fun a o h => by
  obtain ⟨h1, h2, h3⟩ := kn_inv h
  exact kn_at (fun hm => by
    rcases ho a hm with h | h
    · exact h2 h
    · rw [h] at h1; cases h1) h3 (s a o h1 h3) (kn_nt h)
theorem kn_all {B : Bx} {O : List Addr} {H : Hp} : Same (kn B O H) H := fun a o h => (kn_inv h).1
theorem kn_less {B : Bx} {O O' : List Addr} {H : Hp} (h : ∀ a ∈ O', a ∈ O) : Same (kn B O H) (kn B O' H) := kn_sm (Stay.refl B H) fun a ha => .inl (h a ha)
/-- a list or a dict -/
def LD (o : HO) : Prop := (∃ xs, o = .lst xs) ∨ (∃ kvs, o = .dK kvs) ∨ ∃ C d fs, o = .ins C d fs ∧ fs.lookup ("farthest" : Str) ≠ none
theorem LD.nt {o : HO} (h : LD o) : NT o := fun ps z => by
  rcases h with ⟨_, h⟩ | ⟨_, h⟩ | ⟨_, _, _, h, _⟩ <;> (rw [z] at h; cases h)
theorem LD.nc {o : HO} (h : LD o) (c : Addr) (q : Str) : o ≠ LamX.CodeO c q := fun z => by
  unfold LamX.CodeO at z
  rcases h with ⟨_, h⟩ | ⟨_, h⟩ | ⟨_, _, _, h, _⟩ <;> (rw [z] at h; cases h)
/-- the table keeps its word -/
theorem tab_stay {B : Bx} {H H' : Hp} {P : Addr} {q : Str} (b : BxOk B H) (s : Stay B H H') (t : LamX.TabS H P q) : LamX.TabS H' P q := by
  obtain ⟨ps, h1, h2, h3⟩ := t
  refine ⟨ps, s _ _ h1 (fun hm => ?_), h2, fun pos cv hc => ?_⟩
  · obtain ⟨xs, e⟩ := b.lst hm
    rw [h1] at e
    cases e
  · obtain ⟨c, e1, e2⟩ := h3 pos cv hc
    refine ⟨c, e1, s _ _ e2 fun hm => ?_⟩
    obtain ⟨xs, e⟩ := b.lst hm
    rw [e2] at e
    cases e
theorem tab_upd {H : Hp} {P a : Addr} {q : Str} {o o' : HO} (t : LamX.TabS H P q) (h : H a = some o) (n : NT o) (n2 : ∀ c q, o ≠ LamX.CodeO c q) : LamX.TabS (upd H a o') P q := by
  obtain ⟨ps, h1, h2, h3⟩ := t
  refine ⟨ps, ?_, h2, fun pos cv hc => ?_⟩
  · rw [upd_ne (fun z => by rw [← z, h1] at h; cases h; exact n _ rfl)]
    exact h1
  · obtain ⟨c, e1, e2⟩ := h3 pos cv hc
    refine ⟨c, e1, ?_⟩
    rw [upd_ne (fun z => by rw [← z, e2] at h; cases h; exact n2 _ _ rfl)]
    exact e2
/-- an own thing of any kind: its addresses, what is true of it -/
structure GSem where
  ads : List Addr
  R : Hp → Hp → Option V → Prop
  mono : ∀ {K K' H H' : Hp} {o : Option V}, Sm K K' → (∀ a ∈ ads, ∀ u, H a = some u → H' a = some u) → R K H o → R K' H' o
  hd : ∀ {K H : Hp} {a : Addr}, R K H (some (.ref a)) → a ∈ ads
structure Wl (B : Bx) (O0 O : List Addr) (Hs Kb H : Hp) : Prop where
  kb : Same Kb (kn B O H)
  hh : Stay B Hs H
  bx : BxOk B H
  bs : BxOk B Hs
  o0 : ∀ a ∈ O0, a ∈ O
  s0 : ∀ a ∈ O0, ∃ o, Hs a = some o
  on : ∀ a ∈ O, a ∈ O0 ∨ Hs a = none
  st : ∀ a ∈ O, ∃ o, H a = some o
  ob : ∀ a ∈ O, a ∉ bxs B
  ld : ∀ a ∈ O, ∀ o, H a = some o → LD o
  tb : ∀ P q, B.2 = some (P, q) → LamX.TabS H P q ∧ ∀ a ps, Hs a ≠ some (.tbl ps)
theorem Wl.go {B : Bx} {O0 O : List Addr} {Hs Kb H H' : Hp} (W : Wl B O0 O Hs Kb H) (s : Stay B H H') (b : BxOk B H') : Wl B O0 O Hs Kb H' :=
  ⟨W.kb.trans (kn_sm s fun _ h => .inl h), W.hh.trans s, b, W.bs, W.o0, W.s0, W.on, fun a ha => by obtain ⟨o, e⟩ := W.st a ha; exact ⟨o, s a o e (W.ob a ha)⟩, W.ob, fun a ha o h => by
    obtain ⟨o', e⟩ := W.st a ha
    have := s a o' e (W.ob a ha)
    rw [h] at this
    cases this
    exact W.ld a ha _ e, fun P q e => ⟨tab_stay W.bx s (W.tb P q e).1, (W.tb P q e).2⟩⟩
/-! ### slots -/
inductive Sl where
  | any
  | val (t : Tv)
  | own (xs : List Tv)
  | owd (ks : List Key) (ts : List Tv)
  | box
  | lkd (d : Addr) (ks : List Key) (ts : List Tv)
  | pvd (K : Hp) (v : V) (t : Tv)
  | odl (as : List Addr) (ks : List Key) (xss : List (List Tv))
  | tab (P : Addr) (q : Str)
  | gx (G : GSem)
def Sl.isOwn : Sl → Bool
  | .own _ => true
  | .owd _ _ => true
  | .odl _ _ _ => true
  | .gx _ => true
  | _ => false
/-- the inner lists of an own dict of own lists -/
def Sl.ads : Sl → List Addr
  | .odl as _ _ => as
  | .gx G => G.ads
  | _ => []
theorem Sl.ads_own {s : Sl} {a : Addr} (h : a ∈ s.ads) : s.isOwn = true := by
  cases s <;> first | rfl | cases h
def OwL (B : Bx) (O : List Addr) (Hs H : Hp) (as : List Addr) (xss : List (List Tv)) : Prop := as.Nodup ∧ as.length = xss.length ∧ ∀ (i : Nat) (b : Addr) (xs : List Tv), as[i]? = some b → xss[i]? = some xs → b ∈ O ∧ Hs b = none ∧ ∃ ws, H b = some (.lst ws) ∧ RepL (kn B O H) xs ws
theorem OwL.of {B : Bx} {O O' : List Addr} {Hs Hs' H H' : Hp} {as : List Addr} {xss : List (List Tv)} (h : OwL B O Hs H as xss) (k : ∀ (b : Addr) (xs : List Tv), b ∈ as → b ∈ O → Hs b = none → ∀ ws, H b = some (.lst ws) → RepL (kn B O H) xs ws → b ∈ O' ∧ Hs' b = none ∧ ∃ ws, H' b = some (.lst ws) ∧ RepL (kn B O' H') xs ws) : OwL B O' Hs' H' as xss :=
  ⟨h.1, h.2.1, fun i b xs e1 e2 => by obtain ⟨q1, q2, ws, q3, q4⟩ := h.2.2 i b xs e1 e2; exact k b xs (List.mem_of_getElem? e1) q1 q2 ws q3 q4⟩
theorem OwL.mem {B : Bx} {O : List Addr} {Hs H : Hp} {as : List Addr} {xss : List (List Tv)} (h : OwL B O Hs H as xss) {b : Addr} (hb : b ∈ as) : b ∈ O ∧ Hs b = none ∧ ∃ ws, H b = some (.lst ws) := by
  obtain ⟨i, hi⟩ := List.mem_iff_getElem?.mp hb
  have hl : i < xss.length := by rw [← h.2.1]; exact (List.getElem?_eq_some_iff.mp hi).1
  obtain ⟨q1, q2, ws, q3, _⟩ := h.2.2 i b _ hi (List.getElem?_eq_getElem hl)
  exact ⟨q1, q2, ws, q3⟩
def SlOk (B : Bx) (O : List Addr) (Hs H : Hp) : Sl → Option V → Prop
  | .any, _ => True
  | .tab P q, _ => B.2 = some (P, q)
  | .val t, o => ∃ v, o = some v ∧ Rep (kn B O H) t v
  | .own xs, o => ∃ a us, o = some (.ref a) ∧ a ∈ O ∧ Hs a = none ∧ H a = some (.lst us) ∧ RepL (kn B O H) xs us
  | .owd ks ts, o => ∃ a us, o = some (.ref a) ∧ a ∈ O ∧ Hs a = none ∧ H a = some (.dK us) ∧ us.map (·.1) = ks ∧ RepL (kn B O H) ts (us.map (·.2))
  | .box, o => ∃ b c, B.1 = some (b, c) ∧ o = some (.ref b)
  | .lkd d ks ts, o => ∃ us x, o = some (.ref d) ∧ kn B O H d = some (.frz x (.dK us)) ∧ us.map (·.1) = ks ∧ RepL (kn B O H) ts (us.map (·.2))
  | .pvd K v t, o => o = some v ∧ Rep K t v ∧ Rep (kn B O H) t.fz v
  | .odl as ks xss, o => ∃ a us, o = some (.ref a) ∧ a ∈ O ∧ Hs a = none ∧ H a = some (.dK us) ∧ us.map (·.1) = ks ∧ us.map (·.2) = as.map V.ref ∧ OwL B O Hs H as xss
  | .gx G, o => (∀ a ∈ G.ads, a ∈ O ∧ Hs a = none) ∧ G.R (kn B O H) H o
structure Rels (B : Bx) (O : List Addr) (Hs H : Hp) (ss : List Sl) (σ : L2.St) : Prop where
  len : ss.length = σ.length
  at_ : ∀ (i : Nat) s, ss[i]? = some s → ∃ o, σ[i]? = some o ∧ SlOk B O Hs H s o
  dis : ∀ (i j : Nat) s t a, i ≠ j → ss[i]? = some s → ss[j]? = some t → s.isOwn = true → t.isOwn = true → σ[i]? = some (some (.ref a)) → σ[j]? = some (some (.ref a)) → False
  din : ∀ (i j : Nat) s t a, i ≠ j → ss[i]? = some s → ss[j]? = some t → a ∈ s.ads → (t.isOwn = true → σ[j]? ≠ some (some (.ref a))) ∧ a ∉ t.ads
/-- own slots that come of own slots -/
theorem Rels.sub {B : Bx} {O O' : List Addr} {Hs Hs' H H' : Hp} {ss ss' : List Sl} {σ σ' : L2.St} (R : Rels B O Hs H ss σ) (hl : ss'.length = σ'.length) (ha : ∀ (i : Nat) s, ss'[i]? = some s → ∃ o, σ'[i]? = some o ∧ SlOk B O' Hs' H' s o) (f : ∀ (i : Nat) s, ss'[i]? = some s → s.isOwn = true → ∃ s', ss[i]? = some s' ∧ s'.isOwn = true ∧ (∀ a ∈ s.ads, a ∈ s'.ads) ∧ σ'[i]? = σ[i]?) : Rels B O' Hs' H' ss' σ' :=
  ⟨hl, ha, fun i j s t a hne e1 e2 o1 o2 h1 h2 => by
    obtain ⟨s', f1, f2, f3, f4⟩ := f i s e1 o1
    obtain ⟨t', g1, g2, g3, g4⟩ := f j t e2 o2
    exact R.dis i j s' t' a hne f1 g1 f2 g2 (by rw [← f4]; exact h1) (by rw [← g4]; exact h2), fun i j s t a hne e1 e2 h => by
    obtain ⟨s', f1, f2, f3, f4⟩ := f i s e1 (Sl.ads_own h)
    refine ⟨fun o => ?_, fun hm => ?_⟩
    · obtain ⟨t', g1, g2, g3, g4⟩ := f j t e2 o
      rw [g4]
      exact (R.din i j s' t' a hne f1 g1 (f3 a h)).1 g2
    · obtain ⟨t', g1, g2, g3, g4⟩ := f j t e2 (Sl.ads_own hm)
      exact (R.din i j s' t' a hne f1 g1 (f3 a h)).2 (g3 a hm)⟩
theorem SlOk.go {B : Bx} {O O' : List Addr} {Hs H H' : Hp} {s : Sl} {o : Option V} (h : SlOk B O Hs H s o) (ob : ∀ a ∈ O, a ∉ bxs B) (sp : Stay B H H') (h1 : ∀ a ∈ O, a ∈ O') (h2 : ∀ a ∈ O', a ∈ O ∨ H a = none) : SlOk B O' Hs H' s o := by
  have sm := kn_sm (O := O) (O' := O') sp h2
  cases s with
  | any => trivial
  | val t => obtain ⟨v, e, r⟩ := h; exact ⟨v, e, r.mono sm⟩
  | own xs => obtain ⟨a, us, e, m, n, q, r⟩ := h; exact ⟨a, us, e, h1 a m, n, sp a _ q (ob a m), r.mono sm⟩
  | owd ks ts => obtain ⟨a, us, e, m, n, q, k, r⟩ := h; exact ⟨a, us, e, h1 a m, n, sp a _ q (ob a m), k, r.mono sm⟩
  | box => exact h
  | lkd d ks ts => obtain ⟨us, x, e, q, k, r⟩ := h; exact ⟨us, x, e, sm _ _ q, k, r.mono sm⟩
  | pvd K v t => exact ⟨h.1, h.2.1, h.2.2.mono sm⟩
  | tab P q => exact h
  | odl as ks xss =>
    obtain ⟨a, us, e, m, n, q, k, k2, w⟩ := h
    exact ⟨a, us, e, h1 a m, n, sp a _ q (ob a m), k, k2, w.of fun b xs _ mb nb ws hb r => ⟨h1 b mb, nb, ws, sp b _ hb (ob b mb), r.mono sm⟩⟩
  | gx G => exact ⟨fun a ha => ⟨h1 a (h.1 a ha).1, (h.1 a ha).2⟩, G.mono (Sm.of sm) (fun a ha u e => sp a u e (ob a (h.1 a ha).1)) h.2⟩
theorem Rels.go {B : Bx} {O O' : List Addr} {Hs H H' : Hp} {ss : List Sl} {σ : L2.St} (R : Rels B O Hs H ss σ) (ob : ∀ a ∈ O, a ∉ bxs B) (sp : Stay B H H') (h1 : ∀ a ∈ O, a ∈ O') (h2 : ∀ a ∈ O', a ∈ O ∨ H a = none) : Rels B O' Hs H' ss σ :=
  ⟨R.len, fun i s e => by obtain ⟨o, e1, k⟩ := R.at_ i s e; exact ⟨o, e1, k.go ob sp h1 h2⟩, R.dis, R.din⟩
theorem Rels.go0 {B : Bx} {O0 O : List Addr} {Hs Kb H H' : Hp} {ss : List Sl} {σ : L2.St} (R : Rels B O Hs H ss σ) (W : Wl B O0 O Hs Kb H) (sp : Stay B H H') : Rels B O Hs H' ss σ := R.go W.ob sp (fun _ h => h) fun _ h => .inl h
/-! ### results of expressions -/
inductive Sx where
  | v (t : Tv)
  | n (xs : List Tv)
  | nd (ks : List Key) (ts : List Tv)
  | o (i : Nat) (xs : List Tv)
  | od (i : Nat) (ks : List Key) (ts : List Tv)
  | ol (i : Nat) (as : List Addr) (ks : List Key) (xss : List (List Tv))
  | b
  | ty (n : String)
  | cl (C : Addr)
def XR (B : Bx) (O : List Addr) (H0 H : Hp) (ss : List Sl) (σ : L2.St) : Sx → V → Prop
  | .v t, v => Rep (kn B O H) t v
  | .n xs, v => ∃ a us, v = .ref a ∧ H0 a = none ∧ H a = some (.lst us) ∧ RepL (kn B (a :: O) H) xs us
  | .nd ks ts, v => ∃ a us, v = .ref a ∧ H0 a = none ∧ H a = some (.dK us) ∧ us.map (·.1) = ks ∧ RepL (kn B (a :: O) H) ts (us.map (·.2))
  | .o i xs, v => σ[i]? = some (some v) ∧ ss[i]? = some (.own xs)
  | .od i ks ts, v => σ[i]? = some (some v) ∧ ss[i]? = some (.owd ks ts)
  | .ol i as ks xss, v => σ[i]? = some (some v) ∧ ss[i]? = some (.odl as ks xss)
  | .b, v => ∃ b c, B.1 = some (b, c) ∧ v = .ref b
  | .ty n, v => v = .ty n
  | .cl C, v => v = .ref C
def Sx.tv : Sx → Option Tv
  | .v t => some t
  | .n xs => some (.lst xs)
  | .nd ks ts => some (.dic false ks ts)
  | _ => none
def Sx.sq : Sx → Option (List Tv)
  | .v (.lst xs) => some xs
  | .n xs => some xs
  | .o _ xs => some xs
  | _ => none
def Sx.dq : Sx → Option (List Key × List Tv)
  | .v (.dic _ ks ts) => some (ks, ts)
  | .nd ks ts => some (ks, ts)
  | .od _ ks ts => some (ks, ts)
  | _ => none
section
variable {B : Bx} {O0 O : List Addr} {Hs Kb H0 H H1 H2 : Hp} {ss : List Sl} {σ : L2.St} {x : Sx} {v : V}
theorem kn_new {a : Addr} (W : Wl B O0 O Hs Kb H0) (s : Stay B H0 H) (ha : H0 a = none) {o : HO} (h : H a = some o) (n : NT o := by exact fun _ z => nomatch z) : kn B O H a = some o := kn_at (fun h => by
  obtain ⟨o, e⟩ := W.st a h
  rw [ha] at e
  cases e) (W.bx.nin ha) h n
theorem XR.go (W : Wl B O0 O Hs Kb H0) (s1 : Stay B H0 H1) (s2 : Stay B H1 H2) (h : XR B O H0 H1 ss σ x v) : XR B O H0 H2 ss σ x v := by
  cases x with
  | v t => exact Rep.mono (kn_sm s2 fun _ h => .inl h) h
  | n xs =>
    obtain ⟨a, us, e, n, q, r⟩ := h
    exact ⟨a, us, e, n, s2 a _ q (W.bx.nin n), r.mono (kn_sm s2 fun _ h => .inl h)⟩
  | nd ks ts =>
    obtain ⟨a, us, e, n, q, k, r⟩ := h
    exact ⟨a, us, e, n, s2 a _ q (W.bx.nin n), k, r.mono (kn_sm s2 fun _ h => .inl h)⟩
  | o i xs => exact h
  | od i ks ts => exact h
  | ol i as ks xss => exact h
  | b => exact h
  | ty n => exact h
  | cl C => exact h
theorem XR.back (b : BxOk B H1) (s : Stay B H0 H1) (h : XR B O H1 H2 ss σ x v) : XR B O H0 H2 ss σ x v := by
  cases x with
  | v t => exact h
  | n xs =>
    obtain ⟨a, us, e, n, q⟩ := h
    exact ⟨a, us, e, s.free b n, q⟩
  | nd ks ts =>
    obtain ⟨a, us, e, n, q⟩ := h
    exact ⟨a, us, e, s.free b n, q⟩
  | o i xs => exact h
  | od i ks ts => exact h
  | ol i as ks xss => exact h
  | b => exact h
  | ty n => exact h
  | cl C => exact h
theorem XR.rep {t : Tv} (W : Wl B O0 O Hs Kb H0) (s : Stay B H0 H) (e : x.tv = some t) (h : XR B O H0 H ss σ x v) : Rep (kn B O H) t v := by
  cases x with
  | v u => cases e; exact h
  | n xs =>
    cases e
    obtain ⟨a, us, e, n, q, r⟩ := h
    exact ⟨a, us, e, kn_new W s n q, r.mono (kn_less fun _ h => List.mem_cons_of_mem _ h)⟩
  | nd ks ts =>
    cases e
    obtain ⟨a, us, e, n, q, k, r⟩ := h
    exact ⟨a, us, e, (show kn B O H a = _ from kn_new W s n q), k, r.mono (kn_less fun _ h => List.mem_cons_of_mem _ h)⟩
  | _ => cases e
theorem XR.seq {xs : List Tv} (W : Wl B O0 O Hs Kb H0) (s : Stay B H0 H) (R : Rels B O Hs H ss σ) (e : x.sq = some xs) (h : XR B O H0 H ss σ x v) : ∃ a us, v = .ref a ∧ H a = some (.lst us) ∧ RepL (kn B O H) xs us := by
  cases x with
  | v u =>
    cases u <;> cases e
    obtain ⟨a, us, e, q, r⟩ := h
    exact ⟨a, us, e, (kn_inv q).1, r⟩
  | n ys =>
    cases e
    obtain ⟨a, us, e, n, q, r⟩ := h
    exact ⟨a, us, e, q, r.mono (kn_less fun _ h => List.mem_cons_of_mem _ h)⟩
  | nd ks ts => cases e
  | o i ys =>
    cases e
    obtain ⟨h1, h2⟩ := h
    obtain ⟨o, e1, a, us, e2, m, n, q, r⟩ := R.at_ i _ h2
    rw [h1] at e1
    cases e1
    cases e2
    exact ⟨a, us, rfl, q, r⟩
  | _ => cases e
theorem XR.dic {ks : List Key} {ts : List Tv} (W : Wl B O0 O Hs Kb H0) (s : Stay B H0 H) (R : Rels B O Hs H ss σ) (e : x.dq = some (ks, ts)) (h : XR B O H0 H ss σ x v) : ∃ a us, v = .ref a ∧ Rd H a (.dK us) ∧ us.map (·.1) = ks ∧ RepL (kn B O H) ts (us.map (·.2)) := by
  cases x with
  | v u =>
    cases u <;> cases e
    obtain ⟨a, us, e, q, k, r⟩ := h
    exact ⟨a, us, e, Same.rd kn_all q.rd, k, r⟩
  | n ys => cases e
  | nd ks ts =>
    cases e
    obtain ⟨a, us, e, n, q, k, r⟩ := h
    exact ⟨a, us, e, .inl q, k, r.mono (kn_less fun _ h => List.mem_cons_of_mem _ h)⟩
  | o i ys => cases e
  | od i ks ts =>
    cases e
    obtain ⟨h1, h2⟩ := h
    obtain ⟨o, e1, a, us, e2, m, n, q, k, r⟩ := R.at_ i _ h2
    rw [h1] at e1
    cases e1
    cases e2
    exact ⟨a, us, rfl, .inl q, k, r⟩
  | _ => cases e
end
end Pl

set_option Elab.async false
set_option linter.all false
set_option maxRecDepth 100000
set_option maxHeartbeats 4000000
/-! The pure layer: expressions. -/
namespace Pl
open PySem L2
abbrev PX := List Sl → (Sx → Prop) → Prop
abbrev PTx := List Sl → (Bool → Prop) → Prop
abbrev PAx := List Sl → (List Sx → Prop) → Prop
def XRL (B : Bx) (O : List Addr) (H0 H : Hp) (ss : List Sl) (σ : L2.St) : List Sx → List V → Prop
  | [], vs => vs = []
  | x :: xs, vs => ∃ v r, vs = v :: r ∧ XR B O H0 H ss σ x v ∧ XRL B O H0 H ss σ xs r
/-- the frame in which a reading runs -/
structure Ct (fw : Bool) (B : Bx) (O0 O : List Addr) (Hs Kb H : Hp) (ss : List Sl) (σ : L2.St) : Prop where
  w : Wl B O0 O Hs Kb H
  r : Rels B O Hs H ss σ
  fl : fw = true → O0 = [] ∧ O = []
variable {fw : Bool}
theorem Ct.go {B : Bx} {O0 O : List Addr} {Hs Kb H H' : Hp} {ss : List Sl} {σ : L2.St} (c : Ct fw B O0 O Hs Kb H ss σ) (s : Stay B H H') (b : BxOk B H') : Ct fw B O0 O Hs Kb H' ss σ := ⟨c.w.go s b, c.r.go0 c.w s, c.fl⟩
class LE (fw : Bool) (te : TE) (pe : outParam PX) : Prop where
  run : ∀ {B : Bx} {O0 O : List Addr} {Hs Kb H : Hp} {ss : List Sl} {σ : L2.St} {Q : VK} {Qp : Sx → Prop}, Ct fw B O0 O Hs Kb H ss σ → pe ss Qp → (∀ x H' v, Qp x → Stay B H H' → BxOk B H' → XR B O H H' ss σ x v → Q v H') → te σ H Q
class LT (fw : Bool) (tt : TT) (pt : outParam PTx) : Prop where
  run : ∀ {B : Bx} {O0 O : List Addr} {Hs Kb H : Hp} {ss : List Sl} {σ : L2.St} {Q : Bool → Hp → Prop} {Qp : Bool → Prop}, Ct fw B O0 O Hs Kb H ss σ → pt ss Qp → (∀ b H', Qp b → Stay B H H' → BxOk B H' → Q b H') → tt σ H Q
class LA (fw : Bool) (ta : TA) (pa : outParam PAx) : Prop where
  run : ∀ {B : Bx} {O0 O : List Addr} {Hs Kb H : Hp} {ss : List Sl} {σ : L2.St} {Q : List V → Hp → Prop} {Qp : List Sx → Prop}, Ct fw B O0 O Hs Kb H ss σ → pa ss Qp → (∀ xs H' vs, Qp xs → Stay B H H' → BxOk B H' → XRL B O H H' ss σ xs vs → Q vs H') → ta σ H Q
/-- what a step on values may do: Hz is where the operands began -/
structure Fin (B : Bx) (O : List Addr) (H : Hp) (ss : List Sl) (σ : L2.St) (Q : VK) (Qp : Sx → Prop) : Prop where
  run : ∀ x H' v, Qp x → Stay B H H' → BxOk B H' → XR B O H H' ss σ x v → Q v H'
class LR (fw : Bool) (r : R2) (pr : outParam (Sx → Sx → (Sx → Prop) → Prop)) : Prop where
  run : ∀ {B : Bx} {O0 O : List Addr} {Hs Kb H0 H : Hp} {ss : List Sl} {σ : L2.St} {Q : VK} {Qp : Sx → Prop} {x y : Sx} {v u : V}, Ct fw B O0 O Hs Kb H0 ss σ → Ct fw B O0 O Hs Kb H ss σ → Stay B H0 H → XR B O H0 H ss σ x v → XR B O H0 H ss σ y u → pr x y Qp → Fin B O H ss σ Q Qp → r v u H Q
class LU (fw : Bool) (r : V → Hp → VK → Prop) (pr : outParam (Sx → (Sx → Prop) → Prop)) : Prop where
  run : ∀ {B : Bx} {O0 O : List Addr} {Hs Kb H0 H : Hp} {ss : List Sl} {σ : L2.St} {Q : VK} {Qp : Sx → Prop} {x : Sx} {v : V}, Ct fw B O0 O Hs Kb H0 ss σ → Ct fw B O0 O Hs Kb H ss σ → Stay B H0 H → XR B O H0 H ss σ x v → pr x Qp → Fin B O H ss σ Q Qp → r v H Q
class LC (fw : Bool) (r : List V → Hp → VK → Prop) (pr : outParam (List Sx → (Sx → Prop) → Prop)) : Prop where
  run : ∀ {B : Bx} {O0 O : List Addr} {Hs Kb H0 H : Hp} {ss : List Sl} {σ : L2.St} {Q : VK} {Qp : Sx → Prop} {xs : List Sx} {vs : List V}, Ct fw B O0 O Hs Kb H0 ss σ → Ct fw B O0 O Hs Kb H ss σ → Stay B H0 H → XRL B O H0 H ss σ xs vs → pr xs Qp → Fin B O H ss σ Q Qp → r vs H Q
section
variable {B : Bx} {O0 O : List Addr} {Hs Kb H0 H H1 H2 : Hp} {ss : List Sl} {σ : L2.St} {x y : Sx} {v u : V} {Q : VK} {Qp : Sx → Prop}
theorem XRL.go (W : Wl B O0 O Hs Kb H0) (s1 : Stay B H0 H1) (s2 : Stay B H1 H2) : ∀ {xs : List Sx} {vs : List V}, XRL B O H0 H1 ss σ xs vs → XRL B O H0 H2 ss σ xs vs
  | [], _, h => h
  | x :: xs, _, h => by
    obtain ⟨v, r, e, h1, h2⟩ := h
    exact ⟨v, r, e, h1.go W s1 s2, h2.go W s1 s2⟩
theorem XRL.back (b : BxOk B H1) (s : Stay B H0 H1) : ∀ {xs : List Sx} {vs : List V}, XRL B O H1 H2 ss σ xs vs → XRL B O H0 H2 ss σ xs vs
  | [], _, h => h
  | x :: xs, _, h => by
    obtain ⟨v, r, e, h1, h2⟩ := h
    exact ⟨v, r, e, h1.back b s, h2.back b s⟩
/-- ends at once with a tree -/
theorem Fin.now {t : Tv} (f : Fin B O H ss σ Q Qp) (b : BxOk B H) (q : Qp (.v t)) (r : Rep (kn B O H) t v) : Q v H := f.run _ _ _ q (Stay.refl B H) b r
/-- a new tuple -/
theorem Fin.tup {ts : List Tv} {us : List V} {p : Addr} (f : Fin B O H ss σ Q Qp) (c : Ct fw B O0 O Hs Kb H ss σ) (q : Qp (.v (.tup ts))) (r : RepL (kn B O H) ts us) (hp : H p = none) : Q (.ref p) (upd H p (.tup us)) := by
  have s : Stay B H (upd H p (.tup us)) := Stay.of (same_upd hp)
  refine f.run _ _ _ q s (c.w.bx.same (same_upd hp)) ⟨p, us, rfl, ?_, r.mono (kn_sm s fun _ h => .inl h)⟩
  exact kn_new c.w s hp upd_same
/-- a new list -/
theorem Fin.lst {ts : List Tv} {us : List V} {p : Addr} (f : Fin B O H ss σ Q Qp) (c : Ct fw B O0 O Hs Kb H ss σ) (q : Qp (.n ts)) (r : RepL (kn B O H) ts us) (hp : H p = none) : Q (.ref p) (upd H p (.lst us)) := by
  have s : Stay B H (upd H p (.lst us)) := Stay.of (same_upd hp)
  exact f.run _ _ _ q s (c.w.bx.same (same_upd hp)) ⟨p, us, rfl, hp, upd_same, r.mono (kn_sm s fun a ha => by
    rcases List.mem_cons.mp ha with rfl | h
    · exact .inr hp
    · exact .inl h)⟩
end
/-! ### names, constants -/
def pVar (i : Nat) : PX := fun ss Q => match ss[i]? with
  | some (.val t) => Q (.v t)
  | some (.own xs) => Q (.o i xs)
  | some (.owd ks ts) => Q (.od i ks ts)
  | some .box => Q .b
  | some (.lkd _ ks ts) => Q (.v (.dic true ks ts))
  | some (.pvd _ _ t) => Q (.v t.fz)
  | some (.odl as ks xss) => Q (.ol i as ks xss)
  | _ => False
instance lVar {i : Nat} : LE fw (tVar i) (pVar i) := ⟨fun {B O0 O Hs Kb H ss σ Q Qp} c h q => by
  unfold pVar at h
  split at h
  · rename_i t e
    obtain ⟨o, e1, v, e2, r⟩ := c.r.at_ _ _ e
    subst e2
    exact ⟨v, e1, q _ _ _ h (Stay.refl _ _) c.w.bx r⟩
  · rename_i xs e
    obtain ⟨o, e1, a, us, e2, r⟩ := c.r.at_ _ _ e
    subst e2
    exact ⟨_, e1, q _ _ _ h (Stay.refl _ _) c.w.bx ⟨e1, e⟩⟩
  · rename_i ks ts e
    obtain ⟨o, e1, a, us, e2, r⟩ := c.r.at_ _ _ e
    subst e2
    exact ⟨_, e1, q _ _ _ h (Stay.refl _ _) c.w.bx ⟨e1, e⟩⟩
  · rename_i e
    obtain ⟨o, e1, b, c', eB, e2⟩ := c.r.at_ _ _ e
    subst e2
    exact ⟨_, e1, q _ _ _ h (Stay.refl _ _) c.w.bx ⟨b, c', eB, rfl⟩⟩
  · rename_i e
    obtain ⟨o, e1, us, x, e2, r1, r2, r3⟩ := c.r.at_ _ _ e
    subst e2
    exact ⟨_, e1, q _ _ _ h (Stay.refl _ _) c.w.bx ⟨_, us, rfl, .inr ⟨x, r1⟩, r2, r3⟩⟩
  · rename_i e
    obtain ⟨o, e1, e2, r1, r2⟩ := c.r.at_ _ _ e
    subst e2
    exact ⟨_, e1, q _ _ _ h (Stay.refl _ _) c.w.bx r2⟩
  · rename_i as ks xss e
    obtain ⟨o, e1, a, us, e2, r⟩ := c.r.at_ _ _ e
    subst e2
    exact ⟨_, e1, q _ _ _ h (Stay.refl _ _) c.w.bx ⟨e1, e⟩⟩
  · exact h.elim⟩
def pC (t : Tv) : PX := fun _ Q => Q (.v t)
instance lInt {i : Int} : LE fw (tC (.int i)) (pC (.int i)) := ⟨fun c h q => q _ _ _ h (Stay.refl _ _) c.w.bx rfl⟩
instance lStr {i : Str} : LE fw (tC (.str i)) (pC (.str i)) := ⟨fun c h q => q _ _ _ h (Stay.refl _ _) c.w.bx rfl⟩
instance lBl {i : Bool} : LE fw (tC (.bl i)) (pC (.bl i)) := ⟨fun c h q => q _ _ _ h (Stay.refl _ _) c.w.bx rfl⟩
instance lNon : LE fw (tC .non) (pC .non) := ⟨fun c h q => q _ _ _ h (Stay.refl _ _) c.w.bx rfl⟩
def pTy (n : String) : PX := fun _ Q => Q (.ty n)
instance lTy {n : String} : LE fw (tC (.ty n)) (pTy n) := ⟨fun c h q => q _ _ _ h (Stay.refl _ _) c.w.bx rfl⟩
def pCl (C : Addr) : PX := fun _ Q => Q (.cl C)
instance lCl {C : Addr} : LE fw (tC (.ref C)) (pCl C) := ⟨fun c h q => q _ _ _ h (Stay.refl _ _) c.w.bx rfl⟩
/-! ### arguments -/
def pNil : PAx := fun _ Q => Q []
def pCons (pe : PX) (pa : PAx) : PAx := fun ss Q => pe ss fun x => pa ss fun xs => Q (x :: xs)
instance lNil : LA fw tNil pNil := ⟨fun c h q => q _ _ _ h (Stay.refl _ _) c.w.bx rfl⟩
instance lCons {te : TE} {ta : TA} {pe : PX} {pa : PAx} [a : LE fw te pe] [b : LA fw ta pa] : LA fw (tCons te ta) (pCons pe pa) := ⟨fun c h q =>
  a.run c h fun x H1 v q1 s1 b1 r1 => b.run (c.go s1 b1) q1 fun xs H2 vs q2 s2 b2 r2 =>
    q _ _ _ q2 (s1.trans s2) b2 ⟨v, vs, rfl, r1.go c.w s1 s2, r2.back b1 s1⟩⟩
/-! ### operators -/
def pOp (pr : Sx → Sx → (Sx → Prop) → Prop) (pa pb : PX) : PX := fun ss Q => pa ss fun x => pb ss fun y => pr x y Q
instance lOp {r : R2} {ta tb : TE} {pa pb : PX} {pr : Sx → Sx → (Sx → Prop) → Prop} [a : LE fw ta pa] [b : LE fw tb pb] [k : LR fw r pr] : LE fw (tOp r ta tb) (pOp pr pa pb) := ⟨fun c h q =>
  a.run c h fun x H1 v q1 s1 b1 r1 => b.run (c.go s1 b1) q1 fun y H2 u q2 s2 b2 r2 =>
    k.run c ((c.go s1 b1).go s2 b2) (s1.trans s2) (r1.go c.w s1 s2) (r2.back b1 s1) q2 ⟨fun z H3 w q3 s3 b3 r3 => q _ _ _ q3 ((s1.trans s2).trans s3) b3 (r3.back b2 (s1.trans s2))⟩⟩
def pUn (pr : Sx → (Sx → Prop) → Prop) (pa : PX) : PX := fun ss Q => pa ss fun x => pr x Q
instance lUn {r : V → Hp → VK → Prop} {ta : TE} {pa : PX} {pr : Sx → (Sx → Prop) → Prop} [a : LE fw ta pa] [k : LU fw r pr] : LE fw (tUn r ta) (pUn pr pa) := ⟨fun c h q =>
  a.run c h fun x H1 v q1 s1 b1 r1 => k.run c (c.go s1 b1) s1 r1 q1 ⟨fun z H3 w q3 s3 b3 r3 => q _ _ _ q3 (s1.trans s3) b3 (r3.back b1 s1)⟩⟩
def pCB (pr : List Sx → (Sx → Prop) → Prop) (pa : PAx) : PX := fun ss Q => pa ss fun xs => pr xs Q
instance lCB {r : List V → Hp → VK → Prop} {ta : TA} {pa : PAx} {pr : List Sx → (Sx → Prop) → Prop} [a : LA fw ta pa] [k : LC fw r pr] : LE fw (tCB r ta) (pCB pr pa) := ⟨fun c h q =>
  a.run c h fun xs H1 vs q1 s1 b1 r1 => k.run c (c.go s1 b1) s1 r1 q1 ⟨fun z H3 w q3 s3 b3 r3 => q _ _ _ q3 (s1.trans s3) b3 (r3.back b1 s1)⟩⟩
def pI (f : Int → Int → Int) : Sx → Sx → (Sx → Prop) → Prop := fun x y Q => match x, y with
  | .v (.int i), .v (.int j) => Q (.v (.int (f i j)))
  | _, _ => False
def pIC (C : Int → Int → Prop) (f : Int → Int → Int) : Sx → Sx → (Sx → Prop) → Prop := fun x y Q => match x, y with
  | .v (.int i), .v (.int j) => C i j ∧ Q (.v (.int (f i j)))
  | _, _ => False
def pIB (f : Int → Int → Bool) : Sx → Sx → (Sx → Prop) → Prop := fun x y Q => match x, y with
  | .v (.int i), .v (.int j) => Q (.v (.bl (f i j)))
  | _, _ => False
instance lI {f : Int → Int → Int} : LR fw (rI0 fun i j => .int (f i j)) (pI f) := ⟨fun {B O0 O Hs Kb H0 H ss σ Q Qp x y v u} c0 c s rx ry h q => by
  unfold pI at h
  split at h
  · cases rx; cases ry
    exact ⟨_, _, rfl, rfl, q.now c.w.bx h rfl⟩
  · exact h.elim⟩
instance lIC {C : Int → Int → Prop} {f : Int → Int → Int} : LR fw (rI C fun i j => .int (f i j)) (pIC C f) := ⟨fun {B O0 O Hs Kb H0 H ss σ Q Qp x y v u} c0 c s rx ry h q => by
  unfold pIC at h
  split at h
  · cases rx; cases ry
    exact ⟨_, _, rfl, rfl, h.1, q.now c.w.bx h.2 rfl⟩
  · exact h.elim⟩
instance lIB {f : Int → Int → Bool} : LR fw (rI0 fun i j => .bl (f i j)) (pIB f) := ⟨fun {B O0 O Hs Kb H0 H ss σ Q Qp x y v u} c0 c s rx ry h q => by
  unfold pIB at h
  split at h
  · cases rx; cases ry
    exact ⟨_, _, rfl, rfl, q.now c.w.bx h rfl⟩
  · exact h.elim⟩
def pNeg : Sx → (Sx → Prop) → Prop := fun x Q => match x with
  | .v (.int i) => Q (.v (.int (-i)))
  | _ => False
instance lNeg : LU fw (rU fun i => .int (-i)) pNeg := ⟨fun {B O0 O Hs Kb H0 H ss σ Q Qp x v} c0 c s rx h q => by
  unfold pNeg at h
  split at h
  · cases rx
    exact ⟨_, rfl, q.now c.w.bx h rfl⟩
  · exact h.elim⟩
/-- == of scalars -/
def Tv.sc : Tv → Option V
  | .int i => some (.int i)
  | .str s => some (.str s)
  | .bl b => some (.bl b)
  | .non => some .non
  | _ => none
theorem Tv.sc_rep {H : Hp} {t : Tv} {v w : V} (e : t.sc = some w) (r : Rep H t v) : v = w := by
  cases t <;> cases e <;> exact r
def eqS (x y : Sx) : Option Bool := match x, y with
  | .v (.int i), .v (.int j) => some (decide (i = j))
  | .v (.str i), .v (.str j) => some (decide (i = j))
  | .v (.bl i), .v (.bl j) => some (decide (i = j))
  | .v .non, .v .non => some true
  | .v (.int _), .v .non => some false
  | .v .non, .v (.int _) => some false
  | .v (.str _), .v .non => some false
  | .v .non, .v (.str _) => some false
  | .v (.int _), .v (.str _) => some false
  | .v (.str _), .v (.int _) => some false
  | _, _ => none
def pEq (neg : Bool) : Sx → Sx → (Sx → Prop) → Prop := fun x y Q => match eqS x y with
  | some b => Q (.v (.bl (neg ^^ b)))
  | none => False
theorem eqS_ok {B : Bx} {O : List Addr} {H0 H : Hp} {ss : List Sl} {σ : L2.St} {x y : Sx} {v u : V} {b : Bool} (h : eqS x y = some b) (rx : XR B O H0 H ss σ x v) (ry : XR B O H0 H ss σ y u) : scal v u = true ∧ decide (v = u) = b := by
  unfold eqS at h
  split at h <;> cases h <;> cases rx <;> cases ry <;> exact ⟨rfl, by simp⟩
instance lEq : LR fw rEq (pEq false) := ⟨fun {B O0 O Hs Kb H0 H ss σ Q Qp x y v u} c0 c s rx ry h q => by
  unfold pEq at h
  split at h
  · rename_i b e
    obtain ⟨h1, h2⟩ := eqS_ok e rx ry
    refine ⟨h1, ?_⟩
    rw [h2]
    exact q.now c.w.bx h (by simp [Rep])
  · exact h.elim⟩
instance lNe : LR fw rNe (pEq true) := ⟨fun {B O0 O Hs Kb H0 H ss σ Q Qp x y v u} c0 c s rx ry h q => by
  unfold pEq at h
  split at h
  · rename_i b e
    obtain ⟨h1, h2⟩ := eqS_ok e rx ry
    refine ⟨h1, ?_⟩
    rw [h2]
    exact q.now c.w.bx h (by simp [Rep])
  · exact h.elim⟩
/-- is None -/
def isNonS : Sx → Option Bool
  | .v .non => some true
  | .v (.ext _) => none
  | .ty _ => none
  | .cl _ => none
  | _ => some false
def pIsN (neg : Bool) : Sx → Sx → (Sx → Prop) → Prop := fun x y Q => match y, isNonS x with
  | .v .non, some b => Q (.v (.bl (neg ^^ b)))
  | _, _ => False
theorem isNonS_ok {B : Bx} {O0 O : List Addr} {Hs Kb H0 H : Hp} {ss : List Sl} {σ : L2.St} {x : Sx} {v : V} {b : Bool} (c : Ct fw B O0 O Hs Kb H ss σ) (h : isNonS x = some b) (rx : XR B O H0 H ss σ x v) : decide (v = .non) = b := by
  cases x with
  | v t =>
    cases t with
    | ext S => cases h
    | non => cases h; cases rx; rfl
    | tup xs => cases h; obtain ⟨a, us, rfl, _⟩ := rx; rfl
    | lst xs => cases h; obtain ⟨a, us, rfl, _⟩ := rx; rfl
    | dic l ks xs => cases h; obtain ⟨a, us, rfl, _⟩ := rx; rfl
    | _ => cases h; cases rx; rfl
  | n xs => cases h; obtain ⟨a, us, rfl, _⟩ := rx; rfl
  | nd ks ts => cases h; obtain ⟨a, us, rfl, _⟩ := rx; rfl
  | o i xs =>
    cases h
    obtain ⟨h1, h2⟩ := rx
    obtain ⟨o, e1, a, us, e2, _⟩ := c.r.at_ i _ h2
    rw [h1] at e1
    cases e1
    cases e2
    rfl
  | od i ks ts =>
    cases h
    obtain ⟨h1, h2⟩ := rx
    obtain ⟨o, e1, a, us, e2, _⟩ := c.r.at_ i _ h2
    rw [h1] at e1
    cases e1
    cases e2
    rfl
  | ol i as ks xss =>
    cases h
    obtain ⟨h1, h2⟩ := rx
    obtain ⟨o, e1, a, us, e2, _⟩ := c.r.at_ i _ h2
    rw [h1] at e1
    cases e1
    cases e2
    rfl
  | b => cases h; obtain ⟨b, c', _, rfl⟩ := rx; rfl
  | ty n => cases h
  | cl C => cases h
instance lIsN : LR fw (fun x y H Q => y = .non ∧ Q (.bl (decide (x = .non))) H) (pIsN false) := ⟨fun {B O0 O Hs Kb H0 H ss σ Q Qp x y v u} c0 c s rx ry h q => by
  unfold pIsN at h
  split at h
  · rename_i b e
    refine ⟨ry, ?_⟩
    rw [isNonS_ok c e rx]
    exact q.now c.w.bx h (by simp [Rep])
  · exact h.elim⟩
instance lNotN : LR fw (fun x y H Q => y = .non ∧ Q (.bl (!decide (x = .non))) H) (pIsN true) := ⟨fun {B O0 O Hs Kb H0 H ss σ Q Qp x y v u} c0 c s rx ry h q => by
  unfold pIsN at h
  split at h
  · rename_i b e
    refine ⟨ry, ?_⟩
    rw [isNonS_ok c e rx]
    exact q.now c.w.bx h (by simp [Rep])
  · exact h.elim⟩
/-! ### sequences -/
def Sx.tq : Sx → Option (List Tv)
  | .v (.tup xs) => some xs
  | _ => none
theorem XR.tpl {B : Bx} {O : List Addr} {H0 H : Hp} {ss : List Sl} {σ : L2.St} {x : Sx} {v : V} {xs : List Tv} (e : x.tq = some xs) (h : XR B O H0 H ss σ x v) : ∃ a us, v = .ref a ∧ H a = some (.tup us) ∧ RepL (kn B O H) xs us := by
  cases x with
  | v u =>
    cases u <;> cases e
    obtain ⟨a, us, e, q, r⟩ := h
    exact ⟨a, us, e, (kn_inv q).1, r⟩
  | _ => cases e
/-- s[i] of a list, a tuple, a text -/
def pIx : Sx → Sx → (Sx → Prop) → Prop := fun x y Q => match y with
  | .v (.int i) => match x with
    | .v (.str z) => z.length ≤ 100000 ∧ ∃ c, atI z.cps.toList i = some c ∧ Q (.v (.str ⟨#[c]⟩))
    | .v (.tup xs) => ∃ t, atI xs i = some t ∧ Q (.v t)
    | .v (.lst xs) => ∃ t, atI xs i = some t ∧ Q (.v t)
    | .n xs => ∃ t, atI xs i = some t ∧ Q (.v t)
    | .o _ xs => ∃ t, atI xs i = some t ∧ Q (.v t)
    | _ => False
  | _ => False
theorem ix_inv {x y : Sx} {Q : Sx → Prop} (h : pIx x y Q) : ∃ i : Int, y = .v (.int i) ∧ ((∃ z c, x = .v (.str z) ∧ z.length ≤ 100000 ∧ atI z.cps.toList i = some c ∧ Q (.v (.str ⟨#[c]⟩))) ∨ (∃ xs t, x.tq = some xs ∧ atI xs i = some t ∧ Q (.v t)) ∨ ∃ xs t, x.sq = some xs ∧ atI xs i = some t ∧ Q (.v t)) := by
  cases y with
  | v ty =>
    cases ty with
    | int i =>
      refine ⟨_, rfl, ?_⟩
      cases x with
      | v tx =>
        cases tx with
        | str z => obtain ⟨h1, c, h2, h3⟩ := h; exact .inl ⟨_, c, rfl, h1, h2, h3⟩
        | tup xs => obtain ⟨t, h1, h2⟩ := h; exact .inr (.inl ⟨_, t, rfl, h1, h2⟩)
        | lst xs => obtain ⟨t, h1, h2⟩ := h; exact .inr (.inr ⟨_, t, rfl, h1, h2⟩)
        | _ => exact h.elim
      | n xs => obtain ⟨t, h1, h2⟩ := h; exact .inr (.inr ⟨_, t, rfl, h1, h2⟩)
      | o k xs => obtain ⟨t, h1, h2⟩ := h; exact .inr (.inr ⟨_, t, rfl, h1, h2⟩)
      | _ => exact h.elim
    | _ => exact h.elim
  | _ => exact h.elim
instance lIx {K : PySem.W.Frag} : LR fw (rIx K) pIx := ⟨fun {B O0 O Hs Kb H0 H ss σ Q Qp x y v u} c0 c s rx ry h q => by
  obtain ⟨i, rfl, h'⟩ := ix_inv h
  clear h
  cases ry
  rcases h' with ⟨z, k, rfl, h1, h2, h3⟩ | ⟨xs, t, e, h1, h2⟩ | ⟨xs, t, e, h1, h2⟩
  · cases rx
    exact .inr (.inr ⟨z, i, k, rfl, rfl, sz h1, h2, q.now c.w.bx h3 rfl⟩)
  · obtain ⟨a, us, rfl, g, r⟩ := rx.tpl e
    obtain ⟨w, e1, r1⟩ := r.at h1
    exact .inr (.inl ⟨a, us, i, w, rfl, rfl, SqT.of g, e1, q.now c.w.bx h2 r1⟩)
  · obtain ⟨a, us, rfl, g, r⟩ := rx.seq c0.w s c.r e
    obtain ⟨w, e1, r1⟩ := r.at h1
    exact .inl ⟨a, us, i, w, rfl, rfl, SqL.of g, e1, q.now c.w.bx h2 r1⟩⟩
/-- tuples and lists written out -/
def tvs : List Sx → Option (List Tv)
  | [] => some []
  | x :: xs => match x.tv, tvs xs with
    | some t, some ts => some (t :: ts)
    | _, _ => none
theorem XRL.reps {B : Bx} {O0 O : List Addr} {Hs Kb H0 H : Hp} {ss : List Sl} {σ : L2.St} (W : Wl B O0 O Hs Kb H0) (s : Stay B H0 H) : ∀ {xs : List Sx} {ts : List Tv} {vs : List V}, tvs xs = some ts → XRL B O H0 H ss σ xs vs → RepL (kn B O H) ts vs
  | [], _, _, e, h => by cases e; exact h
  | x :: xs, ts, _, e, h => by
    obtain ⟨v, r, rfl, h1, h2⟩ := h
    unfold tvs at e
    split at e
    · rename_i t ts' e1 e2
      cases e
      exact ⟨v, r, rfl, h1.rep W s e1, h2.reps W s e2⟩
    · cases e
def pTup (pa : PAx) : PX := fun ss Q => pa ss fun xs => match tvs xs with
  | some ts => ts.length ≤ 100000 ∧ Q (.v (.tup ts))
  | none => False
instance lTup {ta : TA} {pa : PAx} [a : LA fw ta pa] : LE fw (tTup ta) (pTup pa) := ⟨fun {B O0 O Hs Kb H ss σ Q Qp} c h q => a.run c h fun xs H1 vs q1 s1 b1 r1 => by
  split at q1
  · rename_i ts e
    have r := r1.reps c.w s1 e
    refine ⟨sz (by rw [r.len]; exact q1.1), fun p hp => ?_⟩
    have f : Fin B O H1 ss σ Q Qp := ⟨fun z H3 w q3 s3 b3 r3 => q _ _ _ q3 (s1.trans s3) b3 (r3.back b1 s1)⟩
    exact f.tup (c.go s1 b1) q1.2 r hp
  · exact q1.elim⟩
def pLst (pa : PAx) : PX := fun ss Q => pa ss fun xs => match tvs xs with
  | some ts => ts.length ≤ 100000 ∧ Q (.n ts)
  | none => False
instance lLst {ta : TA} {pa : PAx} [a : LA fw ta pa] : LE fw (tLst ta) (pLst pa) := ⟨fun {B O0 O Hs Kb H ss σ Q Qp} c h q => a.run c h fun xs H1 vs q1 s1 b1 r1 => by
  split at q1
  · rename_i ts e
    have r := r1.reps c.w s1 e
    refine ⟨sz (by rw [r.len]; exact q1.1), fun p hp => ?_⟩
    have f : Fin B O H1 ss σ Q Qp := ⟨fun z H3 w q3 s3 b3 r3 => q _ _ _ q3 (s1.trans s3) b3 (r3.back b1 s1)⟩
    exact f.lst (c.go s1 b1) q1.2 r hp
  · exact q1.elim⟩
/-! ### tests -/
def pTest (pe : PX) : PTx := fun ss Q => pe ss fun x => match x with
  | .v (.bl b) => Q b
  | _ => False
instance lTest {te : TE} {pe : PX} [a : LE fw te pe] : LT fw (tTest te) (pTest pe) := ⟨fun {B O0 O Hs Kb H ss σ Q Qp} c h q => a.run c h fun x H1 v q1 s1 b1 r1 => by
  split at q1
  · exact ⟨_, r1, q _ _ q1 s1 b1⟩
  · exact q1.elim⟩
instance lB {te : TE} {pe : PX} [a : LE fw te pe] : LT fw (tB te) (pTest pe) := ⟨fun {B O0 O Hs Kb H ss σ Q Qp} c h q => a.run c h fun x H1 v q1 s1 b1 r1 => by
  split at q1
  · exact ⟨_, r1, q _ _ q1 s1 b1⟩
  · exact q1.elim⟩
def pAnd (p1 p2 : PTx) : PTx := fun ss Q => p1 ss fun c => if c = true then p2 ss Q else Q false
def pOr (p1 p2 : PTx) : PTx := fun ss Q => p1 ss fun c => if c = true then Q true else p2 ss Q
def pNot (p1 : PTx) : PTx := fun ss Q => p1 ss fun c => Q (!c)
instance lAnd {t1 t2 : TT} {p1 p2 : PTx} [a : LT fw t1 p1] [b : LT fw t2 p2] : LT fw (tAnd t1 t2) (pAnd p1 p2) := ⟨fun {B O0 O Hs Kb H ss σ Q Qp} c h q => a.run c h fun k H1 q1 s1 b1 => by
  split at q1
  · rename_i e
    rw [if_pos e]
    exact b.run (c.go s1 b1) q1 fun k' H2 q2 s2 b2 => q _ _ q2 (s1.trans s2) b2
  · rename_i e
    rw [if_neg e]
    exact q _ _ q1 s1 b1⟩
instance lOr {t1 t2 : TT} {p1 p2 : PTx} [a : LT fw t1 p1] [b : LT fw t2 p2] : LT fw (tOr t1 t2) (pOr p1 p2) := ⟨fun {B O0 O Hs Kb H ss σ Q Qp} c h q => a.run c h fun k H1 q1 s1 b1 => by
  split at q1
  · rename_i e
    rw [if_pos e]
    exact q _ _ q1 s1 b1
  · rename_i e
    rw [if_neg e]
    exact b.run (c.go s1 b1) q1 fun k' H2 q2 s2 b2 => q _ _ q2 (s1.trans s2) b2⟩
instance lNot {t1 : TT} {p1 : PTx} [a : LT fw t1 p1] : LT fw (tNot t1) (pNot p1) := ⟨fun {B O0 O Hs Kb H ss σ Q Qp} c h q => a.run c h fun k H1 q1 s1 b1 => q _ _ q1 s1 b1⟩
def pAndV (p1 p2 : PX) : PX := fun ss Q => p1 ss fun x => match x with
  | .v (.bl c) => if c = true then p2 ss Q else Q (.v (.bl false))
  | _ => False
def pOrV (p1 p2 : PX) : PX := fun ss Q => p1 ss fun x => match x with
  | .v (.bl c) => if c = true then Q (.v (.bl true)) else p2 ss Q
  | _ => False
def pNotV (p1 : PX) : PX := fun ss Q => p1 ss fun x => match x with
  | .v (.bl c) => Q (.v (.bl (!c)))
  | _ => False
instance lAndV {t1 t2 : TE} {p1 p2 : PX} [a : LE fw t1 p1] [b : LE fw t2 p2] : LE fw (tAndV t1 t2) (pAndV p1 p2) := ⟨fun {B O0 O Hs Kb H ss σ Q Qp} c h q => a.run c h fun k H1 v q1 s1 b1 r1 => by
  split at q1
  · refine ⟨_, r1, ?_⟩
    split at q1
    · rename_i e
      rw [if_pos e]
      exact b.run (c.go s1 b1) q1 fun k' H2 w q2 s2 b2 r2 => q _ _ _ q2 (s1.trans s2) b2 (r2.back b1 s1)
    · rename_i e
      rw [if_neg e]
      exact q _ _ _ q1 s1 b1 rfl
  · exact q1.elim⟩
instance lOrV {t1 t2 : TE} {p1 p2 : PX} [a : LE fw t1 p1] [b : LE fw t2 p2] : LE fw (tOrV t1 t2) (pOrV p1 p2) := ⟨fun {B O0 O Hs Kb H ss σ Q Qp} c h q => a.run c h fun k H1 v q1 s1 b1 r1 => by
  split at q1
  · refine ⟨_, r1, ?_⟩
    split at q1
    · rename_i e
      rw [if_pos e]
      exact q _ _ _ q1 s1 b1 rfl
    · rename_i e
      rw [if_neg e]
      exact b.run (c.go s1 b1) q1 fun k' H2 w q2 s2 b2 r2 => q _ _ _ q2 (s1.trans s2) b2 (r2.back b1 s1)
  · exact q1.elim⟩
instance lNotV {t1 : TE} {p1 : PX} [a : LE fw t1 p1] : LE fw (tNotV t1) (pNotV p1) := ⟨fun {B O0 O Hs Kb H ss σ Q Qp} c h q => a.run c h fun k H1 v q1 s1 b1 r1 => by
  split at q1
  · exact ⟨_, r1, q _ _ _ q1 s1 b1 rfl⟩
  · exact q1.elim⟩
def pIf (pt : PTx) (p1 p2 : PX) : PX := fun ss Q => pt ss fun c => if c = true then p1 ss Q else p2 ss Q
instance lIf {tt : TT} {t1 t2 : TE} {pt : PTx} {p1 p2 : PX} [k : LT fw tt pt] [a : LE fw t1 p1] [b : LE fw t2 p2] : LE fw (tIf tt t1 t2) (pIf pt p1 p2) := ⟨fun {B O0 O Hs Kb H ss σ Q Qp} c h q => k.run c h fun x H1 q1 s1 b1 => by
  split at q1
  · rename_i e
    rw [if_pos e]
    exact a.run (c.go s1 b1) q1 fun k' H2 w q2 s2 b2 r2 => q _ _ _ q2 (s1.trans s2) b2 (r2.back b1 s1)
  · rename_i e
    rw [if_neg e]
    exact b.run (c.go s1 b1) q1 fun k' H2 w q2 s2 b2 r2 => q _ _ _ q2 (s1.trans s2) b2 (r2.back b1 s1)⟩
def pChain (pr pr' : Sx → Sx → (Sx → Prop) → Prop) (pa pb pc : PX) : PX := fun ss Q => pa ss fun x => pb ss fun y => pr x y fun z => match z with
  | .v (.bl k) => if k = true then pc ss fun w => pr' y w Q else Q (.v (.bl false))
  | _ => False
instance lChain {r r' : R2} {ta tb tc : TE} {pa pb pc : PX} {pr pr' : Sx → Sx → (Sx → Prop) → Prop} [a : LE fw ta pa] [b : LE fw tb pb] [d : LE fw tc pc] [k : LR fw r pr] [k' : LR fw r' pr'] : LE fw (tChain r r' ta tb tc) (pChain pr pr' pa pb pc) := ⟨fun {B O0 O Hs Kb H ss σ Q Qp} c h q =>
  a.run c h fun x H1 v q1 s1 b1 r1 => b.run (c.go s1 b1) q1 fun y H2 u q2 s2 b2 r2 => by
    have s12 := s1.trans s2
    have c2 := (c.go s1 b1).go s2 b2
    refine k.run c c2 s12 (r1.go c.w s1 s2) (r2.back b1 s1) q2 ⟨fun z H3 w q3 s3 b3 r3 => ?_⟩
    split at q3
    · refine ⟨_, r3, ?_⟩
      have c3 := c2.go s3 b3
      split at q3
      · rename_i e
        rw [if_pos e]
        refine d.run c3 q3 fun z' H4 w' q4 s4 b4 r4 => ?_
        exact k'.run c (c3.go s4 b4) ((s12.trans s3).trans s4) (((r2.back b1 s1).go c.w s12 s3).go c.w (s12.trans s3) s4) (r4.back b3 (s12.trans s3)) q4 ⟨fun z5 H5 w5 q5 s5 b5 r5 => q _ _ _ q5 (((s12.trans s3).trans s4).trans s5) b5 (r5.back b4 ((s12.trans s3).trans s4))⟩
      · rename_i e
        rw [if_neg e]
        exact q _ _ _ q3 (s12.trans s3) b3 rfl
    · exact q3.elim⟩
end Pl

set_option Elab.async false
set_option linter.all false
set_option maxRecDepth 100000
set_option maxHeartbeats 4000000
/-! The pure layer: statements. -/
namespace Pl
open PySem L2
variable {fw tp : Bool}
structure PEnds where
  nx : List Sl → Prop
  rt : Tv → Prop
  bk : List Sl → Prop := fun _ => False
  ct : List Sl → Prop := fun _ => False
structure Lk (B : Bx) (O0 : List Addr) (Hs Kb : Hp) (Dp : PEnds) (D : Ends) : Prop where
  nx : ∀ O H σ ss, Dp.nx ss → Ct false B O0 O Hs Kb H ss σ → D.nx σ H
  bk : ∀ O H σ ss, Dp.bk ss → Ct false B O0 O Hs Kb H ss σ → D.bk σ H
  ct : ∀ O H σ ss, Dp.ct ss → Ct false B O0 O Hs Kb H ss σ → D.ct σ H
  rt : ∀ O H t v, Dp.rt t → Wl B O0 O Hs Kb H → Rep (kn B O0 H) t v → D.rt v H
/-- keeps a simplifier out of the program's text -/
structure Ph (ts : TS) (Dp : PEnds) : Type where
/-- a statement does what is wanted, from slots like these -/
def Sim (tp : Bool) (ts : TS) (Dp : PEnds) (ss : List Sl) (_ : Ph ts Dp := ⟨⟩) : Prop := ∀ (B : Bx) (O0 O : List Addr) (Hs Kb H : Hp) (σ : L2.St) (D : Ends), (tp = true → O0 = []) → Ct false B O0 O Hs Kb H ss σ → Lk B O0 Hs Kb Dp D → ts D σ H
theorem s_seq {t u : TS} {Dp : PEnds} {ss : List Sl} (h : Sim tp t { Dp with nx := fun s => Sim tp u Dp s } ss) : Sim tp (tSeq t u) Dp ss := fun B O0 O Hs Kb H σ D htp c l =>
  h B O0 O Hs Kb H σ _ htp c ⟨fun O H σ ss k c => k B O0 O Hs Kb H σ D htp c l, l.bk, l.ct, l.rt⟩
theorem s_cut {t u : TS} {Dp : PEnds} {ss : List Sl} (Mid : List Sl → Prop) (h : Sim tp t { Dp with nx := Mid } ss) (k : ∀ s, Mid s → Sim tp u Dp s) : Sim tp (Evl.tCut t u) Dp ss := fun B O0 O Hs Kb H σ D htp c l =>
  ⟨fun σ' H' => ∃ O s, Mid s ∧ Ct false B O0 O Hs Kb H' s σ', h B O0 O Hs Kb H σ _ htp c ⟨fun O H σ ss k c => ⟨O, ss, k, c⟩, l.bk, l.ct, l.rt⟩, fun σ' H' ⟨O, s, m, c⟩ => k s m B O0 O Hs Kb H' σ' D htp c l⟩
theorem s_mid {t : TS} {Dp : PEnds} {ss : List Sl} (Mid : List Sl → Prop) (h : Sim tp t { Dp with nx := Mid } ss) (k : ∀ s, Mid s → Dp.nx s) : Sim tp t Dp ss := fun B O0 O Hs Kb H σ D htp c l =>
  h B O0 O Hs Kb H σ D htp c ⟨fun O H σ ss m c => l.nx O H σ ss (k ss m) c, l.bk, l.ct, l.rt⟩
theorem s_next {Dp : PEnds} {ss : List Sl} (h : Dp.nx ss) : Sim tp tNext Dp ss := fun B O0 O Hs Kb H σ D htp c l => l.nx _ _ _ _ h c
theorem s_break {Dp : PEnds} {ss : List Sl} (h : Dp.bk ss) : Sim tp tBreak Dp ss := fun B O0 O Hs Kb H σ D htp c l => l.bk _ _ _ _ h c
theorem s_cont {Dp : PEnds} {ss : List Sl} (h : Dp.ct ss) : Sim tp tCont Dp ss := fun B O0 O Hs Kb H σ D htp c l => l.ct _ _ _ _ h c
theorem s_if {c : TT} {t u : TS} {pt : PTx} [k : LT false c pt] {Dp : PEnds} {ss : List Sl} (h : pt ss fun b => if b = true then Sim tp t Dp ss else Sim tp u Dp ss) : Sim tp (tIfS c t u) Dp ss := fun B O0 O Hs Kb H σ D htp ct l =>
  k.run ct h fun b H' q s b1 => by
    split at q
    · rename_i e
      rw [if_pos e]
      exact q B O0 O Hs Kb H' σ D htp (ct.go s b1) l
    · rename_i e
      rw [if_neg e]
      exact q B O0 O Hs Kb H' σ D htp (ct.go s b1) l
theorem s_drop {te : TE} {pe : PX} [k : LE false te pe] {Dp : PEnds} {ss : List Sl} (h : pe ss fun _ => Dp.nx ss) : Sim tp (tDrop te) Dp ss := fun B O0 O Hs Kb H σ D htp c l =>
  k.run c h fun x H' v q s b r => l.nx _ _ _ _ q (c.go s b)
/-! ### slots written -/
theorem Rels.set {B : Bx} {O : List Addr} {Hs H : Hp} {ss : List Sl} {σ : L2.St} (R : Rels B O Hs H ss σ) (i : Nat) {s : Sl} {o : Option V} (k : SlOk B O Hs H s o)
    (d : s.isOwn = true → ∀ (j : Nat) t a, i ≠ j → ss[j]? = some t → o = some (.ref a) → (t.isOwn = true → σ[j]? ≠ some (some (.ref a))) ∧ a ∉ t.ads) (d2 : s.ads = [] := by rfl) : Rels B O Hs H (ss.set i s) (σ.set i o) := by
  refine ⟨by rw [List.length_set, List.length_set]; exact R.len, fun j t e => ?_, fun j m t u a hne e1 e2 o1 o2 h1 h2 => ?_, fun j m t u a hne e1 e2 hm => ?_⟩
  · by_cases h : i = j
    · subst h
      by_cases hl : i < ss.length
      · rw [List.getElem?_set_self hl] at e
        cases e
        exact ⟨o, List.getElem?_set_self (by rw [← R.len]; exact hl), k⟩
      · rw [List.getElem?_eq_none (by rw [List.length_set]; omega)] at e
        cases e
    · rw [List.getElem?_set_ne h] at e ⊢
      exact R.at_ j t e
  · by_cases hj : i = j
    · subst hj
      have hl : i < ss.length := by
        have := (List.getElem?_eq_some_iff.mp e1).1
        rwa [List.length_set] at this
      rw [List.getElem?_set_self hl] at e1
      rw [List.getElem?_set_self (by rw [← R.len]; exact hl)] at h1
      rw [List.getElem?_set_ne hne] at e2 h2
      cases e1
      exact (d o1 m u a hne e2 (Option.some.inj h1)).1 o2 h2
    · by_cases hm : i = m
      · subst hm
        have hl : i < ss.length := by
          have := (List.getElem?_eq_some_iff.mp e2).1
          rwa [List.length_set] at this
        rw [List.getElem?_set_self hl] at e2
        rw [List.getElem?_set_self (by rw [← R.len]; exact hl)] at h2
        rw [List.getElem?_set_ne hj] at e1 h1
        cases e2
        exact (d o2 j t a hj e1 (Option.some.inj h2)).1 o1 h1
      · rw [List.getElem?_set_ne hj] at e1 h1
        rw [List.getElem?_set_ne hm] at e2 h2
        exact R.dis j m t u a hne e1 e2 o1 o2 h1 h2
  · by_cases hj : i = j
    · subst hj
      have hl : i < ss.length := by
        have := (List.getElem?_eq_some_iff.mp e1).1
        rwa [List.length_set] at this
      rw [List.getElem?_set_self hl] at e1
      cases e1
      rw [d2] at hm
      cases hm
    · rw [List.getElem?_set_ne hj] at e1
      by_cases hq : i = m
      · subst hq
        have hl : i < ss.length := by
          have := (List.getElem?_eq_some_iff.mp e2).1
          rwa [List.length_set] at this
        rw [List.getElem?_set_self hl] at e2
        rw [List.getElem?_set_self (by rw [← R.len]; exact hl)]
        cases e2
        exact ⟨fun o1 z => (d o1 j t a hj e1 (Option.some.inj z)).2 hm, by rw [d2]; exact fun z => nomatch z⟩
      · rw [List.getElem?_set_ne hq] at e2 ⊢
        exact R.din j m t u a hne e1 e2 hm
def Sx.sl : Sx → Option Sl
  | .v t => some (.val t)
  | .n xs => some (.own xs)
  | .nd ks ts => some (.owd ks ts)
  | .b => some .box
  | _ => none
section
variable {B : Bx} {O0 O : List Addr} {Hs Kb H H1 H2 : Hp} {ss : List Sl} {σ : L2.St}
/-- a new object is hidden from now on -/
theorem Ct.own (c : Ct fw B O0 O Hs Kb H ss σ) (s : Stay B H H1) (b : BxOk B H1) {a : Addr} {o : HO} (ha : H a = none) (ho : H1 a = some o) (hl : LD o := by first | exact .inl ⟨_, rfl⟩ | exact .inr (.inl ⟨_, rfl⟩)) : Wl B O0 (a :: O) Hs Kb H1 ∧ Rels B (a :: O) Hs H1 ss σ ∧ Hs a = none ∧ ∀ (j : Nat) t, ss[j]? = some t → (t.isOwn = true → σ[j]? ≠ some (some (.ref a))) ∧ a ∉ t.ads := by
  have ho2 : ∀ a' ∈ a :: O, a' ∈ O ∨ H a' = none := fun a' h => by
    rcases List.mem_cons.mp h with rfl | h
    · exact .inr ha
    · exact .inl h
  have hs : Hs a = none := c.w.hh.free c.w.bx ha
  have nb := c.w.bx.nin ha
  refine ⟨⟨c.w.kb.trans (kn_sm s ho2), c.w.hh.trans s, b, c.w.bs, fun x h => List.mem_cons_of_mem _ (c.w.o0 x h), c.w.s0, fun x h => ?_, fun x h => ?_, fun x h => ?_, fun x h o' e' => ?_, (c.w.go s b).tb⟩, c.r.go c.w.ob s (fun x h => List.mem_cons_of_mem _ h) ho2, hs, fun j t e => ⟨fun o e1 => ?_, fun hm => ?_⟩⟩
  · rcases List.mem_cons.mp h with rfl | h
    · exact .inr hs
    · exact c.w.on x h
  · rcases List.mem_cons.mp h with rfl | h
    · exact ⟨_, ho⟩
    · obtain ⟨u, e⟩ := c.w.st x h
      exact ⟨u, s x u e (c.w.ob x h)⟩
  · rcases List.mem_cons.mp h with rfl | h
    · exact nb
    · exact c.w.ob x h
  · rcases List.mem_cons.mp h with rfl | h
    · rw [ho] at e'; cases e'; exact hl
    · exact (c.w.go s b).ld x h o' e'
  · obtain ⟨u, e2, k⟩ := c.r.at_ j t e
    rw [e1] at e2
    cases e2
    cases t with
    | own xs => obtain ⟨a', us, e, m, n, q, _⟩ := k; cases e; rw [ha] at q; cases q
    | owd ks ts => obtain ⟨a', us, e, m, n, q, _⟩ := k; cases e; rw [ha] at q; cases q
    | odl as ks ts => obtain ⟨a', us, e, m, n, q, _⟩ := k; cases e; rw [ha] at q; cases q
    | gx G =>
      obtain ⟨u, e⟩ := c.w.st a (k.1 a (G.hd k.2)).1
      rw [ha] at e
      cases e
    | _ => cases o
  · obtain ⟨u, e2, k⟩ := c.r.at_ j t e
    cases t with
    | odl as ks ts =>
      obtain ⟨a', us, e, m, n, q, _, _, w⟩ := k
      obtain ⟨_, _, ws, z⟩ := w.mem hm
      rw [ha] at z
      cases z
    | gx G =>
      obtain ⟨u, e⟩ := c.w.st a (k.1 a hm).1
      rw [ha] at e
      cases e
    | _ => cases hm
theorem Ct.put (c : Ct fw B O0 O Hs Kb H ss σ) (s : Stay B H H1) (b : BxOk B H1) {x : Sx} {v : V} {sl : Sl} (r : XR B O H H1 ss σ x v) (e : x.sl = some sl) (i : Nat) : ∃ O', Ct false B O0 O' Hs Kb H1 (ss.set i sl) (σ.set i (some v)) := by
  cases x with
  | v t =>
    cases e
    have c1 := c.go s b
    exact ⟨O, c1.w, c1.r.set i (s := .val t) ⟨v, rfl, r⟩ (fun h => nomatch h), (fun h => nomatch h)⟩
  | n xs =>
    cases e
    obtain ⟨a, us, rfl, ha, h1, r⟩ := r
    obtain ⟨w, rr, hs, nd⟩ := c.own s b ha h1
    exact ⟨a :: O, w, rr.set i (s := .own xs) ⟨a, us, rfl, List.mem_cons_self, hs, h1, r⟩ (fun _ j t a' _ e1 e2 => by cases e2; exact nd j t e1), (fun h => nomatch h)⟩
  | nd ks ts =>
    cases e
    obtain ⟨a, us, rfl, ha, h1, k, r⟩ := r
    obtain ⟨w, rr, hs, nd⟩ := c.own s b ha h1
    exact ⟨a :: O, w, rr.set i (s := .owd ks ts) ⟨a, us, rfl, List.mem_cons_self, hs, h1, k, r⟩ (fun _ j t a' _ e1 e2 => by cases e2; exact nd j t e1), (fun h => nomatch h)⟩
  | b =>
    cases e
    obtain ⟨p, q, e1, rfl⟩ := r
    have c1 := c.go s b
    exact ⟨O, c1.w, c1.r.set i (s := .box) ⟨p, q, e1, rfl⟩ (fun h => nomatch h), (fun h => nomatch h)⟩
  | _ => cases e
end
theorem s_set {i : Nat} {te : TE} {pe : PX} [k : LE false te pe] {Dp : PEnds} {ss : List Sl} (h : pe ss fun x => match x.sl with | some s => Dp.nx (ss.set i s) | none => False) : Sim tp (tAsg te (gName i)) Dp ss := fun B O0 O Hs Kb H σ D htp c l =>
  k.run c h fun x H' v q s b r => by
    split at q
    · rename_i sl e
      obtain ⟨O', c'⟩ := c.put s b r e i
      exact l.nx _ _ _ _ q c'
    · exact q.elim
/-! ### targets -/
abbrev PGx := Tv → List Sl → (List Sl → Prop) → Prop
class LG (fw : Bool) (g : TG) (pg : outParam PGx) (ix : outParam (List Nat)) : Prop where
  run : ∀ {B : Bx} {O0 O : List Addr} {Hs Kb H : Hp} {ss : List Sl} {σ : L2.St} {Q : L2.St → Hp → Prop} {Qp : List Sl → Prop} {t : Tv} {v : V}, Ct fw B O0 O Hs Kb H ss σ → Rep (kn B O H) t v → pg t ss Qp →
    (∀ ss' σ', Qp ss' → Ct fw B O0 O Hs Kb H ss' σ' → (∀ vs : List Nat, (∀ i ∈ ix, i ∈ vs) → wipe σ' vs = wipe σ vs) → Q σ' H) → g v σ H Q
class LGs (fw : Bool) (g : TGs) (pg : outParam (List Tv → List Sl → (List Sl → Prop) → Prop)) (ix : outParam (List Nat)) : Prop where
  run : ∀ {B : Bx} {O0 O : List Addr} {Hs Kb H : Hp} {ss : List Sl} {σ : L2.St} {Q : L2.St → Hp → Prop} {Qp : List Sl → Prop} {ts : List Tv} {vs : List V}, Ct fw B O0 O Hs Kb H ss σ → RepL (kn B O H) ts vs → pg ts ss Qp →
    (∀ ss' σ', Qp ss' → Ct fw B O0 O Hs Kb H ss' σ' → (∀ vs : List Nat, (∀ i ∈ ix, i ∈ vs) → wipe σ' vs = wipe σ vs) → Q σ' H) → g vs σ H Q
theorem wipe_get (σ : L2.St) (j : Nat) : ∀ vs : List Nat, (wipe σ vs)[j]? = if j ∈ vs then (if j < σ.length then some none else none) else σ[j]?
  | [] => by simp [wipe]
  | v :: vs => by
    unfold wipe
    by_cases h : v = j
    · subst h
      rw [if_pos List.mem_cons_self]
      by_cases hl : v < σ.length
      · rw [List.getElem?_set_self (by rw [wipe_length]; exact hl), if_pos hl]
      · rw [List.getElem?_eq_none (by rw [List.length_set, wipe_length]; omega), if_neg hl]
    · rw [List.getElem?_set_ne h, wipe_get σ j vs]
      simp only [List.mem_cons, show (j = v) = False from by simp [Ne.symm h], false_or]
theorem wipe_set {σ : L2.St} {i : Nat} {o : Option V} {vs : List Nat} (h : i ∈ vs) : wipe (σ.set i o) vs = wipe σ vs := by
  apply List.ext_getElem?
  intro j
  rw [wipe_get, wipe_get, List.length_set]
  by_cases hj : j ∈ vs
  · rw [if_pos hj, if_pos hj]
  · rw [if_neg hj, if_neg hj]
    exact List.getElem?_set_ne (fun e => hj (by rw [← e]; exact h))
def pgName (i : Nat) : PGx := fun t ss Q => Q (ss.set i (.val t))
instance lgName {i : Nat} : LG fw (gName i) (pgName i) [i] := ⟨fun {B O0 O Hs Kb H ss σ Q Qp t v} c r h q =>
  q _ _ h ⟨c.w, c.r.set i (s := .val t) ⟨v, rfl, r⟩ (fun h => nomatch h), c.fl⟩ fun vs hv => wipe_set (hv i List.mem_cons_self)⟩
def pgNil : List Tv → List Sl → (List Sl → Prop) → Prop := fun ts ss Q => ts = [] ∧ Q ss
def pgCons (pg : PGx) (pgs : List Tv → List Sl → (List Sl → Prop) → Prop) : List Tv → List Sl → (List Sl → Prop) → Prop := fun ts ss Q => match ts with
  | t :: r => pg t ss fun s2 => pgs r s2 Q
  | [] => False
instance lgNil : LGs fw gNil pgNil [] := ⟨fun {B O0 O Hs Kb H ss σ Q Qp ts vs} c r h q => by
  obtain ⟨rfl, h⟩ := h
  exact ⟨r, q _ _ h c fun _ _ => rfl⟩⟩
instance lgCons {g : TG} {gs : TGs} {pg : PGx} {pgs : List Tv → List Sl → (List Sl → Prop) → Prop} {ix iy : List Nat} [a : LG fw g pg ix] [b : LGs fw gs pgs iy] : LGs fw (gCons g gs) (pgCons pg pgs) (ix ++ iy) := ⟨fun {B O0 O Hs Kb H ss σ Q Qp ts vs} c r h q => by
  cases ts with
  | nil => exact h.elim
  | cons t ts =>
    obtain ⟨v, w, rfl, r1, r2⟩ := r
    exact ⟨v, w, rfl, a.run c r1 h fun s1 σ1 h1 c1 w1 => b.run c1 r2 h1 fun s2 σ2 h2 c2 w2 => q _ _ h2 c2 fun vs hv => (w2 vs fun i hi => hv i (List.mem_append_right _ hi)).trans (w1 vs fun i hi => hv i (List.mem_append_left _ hi))⟩⟩
def pgTup (n : Nat) (pgs : List Tv → List Sl → (List Sl → Prop) → Prop) : PGx := fun t ss Q => match t with
  | .tup xs => xs.length = n ∧ pgs xs ss Q
  | _ => False
instance lgTup {K : PySem.W.Frag} {n : Nat} {gs : TGs} {pgs : List Tv → List Sl → (List Sl → Prop) → Prop} {ix : List Nat} [a : LGs fw gs pgs ix] : LG fw (gTup K n gs) (pgTup n pgs) ix := ⟨fun {B O0 O Hs Kb H ss σ Q Qp t v} c r h q => by
  cases t with
  | tup xs =>
    obtain ⟨p, us, rfl, h1, r1⟩ := r
    exact ⟨p, us, rfl, SqT.of (kn_inv h1).1, by rw [r1.len]; exact h.1, a.run c r1 h.2 q⟩
  | _ => exact h.elim⟩
theorem s_asg {g : TG} {pg : PGx} {ix : List Nat} {te : TE} {pe : PX} [k : LE false te pe] [m : LG false g pg ix] {Dp : PEnds} {ss : List Sl} (h : pe ss fun x => match x.tv with | some t => pg t ss Dp.nx | none => False) : Sim tp (tAsg te g) Dp ss := fun B O0 O Hs Kb H σ D htp c l =>
  k.run c h fun x H' v q s b r => by
    split at q
    · rename_i t e
      exact m.run (c.go s b) (r.rep c.w s e) q fun ss' σ' q' c' _ => l.nx _ _ _ _ q' c'
    · exact q.elim
/-! ### return -/
def Sx.rt : Sx → Option Tv
  | .o _ xs => some (.lst xs)
  | .od _ ks ts => some (.dic false ks ts)
  | x => x.tv
theorem XR.ret {B : Bx} {O0 O : List Addr} {Hs Kb H0 H : Hp} {ss : List Sl} {σ : L2.St} {x : Sx} {v : V} {t : Tv} (c : Ct fw B O0 O Hs Kb H0 ss σ) (s : Stay B H0 H) (b : BxOk B H) (e : x.rt = some t) (h : XR B O H0 H ss σ x v) : Rep (kn B O0 H) t v := by
  have c1 := c.go s b
  cases x with
  | o i xs =>
    cases e
    obtain ⟨h1, h2⟩ := h
    obtain ⟨o, e1, a, us, e2, m, n, q, r⟩ := c1.r.at_ i _ h2
    rw [h1] at e1
    cases e1
    cases e2
    refine ⟨a, us, rfl, ?_, r.mono (kn_less c1.w.o0)⟩
    exact kn_at (fun hm => by obtain ⟨o, e⟩ := c1.w.s0 a hm; rw [n] at e; cases e) (c1.w.ob a m) q
  | od i ks ts =>
    cases e
    obtain ⟨h1, h2⟩ := h
    obtain ⟨o, e1, a, us, e2, m, n, q, k, r⟩ := c1.r.at_ i _ h2
    rw [h1] at e1
    cases e1
    cases e2
    refine ⟨a, us, rfl, ?_, k, r.mono (kn_less c1.w.o0)⟩
    show kn B O0 H a = _
    exact kn_at (fun hm => by obtain ⟨o, e⟩ := c1.w.s0 a hm; rw [n] at e; cases e) (c1.w.ob a m) q
  | v u => exact (XR.rep (x := .v u) c.w s e h).mono (kn_less c1.w.o0)
  | n xs => exact (XR.rep (x := .n xs) c.w s e h).mono (kn_less c1.w.o0)
  | nd ks ts => exact (XR.rep (x := .nd ks ts) c.w s e h).mono (kn_less c1.w.o0)
  | _ => cases e
theorem s_ret {te : TE} {pe : PX} [k : LE false te pe] {Dp : PEnds} {ss : List Sl} (h : pe ss fun x => match x.rt with | some t => Dp.rt t | none => False) : Sim tp (tRet te) Dp ss := fun B O0 O Hs Kb H σ D htp c l =>
  k.run c h fun x H' v q s b r => by
    split at q
    · rename_i t e
      exact l.rt _ _ _ _ q (c.go s b).w (r.ret c s b e)
    · exact q.elim
theorem s_retN {Dp : PEnds} {ss : List Sl} (h : Dp.rt .non) : Sim tp tRetN Dp ss := fun B O0 O Hs Kb H σ D htp c l => l.rt _ _ .non _ h c.w rfl
/-! ### freezing -/
theorem SlOk.less {B : Bx} {O O' : List Addr} {Hs H : Hp} {s : Sl} {o : Option V} (h : SlOk B O Hs H s o) (k : ∀ a ∈ O', a ∈ O) (h1 : ∀ a, a ∈ O → s.isOwn = true → o = some (.ref a) → a ∈ O') (h2 : ∀ a ∈ s.ads, a ∈ O → a ∈ O') : SlOk B O' Hs H s o := by
  have kk := kn_less (B := B) (H := H) k
  cases s with
  | any => trivial
  | val t => obtain ⟨v, e, r⟩ := h; exact ⟨v, e, r.mono kk⟩
  | own ys => obtain ⟨a, us, e, m, n, q, r⟩ := h; exact ⟨a, us, e, h1 a m rfl e, n, q, r.mono kk⟩
  | owd ks ys => obtain ⟨a, us, e, m, n, q, k', r⟩ := h; exact ⟨a, us, e, h1 a m rfl e, n, q, k', r.mono kk⟩
  | box => exact h
  | lkd d ks ts => obtain ⟨us, x, e, q, kk', r⟩ := h; exact ⟨us, x, e, kk _ _ q, kk', r.mono kk⟩
  | pvd K v t => exact ⟨h.1, h.2.1, h.2.2.mono kk⟩
  | tab P q => exact h
  | odl as ks xss =>
    obtain ⟨a, us, e, m, n, q, k1, k2, w⟩ := h
    exact ⟨a, us, e, h1 a m rfl e, n, q, k1, k2, w.of fun b xs hb mb nb ws hw r => ⟨h2 b hb mb, nb, ws, hw, r.mono kk⟩⟩
  | gx G => exact ⟨fun a ha => ⟨h2 a ha (h.1 a ha).1, (h.1 a ha).2⟩, G.mono (Sm.of kk) (fun _ _ _ e => e) h.2⟩
/-- an own thing is given free -/
theorem Ct.free {B : Bx} {O0 O : List Addr} {Hs Kb H : Hp} {ss : List Sl} {σ : L2.St} (c : Ct fw B O0 O Hs Kb H ss σ) {i : Nat} {s : Sl} {a : Addr} (e : ss[i]? = some s) (io : s.isOwn = true) (e1 : σ[i]? = some (some (.ref a))) (hr : ∀ x ∈ a :: s.ads, x ∈ O ∧ Hs x = none) {t : Tv}
    (r : ∀ O', (∀ x ∈ O', x ∈ O) → (∀ x ∈ a :: s.ads, x ∉ O') → Rep (kn B O' H) t (.ref a)) : ∃ O', Ct fw B O0 O' Hs Kb H (ss.set i (.val t)) σ := by
  have hO : ∀ x ∈ O.filter (fun x => decide (x ∉ a :: s.ads)), x ∈ O := fun x h => (List.mem_filter.mp h).1
  have hn : ∀ x ∈ a :: s.ads, x ∉ O.filter (fun x => decide (x ∉ a :: s.ads)) := fun x h z => by
    have := (List.mem_filter.mp z).2
    exact of_decide_eq_true this h
  have kk := kn_less (B := B) (H := H) hO
  refine ⟨_, ⟨c.w.kb.trans kk, c.w.hh, c.w.bx, c.w.bs, fun x hx => List.mem_filter.mpr ⟨c.w.o0 x hx, decide_eq_true fun z => ?_⟩, c.w.s0, fun x hx => c.w.on x (hO x hx), fun x hx => c.w.st x (hO x hx), fun x hx => c.w.ob x (hO x hx), fun x hx => c.w.ld x (hO x hx), c.w.tb⟩, c.r.sub (by rw [List.length_set]; exact c.r.len) (fun j t' ej => ?_) (fun j t' ej oj => ?_), fun h => by
    obtain ⟨z1, z2⟩ := c.fl h
    exact ⟨z1, by rw [z2]; rfl⟩⟩
  · obtain ⟨o, e⟩ := c.w.s0 x hx
    rw [(hr x z).2] at e
    cases e
  · by_cases hj : i = j
    · subst hj
      rw [List.getElem?_set_self (List.getElem?_eq_some_iff.mp e).1] at ej
      cases ej
      exact ⟨_, e1, _, rfl, r _ hO hn⟩
    · rw [List.getElem?_set_ne hj] at ej
      obtain ⟨o, e2, k⟩ := c.r.at_ j t' ej
      refine ⟨o, e2, k.less hO (fun x hx ox z => List.mem_filter.mpr ⟨hx, decide_eq_true fun w => ?_⟩) fun x hx ox => List.mem_filter.mpr ⟨ox, decide_eq_true fun w => ?_⟩⟩
      · subst z
        rcases List.mem_cons.mp w with rfl | w
        · exact c.r.dis i j s t' x hj e ej io ox e1 e2
        · exact (c.r.din i j s t' x hj e ej w).1 ox e2
      · rcases List.mem_cons.mp w with rfl | w
        · exact (c.r.din j i t' s x (Ne.symm hj) ej e hx).1 io e1
        · exact (c.r.din i j s t' x hj e ej w).2 hx
  · by_cases hj : i = j
    · subst hj
      rw [List.getElem?_set_self (List.getElem?_eq_some_iff.mp e).1] at ej
      cases ej
      cases oj
    · rw [List.getElem?_set_ne hj] at ej
      exact ⟨t', ej, oj, fun _ h => h, rfl⟩
theorem Ct.fz {B : Bx} {O0 O : List Addr} {Hs Kb H : Hp} {ss : List Sl} {σ : L2.St} (c : Ct fw B O0 O Hs Kb H ss σ) {i : Nat} {xs : List Tv} (e : ss[i]? = some (.own xs)) : ∃ O', Ct fw B O0 O' Hs Kb H (ss.set i (.val (.lst xs))) σ := by
  obtain ⟨o, e1, a, us, rfl, m, n, q, r⟩ := c.r.at_ i _ e
  refine c.free e rfl e1 (fun x hx => ?_) fun O' h1 h2 => ⟨a, us, rfl, ?_, r.mono (kn_less h1)⟩
  · cases List.mem_singleton.mp hx
    exact ⟨m, n⟩
  · exact kn_at (h2 a List.mem_cons_self) (c.w.ob a m) q
theorem Ct.fzd {B : Bx} {O0 O : List Addr} {Hs Kb H : Hp} {ss : List Sl} {σ : L2.St} (c : Ct fw B O0 O Hs Kb H ss σ) {i : Nat} {ks : List Key} {xs : List Tv} (e : ss[i]? = some (.owd ks xs)) : ∃ O', Ct fw B O0 O' Hs Kb H (ss.set i (.val (.dic false ks xs))) σ := by
  obtain ⟨o, e1, a, us, rfl, m, n, q, kks, r⟩ := c.r.at_ i _ e
  refine c.free e rfl e1 (fun x hx => ?_) fun O' h1 h2 => ⟨a, us, rfl, ?_, kks, r.mono (kn_less h1)⟩
  · cases List.mem_singleton.mp hx
    exact ⟨m, n⟩
  · show kn B O' H a = _
    exact kn_at (h2 a List.mem_cons_self) (c.w.ob a m) q
theorem OwL.rep {B : Bx} {O O' : List Addr} {Hs H : Hp} {as : List Addr} {xss : List (List Tv)} (ob : ∀ a ∈ O, a ∉ bxs B) (h1 : ∀ x ∈ O', x ∈ O) : ∀ (as : List Addr) (xss : List (List Tv)), as.length = xss.length → (∀ (i : Nat) (b : Addr) (xs : List Tv), as[i]? = some b → xss[i]? = some xs → b ∈ O ∧ Hs b = none ∧ ∃ ws, H b = some (.lst ws) ∧ RepL (kn B O H) xs ws) → (∀ b ∈ as, b ∉ O') → RepL (kn B O' H) (xss.map Tv.lst) (as.map V.ref)
  | [], [], _, _, _ => rfl
  | a :: as, x :: xs, hl, h, hn => by
    obtain ⟨q1, _, ws, q3, q4⟩ := h 0 a x rfl rfl
    refine ⟨_, _, rfl, ⟨a, ws, rfl, ?_, q4.mono (kn_less h1)⟩, OwL.rep (as := as) (xss := xs) ob h1 as xs (Nat.succ.inj hl) (fun i b ys e1 e2 => h (i + 1) b ys (by simpa using e1) (by simpa using e2)) fun b hb => hn b (List.mem_cons_of_mem _ hb)⟩
    exact kn_at (hn a List.mem_cons_self) (ob a q1) q3
theorem Ct.fzl {B : Bx} {O0 O : List Addr} {Hs Kb H : Hp} {ss : List Sl} {σ : L2.St} (c : Ct fw B O0 O Hs Kb H ss σ) {i : Nat} {as : List Addr} {ks : List Key} {xss : List (List Tv)} (e : ss[i]? = some (.odl as ks xss)) : ∃ O', Ct fw B O0 O' Hs Kb H (ss.set i (.val (.dic false ks (xss.map Tv.lst)))) σ := by
  obtain ⟨o, e1, a, us, rfl, m, n, q, kks, k2, w⟩ := c.r.at_ i _ e
  refine c.free e rfl e1 (fun x hx => ?_) fun O' h1 h2 => ⟨a, us, rfl, ?_, kks, ?_⟩
  · rcases List.mem_cons.mp hx with rfl | hx
    · exact ⟨m, n⟩
    · obtain ⟨z1, z2, _⟩ := w.mem hx
      exact ⟨z1, z2⟩
  · show kn B O' H a = _
    exact kn_at (h2 a List.mem_cons_self) (c.w.ob a m) q
  · rw [k2]
    exact OwL.rep (as := as) (xss := xss) c.w.ob h1 as xss w.2.1 w.2.2 fun b hb => h2 b (List.mem_cons_of_mem _ hb)
theorem s_fz (i : Nat) {xs : List Tv} {ts : TS} {Dp : PEnds} {ss : List Sl} (e : ss[i]? = some (.own xs)) (h : Sim tp ts Dp (ss.set i (.val (.lst xs)))) : Sim tp ts Dp ss := fun B O0 O Hs Kb H σ D htp c l => by
  obtain ⟨O', c'⟩ := c.fz e
  exact h B O0 O' Hs Kb H σ D htp c' l
theorem s_fzd (i : Nat) {ks : List Key} {xs : List Tv} {ts : TS} {Dp : PEnds} {ss : List Sl} (e : ss[i]? = some (.owd ks xs)) (h : Sim tp ts Dp (ss.set i (.val (.dic false ks xs)))) : Sim tp ts Dp ss := fun B O0 O Hs Kb H σ D htp c l => by
  obtain ⟨O', c'⟩ := c.fzd e
  exact h B O0 O' Hs Kb H σ D htp c' l
theorem s_fzl (i : Nat) {as : List Addr} {ks : List Key} {xss : List (List Tv)} {ts : TS} {Dp : PEnds} {ss : List Sl} (e : ss[i]? = some (.odl as ks xss)) (h : Sim tp ts Dp (ss.set i (.val (.dic false ks (xss.map Tv.lst))))) : Sim tp ts Dp ss := fun B O0 O Hs Kb H σ D htp c l => by
  obtain ⟨O', c'⟩ := c.fzl e
  exact h B O0 O' Hs Kb H σ D htp c' l
/-- forget -/
theorem s_wk {ts : TS} {Dp : PEnds} {ss ss' : List Sl} (hl : ss'.length = ss.length) (h : ∀ (i : Nat) (s : Sl), ss'[i]? = some s → s = .any ∨ ss[i]? = some s) (k : Sim tp ts Dp ss') : Sim tp ts Dp ss := fun B O0 O Hs Kb H σ D htp c l =>
  k B O0 O Hs Kb H σ D htp ⟨c.w, c.r.sub (hl.trans c.r.len) (fun i s e => by
    have hi : i < σ.length := by rw [← c.r.len, ← hl]; exact (List.getElem?_eq_some_iff.mp e).1
    rcases h i s e with rfl | h
    · exact ⟨_, List.getElem?_eq_getElem hi, trivial⟩
    · exact c.r.at_ i s h) (fun i s e o => by
    rcases h i s e with rfl | k1
    · cases o
    · exact ⟨s, k1, o, fun _ h => h, rfl⟩), fun h => nomatch h⟩ l
/-- all is known at the top where nothing is owned: promises of the wide kind may be used -/
theorem s_any (n : Nat) {ts : TS} {Dp : PEnds} {ss : List Sl} (k : Sim tp ts Dp (ss.set n .any)) : Sim tp ts Dp ss := s_wk (by rw [List.length_set]) (fun i s e => by
  by_cases h : n = i
  · subst h
    rw [List.getElem?_set_self (by have := (List.getElem?_eq_some_iff.mp e).1; rwa [List.length_set] at this)] at e
    cases e
    exact .inl rfl
  · rw [List.getElem?_set_ne h] at e
    exact .inr e) k
theorem Ct.full {B : Bx} {O : List Addr} {Hs Kb H : Hp} {ss : List Sl} {σ : L2.St} (c : Ct false B [] O Hs Kb H ss σ) (no : ∀ (i : Nat) s, ss[i]? = some s → s.isOwn = false) : Ct true B [] [] Hs Kb H ss σ := by
  have kk : Same (kn B O H) (kn B [] H) := kn_less (fun _ h => nomatch h)
  refine ⟨⟨c.w.kb.trans kk, c.w.hh, c.w.bx, c.w.bs, (fun _ h => h), c.w.s0, (fun _ h => nomatch h), (fun _ h => nomatch h), (fun _ h => nomatch h), (fun _ h => nomatch h), c.w.tb⟩, c.r.sub c.r.len (fun i s e => ?_) (fun i s e1 o1 => ?_), fun _ => ⟨rfl, rfl⟩⟩
  · obtain ⟨o, e1, k⟩ := c.r.at_ i s e
    refine ⟨o, e1, ?_⟩
    cases s with
    | any => trivial
    | val t => obtain ⟨v, e, r⟩ := k; exact ⟨v, e, r.mono kk⟩
    | own xs => exact absurd (no i _ e) (by simp [Sl.isOwn])
    | owd ks xs => exact absurd (no i _ e) (by simp [Sl.isOwn])
    | odl as ks xs => exact absurd (no i _ e) (by simp [Sl.isOwn])
    | gx G => exact absurd (no i _ e) (by simp [Sl.isOwn])
    | tab P q => exact k
    | box => exact k
    | lkd d ks ts => obtain ⟨us, x, e, q, kk', r⟩ := k; exact ⟨us, x, e, kk _ _ q, kk', r.mono kk⟩
    | pvd K v t => exact ⟨k.1, k.2.1, k.2.2.mono kk⟩
  · have := no i s e1
    rw [o1] at this
    cases this
def noOwn (ss : List Sl) : Bool := ss.all fun s => !s.isOwn
theorem noOwn_at {ss : List Sl} (h : noOwn ss = true) (i : Nat) (s : Sl) (e : ss[i]? = some s) : s.isOwn = false := by
  have := List.all_eq_true.mp h s (List.mem_of_getElem? e)
  simpa using this
theorem s_setF {i : Nat} {te : TE} {pe : PX} [k : LE true te pe] {Dp : PEnds} {ss : List Sl} (no : noOwn ss = true) (h : pe ss fun x => match x.sl with | some s => Dp.nx (ss.set i s) | none => False) : Sim true (tAsg te (gName i)) Dp ss := fun B O0 O Hs Kb H σ D htp c l => by
  cases htp rfl
  have c' := c.full (noOwn_at no)
  refine k.run c' h fun x H' v q s b r => ?_
  split at q
  · rename_i sl e
    obtain ⟨O', c''⟩ := c'.put s b r e i
    exact l.nx _ _ _ _ q c''
  · exact q.elim
theorem Ct.dn {B : Bx} {O0 O : List Addr} {Hs Kb H : Hp} {ss : List Sl} {σ : L2.St} (c : Ct fw B O0 O Hs Kb H ss σ) : Ct false B O0 O Hs Kb H ss σ := ⟨c.w, c.r, fun h => nomatch h⟩
theorem s_asgF {g : TG} {pg : PGx} {ix : List Nat} {te : TE} {pe : PX} [k : LE true te pe] [m : LG false g pg ix] {Dp : PEnds} {ss : List Sl} (no : noOwn ss = true) (h : pe ss fun x => match x.tv with | some t => pg t ss Dp.nx | none => False) : Sim true (tAsg te g) Dp ss := fun B O0 O Hs Kb H σ D htp c l => by
  cases htp rfl
  have c' := c.full (noOwn_at no)
  refine k.run c' h fun x H' v q s b r => ?_
  split at q
  · rename_i t e
    exact m.run (c'.go s b).dn (r.rep c'.w s e) q fun ss' σ' q' c' _ => l.nx _ _ _ _ q' c'
  · exact q.elim
theorem s_ifF {c : TT} {t u : TS} {pt : PTx} [k : LT true c pt] {Dp : PEnds} {ss : List Sl} (no : noOwn ss = true) (h : pt ss fun b => if b = true then Sim true t Dp ss else Sim true u Dp ss) : Sim true (tIfS c t u) Dp ss := fun B O0 O Hs Kb H σ D htp ct l => by
  have h0 := htp rfl
  subst h0
  have c' := ct.full (noOwn_at no)
  refine k.run c' h fun b H' q s b1 => ?_
  split at q
  · rename_i e
    rw [if_pos e]
    exact q B [] [] Hs Kb H' σ D htp (c'.go s b1).dn l
  · rename_i e
    rw [if_neg e]
    exact q B [] [] Hs Kb H' σ D htp (c'.go s b1).dn l
theorem s_retF {te : TE} {pe : PX} [k : LE true te pe] {Dp : PEnds} {ss : List Sl} (no : noOwn ss = true) (h : pe ss fun x => match x.rt with | some t => Dp.rt t | none => False) : Sim true (tRet te) Dp ss := fun B O0 O Hs Kb H σ D htp c l => by
  cases htp rfl
  have c' := c.full (noOwn_at no)
  refine k.run c' h fun x H' v q s b r => ?_
  split at q
  · rename_i t e
    exact l.rt _ _ _ _ q (c'.go s b).w (r.ret c' s b e)
  · exact q.elim
end Pl

set_option Elab.async false
set_option linter.all false
set_option maxRecDepth 100000
set_option maxHeartbeats 4000000
/-! The pure layer: loops, comprehensions, calls. -/
namespace Pl
open PySem PySem.Spec PyProof.Rows L2
variable {fw tp : Bool}
/-! ### a list or a tuple, walked -/
def iSeq (K : PySem.W.Frag) (tl : TE) : TI := fun σ H R => tl σ H fun x H1 => ∃ a, x = .ref a ∧ ((∃ xs, SqL K H1 a xs) ∧ R (Itl K a) H1 ∨ (∃ xs, SqT K H1 a xs) ∧ R (Itt K a) H1)
theorem pi_seq {X : Cx} {tg l : Expr} {tl : TE} (hl : PE X l tl) : PI X tg l (iSeq X.K tl) := by
  refine ⟨fun pins s σ H R I h => ?_⟩
  refine thn (hl.run pins s σ H _ I h) fun v s1 ⟨x, H1, I1, r1, q1⟩ => ?_
  obtain ⟨a, e, q⟩ := q1
  subst e
  cases r1
  rcases q with ⟨⟨xs, hq⟩, q⟩ | ⟨⟨xs, hq⟩, q⟩
  · obtain ⟨its, rv, p, hz⟩ := I1.list hq
    refine wpAny_pyIter_list p.isList ?_
    refine ⟨s1.heap.objs.size, [s1.heap.objs.size], _, _, H1, rfl, I1.kept (t' := s1.toks) fun b o e => Heap.get?_push_of_some _ e, turn_list a _, ⟨_, Heap.get?_push_size _ rfl, rfl, rfl⟩, fun b hb => ?_, q⟩
    have e : b = s1.heap.objs.size := by simpa using hb
    subst e
    exact I1.fpOk (Nat.le_refl _) (I1.hok.fresh (Nat.le_refl _))
  · obtain ⟨its, rv, p, hz⟩ := I1.tuple hq
    refine wpAny_pyIter_tuple (show s1.heap.IsTuple a its.toArray from p) ?_
    refine ⟨s1.heap.objs.size, [s1.heap.objs.size], _, _, H1, rfl, I1.kept (t' := s1.toks) fun b o e => Heap.get?_push_of_some _ e, turn_tuple a _, ⟨_, Heap.get?_push_size _ rfl, rfl, rfl⟩, fun b hb => ?_, q⟩
    have e : b = s1.heap.objs.size := by simpa using hb
    subst e
    exact I1.fpOk (Nat.le_refl _) (I1.hok.fresh (Nat.le_refl _))
/-! ### iterators -/
structure Yl (J : It) (K1 : Hp) (ts : List Tv) : Prop where
  go : ∀ i H, Same K1 H → i < ts.length → J.go i H
  stop : ∀ H, Same K1 H → J.stop ts.length H
  yld : ∀ i H x H', i < ts.length → Same K1 H → J.yld i H x H' → Same H H' ∧ ∃ t, ts[i]? = some t ∧ ∀ (B : Bx) (O : List Addr), Same K1 (kn B O H) → (∀ a ∈ O, ∃ o, H a = some o) → BxOk B H → Rep (kn B O H') t x
class LI (fw : Bool) (wi : TI) (pi : outParam (List Sl → (List Tv → Prop) → Prop)) : Prop where
  run : ∀ {B : Bx} {O0 O : List Addr} {Hs Kb H : Hp} {ss : List Sl} {σ : L2.St} {R : It → Hp → Prop} {Qp : List Tv → Prop}, Ct fw B O0 O Hs Kb H ss σ → pi ss Qp → (∀ ts H' J, Qp ts → Stay B H H' → BxOk B H' → Yl J (kn B O H') ts → R J H') → wi σ H R
def Sx.sqv : Sx → Option (List Tv)
  | .v (.lst xs) => some xs
  | .n xs => some xs
  | _ => none
theorem XR.seqk {B : Bx} {O0 O : List Addr} {Hs Kb H0 H : Hp} {ss : List Sl} {σ : L2.St} {x : Sx} {v : V} {xs : List Tv} (W : Wl B O0 O Hs Kb H0) (s : Stay B H0 H) (e : x.sqv = some xs) (h : XR B O H0 H ss σ x v) : ∃ a us, v = .ref a ∧ kn B O H a = some (.lst us) ∧ RepL (kn B O H) xs us := by
  cases x with
  | v u => cases u <;> cases e; exact h
  | n ys => exact XR.rep (x := .n ys) (t := .lst xs) W s (by cases e; rfl) h
  | _ => cases e
theorem yl_list {K : PySem.W.Frag} {K1 : Hp} {a : Addr} {us : List V} {ts : List Tv} (h : K1 a = some (.lst us)) (r : RepL K1 ts us) : Yl (Itl K a) K1 ts := by
  refine ⟨fun i H s hi => ?_, fun H s => ⟨us, SqL.of (s _ _ h), by rw [r.len]; exact Nat.le_refl _⟩, fun i H x H' hi s y => ?_⟩
  · obtain ⟨v, e, _⟩ := r.get i _ (List.getElem?_eq_getElem hi)
    exact ⟨us, v, SqL.of (s _ _ h), e⟩
  · obtain ⟨rfl, y⟩ := y
    have e := y us (SqL.of (s _ _ h))
    obtain ⟨v, e1, r1⟩ := r.get i _ (List.getElem?_eq_getElem hi)
    rw [e] at e1
    cases e1
    exact ⟨Same.refl _, _, List.getElem?_eq_getElem hi, fun B O k _ _ => r1.mono k⟩
theorem yl_tup {K : PySem.W.Frag} {K1 : Hp} {a : Addr} {us : List V} {ts : List Tv} (h : K1 a = some (.tup us)) (r : RepL K1 ts us) : Yl (Itt K a) K1 ts := by
  refine ⟨fun i H s hi => ?_, fun H s => ⟨us, SqT.of (s _ _ h), by rw [r.len]; exact Nat.le_refl _⟩, fun i H x H' hi s y => ?_⟩
  · obtain ⟨v, e, _⟩ := r.get i _ (List.getElem?_eq_getElem hi)
    exact ⟨us, v, SqT.of (s _ _ h), e⟩
  · obtain ⟨rfl, y⟩ := y
    have e := y us (SqT.of (s _ _ h))
    obtain ⟨v, e1, r1⟩ := r.get i _ (List.getElem?_eq_getElem hi)
    rw [e] at e1
    cases e1
    exact ⟨Same.refl _, _, List.getElem?_eq_getElem hi, fun B O k _ _ => r1.mono k⟩
def piList (pe : PX) : List Sl → (List Tv → Prop) → Prop := fun ss Q => pe ss fun x => match x.sqv with | some ts => Q ts | none => False
def piTup (pe : PX) : List Sl → (List Tv → Prop) → Prop := fun ss Q => pe ss fun x => match x.tq with | some ts => Q ts | none => False
def piSeq (pe : PX) : List Sl → (List Tv → Prop) → Prop := fun ss Q => pe ss fun x => match x with
  | .v (.tup ts) => Q ts
  | .v (.lst ts) => Q ts
  | .n ts => Q ts
  | _ => False
theorem XR.tpk {B : Bx} {O : List Addr} {H0 H : Hp} {ss : List Sl} {σ : L2.St} {x : Sx} {v : V} {xs : List Tv} (e : x.tq = some xs) (h : XR B O H0 H ss σ x v) : ∃ a us, v = .ref a ∧ kn B O H a = some (.tup us) ∧ RepL (kn B O H) xs us := by
  cases x with
  | v u => cases u <;> cases e; exact h
  | _ => cases e
instance liList {K : PySem.W.Frag} {te : TE} {pe : PX} [k : LE fw te pe] : LI fw (iList K te) (piList pe) := ⟨fun {B O0 O Hs Kb H ss σ R Qp} c h q => k.run c h fun x H' v q1 s b r => by
  split at q1
  · rename_i ts e
    obtain ⟨a, us, rfl, g, r1⟩ := r.seqk c.w s e
    exact ⟨a, rfl, ⟨us, SqL.of (kn_inv g).1⟩, q _ _ _ q1 s b (yl_list g r1)⟩
  · exact q1.elim⟩
instance liTup {K : PySem.W.Frag} {te : TE} {pe : PX} [k : LE fw te pe] : LI fw (iTup K te) (piTup pe) := ⟨fun {B O0 O Hs Kb H ss σ R Qp} c h q => k.run c h fun x H' v q1 s b r => by
  split at q1
  · rename_i ts e
    obtain ⟨a, us, rfl, g, r1⟩ := r.tpk e
    exact ⟨a, rfl, ⟨us, SqT.of (kn_inv g).1⟩, q _ _ _ q1 s b (yl_tup g r1)⟩
  · exact q1.elim⟩
instance liSeq {K : PySem.W.Frag} {te : TE} {pe : PX} [k : LE fw te pe] : LI fw (iSeq K te) (piSeq pe) := ⟨fun {B O0 O Hs Kb H ss σ R Qp} c h q => k.run c h fun x H' v q1 s b r => by
  split at q1
  · rename_i ts
    obtain ⟨a, us, rfl, g, r1⟩ := XR.tpk (x := .v (.tup ts)) rfl r
    exact ⟨a, rfl, .inr ⟨⟨us, SqT.of (kn_inv g).1⟩, q _ _ _ q1 s b (yl_tup g r1)⟩⟩
  · rename_i ts
    obtain ⟨a, us, rfl, g, r1⟩ := XR.seqk (x := .v (.lst ts)) c.w s rfl r
    exact ⟨a, rfl, .inl ⟨⟨us, SqL.of (kn_inv g).1⟩, q _ _ _ q1 s b (yl_list g r1)⟩⟩
  · rename_i ts
    obtain ⟨a, us, rfl, g, r1⟩ := XR.seqk (x := .n ts) c.w s rfl r
    exact ⟨a, rfl, .inl ⟨⟨us, SqL.of (kn_inv g).1⟩, q _ _ _ q1 s b (yl_list g r1)⟩⟩
  · exact q1.elim⟩
def rgT (lo : Int) (n : Nat) : List Tv := (List.range n).map fun i : Nat => Tv.int (lo + (i : Nat))
theorem rgT_len {lo : Int} {n : Nat} : (rgT lo n).length = n := by simp [rgT]
theorem rgT_at {lo : Int} {n i : Nat} {t : Tv} (h : (rgT lo n)[i]? = some t) : t = .int (lo + (i : Nat)) ∧ i < n := by
  have hi : i < n := by
    have := (List.getElem?_eq_some_iff.mp h).1
    rwa [rgT_len] at this
  refine ⟨?_, hi⟩
  have e : (rgT lo n)[i]? = some (.int (lo + (i : Nat))) := by
    rw [rgT, List.getElem?_map, List.getElem?_range hi]
    rfl
  rw [h] at e
  exact Option.some.inj e
def piRange1 (pa : PAx) : List Sl → (List Tv → Prop) → Prop := fun ss Q => pa ss fun xs => match xs with
  | [.v (.int j)] => -(2 ^ 62) ≤ j ∧ j < 2 ^ 62 ∧ Q (rgT 0 j.toNat)
  | _ => False
def piRange2 (pa : PAx) : List Sl → (List Tv → Prop) → Prop := fun ss Q => pa ss fun xs => match xs with
  | [.v (.int i), .v (.int j)] => -(2 ^ 62) ≤ i ∧ i < 2 ^ 62 ∧ -(2 ^ 62) ≤ j ∧ j < 2 ^ 62 ∧ Q (rgT i (j - i).toNat)
  | _ => False
theorem yl_range {lo : Int} {n : Nat} {K1 : Hp} : Yl (Itr lo n) K1 (rgT lo n) := by
  refine ⟨fun i H s hi => by rw [rgT_len] at hi; exact hi, fun H s => by show n ≤ _; rw [rgT_len]; exact Nat.le_refl _, fun i H x H' hi s y => ?_⟩
  obtain ⟨rfl, rfl⟩ := y
  rw [rgT_len] at hi
  exact ⟨Same.refl _, .int (lo + (i : Nat)), by rw [rgT, List.getElem?_map, List.getElem?_range hi]; rfl, fun B O k _ _ => rfl⟩
instance liRange1 {ta : TA} {pa : PAx} [k : LA fw ta pa] : LI fw (iRng1 ta) (piRange1 pa) := ⟨fun {B O0 O Hs Kb H ss σ R Qp} c h q => k.run c h fun xs H' vs q1 s b r => by
  split at q1
  · obtain ⟨v, w, rfl, r1, r2⟩ := r
    cases r1
    cases r2
    exact ⟨_, rfl, q1.1, q1.2.1, q _ _ _ q1.2.2 s b yl_range⟩
  · exact q1.elim⟩
instance liRange2 {ta : TA} {pa : PAx} [k : LA fw ta pa] : LI fw (iRng2 ta) (piRange2 pa) := ⟨fun {B O0 O Hs Kb H ss σ R Qp} c h q => k.run c h fun xs H' vs q1 s b r => by
  split at q1
  · obtain ⟨v, w, rfl, r1, u, w', rfl, r2, r3⟩ := r
    cases r1
    cases r2
    cases r3
    exact ⟨_, _, rfl, ⟨q1.1, q1.2.1, q1.2.2.1, q1.2.2.2.1⟩, q _ _ _ q1.2.2.2.2 s b yl_range⟩
  · exact q1.elim⟩
/-! ### for, while -/
theorem Ct.base {B : Bx} {O0 O : List Addr} {Hs Kb H : Hp} {ss : List Sl} {σ : L2.St} (c : Ct fw B O0 O Hs Kb H ss σ) {K1 : Hp} (k : Same K1 (kn B O H)) : Ct fw B O0 O Hs K1 H ss σ :=
  ⟨⟨k, c.w.hh, c.w.bx, c.w.bs, c.w.o0, c.w.s0, c.w.on, c.w.st, c.w.ob, c.w.ld, c.w.tb⟩, c.r, c.fl⟩
theorem Wl.base {B : Bx} {O0 O : List Addr} {Hs Kb H : Hp} (w : Wl B O0 O Hs Kb H) {K1 : Hp} (k : Same K1 (kn B O H)) : Wl B O0 O Hs K1 H := ⟨k, w.hh, w.bx, w.bs, w.o0, w.s0, w.on, w.st, w.ob, w.ld, w.tb⟩
theorem Lk.base {B : Bx} {O0 : List Addr} {Hs Kb K1 : Hp} {Dp : PEnds} {D : Ends} (l : Lk B O0 Hs Kb Dp D) (k : Same Kb K1) : Lk B O0 Hs K1 Dp D :=
  ⟨fun O H σ ss a c => l.nx O H σ ss a (c.base (k.trans c.w.kb)), fun O H σ ss a c => l.bk O H σ ss a (c.base (k.trans c.w.kb)), fun O H σ ss a c => l.ct O H σ ss a (c.base (k.trans c.w.kb)), fun O H t v a w r => l.rt O H t v a (w.base (k.trans w.kb)) r⟩
theorem s_for {wi : TI} {g : TG} {tb : TS} {pi : List Sl → (List Tv → Prop) → Prop} {pg : PGx} {ix : List Nat} [k : LI false wi pi] [m : LG false g pg ix] {Dp : PEnds} {ss : List Sl}
    (h : pi ss fun ts => ∃ Iv : Nat → List Sl → Prop, Iv 0 ss ∧ (∀ i t s, ts[i]? = some t → Iv i s → pg t s fun s2 => Sim tp tb ⟨Iv (i + 1), Dp.rt, Dp.nx, Iv (i + 1)⟩ s2) ∧ ∀ s, Iv ts.length s → Dp.nx s) : Sim tp (tFor wi g tb) Dp ss := fun B O0 O Hs Kb H σ D htp c l =>
  k.run c h fun ts H1 J q s b y => by
    obtain ⟨Iv, i0, st, en⟩ := q
    have c0 := c.go s b
    have l1 := l.base (K1 := kn B O H1) c0.w.kb
    have c1 := c0.base (Same.refl (kn B O H1))
    generalize kn B O H1 = K1 at y l1 c1
    refine ⟨fun i n σ H => n = ts.length - i ∧ i ≤ ts.length ∧ ∃ O s, Iv i s ∧ Ct false B O0 O Hs K1 H s σ, ⟨_, rfl, Nat.zero_le _, O, ss, i0, c1⟩, ?_⟩
    rintro i n σ2 H2 ⟨rfl, hi, O2, s2, iv, c2⟩
    have k2 : Same K1 H2 := c2.w.kb.trans kn_all
    by_cases hlt : i < ts.length
    · refine .inr ⟨y.go i H2 k2 hlt, fun σ' H' => ∃ O s, Iv (i + 1) s ∧ Ct false B O0 O Hs K1 H' s σ', fun σ' H' ⟨O', s', a, c'⟩ => ⟨ts.length - (i + 1), by omega, rfl, hlt, O', s', a, c'⟩, fun x H3 yy => ?_⟩
      obtain ⟨sm, t, et, rp⟩ := y.yld i H2 x H3 hlt k2 yy
      have c3 := c2.go (Stay.of sm) (c2.w.bx.same sm)
      refine m.run c3 (rp B O2 c2.w.kb c2.w.st c2.w.bx) (st i t s2 et iv) fun s3 σ3 q3 c4 _ => ?_
      exact q3 B O0 O2 Hs K1 H3 σ3 _ htp c4 ⟨fun O H σ ss a c => ⟨O, ss, a, c⟩, l1.nx, fun O H σ ss a c => ⟨O, ss, a, c⟩, l1.rt⟩
    · have e : i = ts.length := by omega
      subst e
      exact .inl ⟨y.stop H2 k2, l1.nx _ _ _ _ (en s2 iv) c2⟩
theorem s_while {tc : TT} {tb : TS} {pt : PTx} [k : LT false tc pt] {Dp : PEnds} {ss : List Sl} (Iv : Nat → List Sl → Prop) (h0 : ∃ m, Iv m ss)
    (h : ∀ m s, Iv m s → pt s fun b => if b = true then Sim tp tb ⟨fun s' => ∃ m', m' < m ∧ Iv m' s', Dp.rt, Dp.nx, fun s' => ∃ m', m' < m ∧ Iv m' s'⟩ s else Dp.nx s) : Sim tp (tWhile tc tb) Dp ss := fun B O0 O Hs Kb H σ D htp c l => by
  obtain ⟨m0, i0⟩ := h0
  refine ⟨fun m σ H => ∃ O s, Iv m s ∧ Ct false B O0 O Hs Kb H s σ, ⟨m0, O, ss, i0, c⟩, ?_⟩
  rintro m σ1 H1 ⟨O1, s1, iv, c1⟩
  refine k.run c1 (h m s1 iv) fun b H2 q s bx => ?_
  have c2 := c1.go s bx
  split at q
  · rename_i e
    rw [if_pos e]
    exact ⟨fun σ' H' => ∃ m', m' < m ∧ ∃ O s, Iv m' s ∧ Ct false B O0 O Hs Kb H' s σ', fun σ' H' ⟨m', hm, O, s, a, c⟩ => ⟨m', hm, O, s, a, c⟩,
      q B O0 O1 Hs Kb H2 σ1 _ htp c2 ⟨fun O H σ ss ⟨m', hm, a⟩ c => ⟨m', hm, O, ss, a, c⟩, l.nx, fun O H σ ss ⟨m', hm, a⟩ c => ⟨m', hm, O, ss, a, c⟩, l.rt⟩⟩
  · rename_i e
    rw [if_neg e]
    exact l.nx _ _ _ _ q c2
/-! ### owned things written -/
theorem kn_mut {B : Bx} {O : List Addr} {H : Hp} {a : Addr} {o : HO} (ha : a ∈ O) : kn B O (upd H a o) = kn B O H := by
  refine congrArg kt ?_
  funext b
  unfold mn
  by_cases h : b ∈ O ++ bxs B
  · rw [if_pos h, if_pos h]
  · rw [if_neg h, if_neg h]
    exact upd_ne fun e => h (List.mem_append_left _ (by rw [e]; exact ha))
theorem BxOk.mut {B : Bx} {H : Hp} {a : Addr} {o : HO} (b : BxOk B H) (ha : a ∉ bxs B) : BxOk B (upd H a o) := fun p q e => by
  have np : p ≠ a := fun z => ha (by rw [bxs_eq e, ← z]; simp)
  have nq : q ≠ a := fun z => ha (by rw [bxs_eq e, ← z]; simp)
  obtain ⟨n, cs, k, h1, h2, h3⟩ := b p q e
  exact ⟨n, cs, k, by rw [upd_ne np]; exact h1, by rw [upd_ne nq]; exact h2, h3⟩
theorem Wl.mut {B : Bx} {O0 O : List Addr} {Hs Kb H : Hp} (w : Wl B O0 O Hs Kb H) {a : Addr} {o : HO} (ha : a ∈ O) (hs : Hs a = none) (hl : LD o := by first | exact .inl ⟨_, rfl⟩ | exact .inr (.inl ⟨_, rfl⟩)) : Wl B O0 O Hs Kb (upd H a o) :=
  ⟨by rw [kn_mut ha]; exact w.kb, fun b u e n => by rw [upd_ne (ne_of_none e hs)]; exact w.hh b u e n, w.bx.mut (w.ob a ha), w.bs, w.o0, w.s0, w.on, fun b hb => by
    by_cases e : b = a
    · rw [e]; exact ⟨_, upd_same⟩
    · rw [upd_ne e]; exact w.st b hb, w.ob, fun b hb o' e' => by
    by_cases e : b = a
    · rw [e, upd_same] at e'; cases e'; exact hl
    · rw [upd_ne e] at e'; exact w.ld b hb o' e', fun P q e => by
    obtain ⟨o1, e1⟩ := w.st a ha
    exact ⟨tab_upd (w.tb P q e).1 e1 (w.ld a ha o1 e1).nt (w.ld a ha o1 e1).nc, (w.tb P q e).2⟩⟩
theorem SlOk.mut {B : Bx} {O : List Addr} {Hs H : Hp} {s : Sl} {v : Option V} {a : Addr} {o : HO} (h : SlOk B O Hs H s v) (ha : a ∈ O) (nd : s.isOwn = true → v ≠ some (.ref a)) (na : a ∉ s.ads) : SlOk B O Hs (upd H a o) s v := by
  cases s with
  | any => trivial
  | val t => unfold SlOk at h ⊢; rw [kn_mut ha]; exact h
  | own xs =>
    obtain ⟨b, us, e, m, n, q, r⟩ := h
    exact ⟨b, us, e, m, n, by rw [upd_ne (fun z => nd rfl (by rw [e, z]))]; exact q, by rw [kn_mut ha]; exact r⟩
  | owd ks ts =>
    obtain ⟨b, us, e, m, n, q, k, r⟩ := h
    exact ⟨b, us, e, m, n, by rw [upd_ne (fun z => nd rfl (by rw [e, z]))]; exact q, k, by rw [kn_mut ha]; exact r⟩
  | box => exact h
  | lkd d ks ts => unfold SlOk at h ⊢; rw [kn_mut ha]; exact h
  | pvd K v t => unfold SlOk at h ⊢; rw [kn_mut ha]; exact h
  | tab P q => exact h
  | odl as ks xss =>
    obtain ⟨b, us, e, m, n, q, k, k2, w⟩ := h
    exact ⟨b, us, e, m, n, by rw [upd_ne (fun z => nd rfl (by rw [e, z]))]; exact q, k, k2, w.of fun x xs hx mx nx ws hw r => ⟨mx, nx, ws, by rw [upd_ne (fun z => na (by rw [← z]; exact hx))]; exact hw, by rw [kn_mut ha]; exact r⟩⟩
  | gx G => exact ⟨h.1, G.mono (Sm.of (by rw [kn_mut ha]; exact Same.refl _)) (fun x hx u e => by rw [upd_ne (fun z => na (by rw [← z]; exact hx))]; exact e) h.2⟩
theorem Ct.mut {B : Bx} {O0 O : List Addr} {Hs Kb H : Hp} {ss : List Sl} {σ : L2.St} (c : Ct fw B O0 O Hs Kb H ss σ) {a : Addr} {o : HO} (ha : a ∈ O) (hs : Hs a = none) (nd : ∀ (j : Nat) t, ss[j]? = some t → (t.isOwn = true → σ[j]? ≠ some (some (.ref a))) ∧ a ∉ t.ads) (hl : LD o := by first | exact .inl ⟨_, rfl⟩ | exact .inr (.inl ⟨_, rfl⟩)) : Ct fw B O0 O Hs Kb (upd H a o) ss σ :=
  ⟨c.w.mut ha hs hl, ⟨c.r.len, fun i s e => by
    obtain ⟨v, e1, k⟩ := c.r.at_ i s e
    exact ⟨v, e1, k.mut ha (fun h z => (nd i s e).1 h (by rw [e1, z])) (nd i s e).2⟩, c.r.dis, c.r.din⟩, c.fl⟩
/-- slot i's own thing is written -/
theorem Ct.wr {B : Bx} {O0 O : List Addr} {Hs Kb H : Hp} {ss : List Sl} {σ : L2.St} (c : Ct fw B O0 O Hs Kb H ss σ) {i : Nat} {a : Addr} {s s' : Sl} {o : HO} (e : ss[i]? = some s) (io : s.isOwn = true) (e1 : σ[i]? = some (some (.ref a))) (ha : a ∈ O) (hs : Hs a = none)
    (io' : s'.isOwn = true) (k : SlOk B O Hs (upd H a o) s' (some (.ref a))) (ad : ∀ x ∈ s'.ads, x ∈ s.ads := by exact fun _ h => nomatch h) (hl : LD o := by first | exact .inl ⟨_, rfl⟩ | exact .inr (.inl ⟨_, rfl⟩)) : Ct fw B O0 O Hs Kb (upd H a o) (ss.set i s') σ := by
  have hi := (List.getElem?_eq_some_iff.mp e).1
  refine ⟨c.w.mut ha hs hl, c.r.sub (by rw [List.length_set]; exact c.r.len) (fun j t ej => ?_) (fun j t e1' o1 => ?_), c.fl⟩
  · by_cases hj : i = j
    · subst hj
      rw [List.getElem?_set_self hi] at ej
      cases ej
      exact ⟨_, e1, k⟩
    · rw [List.getElem?_set_ne hj] at ej
      obtain ⟨v, e2, q⟩ := c.r.at_ j t ej
      exact ⟨v, e2, q.mut ha (fun h z => c.r.dis i j s t a hj e ej io h e1 (by rw [e2, z])) fun hm => (c.r.din j i t s a (Ne.symm hj) ej e hm).1 io e1⟩
  · by_cases hz : i = j
    · subst hz
      rw [List.getElem?_set_self hi] at e1'
      cases e1'
      exact ⟨s, e, io, ad, rfl⟩
    · rw [List.getElem?_set_ne hz] at e1'
      exact ⟨t, e1', o1, fun _ h => h, rfl⟩
theorem Ct.ownAt {B : Bx} {O0 O : List Addr} {Hs Kb H : Hp} {ss : List Sl} {σ : L2.St} (c : Ct fw B O0 O Hs Kb H ss σ) {i : Nat} {xs : List Tv} (e : ss[i]? = some (.own xs)) : ∃ a us, σ[i]? = some (some (.ref a)) ∧ a ∈ O ∧ Hs a = none ∧ H a = some (.lst us) ∧ RepL (kn B O H) xs us := by
  obtain ⟨o, e1, a, us, e2, q⟩ := c.r.at_ i _ e
  subst e2
  exact ⟨a, us, e1, q⟩
theorem Ct.ownList {B : Bx} {O0 O : List Addr} {Hs Kb H : Hp} {ss : List Sl} {σ : L2.St} (c : Ct fw B O0 O Hs Kb H ss σ) {i : Nat} {xs ys : List Tv} {a : Addr} {us : List V} (e : ss[i]? = some (.own xs)) (e1 : σ[i]? = some (some (.ref a))) (ha : a ∈ O) (hs : Hs a = none) (r : RepL (kn B O H) ys us) :
    Ct fw B O0 O Hs Kb (upd H a (.lst us)) (ss.set i (.own ys)) σ := c.wr (s' := .own ys) e rfl e1 ha hs rfl ⟨a, us, rfl, ha, hs, upd_same, by rw [kn_mut ha]; exact r⟩
/-- xs.append(e) -/
theorem s_append {K : PySem.W.Frag} {i : Nat} {te : TE} {pe : PX} [k : LE false te pe] {Dp : PEnds} {ss : List Sl} {xs : List Tv} (e : ss[i]? = some (.own xs)) (hl : xs.length < 100000)
    (h : pe ss fun x => match x.tv with | some t => Dp.nx (ss.set i (.own (xs ++ [t]))) | none => False) : Sim tp (tDrop (tBM K "list" rAppend (tVar i) (tCons te tNil))) Dp ss := fun B O0 O Hs Kb H σ D htp c l => by
  obtain ⟨a, us, e1, m, n, q, r⟩ := c.ownAt e
  refine ⟨.ref a, e1, .inl ⟨rfl, us, SqL.of q⟩, k.run c h fun x H1 v q1 s b rx => ?_⟩
  split at q1
  · rename_i t et
    have c1 := c.go s b
    have h1 : H1 a = some (.lst us) := s a _ q (c.w.ob a m)
    have r1 := r.mono (kn_sm (O := O) (O' := O) s fun _ h => .inl h)
    refine ⟨a, us, v, rfl, rfl, h1, szl (by rw [r.len]; exact hl), ?_⟩
    exact l.nx _ _ _ _ q1 (c1.ownList e e1 m n (r1.app (RepL.one (rx.rep c.w s et))))
  · exact q1.elim
/-- xs += e -/
theorem s_ext {i : Nat} {te : TE} {pe : PX} [k : LE false te pe] {Dp : PEnds} {ss : List Sl} {xs : List Tv} (e : ss[i]? = some (.own xs))
    (h : pe ss fun x => match x.sq with | some ys => xs.length + ys.length ≤ 100000 ∧ Dp.nx (ss.set i (.own (xs ++ ys))) | none => False) : Sim tp (tAug i te rExt2) Dp ss := fun B O0 O Hs Kb H σ D htp c l => by
  obtain ⟨a, us, e1, m, n, q, r⟩ := c.ownAt e
  refine ⟨.ref a, e1, k.run c h fun x H1 v q1 s b rx => ?_⟩
  split at q1
  · rename_i ys et
    have c1 := c.go s b
    have h1 : H1 a = some (.lst us) := s a _ q (c.w.ob a m)
    have r1 := r.mono (kn_sm (O := O) (O' := O) s fun _ h => .inl h)
    obtain ⟨b2, ws, rfl, h2, r2⟩ := rx.seq c.w s c1.r et
    refine ⟨a, b2, us, ws, rfl, rfl, h1, h2, sz (by rw [r.len, r2.len]; exact q1.1), ?_⟩
    have hs : σ.set i (some (.ref a)) = σ := by
      apply List.ext_getElem?
      intro j
      by_cases hj : i = j
      · subst hj
        rw [List.getElem?_set_self (List.getElem?_eq_some_iff.mp e1).1, e1]
      · rw [List.getElem?_set_ne hj]
    show D.nx (σ.set i (some (.ref a))) _
    rw [hs]
    exact l.nx _ _ _ _ q1.2 (c1.ownList e e1 m n (r1.app r2))
  · exact q1.elim
/-- i += e, ints -/
theorem s_aug {i : Nat} {f : Int → Int → Int} {te : TE} {pe : PX} [k : LE false te pe] {Dp : PEnds} {ss : List Sl} {a : Int} (e : ss[i]? = some (.val (.int a)))
    (h : pe ss fun x => match x with | .v (.int b) => Dp.nx (ss.set i (.val (.int (f a b)))) | _ => False) : Sim tp (tAug i te (ipI f)) Dp ss := fun B O0 O Hs Kb H σ D htp c l => by
  obtain ⟨o, e1, v, e2, r⟩ := c.r.at_ i _ e
  subst e2
  cases r
  refine ⟨_, e1, k.run c h fun x H1 v q1 s b rx => ?_⟩
  split at q1
  · cases rx
    obtain ⟨O', c'⟩ := c.put (x := .v (.int _)) (sl := .val (.int _)) s b (show XR B O H H1 ss σ (.v (.int (f a _))) (.int (f a _)) from rfl) rfl i
    exact ⟨_, _, rfl, rfl, l.nx _ _ _ _ q1 c'⟩
  · exact q1.elim
/-- xs[j] = e -/
theorem s_setL {i : Nat} {te ti : TE} {pe pi : PX} [k : LE false te pe] [m : LE false ti pi] {Dp : PEnds} {ss : List Sl} {xs : List Tv} (e : ss[i]? = some (.own xs))
    (h : pe ss fun x => pi ss fun y => match x.tv, y with | some t, .v (.int j) => ∃ n, ixN xs.length j = some n ∧ Dp.nx (ss.set i (.own (xs.set n t))) | _, _ => False) : Sim tp (tAsg te (gSub (tVar i) ti rSetL)) Dp ss := fun B O0 O Hs Kb H σ D htp c l => by
  obtain ⟨a, us, e1, ma, n, q, r⟩ := c.ownAt e
  refine k.run c h fun x H1 v q1 s b rx => ?_
  refine ⟨.ref a, e1, ?_⟩
  have c1 := c.go s b
  refine m.run c1 q1 fun y H2 w q2 s2 b2 ry => ?_
  have s12 := s.trans s2
  have c2 := c1.go s2 b2
  split at q2
  · rename_i t j et
    obtain ⟨p, hp, q3⟩ := q2
    cases ry
    have h2 : H2 a = some (.lst us) := s12 a _ q (c.w.ob a ma)
    have r2 := r.mono (kn_sm (O := O) (O' := O) s12 fun _ h => .inl h)
    refine ⟨a, us, j, p, rfl, rfl, h2, by rw [r.len]; exact hp, ?_⟩
    exact l.nx _ _ _ _ q3 (c2.ownList e e1 ma n (RepL.set ((rx.go c.w s s2).rep c.w s12 et) p r2))
  · exact q2.elim
def Tv.key : Tv → Option Key
  | .int i => some (.inl i)
  | .str s => some (.inr s)
  | _ => none
theorem Tv.key_rep {H : Hp} {t : Tv} {k : Key} {v : V} (e : t.key = some k) (r : Rep H t v) : v = kV k := by
  cases t <;> cases e <;> exact r
def putT (kvs : List (Key × Tv)) (k : Key) (v : Tv) : List (Key × Tv) :=
  if (kvs.any fun kv => decide (kv.1 = k)) = true then kvs.map (fun kv => if kv.1 = k then (kv.1, v) else kv) else kvs ++ [(k, v)]
theorem putT_new {kvs : List (Key × Tv)} {k : Key} {v : Tv} (h : k ∉ kvs.map (·.1)) : putT kvs k v = kvs ++ [(k, v)] := by
  unfold putT
  rw [if_neg (fun z => by obtain ⟨p, hp, e⟩ := List.any_eq_true.mp z; exact h (List.mem_map.mpr ⟨p, hp, of_decide_eq_true e⟩))]
theorem putT_old {kvs : List (Key × Tv)} {k : Key} {v : Tv} (h : k ∈ kvs.map (·.1)) : putT kvs k v = kvs.map fun kv => if kv.1 = k then (kv.1, v) else kv := by
  unfold putT
  rw [if_pos (by obtain ⟨p, hp, e⟩ := List.mem_map.mp h; exact List.any_eq_true.mpr ⟨p, hp, decide_eq_true e⟩)]
theorem put_rep {H : Hp} {k : Key} {t : Tv} {v : V} (rv : Rep H t v) : ∀ {kvs : List (Key × Tv)} {us : List (Key × V)}, us.map (·.1) = kvs.map (·.1) → RepL H (kvs.map (·.2)) (us.map (·.2)) → (putK us k v).map (·.1) = (putT kvs k t).map (·.1) ∧ RepL H ((putT kvs k t).map (·.2)) ((putK us k v).map (·.2)) := by
  intro kvs us e r
  have ha : (us.any fun kv => decide (kv.1 = k)) = (kvs.any fun kv => decide (kv.1 = k)) := by
    have h1 : (us.any fun kv => decide (kv.1 = k)) = (us.map (·.1)).any fun x => decide (x = k) := by rw [List.any_map]; rfl
    have h2 : (kvs.any fun kv => decide (kv.1 = k)) = (kvs.map (·.1)).any fun x => decide (x = k) := by rw [List.any_map]; rfl
    rw [h1, h2, e]
  unfold putK putT
  rw [ha]
  by_cases hk : (kvs.any fun kv => decide (kv.1 = k)) = true
  · rw [if_pos hk, if_pos hk]
    clear ha hk
    induction kvs generalizing us with
    | nil =>
      cases us with
      | nil => exact ⟨rfl, rfl⟩
      | cons p us => cases e
    | cons p kvs ih =>
      cases us with
      | nil => cases e
      | cons q us =>
        rw [List.map_cons, List.map_cons] at e
        injection e with e1 e2
        obtain ⟨u, w, ew, r1, r2⟩ := r
        rw [List.map_cons] at ew
        injection ew with ew1 ew2
        subst ew1 ew2
        obtain ⟨i1, i2⟩ := ih e2 r2
        refine ⟨?_, ?_⟩
        · rw [List.map_cons, List.map_cons, List.map_cons, List.map_cons, i1]
          congr 1
          rw [e1]
          split
          · rfl
          · exact e1
        · rw [List.map_cons, List.map_cons, List.map_cons, List.map_cons]
          refine ⟨_, _, rfl, ?_, i2⟩
          by_cases h : p.1 = k
          · rw [if_pos h, if_pos (by rw [e1]; exact h)]
            exact rv
          · rw [if_neg h, if_neg (by rw [e1]; exact h)]
            exact r1
  · rw [if_neg hk, if_neg hk, List.map_append, List.map_append, List.map_append, List.map_append, e]
    exact ⟨rfl, r.app (RepL.one rv)⟩
/-- d[k] = e -/
theorem s_setD {i : Nat} {te ti : TE} {pe pi : PX} [k : LE false te pe] [m : LE false ti pi] {Dp : PEnds} {ss : List Sl} {kvs : List (Key × Tv)} (e : ss[i]? = some (.owd (kvs.map (·.1)) (kvs.map (·.2)))) (hl : kvs.length < 100000)
    (h : pe ss fun x => pi ss fun y => match x.tv, y.tv.bind Tv.key with | some t, some j => Dp.nx (ss.set i (.owd ((putT kvs j t).map (·.1)) ((putT kvs j t).map (·.2)))) | _, _ => False) : Sim tp (tAsg te (gSub (tVar i) ti rSetD)) Dp ss := fun B O0 O Hs Kb H σ D htp c l => by
  obtain ⟨o, e1, a, us, e2, ma, n, q, kk, r⟩ := c.r.at_ i _ e
  subst e2
  refine k.run c h fun x H1 v q1 s b rx => ?_
  refine ⟨.ref a, e1, ?_⟩
  have c1 := c.go s b
  refine m.run c1 q1 fun y H2 w q2 s2 b2 ry => ?_
  have s12 := s.trans s2
  have c2 := c1.go s2 b2
  split at q2
  · rename_i t j et ej
    obtain ⟨ty, ety, ekey⟩ := Option.bind_eq_some_iff.mp ej
    have rw' := Tv.key_rep ekey (ry.rep c1.w s2 ety)
    subst rw'
    have h2 : H2 a = some (.dK us) := s12 a _ q (c.w.ob a ma)
    have r2 := r.mono (kn_sm (O := O) (O' := O) s12 fun _ h => .inl h)
    have hul : us.length = kvs.length := by have := congrArg List.length kk; simpa using this
    obtain ⟨p1, p2⟩ := put_rep (k := j) ((rx.go c.w s s2).rep c.w s12 et) kk r2
    refine ⟨a, _, rfl, DPut.k h2 (szl (by rw [hul]; exact hl)), ?_⟩
    refine l.nx _ _ _ _ q2 (c2.wr (s' := .owd _ _) e rfl e1 ma n rfl ⟨a, _, rfl, ma, n, upd_same, p1, ?_⟩)
    rw [kn_mut ma]
    exact p2
  · exact q2.elim
end Pl

set_option Elab.async false
set_option linter.all false
set_option maxRecDepth 100000
set_option maxHeartbeats 4000000
/-! The pure layer: comprehensions, calls, promises. -/
namespace Pl
open PySem PySem.Spec PyProof.Rows L2
variable {fw tp : Bool}
/-! ### comprehensions -/
def wipeS (ss : List Sl) : List Nat → List Sl
  | [] => ss
  | v :: vs => (wipeS ss vs).set v .any
theorem wipeS_get (ss : List Sl) (j : Nat) : ∀ vs : List Nat, (wipeS ss vs)[j]? = if j ∈ vs then (if j < ss.length then some .any else none) else ss[j]?
  | [] => by simp [wipeS]
  | v :: vs => by
    have hl : ∀ vs : List Nat, (wipeS ss vs).length = ss.length := fun vs => by
      induction vs with
      | nil => rfl
      | cons v vs ih => unfold wipeS; rw [List.length_set, ih]
    unfold wipeS
    by_cases h : v = j
    · subst h
      rw [if_pos List.mem_cons_self]
      by_cases hq : v < ss.length
      · rw [List.getElem?_set_self (by rw [hl]; exact hq), if_pos hq]
      · rw [List.getElem?_eq_none (by rw [List.length_set, hl]; omega), if_neg hq]
    · rw [List.getElem?_set_ne h, wipeS_get ss j vs]
      simp only [List.mem_cons, show (j = v) = False from by simp [Ne.symm h], false_or]
theorem wipeS_len (ss : List Sl) : ∀ vs : List Nat, (wipeS ss vs).length = ss.length
  | [] => rfl
  | v :: vs => by unfold wipeS; rw [List.length_set, wipeS_len ss vs]
theorem wipe_wipe (σ : L2.St) (vs : List Nat) : wipe (wipe σ vs) vs = wipe σ vs := by
  apply List.ext_getElem?
  intro j
  rw [wipe_get, wipe_get, wipe_length]
  by_cases hj : j ∈ vs
  · rw [if_pos hj, if_pos hj]
  · rw [if_neg hj, if_neg hj]
theorem Ct.wipe {B : Bx} {O0 O : List Addr} {Hs Kb H : Hp} {ss : List Sl} {σ : L2.St} (c : Ct fw B O0 O Hs Kb H ss σ) (vs : List Nat) : Ct fw B O0 O Hs Kb H (wipeS ss vs) (L2.wipe σ vs) := by
  have nv : ∀ (j : Nat) t, (wipeS ss vs)[j]? = some t → t.isOwn = true → j ∉ vs ∧ ss[j]? = some t := fun j t e o => by
    rw [wipeS_get] at e
    by_cases hj : j ∈ vs
    · rw [if_pos hj] at e
      split at e <;> cases e
      cases o
    · rw [if_neg hj] at e
      exact ⟨hj, e⟩
  refine ⟨c.w, c.r.sub (by rw [wipeS_len, wipe_length]; exact c.r.len) (fun i s e => ?_) (fun i s e1 o1 => ?_), c.fl⟩
  · rw [wipeS_get] at e
    rw [wipe_get]
    by_cases hj : i ∈ vs
    · rw [if_pos hj] at e ⊢
      by_cases hl : i < ss.length
      · rw [if_pos hl] at e
        rw [if_pos (by rw [← c.r.len]; exact hl)]
        cases e
        exact ⟨_, rfl, trivial⟩
      · rw [if_neg hl] at e
        cases e
    · rw [if_neg hj] at e ⊢
      exact c.r.at_ i s e
  · obtain ⟨n1, k1⟩ := nv i s e1 o1
    exact ⟨s, k1, o1, fun _ h => h, by rw [wipe_get, if_neg n1]⟩
/-- [elt for target in iter if test] -/
def pLc (pi : List Sl → (List Tv → Prop) → Prop) (pg : PGx) (ix : List Nat) (pt : PTx) (pe : PX) (vs : List Nat) : PX := fun ss Q => pi ss fun ts => (ix.all fun i => vs.contains i) = true ∧
  ∃ Iv : Nat → List Tv → Prop, Iv 0 [] ∧ (∀ i t acc, ts[i]? = some t → Iv i acc → acc.length < 100000 ∧ pg t (wipeS ss vs) fun s2 => pt s2 fun b => if b = true then pe s2 fun x => (match x.tv with | some u => Iv (i + 1) (acc ++ [u]) | none => False) else Iv (i + 1) acc) ∧ ∀ acc, Iv ts.length acc → Q (.n acc)
def pYes : PTx := fun _ Q => Q true
instance lYes : LT fw tYes pYes := ⟨fun c h q => q _ _ h (Stay.refl _ _) c.w.bx⟩
instance lLc {wi : TI} {g : TG} {tt : TT} {te : TE} {vs : List Nat} {pi : List Sl → (List Tv → Prop) → Prop} {pg : PGx} {ix : List Nat} {pt : PTx} {pe : PX} [ki : LI fw wi pi] [kg : LG false g pg ix] [kt : LT false tt pt] [ke : LE false te pe] : LE fw (tLc wi g tt te vs) (pLc pi pg ix pt pe vs) := ⟨fun {B O0 O Hs Kb H ss σ Q Qp} c h q => ki.run c h fun ts H1 J q1 s b y => by
  obtain ⟨hix, Iv, i0, st, en⟩ := q1
  have hiv : ∀ i ∈ ix, i ∈ vs := fun i hi => by simpa using List.all_eq_true.mp hix i hi
  intro D hD
  have c1 := (c.go s b).dn
  have nb := c1.w.bx.nin hD
  have sD : Stay B H1 (upd H1 D (.lst [])) := Stay.of (same_upd hD)
  obtain ⟨w2, r2, hs, nd⟩ := c1.own sD (c1.w.bx.same (same_upd hD)) hD upd_same
  have hk : Same (kn B O H1) (kn B (D :: O) (upd H1 D (.lst []))) := kn_sm sD fun a ha => by
    rcases List.mem_cons.mp ha with rfl | h
    · exact .inr hD
    · exact .inl h
  have c2 : Ct false B O0 (D :: O) Hs (kn B O H1) (upd H1 D (.lst [])) ss σ := ⟨w2.base hk, r2, fun h => nomatch h⟩
  refine ⟨fun i n H => n = ts.length - i ∧ i ≤ ts.length ∧ ∃ acc us, Iv i acc ∧ Ct false B O0 (D :: O) Hs (kn B O H1) H ss σ ∧ H D = some (.lst us) ∧ RepL (kn B (D :: O) H) acc us ∧ Stay B H1 H, ⟨_, rfl, Nat.zero_le _, [], [], i0, c2, upd_same, rfl, sD⟩, ?_⟩
  rintro i n H2 ⟨rfl, hi, acc, us, iv, c3, hd, ra, s2⟩
  have k2 : Same (kn B O H1) H2 := c3.w.kb.trans kn_all
  by_cases hlt : i < ts.length
  · refine .inr ⟨y.go i H2 k2 hlt, fun H' => ∃ acc us, Iv (i + 1) acc ∧ Ct false B O0 (D :: O) Hs (kn B O H1) H' ss σ ∧ H' D = some (.lst us) ∧ RepL (kn B (D :: O) H') acc us ∧ Stay B H1 H', fun H' z => ⟨ts.length - (i + 1), by omega, rfl, hlt, z⟩, fun x H3 yy => ?_⟩
    obtain ⟨sm, t, et, rp⟩ := y.yld i H2 x H3 hlt k2 yy
    obtain ⟨hal, hst⟩ := st i t acc et iv
    have c4 := c3.go (Stay.of sm) (c3.w.bx.same sm)
    refine kg.run (c4.wipe vs) (rp B (D :: O) c3.w.kb c3.w.st c3.w.bx) hst fun s3 σ3 q3 c5 w5 => ⟨(w5 vs hiv).trans (wipe_wipe σ vs), ?_⟩
    refine kt.run c5 q3 fun bb H4 q4 s4 b4 => ?_
    have s24 : Stay B H2 H4 := (Stay.of sm).trans s4
    have c6 := c4.go s4 b4
    split at q4
    · rename_i eb
      rw [if_pos eb]
      refine ke.run (c5.go s4 b4) q4 fun x5 H5 v5 q5 s5 b5 r5 => ?_
      split at q5
      · rename_i u eu
        have s25 := s24.trans s5
        have hd5 : H5 D = some (.lst us) := s25 D _ hd nb
        have c7 := c6.go s5 b5
        have ru := r5.rep (c5.go s4 b4).w s5 eu
        have ra5 := ra.mono (kn_sm (O := D :: O) (O' := D :: O) s25 fun _ h => .inl h)
        refine ⟨us, hd5, szl (by rw [ra.len]; exact hal), acc ++ [u], us ++ [v5], q5, c7.mut List.mem_cons_self hs nd, upd_same, ?_, fun a o e na => ?_⟩
        · rw [kn_mut List.mem_cons_self]
          exact ra5.app (RepL.one ru)
        · rw [upd_ne (ne_of_none e hD)]
          exact s25 a o (s2 a o e na) na
      · exact q5.elim
    · rename_i eb
      rw [if_neg eb]
      exact ⟨acc, us, q4, c6, s24 D _ hd nb, ra.mono (kn_sm (O := D :: O) (O' := D :: O) s24 fun _ h => .inl h), s2.trans s24⟩
  · have e : i = ts.length := by omega
    subst e
    refine .inl ⟨y.stop H2 k2, q _ _ _ (en acc iv) (s.trans s2) c3.w.bx ⟨D, us, rfl, s.free c1.w.bx hD, hd, ra⟩⟩⟩
/-- elementwise -/
def pLcM (ts : List Tv) (F : Tv → Option Tv) : List Tv := ts.filterMap F
theorem lc_map {pi : List Sl → (List Tv → Prop) → Prop} {pg : PGx} {ix : List Nat} {pt : PTx} {pe : PX} {vs : List Nat} {ss : List Sl} {Q : Sx → Prop} (F : Tv → Option Tv)
    (h : pi ss fun ts => (ix.all fun i => vs.contains i) = true ∧ ts.length ≤ 100000 ∧ (∀ t ∈ ts, pg t (wipeS ss vs) fun s2 => pt s2 fun b => if b = true then pe s2 fun x => ∃ u, x.tv = some u ∧ F t = some u else F t = none) ∧ Q (.n (ts.filterMap F)))
    (mi : ∀ {P P' : List Tv → Prop}, (∀ x, P x → P' x) → pi ss P → pi ss P') (mg : ∀ {t s} {P P' : List Sl → Prop}, (∀ x, P x → P' x) → pg t s P → pg t s P') (mt : ∀ {s} {P P' : Bool → Prop}, (∀ x, P x → P' x) → pt s P → pt s P') (me : ∀ {s} {P P' : Sx → Prop}, (∀ x, P x → P' x) → pe s P → pe s P') :
    pLc pi pg ix pt pe vs ss Q := by
  refine mi (fun ts ⟨h1, h2, h3, h4⟩ => ⟨h1, fun i acc => acc = (ts.take i).filterMap F, rfl, fun i t acc et ea => ?_, fun acc ea => ?_⟩) h
  · subst ea
    have hi : i < ts.length := (List.getElem?_eq_some_iff.mp et).1
    refine ⟨?_, mg (fun s2 z => mt (fun b z => ?_) z) (h3 t (List.mem_of_getElem? et))⟩
    · have h1 := List.length_filterMap_le F (ts.take i)
      have h2 := List.length_take_le i ts
      omega
    · have e1 : (ts.take (i + 1)).filterMap F = (ts.take i).filterMap F ++ (F t).toList := by
        rw [List.take_add_one, et, List.filterMap_append]
        cases hF : F t <;> simp [hF]
      by_cases eb : b = true
      · rw [if_pos eb] at z ⊢
        refine me (fun x ⟨u, hu, hF⟩ => ?_) z
        rw [hu]
        show _ = _
        rw [e1, hF]
        rfl
      · rw [if_neg eb] at z ⊢
        show _ = _
        rw [e1, z]
        simp
  · rw [ea, List.take_length]
    exact h4
/-! ### promises of defs -/
inductive Ar where
  | tv (t : Tv)
  | b
def Ar.sl : Ar → Sl
  | .tv t => .val t
  | .b => .box
def Sx.ar : Sx → Option Ar
  | .b => some .b
  | x => x.tv.map .tv
def ars : List Sx → Option (List Ar)
  | [] => some []
  | x :: xs => match x.ar, ars xs with
    | some t, some ts => some (t :: ts)
    | _, _ => none
def ArR (B : Bx) (G : Hp) : Ar → V → Prop
  | .tv t, v => Rep G t v
  | .b, v => ∃ b c, B.1 = some (b, c) ∧ v = .ref b
def ArL (B : Bx) (G : Hp) : List Ar → List V → Prop
  | [], vs => vs = []
  | x :: xs, vs => ∃ v r, vs = v :: r ∧ ArR B G x v ∧ ArL B G xs r
abbrev PSp := List Ar → (Tv → Prop) → Prop
def spP (n : Nat) (p : PSp) : Sp := fun vs H Q _ => ∃ (B : Bx) (O : List Addr) (xs : List Ar) (Qp : Tv → Prop), Wl B O O H (kn B O H) H ∧ ArL B (kn B O H) xs vs ∧ xs.length = n ∧ p xs Qp ∧ ∀ t H' v, Qp t → Stay B H H' → BxOk B H' → Rep (kn B O H') t v → Q v H'
theorem ArL.len {B : Bx} {G : Hp} : ∀ {xs : List Ar} {vs : List V}, ArL B G xs vs → vs.length = xs.length
  | [], _, h => by rw [show _ = [] from h]; rfl
  | x :: xs, _, h => by
    obtain ⟨v, r, rfl, _, h2⟩ := h
    rw [List.length_cons, List.length_cons, h2.len]
theorem XRL.ars {B : Bx} {O0 O : List Addr} {Hs Kb H0 H : Hp} {ss : List Sl} {σ : L2.St} (W : Wl B O0 O Hs Kb H0) (s : Stay B H0 H) : ∀ {xs : List Sx} {as : List Ar} {vs : List V}, ars xs = some as → XRL B O H0 H ss σ xs vs → ArL B (kn B O H) as vs
  | [], _, _, e, h => by cases e; exact h
  | x :: xs, as, _, e, h => by
    obtain ⟨v, r, rfl, h1, h2⟩ := h
    unfold Pl.ars at e
    split at e
    · rename_i t ts' e1 e2
      cases e
      refine ⟨v, r, rfl, ?_, h2.ars W s e2⟩
      cases x with
      | b => cases e1; exact h1
      | v t => cases e1; exact h1
      | n ys => cases e1; exact h1.rep W s rfl
      | nd ks ys => cases e1; exact h1.rep W s rfl
      | _ => cases e1
    · cases e
theorem ArL.b1 {B : Bx} {G : Hp} : ∀ {xs : List Ar} {vs : List V}, ArL B G xs vs → ArL (B.1, none) G xs vs
  | [], _, h => h
  | x :: xs, _, h => by
    obtain ⟨v, r, e, h1, h2⟩ := h
    refine ⟨v, r, e, ?_, h2.b1⟩
    cases x with
    | tv t => exact h1
    | b => exact h1
class LSp (fw : Bool) (sp : Sp) (pr : outParam (List Sx → (Sx → Prop) → Prop)) : Prop where
  run : ∀ {B : Bx} {O0 O : List Addr} {Hs Kb H0 H : Hp} {ss : List Sl} {σ : L2.St} {Q : VK} {E : XK} {Qp : Sx → Prop} {xs : List Sx} {vs : List V}, Ct fw B O0 O Hs Kb H0 ss σ → Ct fw B O0 O Hs Kb H ss σ → Stay B H0 H → XRL B O H0 H ss σ xs vs → pr xs Qp → Fin B O H ss σ Q Qp → sp vs H Q E
def pSp (n : Nat) (p : PSp) : List Sx → (Sx → Prop) → Prop := fun xs Q => match ars xs with
  | some as => as.length = n ∧ p as fun t => Q (.v t)
  | none => False
theorem Wl.start {B : Bx} {O0 O : List Addr} {Hs Kb H : Hp} (w : Wl B O0 O Hs Kb H) : Wl (B.1, none) O O H (kn B O H) H :=
  ⟨Same.refl _, Stay.refl _ _, w.bx, w.bx, fun _ h => h, w.st, fun _ h => .inl h, w.st, w.ob, w.ld, fun _ _ h => nomatch h⟩
instance lspP {n : Nat} {p : PSp} : LSp fw (spP n p) (pSp n p) := ⟨fun {B O0 O Hs Kb H0 H ss σ Q E Qp xs vs} c0 c s r h f => by
  unfold pSp at h
  split at h
  · rename_i as e
    exact ⟨(B.1, none), O, as, _, c.w.start, (r.ars c0.w s e).b1, h.1, h.2, fun t H' v q s' b' r' => f.run _ _ _ q s' b' r'⟩
  · exact h.elim⟩
instance lCall {sp : Sp} {E : XK} {ta : TA} {pa : PAx} {pr : List Sx → (Sx → Prop) → Prop} [a : LA fw ta pa] [k : LSp fw sp pr] : LE fw (tCall sp [] E ta) (pCB pr pa) := ⟨fun c h q =>
  a.run c h fun xs H1 vs q1 s1 b1 r1 => by
    rw [List.append_nil]
    exact k.run c (c.go s1 b1) s1 r1 q1 ⟨fun z H3 w q3 s3 b3 r3 => q _ _ _ q3 (s1.trans s3) b3 (r3.back b1 s1)⟩⟩
theorem ArL.rel {B : Bx} {O : List Addr} {H : Hp} : ∀ {xs : List Ar} {vs : List V}, ArL B (kn B O H) xs vs → ∀ (n : Nat) (i : Nat) s, (xs.map Ar.sl ++ List.replicate n .any)[i]? = some s → (∃ o, (vs.map some ++ List.replicate n none)[i]? = some o ∧ SlOk B O H H s o) ∧ s.isOwn = false
  | [], _, h, n, i, s, e => by
    rw [show _ = [] from h]
    simp only [List.map_nil, List.nil_append] at e ⊢
    rw [List.getElem?_replicate] at e ⊢
    split at e
    · rename_i hn
      cases e
      exact ⟨⟨_, if_pos hn, trivial⟩, rfl⟩
    · cases e
  | x :: xs, _, h, n, i, s, e => by
    obtain ⟨v, r, rfl, h1, h2⟩ := h
    cases i with
    | zero =>
      simp only [List.map_cons, List.cons_append, List.getElem?_cons_zero] at e ⊢
      cases e
      cases x with
      | tv t => exact ⟨⟨_, rfl, (show ∃ v', some v = some v' ∧ Rep (kn B O H) t v' from ⟨v, rfl, h1⟩)⟩, rfl⟩
      | b => obtain ⟨b, c, e1, e2⟩ := h1; exact ⟨⟨_, rfl, (show ∃ b c, B.1 = some (b, c) ∧ some v = some (V.ref b) from ⟨b, c, e1, by rw [e2]⟩)⟩, rfl⟩
    | succ i =>
      simp only [List.map_cons, List.cons_append, List.getElem?_cons_succ] at e ⊢
      exact h2.rel n i s e
def stS (k : Nat) (xs : List Ar) : List Sl := xs.map Ar.sl ++ List.replicate k .any
/-- THE RULE for a def in the pure layer -/
theorem okPu {P : Program} {w : World} {K : PySem.W.Frag} {mg : Str → Option Value} {base : Heap} {x qual : Str} {st : Stmt} {f : Addr} {fd : FuncData} {N ps : List Str} {k : Nat} {p : PSp} (F : Fun K x qual st f fd) (S : FnScope N ps (defScope st))
    (hbody : ∀ (xs : List Ar) (Qp : Tv → Prop), xs.length = ps.length → p xs Qp → ∀ (cdv : Value) (A : Around) (outer : List Env) (s : Shared) (H : Hp) (E : XK), Room k (A.deeper (envOfC qual (defScope st) s.heap.objs.size f cdv)) →
      ∃ t, PSs (cxOf CX0 P w K mg base N qual (defScope st) f cdv A outer s H E).nox (defBody st) t ∧ Sim false t ⟨fun _ => Qp .non, Qp, fun _ => False, fun _ => False⟩ (stS (N.length - ps.length) xs)) : FnOk P w K mg base CX0 (k + 1) f fd ps (spP ps.length p) := by
  refine F.ok S (fun vs H Q E h => ?_) (fun cdv A outer s H vs Q E hr h => ?_)
  · obtain ⟨B, O, xs, Qp, _, h1, h2, _⟩ := h
    rw [h1.len, h2]
  · obtain ⟨B, O, xs, Qp, w, r, hl, hp, q⟩ := h
    obtain ⟨t, ht, sm⟩ := hbody xs Qp hl hp cdv A outer s H E hr
    refine ⟨t, ht, sm B O O H (kn B O H) H _ _ (fun h => nomatch h) ⟨w, ⟨?_, fun i s e => ?_, fun i j s t a _ e1 _ o1 => ?_, fun i j s t a _ e1 _ hm => ?_⟩, fun h => nomatch h⟩ ⟨fun O' H' σ' ss' h c => q .non H' .non h c.w.hh c.w.bx rfl, fun _ _ _ _ h => h.elim, fun _ _ _ _ h => h.elim, fun O' H' t v h w' r' => q t H' v h w'.hh w'.bx r'⟩⟩
    · unfold stS L2.start
      rw [List.length_append, List.length_append, List.length_map, List.length_map, List.length_replicate, List.length_replicate, r.len, hl]
    · unfold stS at e
      unfold L2.start
      rw [r.len, hl]
      exact (r.rel _ i s e).1
    · have := (r.rel _ i s e1).2
      rw [o1] at this
      cases this
    · have := (r.rel _ i s e1).2
      rw [Sl.ads_own hm] at this
      cases this
/-! ### wide promises: made where nothing is hidden -/
def spF (n : Nat) (p : PSp) : Sp := fun vs H Q _ => ∃ (B : Bx) (xs : List Ar) (Qp : Tv → Prop), Wl B [] [] H (kn B [] H) H ∧ ArL B (kn B [] H) xs vs ∧ xs.length = n ∧ p xs Qp ∧ ∀ t H' v, Qp t → Stay B H H' → BxOk B H' → Rep (kn B [] H') t v → Q v H'
instance lspF {n : Nat} {p : PSp} : LSp true (spF n p) (pSp n p) := ⟨fun {B O0 O Hs Kb H0 H ss σ Q E Qp xs vs} c0 c s r h g => by
  obtain ⟨h1, h2⟩ := c.fl rfl
  subst h1 h2
  unfold pSp at h
  split at h
  · rename_i as e
    exact ⟨(B.1, none), as, _, c.w.start, (r.ars c0.w s e).b1, h.1, h.2, fun t H' v q s' b' r' => g.run _ _ _ q s' b' r'⟩
  · exact h.elim⟩
/-- the rule for a def with a wide promise -/
theorem okFu {P : Program} {w : World} {K : PySem.W.Frag} {mg : Str → Option Value} {base : Heap} {x qual : Str} {st : Stmt} {f : Addr} {fd : FuncData} {N ps : List Str} {k : Nat} {p : PSp} (F : Fun K x qual st f fd) (S : FnScope N ps (defScope st))
    (hbody : ∀ (xs : List Ar) (Qp : Tv → Prop), xs.length = ps.length → p xs Qp → ∀ (cdv : Value) (A : Around) (outer : List Env) (s : Shared) (H : Hp) (E : XK), Room k (A.deeper (envOfC qual (defScope st) s.heap.objs.size f cdv)) →
      ∃ t, PSs (cxOf CX0 P w K mg base N qual (defScope st) f cdv A outer s H E).nox (defBody st) t ∧ Sim true t ⟨fun _ => Qp .non, Qp, fun _ => False, fun _ => False⟩ (stS (N.length - ps.length) xs)) : FnOk P w K mg base CX0 (k + 1) f fd ps (spF ps.length p) := by
  refine F.ok S (fun vs H Q E h => ?_) (fun cdv A outer s H vs Q E hr h => ?_)
  · obtain ⟨B, xs, Qp, _, h1, h2, _⟩ := h
    rw [h1.len, h2]
  · obtain ⟨B, xs, Qp, w, r, hl, hp, q⟩ := h
    obtain ⟨t, ht, sm⟩ := hbody xs Qp hl hp cdv A outer s H E hr
    refine ⟨t, ht, sm B [] [] H (kn B [] H) H _ _ (fun _ => rfl) ⟨w, ⟨?_, fun i s e => ?_, fun i j s t a _ e1 _ o1 => ?_, fun i j s t a _ e1 _ hm => ?_⟩, fun h => nomatch h⟩ ⟨fun O' H' σ' ss' h c => q .non H' .non h c.w.hh c.w.bx rfl, fun _ _ _ _ h => h.elim, fun _ _ _ _ h => h.elim, fun O' H' t v h w' r' => q t H' v h w'.hh w'.bx r'⟩⟩
    · unfold stS L2.start
      rw [List.length_append, List.length_append, List.length_map, List.length_map, List.length_replicate, List.length_replicate, r.len, hl]
    · unfold stS at e
      unfold L2.start
      rw [r.len, hl]
      exact (r.rel _ i s e).1
    · have := (r.rel _ i s e1).2
      rw [o1] at this
      cases this
    · have := (r.rel _ i s e1).2
      rw [Sl.ads_own hm] at this
      cases this
end Pl

set_option Elab.async false
set_option linter.all false
set_option maxRecDepth 100000
set_option maxHeartbeats 4000000
/-! The pure layer: locks; more operations. -/
namespace Pl
open PySem PySem.Spec PyProof.Rows L2
variable {fw tp : Bool}
/-! ### a dict walked is locked -/
def Unl (d : Addr) (us : List (Key × V)) (H H' : Hp) : Prop := ∀ a x, H a = some x → (a = d ∧ (∃ o, x = .frz o (.dK us)) ∧ H' a = some (.dK us)) ∨ H' a = some x
theorem Unl.sm {d : Addr} {us : List (Key × V)} {H H' : Hp} (u : Unl d us H H') : Sm H H' := fun a x e => by
  rcases u a x e with ⟨_, ⟨o, rfl⟩, h⟩ | h
  · exact ⟨_, h, .inr ⟨us, .inr ⟨o, rfl⟩, .inl rfl⟩⟩
  · exact ⟨_, h, .inl rfl⟩
mutual
theorem Rep.unl {d : Addr} {us : List (Key × V)} {H H' : Hp} (s : Unl d us H H') : ∀ {t : Tv} {v : V}, Rep H t v → Rep H' t v
  | .int _, _, h => h
  | .str _, _, h => h
  | .bl _, _, h => h
  | .non, _, h => h
  | .tup xs, _, h => by
    obtain ⟨a, us, e, h1, h2⟩ := h
    exact ⟨a, us, e, s.sm.tup h1, RepL.unl s h2⟩
  | .lst xs, _, h => by
    obtain ⟨a, us, e, h1, h2⟩ := h
    exact ⟨a, us, e, s.sm.lst h1, RepL.unl s h2⟩
  | .dic true ks ts, _, h => by
    obtain ⟨a, us, e, h1, h2, h3⟩ := h
    exact ⟨a, us, e, (show Dat H' true a us from s.sm.rd h1), h2, RepL.unl s h3⟩
  | .dic false ks ts, _, h => by
    obtain ⟨a, us, e, h1, h2, h3⟩ := h
    refine ⟨a, us, e, ?_, h2, RepL.unl s h3⟩
    have h1 : H a = some (.dK us) := h1
    rcases s a _ h1 with ⟨_, ⟨o, z⟩, _⟩ | z
    · cases z
    · exact z
  | .ext S, _, h => S.mono s.sm h
theorem RepL.unl {d : Addr} {us : List (Key × V)} {H H' : Hp} (s : Unl d us H H') : ∀ {ts : List Tv} {vs : List V}, RepL H ts vs → RepL H' ts vs
  | [], _, h => h
  | x :: xs, _, h => by
    obtain ⟨u, r, e, h1, h2⟩ := h
    exact ⟨u, r, e, Rep.unl s h1, RepL.unl s h2⟩
end
/-- the slots under a lock -/
def lkS (Ku : Hp) : List Sl → List (Option V) → List Sl
  | s :: ss, o :: os => (match s, o with
    | .val (.int i), _ => .val (.int i)
    | .val (.str i), _ => .val (.str i)
    | .val (.bl i), _ => .val (.bl i)
    | .val .non, _ => .val .non
    | .val t, some v => .pvd Ku v t
    | .own xs, _ => .own (fzL xs)
    | .owd ks xs, _ => .owd ks (fzL xs)
    | .odl as ks xss, _ => .odl as ks (xss.map fzL)
    | .gx G, _ => .gx G
    | .tab P q, _ => .tab P q
    | .box, _ => .box
    | _, _ => .any) :: lkS Ku ss os
  | _, _ => []
open Classical in
/-- the slots behind a lock -/
noncomputable def unSl (d : Addr) (Ku : Hp) : Sl → Sl := fun s => match s with
  | .lkd d' ks ts => if d' = d then .val (.dic false ks ts) else .lkd d' ks ts
  | .pvd K v t => if K = Ku then .val t else .val t.fz
  | s => s
noncomputable def unS (d : Addr) (Ku : Hp) (ss : List Sl) : List Sl := ss.map (unSl d Ku)
theorem unSl_lkd {d : Addr} {Ku : Hp} {ks : List Key} {ts : List Tv} : unSl d Ku (.lkd d ks ts) = .val (.dic false ks ts) := if_pos rfl
theorem unSl_pvd {d : Addr} {Ku : Hp} {v : V} {t : Tv} : unSl d Ku (.pvd Ku v t) = .val t := if_pos rfl
theorem unSl_val {d : Addr} {Ku : Hp} {t : Tv} : unSl d Ku (.val t) = .val t := rfl
theorem unSl_own {d : Addr} {Ku : Hp} {xs : List Tv} : unSl d Ku (.own xs) = .own xs := rfl
theorem unSl_owd {d : Addr} {Ku : Hp} {ks : List Key} {ts : List Tv} : unSl d Ku (.owd ks ts) = .owd ks ts := rfl
theorem unSl_odl {d : Addr} {Ku : Hp} {as : List Addr} {ks : List Key} {ts : List (List Tv)} : unSl d Ku (.odl as ks ts) = .odl as ks ts := rfl
theorem unSl_gx {d : Addr} {Ku : Hp} {G : GSem} : unSl d Ku (.gx G) = .gx G := rfl
theorem unSl_tab {d : Addr} {Ku : Hp} {P : Addr} {q : Str} : unSl d Ku (.tab P q) = .tab P q := rfl
theorem unSl_box {d : Addr} {Ku : Hp} : unSl d Ku .box = .box := rfl
theorem unSl_any {d : Addr} {Ku : Hp} : unSl d Ku .any = .any := rfl
theorem upd_kn {B : Bx} {O : List Addr} {H : Hp} {d : Addr} {o : HO} (h1 : d ∉ O) (h2 : d ∉ bxs B) (n : NT o := by exact fun _ z => nomatch z) : kn B O (upd H d o) = upd (kn B O H) d o := by
  rw [← kt_upd n]
  refine congrArg kt ?_
  funext a
  by_cases e : a = d
  · subst e
    rw [upd_same, kn_eq h1 h2, upd_same]
  · rw [upd_ne e]
    unfold mn
    by_cases hm : a ∈ O ++ bxs B
    · rw [if_pos hm, if_pos hm]
    · rw [if_neg hm, if_neg hm, upd_ne e]
theorem lkS_len (Ku : Hp) : ∀ (ss : List Sl) (os : List (Option V)), ss.length = os.length → (lkS Ku ss os).length = os.length
  | [], [], _ => rfl
  | s :: ss, o :: os, h => by unfold lkS; rw [List.length_cons, List.length_cons, lkS_len Ku ss os (Nat.succ.inj h)]
theorem lkS_at {B : Bx} {O : List Addr} {Hs H : Hp} {d : Addr} {us : List (Key × V)} {od : Obj} {Hs' : Hp} (hd : kn B O H d = some (.dK us)) (hs : ∀ a, Hs a = none → Hs' a = none) :
    ∀ (ss : List Sl) (os : List (Option V)), (∀ (i : Nat) s, ss[i]? = some s → ∃ o, os[i]? = some o ∧ SlOk B O Hs H s o) → ∀ (i : Nat) s, (lkS (kn B O H) ss os)[i]? = some s → ∃ o, os[i]? = some o ∧ SlOk B O Hs' (upd H d (.frz od (.dK us))) s o ∧ (s.isOwn = true → ∃ s', ss[i]? = some s' ∧ s'.isOwn = true ∧ ∀ a ∈ s.ads, a ∈ s'.ads)
  | [], os, _, i, s, e => by simp [lkS] at e
  | s0 :: ss, [], _, i, s, e => by simp [lkS] at e
  | s0 :: ss, o0 :: os, h, i, s, e => by
    obtain ⟨h1, h2, h3⟩ := kn_inv hd
    have ek : kn B O (upd H d (.frz od (.dK us))) = upd (kn B O H) d (.frz od (.dK us)) := upd_kn h2 h3
    have sm : Sm (kn B O H) (kn B O (upd H d (.frz od (.dK us)))) := fun a x ex => by
      rw [ek]
      by_cases ea : a = d
      · subst ea
        rw [hd] at ex
        cases ex
        exact ⟨_, upd_same, .inr ⟨us, .inl rfl, .inr ⟨od, rfl⟩⟩⟩
      · exact ⟨x, by rw [upd_ne ea]; exact ex, .inl rfl⟩
    cases i with
    | succ i =>
      unfold lkS at e
      rw [List.getElem?_cons_succ] at e
      obtain ⟨o, q1, q2, q3⟩ := lkS_at (od := od) hd hs ss os (fun j s' e' => h (j + 1) s' (by rw [List.getElem?_cons_succ]; exact e')) i s e
      exact ⟨o, by rw [List.getElem?_cons_succ]; exact q1, q2, fun z => by obtain ⟨s', r1, r2⟩ := q3 z; exact ⟨s', by rw [List.getElem?_cons_succ]; exact r1, r2⟩⟩
    | zero =>
      unfold lkS at e
      rw [List.getElem?_cons_zero] at e
      obtain ⟨o, q1, q2⟩ := h 0 s0 rfl
      rw [List.getElem?_cons_zero] at q1
      cases q1
      cases e
      refine ⟨o0, rfl, ?_⟩
      cases s0 with
      | val t =>
        obtain ⟨v, rfl, r⟩ := q2
        cases t with
        | int i => exact ⟨⟨v, rfl, r⟩, fun z => nomatch z⟩
        | str i => exact ⟨⟨v, rfl, r⟩, fun z => nomatch z⟩
        | bl i => exact ⟨⟨v, rfl, r⟩, fun z => nomatch z⟩
        | non => exact ⟨⟨v, rfl, r⟩, fun z => nomatch z⟩
        | tup xs => exact ⟨⟨rfl, r, r.fz sm⟩, fun z => nomatch z⟩
        | lst xs => exact ⟨⟨rfl, r, r.fz sm⟩, fun z => nomatch z⟩
        | dic l ks ts => exact ⟨⟨rfl, r, r.fz sm⟩, fun z => nomatch z⟩
        | ext S => exact ⟨⟨rfl, r, r.fz sm⟩, fun z => nomatch z⟩
      | own xs =>
        obtain ⟨a, ws, rfl, m, n, q, r⟩ := q2
        exact ⟨⟨a, ws, rfl, m, hs a n, by rw [upd_ne (fun z => h2 (by rw [← z]; exact m))]; exact q, r.fz sm⟩, fun _ => ⟨_, rfl, rfl, fun _ h => h⟩⟩
      | owd ks xs =>
        obtain ⟨a, ws, rfl, m, n, q, k, r⟩ := q2
        exact ⟨⟨a, ws, rfl, m, hs a n, by rw [upd_ne (fun z => h2 (by rw [← z]; exact m))]; exact q, k, r.fz sm⟩, fun _ => ⟨_, rfl, rfl, fun _ h => h⟩⟩
      | box => exact ⟨q2, fun z => nomatch z⟩
      | any => exact ⟨trivial, fun z => nomatch z⟩
      | lkd d ks ts => exact ⟨trivial, fun z => nomatch z⟩
      | pvd K v t => exact ⟨trivial, fun z => nomatch z⟩
      | tab P q => exact ⟨q2, fun z => nomatch z⟩
      | odl as ks xss =>
        obtain ⟨a, ws, rfl, m, n, q, k, k2, w⟩ := q2
        refine ⟨⟨a, ws, rfl, m, hs a n, by rw [upd_ne (fun z => h2 (by rw [← z]; exact m))]; exact q, k, k2, w.1, by rw [List.length_map]; exact w.2.1, fun i b xs e1 e2 => ?_⟩, fun _ => ⟨_, rfl, rfl, fun _ h => h⟩⟩
        rw [List.getElem?_map] at e2
        cases e3 : xss[i]? with
        | none => rw [e3] at e2; cases e2
        | some ys =>
          rw [e3] at e2
          cases e2
          obtain ⟨z1, z2, ws', z3, z4⟩ := w.2.2 i b ys e1 e3
          exact ⟨z1, hs b z2, ws', by rw [upd_ne (fun z => h2 (by rw [← z]; exact z1))]; exact z3, z4.fz sm⟩
      | gx G => exact ⟨⟨fun a ha => ⟨(q2.1 a ha).1, hs a (q2.1 a ha).2⟩, G.mono sm (fun a ha u e => by rw [upd_ne (fun z => h2 (by rw [← z]; exact (q2.1 a ha).1))]; exact e) q2.2⟩, fun _ => ⟨_, rfl, rfl, fun _ h => h⟩⟩
/-- lock, do, unlock: j is the slot of the dict -/
theorem s_lock (j : Nat) {ks : List Key} {ts : List Tv} {t : TS} {Dp : PEnds} {ss : List Sl} (ej : ss[j]? = some (.val (.dic false ks ts)))
    (h : ∀ (d : Addr) (Ku : Hp) (os : List (Option V)), os.length = ss.length → os[j]? = some (some (.ref d)) → (∀ (i : Nat) t, ss[i]? = some (.val t) → ∃ v, os[i]? = some (some v)) → Sim tp t ⟨fun s => Dp.nx (unS d Ku s), Dp.rt, fun s => Dp.bk (unS d Ku s), fun s => Dp.ct (unS d Ku s)⟩ ((lkS Ku ss os).set j (.lkd d ks (fzL ts)))) : Sim tp (tLock t) Dp ss := fun B O0 O Hs Kb H σ D htp c l => by
  obtain ⟨o, e1, v, e2, d, us, e3, hd, hk, hr⟩ := c.r.at_ j _ ej
  subst e2 e3
  have hd : kn B O H d = some (.dK us) := hd
  obtain ⟨h1, h2, h3⟩ := kn_inv hd
  refine ⟨d, .dK us, h1, trivial, fun od => ?_⟩
  have sm := h d (kn B O H) σ c.r.len.symm e1 (fun i t e => by obtain ⟨o, x1, v, x2, _⟩ := c.r.at_ i _ e; exact ⟨v, by rw [x1, x2]⟩)
  let Hs' : Hp := fun a => if a = d then (match Hs d with | none => none | some _ => some (.frz od (.dK us))) else Hs a
  have hs1 : ∀ a, Hs a = none → Hs' a = none := fun a e => by
    by_cases ea : a = d
    · subst ea
      show (if a = a then _ else _) = _
      rw [if_pos rfl, e]
    · show (if a = d then _ else _) = _
      rw [if_neg ea, e]
  have hs2 : ∀ a, Hs' a = none → Hs a = none := fun a e => by
    by_cases ea : a = d
    · subst ea
      have e' : (if a = a then (match Hs a with | none => none | some _ => some (.frz od (.dK us))) else Hs a) = none := e
      rw [if_pos rfl] at e'
      cases q : Hs a with
      | none => rfl
      | some x => rw [q] at e'; cases e'
    · have e' : (if a = d then (match Hs d with | none => none | some _ => some (.frz od (.dK us))) else Hs a) = none := e
      rwa [if_neg ea] at e'
  have hs3 : ∀ a, a ≠ d → Hs' a = Hs a := fun a ea => if_neg ea
  have hsd : ∀ x, Hs' d = some x → x = .frz od (.dK us) := fun x e => by
    have e' : (if d = d then (match Hs d with | none => none | some _ => some (.frz od (.dK us))) else Hs d) = some x := e
    rw [if_pos rfl] at e'
    cases q : Hs d with
    | none => rw [q] at e'; cases e'
    | some y => rw [q] at e'; exact (Option.some.inj e').symm
  have ek : kn B O (upd H d (.frz od (.dK us))) = upd (kn B O H) d (.frz od (.dK us)) := upd_kn h2 h3
  have bmut : ∀ {G G' : Hp}, (∀ a, a ≠ d → G' a = G a) → BxOk B G → BxOk B G' := fun {G G'} hg hb p q eB => by
    have np : p ≠ d := fun z => h3 (by rw [bxs_eq eB, ← z]; simp)
    have nq : q ≠ d := fun z => h3 (by rw [bxs_eq eB, ← z]; simp)
    obtain ⟨n, cs, k, q1, q2, q3⟩ := hb p q eB
    exact ⟨n, cs, k, by rw [hg p np]; exact q1, by rw [hg q nq]; exact q2, q3⟩
  have cl : Ct false B O0 O Hs' (upd (kn B O H) d (.frz od (.dK us))) (upd H d (.frz od (.dK us))) ((lkS (kn B O H) ss σ).set j (.lkd d ks (fzL ts))) σ := by
    refine ⟨⟨by rw [ek]; exact Same.refl _, fun a x e na => ?_, bmut (fun a ea => upd_ne ea) c.w.bx, bmut hs3 c.w.bs, c.w.o0, fun a ha => ?_, fun a ha => (c.w.on a ha).imp id (hs1 a), fun a ha => ?_, c.w.ob, fun a ha o e => c.w.ld a ha o (by rw [upd_ne (fun z => h2 (by rw [← z]; exact ha))] at e; exact e), fun P q e => ⟨tab_upd (c.w.tb P q e).1 h1 (fun _ z => nomatch z) (fun _ _ z => by unfold LamX.CodeO at z; cases z), fun a ps z => by
      by_cases ea : a = d
      · subst ea
        have := hsd _ z
        cases this
      · rw [hs3 a ea] at z
        exact (c.w.tb P q e).2 a ps z⟩⟩, c.r.sub (by rw [List.length_set]; exact lkS_len _ _ _ c.r.len) (fun i s e => ?_) (fun i s x1 o1 => ?_), fun h => nomatch h⟩
    · by_cases ea : a = d
      · subst ea; rw [upd_same, hsd x e]
      · rw [upd_ne ea]; rw [hs3 a ea] at e; exact c.w.hh a x e na
    · obtain ⟨x, e⟩ := c.w.s0 a ha
      cases q : Hs' a with
      | some y => exact ⟨y, rfl⟩
      | none => rw [hs2 a q] at e; cases e
    · obtain ⟨x, e⟩ := c.w.st a ha
      exact ⟨x, by rw [upd_ne (fun z => h2 (by rw [← z]; exact ha))]; exact e⟩
    · by_cases hj : j = i
      · subst hj
        have hl : j < (lkS (kn B O H) ss σ).length := by rw [lkS_len _ _ _ c.r.len, ← c.r.len]; exact (List.getElem?_eq_some_iff.mp ej).1
        rw [List.getElem?_set_self hl] at e
        cases e
        refine ⟨_, e1, us, od, rfl, by rw [ek, upd_same], hk, hr.fz fun a x ex => ?_⟩
        rw [ek]
        by_cases ea : a = d
        · subst ea
          rw [hd] at ex
          cases ex
          exact ⟨_, upd_same, .inr ⟨us, .inl rfl, .inr ⟨od, rfl⟩⟩⟩
        · exact ⟨x, by rw [upd_ne ea]; exact ex, .inl rfl⟩
      · rw [List.getElem?_set_ne hj] at e
        obtain ⟨o, q1, q2, _⟩ := lkS_at (od := od) hd hs1 ss σ c.r.at_ i s e
        exact ⟨o, q1, q2⟩
    · by_cases hj : j = i
      · subst hj
        have hl : j < (lkS (kn B O H) ss σ).length := by rw [lkS_len _ _ _ c.r.len, ← c.r.len]; exact (List.getElem?_eq_some_iff.mp ej).1
        rw [List.getElem?_set_self hl] at x1
        cases x1
        cases o1
      · rw [List.getElem?_set_ne hj] at x1
        obtain ⟨_, _, _, q3⟩ := lkS_at (od := od) hd hs1 ss σ c.r.at_ i s x1
        obtain ⟨s', z1, z2, z3⟩ := q3 o1
        exact ⟨s', z1, z2, z3, rfl⟩
  -- unlocking
  have wu : ∀ {O' : List Addr} {H' : Hp}, Wl B O0 O' Hs' (upd (kn B O H) d (.frz od (.dK us))) H' → d ∉ O' ∧ H' d = some (.frz od (.dK us)) ∧ Wl B O0 O' Hs Kb (upd H' d (.dK us)) ∧ Same (kn B O H) (kn B O' (upd H' d (.dK us))) ∧ Unl d us (kn B O' H') (kn B O' (upd H' d (.dK us))) := fun {O' H'} w => by
    have kd := w.kb d _ upd_same
    obtain ⟨g1, g2, g3⟩ := kn_inv kd
    have ek' : kn B O' (upd H' d (.dK us)) = upd (kn B O' H') d (.dK us) := upd_kn g2 h3
    have sb : Same (kn B O H) (kn B O' (upd H' d (.dK us))) := fun a x e => by
      rw [ek']
      by_cases ea : a = d
      · subst ea; rw [hd] at e; cases e; exact upd_same
      · rw [upd_ne ea]; exact w.kb a x (by rw [upd_ne ea]; exact e)
    refine ⟨g2, g1, ⟨c.w.kb.trans sb, fun a x e na => ?_, bmut (fun a ea => upd_ne ea) w.bx, c.w.bs, w.o0, c.w.s0, fun a ha => (w.on a ha).imp id (hs2 a), fun a ha => ?_, w.ob, fun a ha o e => w.ld a ha o (by rw [upd_ne (fun z => g2 (by rw [← z]; exact ha))] at e; exact e), fun P q e => ⟨tab_upd (w.tb P q e).1 g1 (fun _ z => nomatch z) (fun _ _ z => by unfold LamX.CodeO at z; cases z), (c.w.tb P q e).2⟩⟩, sb, fun a x e => ?_⟩
    · by_cases ea : a = d
      · subst ea
        have := c.w.hh a x e na
        rw [h1] at this
        cases this
        exact upd_same
      · rw [upd_ne ea]
        exact w.hh a x (by rw [hs3 a ea]; exact e) na
    · obtain ⟨x, e⟩ := w.st a ha
      exact ⟨x, by rw [upd_ne (fun z => g2 (by rw [← z]; exact ha))]; exact e⟩
    · rw [ek']
      by_cases ea : a = d
      · subst ea
        rw [kd] at e
        cases e
        exact .inl ⟨rfl, ⟨od, rfl⟩, upd_same⟩
      · exact .inr (by rw [upd_ne ea]; exact e)
  have cu : ∀ {O' : List Addr} {H' : Hp} {ss' : List Sl} {σ' : L2.St}, Ct false B O0 O' Hs' (upd (kn B O H) d (.frz od (.dK us))) H' ss' σ' → H' d = some (.frz od (.dK us)) ∧ Ct false B O0 O' Hs Kb (upd H' d (.dK us)) (unS d (kn B O H) ss') σ' := fun {O' H' ss' σ'} c' => by
    obtain ⟨g2, g1, w, sb, un⟩ := wu c'.w
    have ek' : kn B O' (upd H' d (.dK us)) = upd (kn B O' H') d (.dK us) := upd_kn g2 h3
    refine ⟨g1, w, c'.r.sub (by unfold unS; rw [List.length_map]; exact c'.r.len) (fun i s e => ?_) (fun i s x1 o1 => ?_), fun h => nomatch h⟩
    · unfold unS at e
      rw [List.getElem?_map] at e
      cases e0 : ss'[i]? with
      | none => rw [e0] at e; cases e
      | some s0 =>
        rw [e0] at e
        cases e
        obtain ⟨o, q1, q2⟩ := c'.r.at_ i s0 e0
        refine ⟨o, q1, ?_⟩
        cases s0 with
        | any => trivial
        | val t => obtain ⟨v, e, r⟩ := q2; exact ⟨v, e, r.unl un⟩
        | own xs => obtain ⟨a, ws, e, m, n, q, r⟩ := q2; exact ⟨a, ws, e, m, hs2 a n, by rw [upd_ne (fun z => g2 (by rw [← z]; exact m))]; exact q, r.unl un⟩
        | owd ks' xs => obtain ⟨a, ws, e, m, n, q, k, r⟩ := q2; exact ⟨a, ws, e, m, hs2 a n, by rw [upd_ne (fun z => g2 (by rw [← z]; exact m))]; exact q, k, r.unl un⟩
        | box => exact q2
        | lkd d' ks' ts' =>
          obtain ⟨ws, x, e, q, k, r⟩ := q2
          unfold unSl
          dsimp only
          by_cases hd' : d' = d
          · rw [if_pos hd']
            subst hd'
            rw [show kn B O' H' d' = some (.frz od (.dK us)) from kn_at g2 h3 g1] at q
            have e5 : us = ws := by cases q; rfl
            subst e5
            refine ⟨_, e, d', us, rfl, ?_, k, r.unl un⟩
            show kn B O' _ d' = _
            rw [ek', upd_same]
          · rw [if_neg hd']
            exact ⟨ws, x, e, by rw [ek', upd_ne hd']; exact q, k, r.unl un⟩
        | pvd K v t =>
          obtain ⟨e, r1, r2⟩ := q2
          unfold unSl
          dsimp only
          by_cases hK : K = kn B O H
          · rw [if_pos hK]
            exact ⟨v, e, (by rw [hK] at r1; exact r1.mono sb)⟩
          · rw [if_neg hK]
            exact ⟨v, e, r2.unl un⟩
        | tab P q => exact q2
        | odl as ks' xss =>
          obtain ⟨a, ws, e, m, n, q, k, k2, w'⟩ := q2
          exact ⟨a, ws, e, m, hs2 a n, by rw [upd_ne (fun z => g2 (by rw [← z]; exact m))]; exact q, k, k2, w'.of fun b xs hb mb nb vs hv r => ⟨mb, hs2 b nb, vs, by rw [upd_ne (fun z => g2 (by rw [← z]; exact mb))]; exact hv, r.unl un⟩⟩
        | gx G => exact ⟨fun a ha => ⟨(q2.1 a ha).1, hs2 a (q2.1 a ha).2⟩, G.mono un.sm (fun a ha u e => by rw [upd_ne (fun z => g2 (by rw [← z]; exact (q2.1 a ha).1))]; exact e) q2.2⟩
    · unfold unS at x1
      rw [List.getElem?_map] at x1
      cases e0 : ss'[i]? with
      | none => rw [e0] at x1; cases x1
      | some s0 =>
        rw [e0] at x1
        cases x1
        refine ⟨s0, rfl, ?_⟩
        cases s0 with
        | lkd d' ks' ts' => unfold unSl at o1; dsimp only at o1; split at o1 <;> cases o1
        | pvd K v t => unfold unSl at o1; dsimp only at o1; split at o1 <;> cases o1
        | _ => exact ⟨o1, fun _ h => h, rfl⟩
  refine sm B O0 O Hs' _ _ σ _ htp cl ⟨fun O' H' σ' ss' q c' => ⟨(cu c').1, l.nx _ _ _ _ q (cu c').2⟩, fun O' H' σ' ss' q c' => ⟨(cu c').1, l.bk _ _ _ _ q (cu c').2⟩, fun O' H' σ' ss' q c' => ⟨(cu c').1, l.ct _ _ _ _ q (cu c').2⟩, fun O' H' t v q w' r => ?_⟩
  obtain ⟨g2, g1, w, _, _⟩ := wu w'
  refine ⟨g1, l.rt _ _ _ _ q w (r.unl (d := d) (us := us) fun a x e => ?_)⟩
  have g0 : d ∉ O0 := fun z => g2 (w'.o0 d z)
  rw [upd_kn g0 h3]
  by_cases ea : a = d
  · subst ea
    rw [show kn B O0 H' a = some (.frz od (.dK us)) from kn_at g0 h3 g1] at e
    cases e
    exact .inl ⟨rfl, ⟨od, rfl⟩, upd_same⟩
  · exact .inr (by rw [upd_ne ea]; exact e)
end Pl

set_option Elab.async false
set_option linter.all false
set_option maxRecDepth 100000
set_option maxHeartbeats 4000000
/-! The pure layer: more operations. -/
namespace Pl
open PySem PySem.Spec PyProof.Rows L2
variable {fw : Bool}
def kT : Key → Tv
  | .inl i => .int i
  | .inr s => .str s
theorem kT_rep {H : Hp} {k : Key} : Rep H (kT k) (kV k) := by cases k <;> rfl
/-! ### dicts -/
def piKeys (pe : PX) (j : Nat) : List Sl → (List Tv → Prop) → Prop := fun ss Q => match ss[j]? with
  | some (.lkd _ ks _) => Q (ks.map kT)
  | _ => False
instance liKeys {j : Nat} : LI fw (iKeys (tVar j)) (piKeys (pVar j) j) := ⟨fun {B O0 O Hs Kb H ss σ R Qp} c h q => by
  unfold piKeys at h
  split at h
  · rename_i d ks ts e
    obtain ⟨o, e1, us, x, e2, g, hk, hr⟩ := c.r.at_ _ _ e
    subst e2
    refine ⟨_, e1, d, x, rfl, .inl ⟨us, (kn_inv g).1, q _ _ _ h (Stay.refl _ _) c.w.bx ⟨fun i H' s hi => ⟨s _ _ g, ?_⟩, fun H' s => ⟨s _ _ g, ?_⟩, fun i H' x' H'' hi s y => ?_⟩⟩⟩
    · rw [List.length_map, ← hk, List.length_map] at hi
      exact hi
    · rw [List.length_map, ← hk, List.length_map]
      exact Nat.le_refl _
    · obtain ⟨rfl, k, v, ek, rfl⟩ := y
      refine ⟨Same.refl _, kT k, ?_, fun B O _ _ _ => kT_rep⟩
      rw [List.getElem?_map, ← hk, List.getElem?_map, ek]
      rfl
  · exact h.elim⟩
def piItems (pe : PX) (j : Nat) : List Sl → (List Tv → Prop) → Prop := fun ss Q => match ss[j]? with
  | some (.lkd _ ks ts) => ks.length = ts.length ∧ Q ((ks.zip ts).map fun p => Tv.tup [kT p.1, p.2])
  | _ => False
instance liItems {j : Nat} : LI fw (iItems (tVar j)) (piItems (pVar j) j) := ⟨fun {B O0 O Hs Kb H ss σ R Qp} c h q => by
  unfold piItems at h
  split at h
  · rename_i d ks ts e
    obtain ⟨o, e1, us, x, e2, g, hk, hr⟩ := c.r.at_ _ _ e
    subst e2
    have hl : us.length = ks.length := by rw [← hk, List.length_map]
    refine ⟨_, e1, d, x, us, rfl, (kn_inv g).1, q _ _ _ h.2 (Stay.refl _ _) c.w.bx ⟨fun i H' s hi => ⟨s _ _ g, ?_⟩, fun H' s => ⟨s _ _ g, ?_⟩, fun i H' x' H'' hi s y => ?_⟩⟩
    · rw [List.length_map, List.length_zip, ← h.1] at hi
      omega
    · rw [List.length_map, List.length_zip, ← h.1]
      omega
    · obtain ⟨T, k, v, ek, rfl, hT, rfl⟩ := y
      have h1 : ks[i]? = some k := by rw [← hk, List.getElem?_map, ek]; rfl
      have hi' : i < ts.length := by rw [← h.1]; exact (List.getElem?_eq_some_iff.mp h1).1
      obtain ⟨v', e3, r3⟩ := hr.get i ts[i] (List.getElem?_eq_getElem hi')
      rw [List.getElem?_map, ek] at e3
      cases e3
      refine ⟨same_upd hT, .tup [kT k, ts[i]], ?_, fun B' O' kk st bx => ⟨T, [kV k, v], rfl, ?_, ⟨_, _, rfl, kT_rep, _, _, rfl, ?_, rfl⟩⟩⟩
      · rw [List.getElem?_map, (List.getElem?_zip_eq_some (z := (k, ts[i]))).mpr ⟨h1, List.getElem?_eq_getElem hi'⟩]
        rfl
      · exact kn_at (fun hm => by obtain ⟨o, e⟩ := st T hm; rw [hT] at e; cases e) (bx.nin hT) upd_same
      · exact r3.mono (kk.trans (kn_sm (Stay.of (same_upd hT)) fun _ h => .inl h))
  · exact h.elim⟩
def pDNew : PX := fun _ Q => Q (.nd [] [])
instance lDNew : LE fw tDNewK pDNew := ⟨fun {B O0 O Hs Kb H ss σ Q Qp} c h q p hp => by
  have s : Stay B H (upd H p (.dK [])) := Stay.of (same_upd hp)
  exact q _ _ _ h s (c.w.bx.same (same_upd hp)) ⟨p, [], rfl, hp, upd_same, rfl, rfl⟩⟩
def vT (ks : List Key) (ts : List Tv) (k : Key) : Option Tv := ((ks.zip ts).find? fun p => decide (p.1 = k)).map (·.2)
theorem vT_rep {H : Hp} {k : Key} : ∀ {us : List (Key × V)} {ks : List Key} {ts : List Tv}, us.map (·.1) = ks → RepL H ts (us.map (·.2)) → (∀ t, vT ks ts k = some t → ∃ v, valV us k = some v ∧ Rep H t v) ∧ (vT ks ts k = none → valV us k = none)
  | [], ks, ts, e, r => by
    cases e
    exact ⟨fun t h => by simp [vT] at h, fun _ => rfl⟩
  | p :: us, [], ts, e, r => by cases e
  | p :: us, k0 :: ks, [], e, r => by cases r
  | p :: us, k0 :: ks, t0 :: ts, e, r => by
    rw [List.map_cons] at e
    injection e with e1 e2
    obtain ⟨v, w, ew, r1, r2⟩ := r
    rw [List.map_cons] at ew
    injection ew with ew1 ew2
    subst ew1 ew2 e1
    by_cases hk : p.1 = k
    · rw [valV_pos hk]
      have : vT (p.1 :: ks) (t0 :: ts) k = some t0 := by simp [vT, hk]
      rw [this]
      exact ⟨fun t h => by cases h; exact ⟨_, rfl, r1⟩, fun h => nomatch h⟩
    · rw [valV_neg hk]
      have : vT (p.1 :: ks) (t0 :: ts) k = vT ks ts k := by simp [vT, hk]
      rw [this]
      exact vT_rep e2 r2
def pDGet (pd py : PX) : PX := fun ss Q => pd ss fun x => py ss fun y => match x.dq, y.tv.bind Tv.key with
  | some (ks, ts), some k => ∃ t, vT ks ts k = some t ∧ Q (.v t)
  | _, _ => False
theorem DGet.rd {H : Hp} {a : Addr} {kvs : List (Key × V)} {k : Key} (e : Rd H a (.dK kvs)) : DGet H a (kV k) (valV kvs k) := .inl ⟨kvs, k, e, rfl, rfl⟩
instance lDGet {td ty : TE} {pd py : PX} [a : LE fw td pd] [b : LE fw ty py] : LE fw (tDGet td ty) (pDGet pd py) := ⟨fun {B O0 O Hs Kb H ss σ Q Qp} c h q => a.run c h fun x H1 v q1 s1 b1 r1 => b.run (c.go s1 b1) q1 fun y H2 u q2 s2 b2 r2 => by
  have c2 := (c.go s1 b1).go s2 b2
  have s12 := s1.trans s2
  split at q2
  · rename_i ks ts k ex ek
    obtain ⟨t, ht, q3⟩ := q2
    obtain ⟨d, us, rfl, g, hk, hr⟩ := (r1.go c.w s1 s2).dic c.w s12 c2.r ex
    obtain ⟨ty', e1, e2⟩ := Option.bind_eq_some_iff.mp ek
    have := Tv.key_rep e2 (r2.rep (c.go s1 b1).w s2 e1)
    subst this
    obtain ⟨w, hw, rw'⟩ := (vT_rep hk hr).1 t ht
    exact ⟨d, w, rfl, by rw [← hw]; exact DGet.rd g, q _ _ _ q3 s12 b2 rw'⟩
  · exact q2.elim⟩
def pDGet2 (pd py pz : PX) : PX := fun ss Q => pd ss fun x => match x.dq with
  | some (ks, ts) => py ss fun y => pz ss fun z => match y.tv.bind Tv.key with
    | some k => (match vT ks ts k with | some t => Q (.v t) | none => (match z.tv with | some t => Q (.v t) | none => False))
    | none => False
  | none => False
def pDIn (neg : Bool) (py pd : PX) : PX := fun ss Q => py ss fun y => pd ss fun x => match x.dq, y.tv.bind Tv.key with
  | some (ks, ts), some k => ks.length = ts.length ∧ Q (.v (.bl (neg ^^ ks.any fun x => decide (x = k))))
  | _, _ => False
theorem valV_mem {us : List (Key × V)} {k : Key} : (valV us k).isSome = (us.map (·.1)).any fun x => decide (x = k) := by
  induction us with
  | nil => simp [valV]
  | cons p us ih =>
    by_cases h : p.1 = k
    · rw [valV_pos h]; simp [h]
    · rw [valV_neg h, ih]; simp [h]
theorem din_go {neg : Bool} {B : Bx} {O0 O : List Addr} {Hs Kb H : Hp} {ss : List Sl} {σ : L2.St} {Q : VK} {Qp : Sx → Prop} {td ty : TE} {pd py : PX} (a : LE fw td pd) (b : LE fw ty py) (c : Ct fw B O0 O Hs Kb H ss σ) (h : pDIn neg py pd ss Qp)
    (q : ∀ x H' v, Qp x → Stay B H H' → BxOk B H' → XR B O H H' ss σ x v → Q v H') : ty σ H fun y H1 => td σ H1 fun x H2 => ∃ a o, x = .ref a ∧ DGet H2 a y o ∧ Q (.bl (neg ^^ o.isSome)) H2 :=
  b.run c h fun y H1 u q1 s1 b1 r1 => a.run (c.go s1 b1) q1 fun x H2 v q2 s2 b2 r2 => by
  have c2 := (c.go s1 b1).go s2 b2
  have s12 := s1.trans s2
  split at q2
  · rename_i ks ts k ex ek
    obtain ⟨d, us, rfl, g, hk, hr⟩ := (r2.back b1 s1).dic c.w s12 c2.r ex
    obtain ⟨ty', e1, e2⟩ := Option.bind_eq_some_iff.mp ek
    have := Tv.key_rep e2 ((r1.go c.w s1 s2).rep c.w s12 e1)
    subst this
    refine ⟨d, _, rfl, DGet.rd g, ?_⟩
    rw [valV_mem, hk]
    exact q _ _ _ q2.2 s12 b2 rfl
  · exact q2.elim
instance lDIn {td ty : TE} {pd py : PX} [a : LE fw td pd] [b : LE fw ty py] : LE fw (tDIn ty td) (pDIn false py pd) := ⟨fun {B O0 O Hs Kb H ss σ Q Qp} c h q => by
  have z := din_go (Q := Q) a b c h q
  simp only [Bool.false_xor] at z
  exact z⟩
instance lDNotIn {td ty : TE} {pd py : PX} [a : LE fw td pd] [b : LE fw ty py] : LE fw (tDNotIn ty td) (pDIn true py pd) := ⟨fun {B O0 O Hs Kb H ss σ Q Qp} c h q => by
  have z := din_go (Q := Q) a b c h q
  simp only [Bool.true_xor] at z
  exact z⟩
instance lDGet2 {td ty tz : TE} {pd py pz : PX} [a : LE fw td pd] [b : LE fw ty py] [e : LE fw tz pz] : LE fw (tDGet2 td ty tz) (pDGet2 pd py pz) := ⟨fun {B O0 O Hs Kb H ss σ Q Qp} c h q => a.run c h fun x H1 v q1 s1 b1 r1 => by
  have c1 := c.go s1 b1
  split at q1
  · rename_i ks ts ex
    obtain ⟨d, us, rfl, g, hk, hr⟩ := r1.dic c.w s1 c1.r ex
    refine ⟨d, rfl, .inl ⟨us, g⟩, b.run c1 q1 fun y H2 u q2 s2 b2 r2 => e.run (c1.go s2 b2) q2 fun z H3 w q3 s3 b3 r3 => ?_⟩
    have c2 := c1.go s2 b2
    have c3 := c2.go s3 b3
    have s13 := (s1.trans s2).trans s3
    obtain ⟨d', us', e4, g, hk, hr⟩ := ((r1.go c.w s1 s2).go c.w (s1.trans s2) s3).dic c.w s13 c3.r ex
    cases e4
    split at q3
    · rename_i k ek
      obtain ⟨ty', e1, e2⟩ := Option.bind_eq_some_iff.mp ek
      have := Tv.key_rep e2 ((r2.go c1.w s2 s3).rep c1.w (s2.trans s3) e1)
      subst this
      obtain ⟨v1, v2⟩ := vT_rep (k := k) hk hr
      refine ⟨_, DGet.rd g, ?_⟩
      split at q3
      · rename_i t ht
        obtain ⟨w', hw, rw'⟩ := v1 t ht
        rw [hw]
        exact q _ _ _ q3 s13 b3 rw'
      · rename_i hn
        rw [v2 hn]
        split at q3
        · rename_i t ht
          exact q _ _ _ q3 s13 b3 (r3.rep c2.w s3 ht)
        · exact q3.elim
    · exact q3.elim
  · exact q1.elim⟩
end Pl

set_option Elab.async false
set_option linter.all false
set_option maxRecDepth 100000
set_option maxHeartbeats 4000000
/-! The pure layer: lists, tuples, texts, tests of kinds. -/
namespace Pl
open PySem PySem.Spec PyProof.Rows L2
variable {fw : Bool}
theorem OpR.or {X : Cx} {f : Value → Value → PySem.Sem Value} {r r' : R2} (h : OpR X f r) (h' : OpR X f r') : OpR X f (fun x y H Q => r x y H Q ∨ r' x y H Q) := by
  intro pins s σ H x y v u Q I rx ry q
  rcases q with q | q
  · exact h pins s σ H x y v u Q I rx ry q
  · exact h' pins s σ H x y v u Q I rx ry q
theorem CallR.or {X : Cx} {f : Value} {r r' : List V → Hp → VK → Prop} (h : CallR X f r) (h' : CallR X f r') : CallR X f (fun xs H Q => r xs H Q ∨ r' xs H Q) := by
  intro pins s σ H xs us Q I rx q
  rcases q with q | q
  · exact h pins s σ H xs us Q I rx q
  · exact h' pins s σ H xs us Q I rx q
/-! ### + -/
def rAddS : R2 := fun x y H Q => ∃ i j, x = .str i ∧ y = .str j ∧ i.length + j.length ≤ sizeLine ∧ Q (.str (i ++ j)) H
def rAddG (K : PySem.W.Frag) : R2 := fun x y H Q => rI0 (fun i j => .int (i + j)) x y H Q ∨ rAddS x y H Q ∨ rCat x y H Q ∨ rCatA K x y H Q
theorem op_addG {X : Cx} : OpR X (binaryOp .Add) (rAddG X.K) := OpR.or op_add (OpR.or op_add_str (OpR.or op_cat op_catA))
def pAddG : Sx → Sx → (Sx → Prop) → Prop := fun x y Q => match x, y with
  | .v (.int i), .v (.int j) => Q (.v (.int (i + j)))
  | .v (.str i), .v (.str j) => i.length + j.length ≤ 100000 ∧ Q (.v (.str (i ++ j)))
  | .v (.tup xs), .v (.tup ys) => xs.length + ys.length ≤ 100000 ∧ Q (.v (.tup (xs ++ ys)))
  | x, y => match x.sq, y.sq with
    | some xs, some ys => xs.length + ys.length ≤ 100000 ∧ Q (.n (xs ++ ys))
    | _, _ => False
instance lAddG {K : PySem.W.Frag} : LR fw (rAddG K) pAddG := ⟨fun {B O0 O Hs Kb H0 H ss σ Q Qp x y v u} c0 c s rx ry h q => by
  unfold pAddG at h
  split at h
  · cases rx; cases ry
    exact .inl ⟨_, _, rfl, rfl, q.now c.w.bx h rfl⟩
  · cases rx; cases ry
    exact .inr (.inl ⟨_, _, rfl, rfl, sz h.1, q.now c.w.bx h.2 rfl⟩)
  · rename_i xs ys
    obtain ⟨a, us, rfl, g, r⟩ := XR.tpk (x := .v (.tup xs)) rfl rx
    obtain ⟨b, ws, rfl, g2, r2⟩ := XR.tpk (x := .v (.tup ys)) rfl ry
    refine .inr (.inr (.inr ⟨a, b, us, ws, rfl, rfl, SqT.of (kn_inv g).1, SqT.of (kn_inv g2).1, sz (by rw [r.len, r2.len]; exact h.1), fun e => ?_, fun e1 e2 => ?_, fun e1 e2 p hp => ?_⟩))
    · subst e
      have : xs = [] := List.eq_nil_of_length_eq_zero (by rw [← r.len]; rfl)
      subst this
      exact q.now c.w.bx h.2 ⟨b, ws, rfl, g2, r2⟩
    · subst e2
      have : ys = [] := List.eq_nil_of_length_eq_zero (by rw [← r2.len]; rfl)
      subst this
      rw [List.append_nil] at h
      exact q.now c.w.bx h.2 ⟨a, us, rfl, g, r⟩
    · exact q.tup c h.2 (r.app r2) hp
  · split at h
    · rename_i xs ys e1 e2
      obtain ⟨a, us, rfl, g, r⟩ := rx.seq c0.w s c.r e1
      obtain ⟨b, ws, rfl, g2, r2⟩ := ry.seq c0.w s c.r e2
      exact .inr (.inr (.inl ⟨a, b, us, ws, rfl, rfl, g, g2, sz (by rw [r.len, r2.len]; exact h.1), fun p hp => q.lst c h.2 (r.app r2) hp⟩))
    · exact h.elim⟩
/-! ### * -/
def rMulG : R2 := fun x y H Q => rI CMulW (fun i j => .int (i * j)) x y H Q ∨ rRep x y H Q
theorem op_mulG {X : Cx} : OpR X (binaryOp .Mult) rMulG := OpR.or op_mulW op_rep
def pMulG : Sx → Sx → (Sx → Prop) → Prop := fun x y Q => match x, y with
  | .v (.int i), .v (.int j) => CMulW i j ∧ Q (.v (.int (i * j)))
  | x, .v (.int k) => (match x.sq with
    | some xs => -(2 ^ 63) ≤ k ∧ k < 2 ^ 63 ∧ xs.length * k.toNat ≤ 100000 ∧ Q (.n (List.replicate k.toNat xs).flatten)
    | none => False)
  | _, _ => False
theorem RepL.flat {H : Hp} {xs : List Tv} {us : List V} (r : RepL H xs us) : ∀ n : Nat, RepL H (List.replicate n xs).flatten (List.replicate n us).flatten
  | 0 => rfl
  | n + 1 => by
    rw [List.replicate_succ, List.replicate_succ, List.flatten_cons, List.flatten_cons]
    exact r.app (r.flat n)
instance lMulG : LR fw rMulG pMulG := ⟨fun {B O0 O Hs Kb H0 H ss σ Q Qp x y v u} c0 c s rx ry h q => by
  unfold pMulG at h
  split at h
  · cases rx; cases ry
    exact .inl ⟨_, _, rfl, rfl, h.1, q.now c.w.bx h.2 rfl⟩
  · cases ry
    split at h
    · rename_i xs e1
      obtain ⟨a, us, rfl, g, r⟩ := rx.seq c0.w s c.r e1
      exact .inr ⟨a, _, us, rfl, rfl, g, h.1, h.2.1, sz (by rw [r.len]; exact h.2.2.1), fun p hp => q.lst c h.2.2.2 (r.flat _) hp⟩
    · exact h.elim
  · exact h.elim⟩
/-! ### len -/
def pLen : List Sx → (Sx → Prop) → Prop := fun xs Q => match xs with
  | [.v (.str z)] => z.length ≤ 100000 ∧ Q (.v (.int z.length))
  | [.v (.tup xs)] => Q (.v (.int xs.length))
  | [x] => (match x.sq with | some xs => Q (.v (.int xs.length)) | none => False)
  | _ => False
theorem len_inv {xs : List Sx} {Q : Sx → Prop} (h : pLen xs Q) : ∃ x, xs = [x] ∧ ((∃ z, x = .v (.str z) ∧ z.length ≤ 100000 ∧ Q (.v (.int z.length))) ∨ (∃ ys, x.tq = some ys ∧ Q (.v (.int ys.length))) ∨ ∃ ys, x.sq = some ys ∧ Q (.v (.int ys.length))) := by
  match xs, h with
  | [], h => exact h.elim
  | _ :: _ :: _, h => exact (by simp [pLen] at h)
  | [x], h =>
    refine ⟨x, rfl, ?_⟩
    cases x with
    | v t =>
      cases t with
      | str z => exact .inl ⟨z, rfl, h⟩
      | tup ys => exact .inr (.inl ⟨ys, rfl, h⟩)
      | lst ys => exact .inr (.inr ⟨ys, rfl, h⟩)
      | _ => exact h.elim
    | n ys => exact .inr (.inr ⟨ys, rfl, h⟩)
    | o i ys => exact .inr (.inr ⟨ys, rfl, h⟩)
    | _ => exact h.elim
instance lLen {K : PySem.W.Frag} : LC fw (fun xs H Q => ∃ x n, xs = [x] ∧ LenV K x H n ∧ Q (.int n) H) pLen := ⟨fun {B O0 O Hs Kb H0 H ss σ Q Qp xs vs} c0 c s r h q => by
  obtain ⟨x, rfl, h'⟩ := len_inv h
  obtain ⟨v, w, rfl, rx, rfl⟩ := r
  rcases h' with ⟨z, rfl, hl, h⟩ | ⟨ys, e, h⟩ | ⟨ys, e, h⟩
  · cases rx
    exact ⟨_, _, rfl, ⟨sz hl, rfl⟩, q.now c.w.bx h rfl⟩
  · obtain ⟨a, us, rfl, g, r⟩ := rx.tpk e
    refine ⟨_, us.length, rfl, .inr ⟨us, SqT.of (kn_inv g).1, rfl⟩, ?_⟩
    rw [r.len]
    exact q.now c.w.bx h rfl
  · obtain ⟨a, us, rfl, g, r⟩ := rx.seq c0.w s c.r e
    refine ⟨_, us.length, rfl, .inl ⟨us, SqL.of g, rfl⟩, ?_⟩
    rw [r.len]
    exact q.now c.w.bx h rfl⟩
/-! ### isinstance of built-in kinds -/
def tyOf : Sx → Option String
  | .v (.int _) => some "int"
  | .v (.str _) => some "str"
  | .v (.bl _) => some "bool"
  | .v .non => some "NoneType"
  | .v (.tup _) => some "tuple"
  | .v (.lst _) => some "list"
  | .n _ => some "list"
  | .o _ _ => some "list"
  | _ => none
theorem tyOf_ok {B : Bx} {O0 O : List Addr} {Hs Kb H0 H : Hp} {ss : List Sl} {σ : L2.St} {x : Sx} {v : V} {n : String} (c0 : Ct fw B O0 O Hs Kb H0 ss σ) (c : Ct fw B O0 O Hs Kb H ss σ) (s : Stay B H0 H) (h : tyOf x = some n) (rx : XR B O H0 H ss σ x v) : Ty H v n := by
  have lst : ∀ (xs : List Tv), x.sq = some xs → n = "list" → Ty H v n := fun xs e hn => by
    obtain ⟨a, us, rfl, g, r⟩ := rx.seq c0.w s c.r e
    rw [hn]
    exact .lst g
  cases x with
  | v t =>
    cases t with
    | int i => cases h; cases rx; exact .int _
    | str i => cases h; cases rx; exact .str _
    | bl i => cases h; cases rx; exact .bl _
    | non => cases h; cases rx; exact .non
    | tup xs =>
      obtain ⟨a, us, rfl, g, r⟩ := XR.tpk (x := .v (.tup xs)) rfl rx
      cases h
      exact .tup (kn_inv g).1
    | lst xs => exact lst xs rfl (by cases h; rfl)
    | _ => cases h
  | n xs => exact lst xs rfl (by cases h; rfl)
  | o i xs => exact lst xs rfl (by cases h; rfl)
  | _ => cases h
/-- isinstance by the names of both kinds -/
def kb (t n : String) : Option Bool := match n with
  | "int" => some (t == "int" || t == "bool")
  | "bool" => some (t == "bool")
  | "tuple" => some (t == "tuple")
  | "list" => some (t == "list")
  | "str" => some (t == "str")
  | _ => none
theorem kb_ok {K : PySem.W.Frag} {H : Hp} {v : V} {t n : String} {b : Bool} (h : Ty H v t) (e : kb t n = some b) : PySem.W.kitOne K (.type t) (.type n) = some b := by
  unfold kb at e
  split at e
  · cases e
    rw [isI_int h]
    cases h
    · rw [q_none_int]; rfl
    · rw [q_bool_int]; rfl
    · rw [q_int_int]; rfl
    · rw [q_str_int]; rfl
    · rw [q_list_int]; rfl
    · rw [q_tuple_int]; rfl
  · cases e
    rw [isI_bool h]
    cases h
    · rw [q_none_bool]; rfl
    · rw [q_bool_bool]; rfl
    · rw [q_int_bool]; rfl
    · rw [q_str_bool]; rfl
    · rw [q_list_bool]; rfl
    · rw [q_tuple_bool]; rfl
  · cases e
    rw [isI_tuple h]
    cases h
    · rw [q_none_tuple]; rfl
    · rw [q_bool_tuple]; rfl
    · rw [q_int_tuple]; rfl
    · rw [q_str_tuple]; rfl
    · rw [q_list_tuple]; rfl
    · rw [q_tuple_tuple]; rfl
  · cases e
    rw [isI_list h]
    cases h
    · rw [q_none_list]; rfl
    · rw [q_bool_list]; rfl
    · rw [q_int_list]; rfl
    · rw [q_str_list]; rfl
    · rw [q_list_list]; rfl
    · rw [q_tuple_list]; rfl
  · cases e
    rw [isI_str h]
    cases h
    · rw [q_none_str]; rfl
    · rw [q_bool_str]; rfl
    · rw [q_int_str]; rfl
    · rw [q_str_str]; rfl
    · rw [q_list_str]; rfl
    · rw [q_tuple_str]; rfl
  · cases e
def pIsi : List Sx → (Sx → Prop) → Prop := fun xs Q => match xs with
  | [x, .ty n] => (match tyOf x with
    | some t => (match kb t n with | some b => Q (.v (.bl b)) | none => False)
    | none => False)
  | _ => False
instance lIsi {K : PySem.W.Frag} : LC fw (rIsi K) pIsi := ⟨fun {B O0 O Hs Kb H0 H ss σ Q Qp xs vs} c0 c s r h q => by
  unfold pIsi at h
  split at h
  · rename_i x n
    obtain ⟨v, w, rfl, rx, v2, w2, rfl, rc, rfl⟩ := r
    cases rc
    split at h
    · rename_i t et
      have ty := tyOf_ok c0 c s et rx
      split at h
      · rename_i b eb
        exact ⟨v, .ty n, .type t, .type n, b, rfl, .ty n, ty.x, kb_ok ty eb, q.now c.w.bx h rfl⟩
      · exact h.elim
    · exact h.elim
  · exact h.elim⟩
/-! ### in -/
def intsT : List Tv → Option (List Int)
  | [] => some []
  | .int i :: r => (intsT r).map (i :: ·)
  | _ => none
def strsT : List Tv → Option (List Str)
  | [] => some []
  | .str i :: r => (strsT r).map (i :: ·)
  | _ => none
@[simp] theorem intsT_map : ∀ ns : List Int, intsT (ns.map Tv.int) = some ns
  | [] => rfl
  | n :: r => by rw [List.map_cons, intsT, intsT_map r]; rfl
@[simp] theorem strsT_map : ∀ ns : List Str, strsT (ns.map Tv.str) = some ns
  | [] => rfl
  | n :: r => by rw [List.map_cons, strsT, strsT_map r]; rfl
theorem intsT_eq : ∀ {ts : List Tv} {ns : List Int}, intsT ts = some ns → ts = ns.map Tv.int
  | [], ns, h => by cases h; rfl
  | t :: r, ns, h => by
    cases t with
    | int i =>
      unfold intsT at h
      cases e : intsT r with
      | none => rw [e] at h; cases h
      | some ms => rw [e] at h; cases h; rw [intsT_eq e]; rfl
    | _ => cases h
theorem strsT_eq : ∀ {ts : List Tv} {ns : List Str}, strsT ts = some ns → ts = ns.map Tv.str
  | [], ns, h => by cases h; rfl
  | t :: r, ns, h => by
    cases t with
    | str i =>
      unfold strsT at h
      cases e : strsT r with
      | none => rw [e] at h; cases h
      | some ms => rw [e] at h; cases h; rw [strsT_eq e]; rfl
    | _ => cases h
/-- the items of a list or a tuple -/
def Sx.it : Sx → Option (List Tv)
  | .v (.tup xs) => some xs
  | x => x.sq
theorem XR.its {B : Bx} {O0 O : List Addr} {Hs Kb H0 H : Hp} {ss : List Sl} {σ : L2.St} {x : Sx} {v : V} {xs : List Tv} {K : PySem.W.Frag} (W : Wl B O0 O Hs Kb H0) (s : Stay B H0 H) (R : Rels B O Hs H ss σ) (e : x.it = some xs) (h : XR B O H0 H ss σ x v) : ∃ a us, v = .ref a ∧ (SqL K H a us ∨ SqT K H a us) ∧ RepL (kn B O H) xs us := by
  have key : x.tq = some xs ∨ x.sq = some xs := by
    cases x with
    | v t => cases t <;> first | exact .inl e | exact .inr e
    | _ => exact .inr e
  rcases key with e | e
  · obtain ⟨a, us, rfl, g, r⟩ := h.tpk e
    exact ⟨a, us, rfl, .inr (SqT.of (kn_inv g).1), r⟩
  · obtain ⟨a, us, rfl, g, r⟩ := h.seq W s R e
    exact ⟨a, us, rfl, .inl (SqL.of g), r⟩
theorem inVi {i : Int} {ns : List Int} : inV (.int i) (ns.map V.int) = decide (i ∈ ns) := by
  unfold inV
  rw [List.any_map]
  induction ns with
  | nil => simp
  | cons n r ih =>
    rw [List.any_cons, ih]
    by_cases h : n = i
    · simp [eqV, h]
    · simp [eqV, h, Ne.symm h]
theorem inVs {i : Str} {ns : List Str} : inV (.str i) (ns.map V.str) = decide (i ∈ ns) := by
  unfold inV
  rw [List.any_map]
  induction ns with
  | nil => simp
  | cons n r ih =>
    rw [List.any_cons, ih]
    by_cases h : n = i
    · simp [eqV, h]
    · simp [eqV, h, Ne.symm h]
def pIn (neg : Bool) : Sx → Sx → (Sx → Prop) → Prop := fun x y Q => match y.it with
  | some ts => (match x with
    | .v (.int i) => (match intsT ts with | some ns => Q (.v (.bl (neg ^^ decide (i ∈ ns)))) | none => False)
    | .v (.str i) => (match strsT ts with | some ns => Q (.v (.bl (neg ^^ decide (i ∈ ns)))) | none => False)
    | _ => False)
  | none => False
theorem flatInts (ns : List Int) : (ns.map V.int).all flatV = true := List.all_eq_true.mpr fun v h => by obtain ⟨i, _, rfl⟩ := List.mem_map.mp h; rfl
theorem flatStrs (ns : List Str) : (ns.map V.str).all flatV = true := List.all_eq_true.mpr fun v h => by obtain ⟨i, _, rfl⟩ := List.mem_map.mp h; rfl
instance lIn {K : PySem.W.Frag} {neg : Bool} : LR fw (rIn K neg) (pIn neg) := ⟨fun {B O0 O Hs Kb H0 H ss σ Q Qp x y v u} c0 c s rx ry h q => by
  unfold pIn at h
  split at h
  · rename_i ts e
    obtain ⟨a, us, rfl, g, r⟩ := ry.its (K := K) c0.w s c.r e
    split at h
    · rename_i i
      cases rx
      split at h
      · rename_i ns en
        rw [intsT_eq en] at r
        have := r.ints
        subst this
        refine ⟨a, _, rfl, g, rfl, flatInts ns, ?_⟩
        rw [inVi]
        cases neg
        · exact q.now c.w.bx h (by simp [Rep])
        · exact q.now c.w.bx h (by simp [Rep])
      · exact h.elim
    · rename_i i
      cases rx
      split at h
      · rename_i ns en
        rw [strsT_eq en] at r
        have := r.strs
        subst this
        refine ⟨a, _, rfl, g, rfl, flatStrs ns, ?_⟩
        rw [inVs]
        cases neg
        · exact q.now c.w.bx h (by simp [Rep])
        · exact q.now c.w.bx h (by simp [Rep])
      · exact h.elim
    · exact h.elim
  · exact h.elim⟩
/-! ### slices -/
abbrev POx := List Sl → (Option Int → Prop) → Prop
class LO (fw : Bool) (to : TO) (po : outParam POx) : Prop where
  run : ∀ {B : Bx} {O0 O : List Addr} {Hs Kb H : Hp} {ss : List Sl} {σ : L2.St} {Q : Option Int → Hp → Prop} {Qp : Option Int → Prop}, Ct fw B O0 O Hs Kb H ss σ → po ss Qp → (∀ x H', Qp x → Stay B H H' → BxOk B H' → Q x H') → to σ H Q
def pNoPart : POx := fun _ Q => Q none
def pPart (pe : PX) : POx := fun ss Q => pe ss fun x => match x with | .v (.int i) => Q (some i) | _ => False
instance lNoPart : LO fw tNoPart pNoPart := ⟨fun c h q => q _ _ h (Stay.refl _ _) c.w.bx⟩
instance lPart {te : TE} {pe : PX} [k : LE fw te pe] : LO fw (tPart te) (pPart pe) := ⟨fun {B O0 O Hs Kb H ss σ Q Qp} c h q => k.run c h fun x H' v q1 s b r => by
  split at q1
  · exact ⟨_, r, q _ _ q1 s b⟩
  · exact q1.elim⟩
def rSlG (K : PySem.W.Frag) : V → Option Int → Option Int → Hp → VK → Prop := fun x lo hi H Q => rSlL K x lo hi H Q ∨ rSlA K x lo hi H Q ∨ rSlS x lo hi H Q
theorem sl_G {X : Cx} : SlR X (rSlG X.K) := SlR.or sl_list (SlR.or sl_tupA sl_str)
def cutT (xs : List Tv) (lo hi : Option Int) : List Tv := (xs.drop (HT.sIx xs.length 0 lo)).take (HT.sIx xs.length xs.length hi - HT.sIx xs.length 0 lo)
def pSl (pe : PX) (pl ph : POx) : PX := fun ss Q => pe ss fun x => pl ss fun l => ph ss fun h => match x with
  | .v (.str z) => z.length ≤ 100000 ∧ Q (.v (.str (cutS z l h)))
  | .v (.tup xs) => Q (.v (.tup (cutT xs l h)))
  | x => (match x.sq with | some xs => Q (.n (cutT xs l h)) | none => False)
theorem cut_rep {H : Hp} {xs : List Tv} {us : List V} (r : RepL H xs us) (lo hi : Option Int) : RepL H (cutT xs lo hi) (cutV us lo hi) := by
  unfold cutT cutV
  rw [r.len]
  exact (r.drop _).take _
theorem cutT_all {xs : List Tv} {lo hi : Option Int} (h1 : HT.sIx xs.length 0 lo = 0) (h2 : HT.sIx xs.length xs.length hi = xs.length) : cutT xs lo hi = xs := by
  unfold cutT
  rw [h1, h2, List.drop_zero, Nat.sub_zero, List.take_length]
instance lSl {K : PySem.W.Frag} {te : TE} {tl th : TO} {pe : PX} {pl ph : POx} [k : LE fw te pe] [k1 : LO fw tl pl] [k2 : LO fw th ph] : LE fw (tSl (rSlG K) te tl th) (pSl pe pl ph) := ⟨fun {B O0 O Hs Kb H ss σ Q Qp} c h q =>
  k.run c h fun x H1 v q1 s1 b1 r1 => k1.run (c.go s1 b1) q1 fun lo H2 q2 s2 b2 => k2.run ((c.go s1 b1).go s2 b2) q2 fun hi H3 q3 s3 b3 => by
  have s13 := (s1.trans s2).trans s3
  have c3 := ((c.go s1 b1).go s2 b2).go s3 b3
  have r3 := (r1.go c.w s1 s2).go c.w (s1.trans s2) s3
  have f : Fin B O H3 ss σ Q Qp := ⟨fun z H4 w q4 s4 b4 r4 => q _ _ _ q4 (s13.trans s4) b4 (r4.back b3 s13)⟩
  split at q3
  · cases r3
    exact .inr (.inr ⟨_, rfl, sz q3.1, f.now b3 q3.2 rfl⟩)
  · rename_i xs
    obtain ⟨a, us, rfl, g, r⟩ := XR.tpk (x := .v (.tup xs)) rfl r3
    refine .inr (.inl ⟨a, us, rfl, SqT.of (kn_inv g).1, fun e => ?_, fun _ p hp => f.tup c3 q3 (cut_rep r lo hi) hp⟩)
    rw [cutT_all (by rw [← r.len]; exact e.1) (by rw [← r.len]; exact e.2)] at q3
    exact f.now b3 q3 ⟨a, us, rfl, g, r⟩
  · split at q3
    · rename_i xs e
      obtain ⟨a, us, rfl, g, r⟩ := r3.seq c.w s13 c3.r e
      exact .inl ⟨a, us, rfl, SqL.of g, fun p hp => f.lst c3 q3 (cut_rep r lo hi) hp⟩
    · exact q3.elim⟩
def pRev (pe : PX) : PX := fun ss Q => pe ss fun x => match x.sq with | some xs => Q (.n xs.reverse) | none => False
instance lRev {K : PySem.W.Frag} {te : TE} {pe : PX} [k : LE fw te pe] : LE fw (tRevL K te) (pRev pe) := ⟨fun {B O0 O Hs Kb H ss σ Q Qp} c h q => k.run c h fun x H1 v q1 s1 b1 r1 => by
  split at q1
  · rename_i xs e
    obtain ⟨a, us, rfl, g, r⟩ := r1.seq c.w s1 (c.go s1 b1).r e
    have f : Fin B O H1 ss σ Q Qp := ⟨fun z H4 w q4 s4 b4 r4 => q _ _ _ q4 (s1.trans s4) b4 (r4.back b1 s1)⟩
    exact ⟨a, us, rfl, SqL.of g, fun p hp => f.lst (c.go s1 b1) q1 r.rev hp⟩
  · exact q1.elim⟩
end Pl

set_option Elab.async false
set_option linter.all false
set_option maxRecDepth 100000
set_option maxHeartbeats 4000000
/-! The pure layer: builtins. -/
namespace Pl
open PySem PySem.Spec PyProof.Rows L2
variable {fw : Bool}
def pAbs : List Sx → (Sx → Prop) → Prop := fun xs Q => match xs with | [.v (.int i)] => Q (.v (.int (if i < 0 then -i else i))) | _ => False
instance lAbs : LC fw (fun xs H Q => ∃ i, xs = [.int i] ∧ Q (.int (if i < 0 then -i else i)) H) pAbs := ⟨fun {B O0 O Hs Kb H0 H ss σ Q Qp xs vs} c0 c s r h q => by
  unfold pAbs at h
  split at h
  · obtain ⟨v, w, rfl, r1, rfl⟩ := r
    cases r1
    exact ⟨_, rfl, q.now c.w.bx h rfl⟩
  · exact h.elim⟩
def p2I (f : Int → Int → Int) : List Sx → (Sx → Prop) → Prop := fun xs Q => match xs with | [.v (.int i), .v (.int j)] => Q (.v (.int (f i j))) | _ => False
instance l2I {f : Int → Int → Int} : LC fw (fun xs H Q => ∃ i j, xs = [.int i, .int j] ∧ Q (.int (f i j)) H) (p2I f) := ⟨fun {B O0 O Hs Kb H0 H ss σ Q Qp xs vs} c0 c s r h q => by
  unfold p2I at h
  split at h
  · obtain ⟨v, w, rfl, r1, v2, w2, rfl, r2, rfl⟩ := r
    cases r1
    cases r2
    exact ⟨_, _, rfl, q.now c.w.bx h rfl⟩
  · exact h.elim⟩
def pInt1 : List Sx → (Sx → Prop) → Prop := fun xs Q => match xs with | [.v (.int i)] => Q (.v (.int i)) | [.v (.bl b)] => Q (.v (.int (if b then 1 else 0))) | _ => False
instance lInt1 : LC fw (fun xs H Q => (∃ i, xs = [.int i] ∧ Q (.int i) H) ∨ ∃ k, xs = [.bl k] ∧ Q (.int (if k then 1 else 0)) H) pInt1 := ⟨fun {B O0 O Hs Kb H0 H ss σ Q Qp xs vs} c0 c s r h q => by
  unfold pInt1 at h
  split at h
  · obtain ⟨v, w, rfl, r1, rfl⟩ := r
    cases r1
    exact .inl ⟨_, rfl, q.now c.w.bx h rfl⟩
  · obtain ⟨v, w, rfl, r1, rfl⟩ := r
    cases r1
    exact .inr ⟨_, rfl, q.now c.w.bx h rfl⟩
  · exact h.elim⟩
def pBool1 : List Sx → (Sx → Prop) → Prop := fun xs Q => match xs with | [.v (.int i)] => Q (.v (.bl (i != 0))) | [.v (.bl b)] => Q (.v (.bl b)) | _ => False
instance lBool1 : LC fw (fun xs H Q => (∃ i, xs = [.int i] ∧ Q (.bl (i != 0)) H) ∨ ∃ k, xs = [.bl k] ∧ Q (.bl k) H) pBool1 := ⟨fun {B O0 O Hs Kb H0 H ss σ Q Qp xs vs} c0 c s r h q => by
  unfold pBool1 at h
  split at h
  · obtain ⟨v, w, rfl, r1, rfl⟩ := r
    cases r1
    exact .inl ⟨_, rfl, q.now c.w.bx h rfl⟩
  · obtain ⟨v, w, rfl, r1, rfl⟩ := r
    cases r1
    exact .inr ⟨_, rfl, q.now c.w.bx h rfl⟩
  · exact h.elim⟩
def pStrI : List Sx → (Sx → Prop) → Prop := fun xs Q => match xs with | [.v (.int i)] => i.natAbs.log2 < 1920 ∧ Q (.v (.str (toString i))) | _ => False
instance lStrI : LC fw (fun xs H Q => ∃ i : Int, xs = [.int i] ∧ i.natAbs.log2 < 1920 ∧ Q (.str (toString i)) H) pStrI := ⟨fun {B O0 O Hs Kb H0 H ss σ Q Qp xs vs} c0 c s r h q => by
  unfold pStrI at h
  split at h
  · obtain ⟨v, w, rfl, r1, rfl⟩ := r
    cases r1
    exact ⟨_, rfl, h.1, q.now c.w.bx h.2 rfl⟩
  · exact h.elim⟩
/-- list(..), tuple(..) -/
def pListOf : List Sx → (Sx → Prop) → Prop := fun xs Q => match xs with | [x] => (match x.it with | some ts => Q (.n ts) | none => False) | _ => False
instance lListOf {K : PySem.W.Frag} : LC fw (fun xs H Q => ∃ p ys, xs = [.ref p] ∧ (SqL K H p ys ∨ SqT K H p ys) ∧ ∀ l, H l = none → Q (.ref l) (upd H l (.lst ys))) pListOf := ⟨fun {B O0 O Hs Kb H0 H ss σ Q Qp xs vs} c0 c s r h q => by
  unfold pListOf at h
  split at h
  · obtain ⟨v, w, rfl, r1, rfl⟩ := r
    split at h
    · rename_i ts e
      obtain ⟨a, us, rfl, g, rr⟩ := r1.its (K := K) c0.w s c.r e
      exact ⟨a, us, rfl, g, fun l hl => q.lst c h rr hl⟩
    · exact h.elim
  · exact h.elim⟩
def pTupleOf : List Sx → (Sx → Prop) → Prop := fun xs Q => match xs with
  | [.v (.tup ts)] => Q (.v (.tup ts))
  | [x] => (match x.sq with | some ts => Q (.v (.tup ts)) | none => False)
  | _ => False
instance lTupleOf {K : PySem.W.Frag} : LC fw (fun xs H Q => ∃ p ys, xs = [.ref p] ∧ ((SqL K H p ys ∧ ∀ l, H l = none → Q (.ref l) (upd H l (.tup ys))) ∨ (SqT K H p ys ∧ Q (.ref p) H))) pTupleOf := ⟨fun {B O0 O Hs Kb H0 H ss σ Q Qp xs vs} c0 c s r h q => by
  unfold pTupleOf at h
  split at h
  · rename_i ts
    obtain ⟨v, w, rfl, r1, rfl⟩ := r
    obtain ⟨a, us, rfl, g, rr⟩ := XR.tpk (x := .v (.tup ts)) rfl r1
    exact ⟨a, us, rfl, .inr ⟨SqT.of (kn_inv g).1, q.now c.w.bx h ⟨a, us, rfl, g, rr⟩⟩⟩
  · obtain ⟨v, w, rfl, r1, rfl⟩ := r
    split at h
    · rename_i ts e
      obtain ⟨a, us, rfl, g, rr⟩ := r1.seq c0.w s c.r e
      exact ⟨a, us, rfl, .inl ⟨SqL.of g, fun l hl => q.tup c h rr hl⟩⟩
    · exact h.elim
  · exact h.elim⟩
/-- sum, all, any, sorted, max, min of a list -/
def ints1 (xs : List Sx) : Option (List Int) := match xs with | [x] => (x.sq).bind intsT | _ => none
theorem ints1_ok {B : Bx} {O0 O : List Addr} {Hs Kb H0 H : Hp} {ss : List Sl} {σ : L2.St} {xs : List Sx} {vs : List V} {ns : List Int} (c0 : Ct fw B O0 O Hs Kb H0 ss σ) (c : Ct fw B O0 O Hs Kb H ss σ) (s : Stay B H0 H) (r : XRL B O H0 H ss σ xs vs) (e : ints1 xs = some ns) : ∃ a, vs = [.ref a] ∧ H a = some (.lst (ns.map V.int)) := by
  unfold ints1 at e
  split at e
  · obtain ⟨v, w, rfl, r1, rfl⟩ := r
    obtain ⟨ts, e1, e2⟩ := Option.bind_eq_some_iff.mp e
    obtain ⟨a, us, rfl, g, rr⟩ := r1.seq c0.w s c.r e1
    rw [intsT_eq e2] at rr
    rw [rr.ints] at g
    exact ⟨a, rfl, g⟩
  · cases e
def pSum : List Sx → (Sx → Prop) → Prop := fun xs Q => match ints1 xs with | some ns => Q (.v (.int ns.sum)) | none => False
instance lSum {K : PySem.W.Frag} : LC fw (rSum K) pSum := ⟨fun {B O0 O Hs Kb H0 H ss σ Q Qp xs vs} c0 c s r h q => by
  unfold pSum at h
  split at h
  · rename_i ns e
    obtain ⟨a, rfl, g⟩ := ints1_ok c0 c s r e
    exact ⟨a, ns, rfl, SqL.of g, q.now c.w.bx h rfl⟩
  · exact h.elim⟩
def pSortedI : List Sx → (Sx → Prop) → Prop := fun xs Q => match ints1 xs with | some ns => ∀ ns' : List Int, ns'.Perm ns → ns'.Pairwise (· ≤ ·) → Q (.n (ns'.map Tv.int)) | none => False
instance lSortedI {K : PySem.W.Frag} : LC fw (rSortedI K) pSortedI := ⟨fun {B O0 O Hs Kb H0 H ss σ Q Qp xs vs} c0 c s r h q => by
  unfold pSortedI at h
  split at h
  · rename_i ns e
    obtain ⟨a, rfl, g⟩ := ints1_ok c0 c s r e
    exact ⟨a, ns, rfl, SqL.of g, fun ns' p h1 h2 hp => q.lst c (h ns' h1 h2) (RepL.of_ints ns') hp⟩
  · exact h.elim⟩
def pMax : List Sx → (Sx → Prop) → Prop := fun xs Q => match ints1 xs with | some ns => 0 < ns.length ∧ ∀ m, m ∈ ns → (∀ y, y ∈ ns → y ≤ m) → Q (.v (.int m)) | none => False
instance lMax {K : PySem.W.Frag} : LC fw (rMax K) pMax := ⟨fun {B O0 O Hs Kb H0 H ss σ Q Qp xs vs} c0 c s r h q => by
  unfold pMax at h
  split at h
  · rename_i ns e
    obtain ⟨a, rfl, g⟩ := ints1_ok c0 c s r e
    exact ⟨a, ns, rfl, SqL.of g, h.1, fun m h1 h2 => q.now c.w.bx (h.2 m h1 h2) rfl⟩
  · exact h.elim⟩
def pMin : List Sx → (Sx → Prop) → Prop := fun xs Q => match ints1 xs with | some ns => 0 < ns.length ∧ ∀ m, m ∈ ns → (∀ y, y ∈ ns → m ≤ y) → Q (.v (.int m)) | none => False
instance lMin {K : PySem.W.Frag} : LC fw (rMin K) pMin := ⟨fun {B O0 O Hs Kb H0 H ss σ Q Qp xs vs} c0 c s r h q => by
  unfold pMin at h
  split at h
  · rename_i ns e
    obtain ⟨a, rfl, g⟩ := ints1_ok c0 c s r e
    exact ⟨a, ns, rfl, SqL.of g, h.1, fun m h1 h2 => q.now c.w.bx (h.2 m h1 h2) rfl⟩
  · exact h.elim⟩
def blsT : List Tv → Option (List Bool)
  | [] => some []
  | .bl i :: r => (blsT r).map (i :: ·)
  | _ => none
@[simp] theorem blsT_map : ∀ ns : List Bool, blsT (ns.map Tv.bl) = some ns
  | [] => rfl
  | n :: r => by rw [List.map_cons, blsT, blsT_map r]; rfl
theorem blsT_rep {H : Hp} : ∀ {ts : List Tv} {ns : List Bool} {us : List V}, blsT ts = some ns → RepL H ts us → us = ns.map V.bl
  | [], ns, us, h, r => by cases h; exact r
  | t :: ts, ns, us, h, r => by
    obtain ⟨v, w, rfl, r1, r2⟩ := r
    cases t with
    | bl i =>
      unfold blsT at h
      cases e : blsT ts with
      | none => rw [e] at h; cases h
      | some ms => rw [e] at h; cases h; rw [blsT_rep e r2]; cases r1; rfl
    | _ => cases h
def bls1 (xs : List Sx) : Option (List Bool) := match xs with | [x] => (x.sq).bind blsT | _ => none
theorem bls1_ok {B : Bx} {O0 O : List Addr} {Hs Kb H0 H : Hp} {ss : List Sl} {σ : L2.St} {xs : List Sx} {vs : List V} {ns : List Bool} (c0 : Ct fw B O0 O Hs Kb H0 ss σ) (c : Ct fw B O0 O Hs Kb H ss σ) (s : Stay B H0 H) (r : XRL B O H0 H ss σ xs vs) (e : bls1 xs = some ns) : ∃ a, vs = [.ref a] ∧ H a = some (.lst (ns.map V.bl)) := by
  unfold bls1 at e
  split at e
  · obtain ⟨v, w, rfl, r1, rfl⟩ := r
    obtain ⟨ts, e1, e2⟩ := Option.bind_eq_some_iff.mp e
    obtain ⟨a, us, rfl, g, rr⟩ := r1.seq c0.w s c.r e1
    rw [blsT_rep e2 rr] at g
    exact ⟨a, rfl, g⟩
  · cases e
def pAll : List Sx → (Sx → Prop) → Prop := fun xs Q => match bls1 xs with | some ns => Q (.v (.bl (ns.all id))) | none => False
def pAny : List Sx → (Sx → Prop) → Prop := fun xs Q => match bls1 xs with | some ns => Q (.v (.bl (ns.any id))) | none => False
instance lAll {K : PySem.W.Frag} : LC fw (rAll K) pAll := ⟨fun {B O0 O Hs Kb H0 H ss σ Q Qp xs vs} c0 c s r h q => by
  unfold pAll at h
  split at h
  · rename_i ns e
    obtain ⟨a, rfl, g⟩ := bls1_ok c0 c s r e
    exact ⟨a, ns, rfl, SqL.of g, q.now c.w.bx h rfl⟩
  · exact h.elim⟩
instance lAny {K : PySem.W.Frag} : LC fw (rAny K) pAny := ⟨fun {B O0 O Hs Kb H0 H ss σ Q Qp xs vs} c0 c s r h q => by
  unfold pAny at h
  split at h
  · rename_i ns e
    obtain ⟨a, rfl, g⟩ := bls1_ok c0 c s r e
    exact ⟨a, ns, rfl, SqL.of g, q.now c.w.bx h rfl⟩
  · exact h.elim⟩
/-! ### == at any depth -/
mutual
def Tv.pd : Tv → Option PyData
  | .int i => some (.int i)
  | .str s => some (.str s)
  | .bl b => some (.bool b)
  | .non => some .none
  | .tup xs => (pdL xs).map .tuple
  | .lst xs => (pdL xs).map .list
  | .dic _ _ _ => none
  | .ext _ => none
def pdL : List Tv → Option (List PyData)
  | [] => some []
  | x :: xs => match x.pd, pdL xs with
    | some d, some ds => some (d :: ds)
    | _, _ => none
end
mutual
theorem Rep.dp {K : PySem.W.Frag} {H : Hp} : ∀ {t : Tv} {v : V} {d : PyData}, t.pd = some d → Rep H t v → Dp K H v d
  | .int i, _, _, e, r => by cases e; cases r; exact .int _
  | .str i, _, _, e, r => by cases e; cases r; exact .str _
  | .bl i, _, _, e, r => by cases e; cases r; exact .bl _
  | .non, _, _, e, r => by cases e; cases r; exact .non
  | .tup xs, _, d, e, r => by
    obtain ⟨a, us, rfl, h, rl⟩ := r
    rw [Tv.pd] at e
    obtain ⟨ds, e1, rfl⟩ := Option.map_eq_some_iff.mp e
    exact .tup (SqT.of h) (RepL.dp e1 rl)
  | .lst xs, _, d, e, r => by
    obtain ⟨a, us, rfl, h, rl⟩ := r
    rw [Tv.pd] at e
    obtain ⟨ds, e1, rfl⟩ := Option.map_eq_some_iff.mp e
    exact .lst (SqL.of h) (RepL.dp e1 rl)
  | .dic _ _ _, _, _, e, _ => by rw [Tv.pd] at e; cases e
  | .ext _, _, _, e, _ => by rw [Tv.pd] at e; cases e
theorem RepL.dp {K : PySem.W.Frag} {H : Hp} : ∀ {ts : List Tv} {vs : List V} {ds : List PyData}, pdL ts = some ds → RepL H ts vs → DpAll K H vs ds
  | [], _, _, e, r => by rw [pdL] at e; cases e; rw [show _ = [] from r]; exact .nil
  | x :: xs, _, ds, e, r => by
    obtain ⟨u, w, rfl, h1, h2⟩ := r
    rw [pdL] at e
    split at e
    · rename_i d ds' e1 e2
      cases e
      exact .cons (Rep.dp e1 h1) (RepL.dp e2 h2)
    · cases e
end
def Sx.pd : Sx → Option PyData
  | .v t => t.pd
  | x => (x.sq).bind fun ts => (pdL ts).map .list
theorem XR.dp {B : Bx} {O0 O : List Addr} {Hs Kb H0 H : Hp} {ss : List Sl} {σ : L2.St} {x : Sx} {v : V} {d : PyData} {K : PySem.W.Frag} (W : Wl B O0 O Hs Kb H0) (s : Stay B H0 H) (R : Rels B O Hs H ss σ) (e : x.pd = some d) (h : XR B O H0 H ss σ x v) : Dp K H v d := by
  have key : (∃ t, x = .v t ∧ t.pd = some d) ∨ ∃ ts, x.sq = some ts ∧ (pdL ts).map .list = some d := by
    cases x with
    | v t => exact .inl ⟨t, rfl, e⟩
    | _ => exact .inr (Option.bind_eq_some_iff.mp e)
  rcases key with ⟨t, rfl, e⟩ | ⟨ts, e1, e2⟩
  · exact Rep.dp e (Rep.mono kn_all h)
  · obtain ⟨a, us, rfl, g, r⟩ := h.seq W s R e1
    obtain ⟨ds, e3, rfl⟩ := Option.map_eq_some_iff.mp e2
    exact .lst (SqL.of g) (RepL.dp e3 (r.mono kn_all))
def pEqD (neg : Bool) : Sx → Sx → (Sx → Prop) → Prop := fun x y Q => match x.pd, y.pd with
  | some d, some e => SeqAt.shaped d = true ∧ SeqAt.shaped e = true ∧ Q (.v (.bl (neg ^^ PyData.eqv d e)))
  | _, _ => False
instance lEqD {K : PySem.W.Frag} : LR fw (rEqD K) (pEqD false) := ⟨fun {B O0 O Hs Kb H0 H ss σ Q Qp x y v u} c0 c s rx ry h q => by
  unfold pEqD at h
  split at h
  · rename_i d e e1 e2
    refine ⟨d, e, rx.dp c0.w s c.r e1, ry.dp c0.w s c.r e2, h.1, h.2.1, q.now c.w.bx h.2.2 (by simp [Rep])⟩
  · exact h.elim⟩
instance lNeD {K : PySem.W.Frag} : LR fw (rNeD K) (pEqD true) := ⟨fun {B O0 O Hs Kb H0 H ss σ Q Qp x y v u} c0 c s rx ry h q => by
  unfold pEqD at h
  split at h
  · rename_i d e e1 e2
    refine ⟨d, e, rx.dp c0.w s c.r e1, ry.dp c0.w s c.r e2, h.1, h.2.1, q.now c.w.bx h.2.2 (by simp [Rep])⟩
  · exact h.elim⟩
def pInD (neg : Bool) : Sx → Sx → (Sx → Prop) → Prop := fun x y Q => match x.pd, (y.sq).bind pdL with
  | some d, some ds => SeqAt.shaped d = true ∧ SeqAt.shaped (.list ds) = true ∧ Q (.v (.bl (neg ^^ ds.any fun z => PyData.eqv z d)))
  | _, _ => False
theorem XR.dpl {B : Bx} {O0 O : List Addr} {Hs Kb H0 H : Hp} {ss : List Sl} {σ : L2.St} {x : Sx} {v : V} {ds : List PyData} {K : PySem.W.Frag} (W : Wl B O0 O Hs Kb H0) (s : Stay B H0 H) (R : Rels B O Hs H ss σ) (e : (x.sq).bind pdL = some ds) (h : XR B O H0 H ss σ x v) : Dp K H v (.list ds) := by
  obtain ⟨ts, e1, e2⟩ := Option.bind_eq_some_iff.mp e
  obtain ⟨a, us, rfl, g, r⟩ := h.seq W s R e1
  exact .lst (SqL.of g) (RepL.dp e2 (r.mono kn_all))
instance lInD {K : PySem.W.Frag} : LR fw (rInD K) (pInD false) := ⟨fun {B O0 O Hs Kb H0 H ss σ Q Qp x y v u} c0 c s rx ry h q => by
  unfold pInD at h
  split at h
  · rename_i d ds e1 e2
    exact ⟨d, ds, rx.dp c0.w s c.r e1, ry.dpl c0.w s c.r e2, h.1, h.2.1, q.now c.w.bx h.2.2 (by simp [Rep])⟩
  · exact h.elim⟩
instance lNotInD {K : PySem.W.Frag} : LR fw (rNotInD K) (pInD true) := ⟨fun {B O0 O Hs Kb H0 H ss σ Q Qp x y v u} c0 c s rx ry h q => by
  unfold pInD at h
  split at h
  · rename_i d ds e1 e2
    exact ⟨d, ds, rx.dp c0.w s c.r e1, ry.dpl c0.w s c.r e2, h.1, h.2.1, q.now c.w.bx h.2.2 (by simp [Rep])⟩
  · exact h.elim⟩
/-- flat items or data -/
def rInG (K : PySem.W.Frag) : R2 := fun x y H Q => rIn K false x y H Q ∨ rInD K x y H Q
def rNotInG (K : PySem.W.Frag) : R2 := fun x y H Q => rIn K true x y H Q ∨ rNotInD K x y H Q
theorem op_inG {X : Cx} (hu : X.A.units + 65 < cLine) : OpR X (compareOp .In) (rInG X.K) := OpR.or op_in_seq (op_inD hu)
theorem op_notInG {X : Cx} (hu : X.A.units + 65 < cLine) : OpR X (compareOp .NotIn) (rNotInG X.K) := OpR.or op_notIn_seq (op_notInD hu)
def pInG (neg : Bool) : Sx → Sx → (Sx → Prop) → Prop := fun x y Q => match x with
  | .v (.int _) => pIn neg x y Q
  | .v (.str _) => pIn neg x y Q
  | _ => pInD neg x y Q
instance lInG {K : PySem.W.Frag} : LR fw (rInG K) (pInG false) := ⟨fun {B O0 O Hs Kb H0 H ss σ Q Qp x y v u} c0 c s rx ry h q => by
  unfold pInG at h
  split at h
  · exact .inl (lIn.run c0 c s rx ry h q)
  · exact .inl (lIn.run c0 c s rx ry h q)
  · exact .inr (lInD.run c0 c s rx ry h q)⟩
instance lNotInG {K : PySem.W.Frag} : LR fw (rNotInG K) (pInG true) := ⟨fun {B O0 O Hs Kb H0 H ss σ Q Qp x y v u} c0 c s rx ry h q => by
  unfold pInG at h
  split at h
  · exact .inl (lIn.run c0 c s rx ry h q)
  · exact .inl (lIn.run c0 c s rx ry h q)
  · exact .inr (lNotInD.run c0 c s rx ry h q)⟩
/-- == : scalars or data -/
def rEqG (K : PySem.W.Frag) : R2 := fun x y H Q => rEq x y H Q ∨ rEqD K x y H Q
def rNeG (K : PySem.W.Frag) : R2 := fun x y H Q => rNe x y H Q ∨ rNeD K x y H Q
theorem op_eqG {X : Cx} (hu : X.A.units + 64 < cLine) : OpR X (compareOp .Eq) (rEqG X.K) := OpR.or op_eq (op_eqD hu)
theorem op_neG {X : Cx} (hu : X.A.units + 64 < cLine) : OpR X (compareOp .NotEq) (rNeG X.K) := OpR.or op_ne (op_neD hu)
def pEqG (neg : Bool) : Sx → Sx → (Sx → Prop) → Prop := fun x y Q => match eqS x y with
  | some b => Q (.v (.bl (neg ^^ b)))
  | none => pEqD neg x y Q
instance lEqG {K : PySem.W.Frag} : LR fw (rEqG K) (pEqG false) := ⟨fun {B O0 O Hs Kb H0 H ss σ Q Qp x y v u} c0 c s rx ry h q => by
  unfold pEqG at h
  split at h
  · rename_i b e
    exact .inl (lEq.run (x := x) (y := y) c0 c s rx ry (by unfold pEq; rw [e]; exact h) q)
  · exact .inr (lEqD.run c0 c s rx ry h q)⟩
instance lNeG {K : PySem.W.Frag} : LR fw (rNeG K) (pEqG true) := ⟨fun {B O0 O Hs Kb H0 H ss σ Q Qp x y v u} c0 c s rx ry h q => by
  unfold pEqG at h
  split at h
  · rename_i b e
    exact .inl (lNe.run (x := x) (y := y) c0 c s rx ry (by unfold pEq; rw [e]; exact h) q)
  · exact .inr (lNeD.run c0 c s rx ry h q)⟩
/-- sep.join(texts) -/
def pJoin : Sx → Sx → (Sx → Prop) → Prop := fun x y Q => match x, (y.it).bind strsT with
  | .v (.str a), some ys => (ys.map (·.length)).sum + ys.length * a.length ≤ 16777216 ∧ Q (.v (.str (Txt.join a ys)))
  | _, _ => False
instance lJoin {K : PySem.W.Frag} {to te : TE} {po pe : PX} [k : LE fw to po] [m : LE fw te pe] : LE fw (tM1 (fun x xs H Q => ∃ a p, ∃ ys : List Str, x = .str a ∧ xs = [.ref p] ∧ (SqL K H p (ys.map V.str) ∨ SqT K H p (ys.map V.str)) ∧
      (ys.map (·.length)).sum + ys.length * a.length ≤ 16777216 ∧ Q (.str (Txt.join a ys)) H) to te) (fun ss Q => po ss fun x => match x with | .v (.str a) => pe ss fun y => pJoin (.v (.str a)) y Q | _ => False) := ⟨fun {B O0 O Hs Kb H ss σ Q Qp} c h q => k.run c h fun x H1 v q1 s1 b1 r1 => by
  split at q1
  · cases r1
    refine ⟨⟨_, rfl⟩, m.run (c.go s1 b1) q1 fun y H2 u q2 s2 b2 r2 => ?_⟩
    unfold pJoin at q2
    split at q2
    · rename_i a ys ea e
      obtain ⟨ts, e1, e2⟩ := Option.bind_eq_some_iff.mp e
      obtain ⟨d, us, rfl, g, rr⟩ := r2.its (K := K) (c.go s1 b1).w s2 ((c.go s1 b1).go s2 b2).r e1
      rw [strsT_eq e2] at rr
      rw [rr.strs] at g
      cases ea
      exact ⟨_, d, ys, rfl, rfl, g, q2.1, q _ _ _ q2.2 (s1.trans s2) b2 rfl⟩
    · exact q2.elim
  · exact q1.elim⟩
end Pl

set_option Elab.async false
set_option linter.all false
set_option maxRecDepth 100000
set_option maxHeartbeats 4000000
/-! The pure layer: names for readings, augmented assignment, drawing. -/
namespace Pl
open PySem PySem.Spec PyProof.Rows L2
variable {fw tp : Bool}
def rLenG (K : PySem.W.Frag) : List V → Hp → VK → Prop := fun xs H Q => ∃ x n, xs = [x] ∧ LenV K x H n ∧ Q (.int n) H
theorem call_lenG {X : Cx} : CallR X (.builtin "len") (rLenG X.K) := call_len
instance lLenG {K : PySem.W.Frag} : LC fw (rLenG K) pLen := ⟨fun c0 c s r h q => (lLen (K := K)).run c0 c s r h q⟩
def rListG (K : PySem.W.Frag) : List V → Hp → VK → Prop := fun xs H Q => ∃ p ys, xs = [.ref p] ∧ (SqL K H p ys ∨ SqT K H p ys) ∧ ∀ l, H l = none → Q (.ref l) (upd H l (.lst ys))
theorem call_listG {X : Cx} : CallR X (.type "list") (rListG X.K) := call_list_of
instance lListG {K : PySem.W.Frag} : LC fw (rListG K) pListOf := ⟨fun c0 c s r h q => (lListOf (K := K)).run c0 c s r h q⟩
def rTupleG (K : PySem.W.Frag) : List V → Hp → VK → Prop := fun xs H Q => ∃ p ys, xs = [.ref p] ∧ ((SqL K H p ys ∧ ∀ l, H l = none → Q (.ref l) (upd H l (.tup ys))) ∨ (SqT K H p ys ∧ Q (.ref p) H))
theorem call_tupleG {X : Cx} : CallR X (.type "tuple") (rTupleG X.K) := call_tuple_of
instance lTupleG {K : PySem.W.Frag} : LC fw (rTupleG K) pTupleOf := ⟨fun c0 c s r h q => (lTupleOf (K := K)).run c0 c s r h q⟩
/-- x += e -/
def rAugG : TIp := fun x y H Q => ipI (fun i j => i + j) x y H Q ∨ rExt2 x y H Q
theorem ip_addG {X : Cx} : PIp X .Add rAugG := by
  intro pins s σ H x y v u Q I rx ry q
  rcases q with q | q
  · exact ip_add pins s σ H x y v u Q I rx ry q
  · exact iop_ext pins s σ H x y v u Q I rx ry q
theorem s_augG {i : Nat} {te : TE} {pe : PX} [k : LE false te pe] {Dp : PEnds} {ss : List Sl} {a : Int} (e : ss[i]? = some (.val (.int a)))
    (h : pe ss fun x => match x with | .v (.int b) => Dp.nx (ss.set i (.val (.int (a + b)))) | _ => False) : Sim tp (tAug i te rAugG) Dp ss := fun B O0 O Hs Kb H σ D htp c l => by
  obtain ⟨o, e1, v, e2, r⟩ := c.r.at_ i _ e
  subst e2
  cases r
  refine ⟨_, e1, k.run c h fun x H1 v q1 s b rx => ?_⟩
  split at q1
  · cases rx
    obtain ⟨O', c'⟩ := c.put (x := .v (.int _)) (sl := .val (.int _)) s b (show XR B O H H1 ss σ (.v (.int (a + _))) (.int (a + _)) from rfl) rfl i
    exact .inl ⟨_, _, rfl, rfl, l.nx _ _ _ _ q1 c'⟩
  · exact q1.elim
theorem s_extG {i : Nat} {te : TE} {pe : PX} [k : LE false te pe] {Dp : PEnds} {ss : List Sl} {xs : List Tv} (e : ss[i]? = some (.own xs))
    (h : pe ss fun x => match x.sq with | some ys => xs.length + ys.length ≤ 100000 ∧ Dp.nx (ss.set i (.own (xs ++ ys))) | none => False) : Sim tp (tAug i te rAugG) Dp ss := fun B O0 O Hs Kb H σ D htp c l => by
  obtain ⟨a, us, e1, m, n, q, r⟩ := c.ownAt e
  refine ⟨.ref a, e1, k.run c h fun x H1 v q1 s b rx => ?_⟩
  split at q1
  · rename_i ys et
    have c1 := c.go s b
    have h1 : H1 a = some (.lst us) := s a _ q (c.w.ob a m)
    have r1 := r.mono (kn_sm (O := O) (O' := O) s fun _ h => .inl h)
    obtain ⟨b2, ws, rfl, h2, r2⟩ := rx.seq c.w s c1.r et
    refine .inr ⟨a, b2, us, ws, rfl, rfl, h1, h2, sz (by rw [r.len, r2.len]; exact q1.1), ?_⟩
    have hs : σ.set i (some (.ref a)) = σ := by
      apply List.ext_getElem?
      intro j
      by_cases hj : i = j
      · subst hj
        rw [List.getElem?_set_self (List.getElem?_eq_some_iff.mp e1).1, e1]
      · rw [List.getElem?_set_ne hj]
    show D.nx (σ.set i (some (.ref a))) _
    rw [hs]
    exact l.nx _ _ _ _ q1.2 (c1.ownList e e1 m n (r1.app r2))
  · exact q1.elim
theorem at0 {α : Type} {x : α} {r : List α} : atI (x :: r) 0 = some x := at_ix2 (by decide) rfl
theorem at1 {α : Type} {x y : α} {r : List α} : atI (x :: y :: r) 1 = some y := at_ix2 (by decide) rfl
theorem at2 {α : Type} {x y z : α} {r : List α} : atI (x :: y :: z :: r) 2 = some z := at_ix2 (by decide) rfl
theorem at3 {α : Type} {x y z u : α} {r : List α} : atI (x :: y :: z :: u :: r) 3 = some u := at_ix2 (by decide) rfl
theorem at4 {α : Type} {x y z u v : α} {r : List α} : atI (x :: y :: z :: u :: v :: r) 4 = some v := at_ix2 (by decide) rfl
/-! ### the box of numbers: promises made over a box of one's own -/
/-- from a context with a box: all that stands, the box apart -/
theorem Ct.wd {B : Bx} {O0 O : List Addr} {Hs Kb H : Hp} {ss : List Sl} {σ : L2.St} (c : Ct fw B O0 O Hs Kb H ss σ) {b k : Addr} (e : B.1 = some (b, k)) : Wd b k (mn [b, k] H) H :=
  ⟨c.w.bx b k e, mn_same, mn_in (by simp), mn_in (by simp)⟩
theorem wd_stp {B : Bx} {b k : Addr} (e : B.1 = some (b, k)) {H H' : Hp} (W : Wd b k (mn [b, k] H) H') : Stay B H H' ∧ BxOk B H' :=
  ⟨fun a o h n => W.gh a o (by rw [mn_at (by rw [bxs_eq e] at n; exact n)]; exact h), fun b' k' e' => by rw [e] at e'; cases e'; exact W.box⟩
/-- _law_pick -/
def pPick : List Sx → (Sx → Prop) → Prop := fun xs Q => match xs with
  | [.b, .v (.int m)] => 0 < m ∧ m < 1073741824 ∧ ∀ i : Int, 0 ≤ i → i < m → Q (.v (.int i))
  | _ => False
/-- a def that draws a number -/
theorem lDraw {n : Nat} {sp : Sp} {P : Int → Prop} (hs : ∀ (b k : Addr) (G H : Hp) (Q : VK) (E : XK), Wd b k G H → (∀ (i : Int) (H' : Hp), Wd b k G H' → P i → Q (.int i) H') → sp [.ref b] H Q E) : LSp fw sp (fun xs Q => match xs with | [.b] => ∀ i : Int, P i → Q (.v (.int i)) | _ => False) := ⟨fun {B O0 O Hs Kb H0 H ss σ Q E Qp xs vs} c0 c s r h f => by
  split at h
  · obtain ⟨v, w, rfl, ⟨b, k, eB, rfl⟩, rfl⟩ := r
    refine hs b k _ H Q E (c.wd eB) fun i H' W p => ?_
    obtain ⟨s1, b1⟩ := wd_stp eB W
    exact f.run _ _ _ (h i p) s1 b1 rfl
  · exact h.elim⟩
theorem zip_maps {ks : List Key} {ts : List Tv} (h : ks.length = ts.length) : (ks.zip ts).map (·.1) = ks ∧ (ks.zip ts).map (·.2) = ts :=
  ⟨List.map_fst_zip (by omega), List.map_snd_zip (by omega)⟩
/-- d[k] = e, the key is new -/
theorem s_setDn {i : Nat} {te ti : TE} {pe pi : PX} [k : LE false te pe] [m : LE false ti pi] {Dp : PEnds} {ss : List Sl} {ks : List Key} {ts : List Tv} (e : ss[i]? = some (.owd ks ts)) (hlt : ks.length = ts.length) (hl : ks.length < 100000)
    (h : pe ss fun x => pi ss fun y => match x.tv, y.tv.bind Tv.key with | some t, some j => j ∉ ks ∧ Dp.nx (ss.set i (.owd (ks ++ [j]) (ts ++ [t]))) | _, _ => False) : Sim tp (tAsg te (gSub (tVar i) ti rSetD)) Dp ss := fun B O0 O Hs Kb H σ D htp c l => by
  obtain ⟨o, e1, a, us, e2, ma, n, q, kk, r⟩ := c.r.at_ i _ e
  subst e2
  obtain ⟨z1, z2⟩ := zip_maps hlt
  refine k.run c h fun x H1 v q1 s b rx => ?_
  refine ⟨.ref a, e1, ?_⟩
  have c1 := c.go s b
  refine m.run c1 q1 fun y H2 w q2 s2 b2 ry => ?_
  have s12 := s.trans s2
  have c2 := c1.go s2 b2
  split at q2
  · rename_i t j et ej
    obtain ⟨hnew, q2⟩ := q2
    obtain ⟨ty, ety, ekey⟩ := Option.bind_eq_some_iff.mp ej
    have rw' := Tv.key_rep ekey (ry.rep c1.w s2 ety)
    subst rw'
    have h2 : H2 a = some (.dK us) := s12 a _ q (c.w.ob a ma)
    have r2 := r.mono (kn_sm (O := O) (O' := O) s12 fun _ h => .inl h)
    have hul : us.length = ks.length := by have := congrArg List.length kk; simpa using this
    obtain ⟨p1, p2⟩ := put_rep (kvs := ks.zip ts) (k := j) ((rx.go c.w s s2).rep c.w s12 et) (by rw [z1]; exact kk) (by rw [z2]; exact r2)
    rw [putT_new (by rw [z1]; exact hnew), List.map_append, z1] at p1
    rw [putT_new (by rw [z1]; exact hnew), List.map_append, z2] at p2
    refine ⟨a, _, rfl, DPut.k h2 (szl (by rw [hul]; exact hl)), ?_⟩
    refine l.nx _ _ _ _ q2 (c2.wr (s' := .owd _ _) e rfl e1 ma n rfl ⟨a, _, rfl, ma, n, upd_same, p1, ?_⟩)
    rw [kn_mut ma]
    exact p2
  · exact q2.elim
theorem zip_set : ∀ {ks : List Key} {ts : List Tv} {n : Nat} {j : Key} {t : Tv}, ks.length = ts.length → ks.Nodup → ks[n]? = some j → ((ks.zip ts).map fun kv => if kv.1 = j then (kv.1, t) else kv) = ks.zip (ts.set n t)
  | [], _, n, j, t, _, _, h => by simp at h
  | k :: ks, [], n, j, t, hl, _, _ => by cases hl
  | k :: ks, u :: ts, 0, j, t, hl, nd, h => by
    cases h
    rw [List.zip_cons_cons, List.map_cons, List.set_cons_zero, List.zip_cons_cons, if_pos rfl]
    have : ((ks.zip ts).map fun kv => if kv.1 = k then (kv.1, t) else kv) = ks.zip ts := by
      refine (List.map_congr_left (g := id) fun kv hkv => ?_).trans (List.map_id _)
      refine if_neg fun e => (List.nodup_cons.mp nd).1 ?_
      have h1 := (List.of_mem_zip (a := kv.1) (b := kv.2) hkv).1
      rw [e] at h1
      exact h1
    rw [this]
  | k :: ks, u :: ts, n + 1, j, t, hl, nd, h => by
    have h' : ks[n]? = some j := h
    rw [List.zip_cons_cons, List.map_cons, List.set_cons_succ, List.zip_cons_cons, zip_set (Nat.succ.inj hl) (List.nodup_cons.mp nd).2 h', if_neg (show ¬ k = j from fun e => (List.nodup_cons.mp nd).1 (by rw [e]; exact List.mem_of_getElem? h'))]
/-- d[k] = e, the key is there -/
theorem s_setDo {i : Nat} {te ti : TE} {pe pi : PX} [k : LE false te pe] [m : LE false ti pi] {Dp : PEnds} {ss : List Sl} {ks : List Key} {ts : List Tv} (e : ss[i]? = some (.owd ks ts)) (hlt : ks.length = ts.length) (hnd : ks.Nodup) (hl : ks.length < 100000)
    (h : pe ss fun x => pi ss fun y => match x.tv, y.tv.bind Tv.key with | some t, some j => ∃ n, ks[n]? = some j ∧ Dp.nx (ss.set i (.owd ks (ts.set n t))) | _, _ => False) : Sim tp (tAsg te (gSub (tVar i) ti rSetD)) Dp ss := fun B O0 O Hs Kb H σ D htp c l => by
  obtain ⟨o, e1, a, us, e2, ma, n, q, kk, r⟩ := c.r.at_ i _ e
  subst e2
  obtain ⟨z1, z2⟩ := zip_maps hlt
  refine k.run c h fun x H1 v q1 s b rx => ?_
  refine ⟨.ref a, e1, ?_⟩
  have c1 := c.go s b
  refine m.run c1 q1 fun y H2 w q2 s2 b2 ry => ?_
  have s12 := s.trans s2
  have c2 := c1.go s2 b2
  split at q2
  · rename_i t j et ej
    obtain ⟨nn, hnn, q2⟩ := q2
    obtain ⟨ty, ety, ekey⟩ := Option.bind_eq_some_iff.mp ej
    have rw' := Tv.key_rep ekey (ry.rep c1.w s2 ety)
    subst rw'
    have h2 : H2 a = some (.dK us) := s12 a _ q (c.w.ob a ma)
    have r2 := r.mono (kn_sm (O := O) (O' := O) s12 fun _ h => .inl h)
    have hul : us.length = ks.length := by have := congrArg List.length kk; simpa using this
    obtain ⟨p1, p2⟩ := put_rep (kvs := ks.zip ts) (k := j) ((rx.go c.w s s2).rep c.w s12 et) (by rw [z1]; exact kk) (by rw [z2]; exact r2)
    have z3 := zip_maps (ks := ks) (ts := ts.set nn t) (by rw [List.length_set]; exact hlt)
    rw [putT_old (by rw [z1]; exact List.mem_of_getElem? hnn), zip_set hlt hnd hnn, z3.1] at p1
    rw [putT_old (by rw [z1]; exact List.mem_of_getElem? hnn), zip_set hlt hnd hnn, z3.2] at p2
    refine ⟨a, _, rfl, DPut.k h2 (szl (by rw [hul]; exact hl)), ?_⟩
    refine l.nx _ _ _ _ q2 (c2.wr (s' := .owd _ _) e rfl e1 ma n rfl ⟨a, _, rfl, ma, n, upd_same, p1, ?_⟩)
    rw [kn_mut ma]
    exact p2
  · exact q2.elim
end Pl

set_option Elab.async false
set_option linter.all false
set_option maxRecDepth 100000
set_option maxHeartbeats 4000000
/-! The pure layer: dicts written out. -/
namespace Pl
open PySem PySem.Spec PyProof.Rows L2
variable {fw tp : Bool}
def XRP (B : Bx) (O : List Addr) (H0 H : Hp) (ss : List Sl) (σ : L2.St) : List (Sx × Sx) → List (V × V) → Prop
  | [], vs => vs = []
  | x :: xs, vs => ∃ v u r, vs = (v, u) :: r ∧ XR B O H0 H ss σ x.1 v ∧ XR B O H0 H ss σ x.2 u ∧ XRP B O H0 H ss σ xs r
theorem XRP.back {B : Bx} {O : List Addr} {H0 H1 H2 : Hp} {ss : List Sl} {σ : L2.St} (b : BxOk B H1) (s : Stay B H0 H1) : ∀ {xs : List (Sx × Sx)} {vs : List (V × V)}, XRP B O H1 H2 ss σ xs vs → XRP B O H0 H2 ss σ xs vs
  | [], _, h => h
  | x :: xs, _, h => by
    obtain ⟨v, u, r, e, h1, h2, h3⟩ := h
    exact ⟨v, u, r, e, h1.back b s, h2.back b s, h3.back b s⟩
class LDs (trs : List (TE × TE)) (pd : outParam (List Sl → (List (Sx × Sx) → Prop) → Prop)) : Prop where
  run : ∀ {B : Bx} {O0 O : List Addr} {Hs Kb H : Hp} {ss : List Sl} {σ : L2.St} {Q : List (V × V) → Hp → Prop} {Qp : List (Sx × Sx) → Prop}, Ct false B O0 O Hs Kb H ss σ → pd ss Qp → (∀ xs H' vs, Qp xs → Stay B H H' → BxOk B H' → XRP B O H H' ss σ xs vs → Q vs H') → tPairs trs σ H Q
def pDs0 : List Sl → (List (Sx × Sx) → Prop) → Prop := fun _ Q => Q []
def pDs1 (pk pv : PX) (pr : List Sl → (List (Sx × Sx) → Prop) → Prop) : List Sl → (List (Sx × Sx) → Prop) → Prop := fun ss Q => pk ss fun x => pv ss fun y => pr ss fun r => Q ((x, y) :: r)
instance lDs0 : LDs [] pDs0 := ⟨fun {B O0 O Hs Kb H ss σ Q Qp} c h q => q _ _ _ h (Stay.refl _ _) c.w.bx rfl⟩
instance lDs1 {tk tv : TE} {tr : List (TE × TE)} {pk pv : PX} {pr : List Sl → (List (Sx × Sx) → Prop) → Prop} [a : LE false tk pk] [b : LE false tv pv] [r : LDs tr pr] : LDs ((tk, tv) :: tr) (pDs1 pk pv pr) := ⟨fun {B O0 O Hs Kb H ss σ Q Qp} c h q =>
  a.run c h fun x H1 v q1 s1 b1 r1 => b.run (c.go s1 b1) q1 fun y H2 u q2 s2 b2 r2 => r.run ((c.go s1 b1).go s2 b2) q2 fun zs H3 vs q3 s3 b3 r3 =>
    q _ _ _ q3 ((s1.trans s2).trans s3) b3 ⟨v, u, vs, rfl, (r1.go c.w s1 s2).go c.w (s1.trans s2) s3, (r2.go (c.go s1 b1).w s2 s3).back b1 s1, (r3.back b2 s2).back b1 s1⟩⟩
def kvT : List (Sx × Sx) → Option (List (Key × Tv))
  | [] => some []
  | (x, y) :: r => match x.tv.bind Tv.key, y.tv, kvT r with
    | some k, some t, some z => some ((k, t) :: z)
    | _, _, _ => none
theorem kvT_rep {B : Bx} {O0 O : List Addr} {Hs Kb H0 H : Hp} {ss : List Sl} {σ : L2.St} (W : Wl B O0 O Hs Kb H0) (s : Stay B H0 H) : ∀ {xs : List (Sx × Sx)} {vs : List (V × V)} {kts : List (Key × Tv)}, kvT xs = some kts → XRP B O H0 H ss σ xs vs → ∃ us : List (Key × V), vs = us.map (fun kv => (kV kv.1, kv.2)) ∧ us.map (·.1) = kts.map (·.1) ∧ RepL (kn B O H) (kts.map (·.2)) (us.map (·.2))
  | [], _, _, e, h => by cases e; cases h; exact ⟨[], rfl, rfl, rfl⟩
  | (x, y) :: xs, _, kts, e, h => by
    obtain ⟨v, u, r, rfl, h1, h2, h3⟩ := h
    unfold kvT at e
    split at e
    · rename_i k t z e1 e2 e3
      cases e
      obtain ⟨us, rfl, g1, g2⟩ := kvT_rep W s e3 h3
      obtain ⟨tx, etx, ek⟩ := Option.bind_eq_some_iff.mp e1
      have := Tv.key_rep ek (h1.rep W s etx)
      subst this
      exact ⟨(k, u) :: us, rfl, by rw [List.map_cons, List.map_cons, g1], ⟨_, _, rfl, h2.rep W s e2, g2⟩⟩
    · cases e
theorem putK_nw {acc : List (Key × V)} {k : Key} {v : V} (h : ∀ p ∈ acc, p.1 ≠ k) : putK acc k v = acc ++ [(k, v)] := by
  unfold putK
  rw [if_neg (fun z => by obtain ⟨p, hp, e⟩ := List.any_eq_true.mp z; exact h p hp (of_decide_eq_true e))]
theorem mergeK_nd : ∀ {us acc : List (Key × V)}, ((acc ++ us).map (·.1)).Nodup → mergeK acc us = acc ++ us
  | [], acc, _ => by rw [List.append_nil]; rfl
  | kv :: us, acc, h => by
    have hn : ∀ p ∈ acc, p.1 ≠ kv.1 := fun p hp e => by
      rw [List.map_append, List.nodup_append] at h
      exact h.2.2 p.1 (List.mem_map.mpr ⟨p, hp, rfl⟩) kv.1 (by rw [List.map_cons]; exact List.mem_cons_self) e
    have : mergeK acc (kv :: us) = mergeK (putK acc kv.1 kv.2) us := rfl
    rw [this, putK_nw hn, mergeK_nd (by rw [List.append_assoc]; exact h), List.append_assoc]
    rfl
/-- a dict written out: different keys -/
def pDisp (pd : List Sl → (List (Sx × Sx) → Prop) → Prop) : PX := fun ss Q => pd ss fun ps => match kvT ps with
  | some kts => (kts.map (·.1)).Nodup ∧ kts.length ≤ 15 ∧ Q (.nd (kts.map (·.1)) (kts.map (·.2)))
  | none => False
instance lDisp {trs : List (TE × TE)} {pd : List Sl → (List (Sx × Sx) → Prop) → Prop} [k : LDs trs pd] : LE fw (tDisp trs) (pDisp pd) := ⟨fun {B O0 O Hs Kb H ss σ Q Qp} c h q p hp => by
  have s0 : Stay B H (upd H p (.dK [])) := Stay.of (same_upd hp)
  have b0 := c.w.bx.same (same_upd (o := .dK []) hp)
  obtain ⟨w, R, hs, nd⟩ := c.own s0 b0 hp upd_same
  have c0 : Ct false B O0 (p :: O) Hs Kb (upd H p (.dK [])) ss σ := ⟨w, R, fun h => nomatch h⟩
  refine k.run c0 h fun xs H2 vs q2 s2 b2 r2 => ?_
  split at q2
  · rename_i kts e
    obtain ⟨us, rfl, g1, g2⟩ := kvT_rep w s2 e r2
    have hp2 : H2 p = some (.dK []) := s2 _ _ upd_same (w.ob p List.mem_cons_self)
    have hl : us.length = kts.length := by have := congrArg List.length g1; simpa using this
    refine ⟨hp2, us, rfl, by rw [hl]; exact q2.2.1, ?_⟩
    rw [mergeK_nd (acc := []) (by rw [List.nil_append, g1]; exact q2.1), List.nil_append]
    refine q _ _ _ q2.2.2 (fun a o h n => ?_) ?_ ⟨p, us, rfl, hp, upd_same, g1, ?_⟩
    · rw [upd_ne (ne_of_none h hp)]
      exact s2 _ _ (s0 _ _ h n) n
    · intro b' k' e'
      have hb := b2 b' k' e'
      have W2 : Wd b' k' (fun _ => none) H2 := ⟨hb, (fun _ _ h => nomatch h), rfl, rfl⟩
      have nb : p ≠ b' ∧ p ≠ k' := by
        have := w.ob p List.mem_cons_self
        rw [bxs_eq e'] at this
        simpa using this
      exact (W2.mut rfl nb.1 nb.2).box
    · rw [kn_mut List.mem_cons_self]
      exact g2
  · exact q2.elim⟩
end Pl

set_option Elab.async false
set_option linter.all false
set_option maxRecDepth 100000
set_option maxHeartbeats 4000000
/-! x in o and len(o), o of an own class. -/
namespace Pl
open PySem PySem.Spec PyProof.Rows L2 NdefX ClX
section
variable {X : Cx} {CX : CXT} {k : Nat} {sp : Sp} {E : XK}
def rInO (X : Cx) (f : Addr) (sp : Sp) (E : XK) (neg : Bool) : R2 := fun x y H Q => ∃ a C dx fs, y = .ref a ∧ H a = some (.ins C dx fs) ∧ Meth X.K C "__contains__" f ∧ sp [y, x] H (fun v H' => ∃ b, v = .bl b ∧ Q (.bl (xor neg b)) H') E
theorem op_inO {f : Addr} (F : FnR X.prog X.w X.K X.mg X.base CX k f sp) (hr : Room k X.A) (hx : Passes CX X E) : OpR X (compareOp .In) (rInO X f sp E false) := by
  intro pins s σ H x y v u Q I rx ry h
  obtain ⟨a, C, dx, fs, rfl, ha, B, q⟩ := h
  cases (show u = Value.ref a from ry)
  obtain ⟨mA, O, _⟩ := ins_get I.hok ha
  obtain ⟨odx, J, _⟩ := O.look
  obtain ⟨m, hF⟩ := I.fr
  refine PySem.W.in_K hF I.ok.mod.kin J B.at_ B.fn ?_
  refine wpAny_mono (wpAny_call (run_fnR (us := [.ref a, v]) (vs := [.ref a, x]) F hr hx I (.cons rfl (.cons rx .nil)) q)) (fun w s' z => ?_) fun _ _ x => x
  obtain ⟨z', H', I', rz, b, ez, qz⟩ := z
  subst ez
  obtain rfl : w = Value.bool b := rz
  refine wpAny_truthy_bool ⟨.bl b, H', I', rfl, ?_⟩
  rw [Bool.false_xor] at qz
  exact qz
theorem op_ninO {f : Addr} (F : FnR X.prog X.w X.K X.mg X.base CX k f sp) (hr : Room k X.A) (hx : Passes CX X E) : OpR X (compareOp .NotIn) (rInO X f sp E true) := by
  intro pins s σ H x y v u Q I rx ry h
  obtain ⟨a, C, dx, fs, rfl, ha, B, q⟩ := h
  cases (show u = Value.ref a from ry)
  obtain ⟨mA, O, _⟩ := ins_get I.hok ha
  obtain ⟨odx, J, _⟩ := O.look
  obtain ⟨m, hF⟩ := I.fr
  refine PySem.W.notIn_K hF I.ok.mod.kin J B.at_ B.fn ?_
  refine wpAny_mono (wpAny_call (run_fnR (us := [.ref a, v]) (vs := [.ref a, x]) F hr hx I (.cons rfl (.cons rx .nil)) q)) (fun w s' z => ?_) fun _ _ x => x
  obtain ⟨z', H', I', rz, b, ez, qz⟩ := z
  subst ez
  obtain rfl : w = Value.bool b := rz
  refine wpAny_truthy_bool ⟨.bl (!b), H', I', rfl, ?_⟩
  rw [Bool.true_xor] at qz
  exact qz
/-- len(o) -/
theorem call_lenO {f : Addr} (F : FnR X.prog X.w X.K X.mg X.base CX k f sp) (hr : Room (k + 1) X.A) (hx : Passes CX X E) :
    CallR X (.builtin "len") (fun xs H Q => ∃ a C dx fs, xs = [.ref a] ∧ H a = some (.ins C dx fs) ∧ Meth X.K C "__len__" f ∧ sp [.ref a] H (fun v H' => ∃ n : Nat, v = .int n ∧ n < 2 ^ 62 ∧ Q (.int n) H') E) := by
  intro pins s σ H xs us Q I r h
  obtain ⟨a, C, dx, fs, rfl, ha, B, q⟩ := h
  obtain ⟨mA, O, _⟩ := ins_get I.hok ha
  obtain ⟨odx, J, _⟩ := O.look
  obtain ⟨m, hF⟩ := I.fr
  cases r with | cons h1 h2 => ?_
  cases h2
  rename_i u
  cases (show u = Value.ref a from h1)
  refine PySem.W.len_K hF I.ok.mod.kin J B.at_ B.fn ?_
  refine wpAny_mono (wpAny_call (run_fnR1 (us := [.ref a]) (vs := [.ref a]) F hr hx I (.cons rfl .nil) q)) (fun w s' z => ?_) fun _ _ x => x
  obtain ⟨z', H', I', rz, n, ez, hn, qz⟩ := z
  subst ez
  obtain ⟨t, rfl⟩ : ∃ t, w = Value.int n t := rz
  refine ⟨⟨by omega, by omega⟩, ⟨.int n, H', ?_, ⟨_, rfl⟩, qz⟩⟩
  exact I'.kept (t' := s'.toks + 1) (fun b o e => e)
end
end Pl

set_option Elab.async false
set_option linter.all false
set_option maxRecDepth 100000
set_option maxHeartbeats 4000000
/-! The pure layer: an own dict of own lists. -/
namespace Pl
open PySem PySem.Spec PyProof.Rows L2
variable {fw tp : Bool}
theorem s_toDl (i : Nat) {ts : TS} {Dp : PEnds} {ss : List Sl} (e : ss[i]? = some (.owd [] [])) (h : Sim tp ts Dp (ss.set i (.odl [] [] []))) : Sim tp ts Dp ss := fun B O0 O Hs Kb H σ D htp c l => by
  have hi := (List.getElem?_eq_some_iff.mp e).1
  refine h B O0 O Hs Kb H σ D htp ⟨c.w, c.r.sub (by rw [List.length_set]; exact c.r.len) (fun j t ej => ?_) (fun j t ej oj => ?_), fun h => nomatch h⟩ l
  · by_cases hj : i = j
    · subst hj
      rw [List.getElem?_set_self hi] at ej
      cases ej
      obtain ⟨o, e1, a, us, e2, m, n, q, k, r⟩ := c.r.at_ i _ e
      refine ⟨o, e1, a, us, e2, m, n, q, k, ?_, List.nodup_nil, rfl, fun _ _ _ h => by simp at h⟩
      rw [List.map_eq_nil_iff.mp k]
      rfl
    · rw [List.getElem?_set_ne hj] at ej
      exact c.r.at_ j t ej
  · by_cases hj : i = j
    · subst hj
      rw [List.getElem?_set_self hi] at ej
      cases ej
      exact ⟨_, e, rfl, fun _ h => (List.not_mem_nil h).elim, rfl⟩
    · rw [List.getElem?_set_ne hj] at ej
      exact ⟨t, ej, oj, fun _ h => h, rfl⟩
/-- an address of an own slot's inner list is written -/
theorem Ct.wrA {B : Bx} {O0 O : List Addr} {Hs Kb H : Hp} {ss : List Sl} {σ : L2.St} (c : Ct fw B O0 O Hs Kb H ss σ) {i : Nat} {b : Addr} {s s' : Sl} {o : HO} {v : Option V} (e : ss[i]? = some s) (hb : b ∈ s.ads) (e1 : σ[i]? = some v) (ha : b ∈ O) (hs : Hs b = none)
    (k : SlOk B O Hs (upd H b o) s' v) (ad : ∀ x ∈ s'.ads, x ∈ s.ads) (hl : LD o := by first | exact .inl ⟨_, rfl⟩ | exact .inr (.inl ⟨_, rfl⟩)) : Ct fw B O0 O Hs Kb (upd H b o) (ss.set i s') σ := by
  have hi := (List.getElem?_eq_some_iff.mp e).1
  refine ⟨c.w.mut ha hs hl, c.r.sub (by rw [List.length_set]; exact c.r.len) (fun j t ej => ?_) (fun j t e1' o1 => ?_), c.fl⟩
  · by_cases hj : i = j
    · subst hj
      rw [List.getElem?_set_self hi] at ej
      cases ej
      exact ⟨_, e1, k⟩
    · rw [List.getElem?_set_ne hj] at ej
      obtain ⟨v, e2, q⟩ := c.r.at_ j t ej
      obtain ⟨d1, d2⟩ := c.r.din i j s t b hj e ej hb
      exact ⟨v, e2, q.mut ha (fun h z => d1 h (by rw [e2, z])) d2⟩
  · by_cases hz : i = j
    · subst hz
      rw [List.getElem?_set_self hi] at e1'
      cases e1'
      exact ⟨s, e, Sl.ads_own hb, ad, rfl⟩
    · rw [List.getElem?_set_ne hz] at e1'
      exact ⟨t, e1', o1, fun _ h => h, rfl⟩
/-- slot i's own thing is written and gets one more inner list -/
theorem Ct.wrN {B : Bx} {O0 O : List Addr} {Hs Kb H : Hp} {ss : List Sl} {σ : L2.St} (c : Ct fw B O0 O Hs Kb H ss σ) {i : Nat} {a p : Addr} {s s' : Sl} {o : HO} (e : ss[i]? = some s) (io : s.isOwn = true) (e1 : σ[i]? = some (some (.ref a))) (ha : a ∈ O) (hs : Hs a = none)
    (io' : s'.isOwn = true) (k : SlOk B O Hs (upd H a o) s' (some (.ref a))) (ad : ∀ x ∈ s'.ads, x ∈ s.ads ∨ x = p) (nd : ∀ (j : Nat) t, ss[j]? = some t → (t.isOwn = true → σ[j]? ≠ some (some (.ref p))) ∧ p ∉ t.ads) (hl : LD o := by first | exact .inl ⟨_, rfl⟩ | exact .inr (.inl ⟨_, rfl⟩)) : Ct fw B O0 O Hs Kb (upd H a o) (ss.set i s') σ := by
  have hi := (List.getElem?_eq_some_iff.mp e).1
  have f : ∀ (j : Nat) t, (ss.set i s')[j]? = some t → t.isOwn = true → ∃ u, ss[j]? = some u ∧ u.isOwn = true ∧ (∀ x ∈ t.ads, x ∈ u.ads ∨ (x = p ∧ j = i)) := fun j t ej oj => by
    by_cases hz : i = j
    · subst hz
      rw [List.getElem?_set_self hi] at ej
      cases ej
      exact ⟨s, e, io, fun x hx => (ad x hx).imp id fun h => ⟨h, rfl⟩⟩
    · rw [List.getElem?_set_ne hz] at ej
      exact ⟨t, ej, oj, fun x hx => .inl hx⟩
  refine ⟨c.w.mut ha hs hl, ⟨by rw [List.length_set]; exact c.r.len, fun j t ej => ?_, fun j m t u b hne x1 x2 o1 o2 h1 h2 => ?_, fun j m t u b hne x1 x2 hm => ?_⟩, c.fl⟩
  · by_cases hj : i = j
    · subst hj
      rw [List.getElem?_set_self hi] at ej
      cases ej
      exact ⟨_, e1, k⟩
    · rw [List.getElem?_set_ne hj] at ej
      obtain ⟨v, e2, q⟩ := c.r.at_ j t ej
      exact ⟨v, e2, q.mut ha (fun h z => c.r.dis i j s t a hj e ej io h e1 (by rw [e2, z])) fun hm => (c.r.din j i t s a (Ne.symm hj) ej e hm).1 io e1⟩
  · obtain ⟨t', f1, f2, _⟩ := f j t x1 o1
    obtain ⟨u', g1, g2, _⟩ := f m u x2 o2
    exact c.r.dis j m t' u' b hne f1 g1 f2 g2 h1 h2
  · obtain ⟨t', f1, f2, f3⟩ := f j t x1 (Sl.ads_own hm)
    rcases f3 b hm with hb | ⟨rfl, rfl⟩
    · refine ⟨fun ou => ?_, fun hu => ?_⟩
      · obtain ⟨u', g1, g2, _⟩ := f m u x2 ou
        exact (c.r.din j m t' u' b hne f1 g1 hb).1 g2
      · obtain ⟨u', g1, g2, g3⟩ := f m u x2 (Sl.ads_own hu)
        rcases g3 b hu with z | ⟨rfl, rfl⟩
        · exact (c.r.din j m t' u' b hne f1 g1 hb).2 z
        · exact (nd j t' f1).2 hb
    · refine ⟨fun ou => ?_, fun hu => ?_⟩
      · obtain ⟨u', g1, g2, _⟩ := f m u x2 ou
        exact (nd m u' g1).1 g2
      · obtain ⟨u', g1, g2, g3⟩ := f m u x2 (Sl.ads_own hu)
        rcases g3 b hu with z | ⟨_, z⟩
        · exact (nd m u' g1).2 z
        · exact hne z.symm
/-- d[k] = a new list, the key is new -/
theorem s_setDl {i : Nat} {te ti : TE} {pe pi : PX} [k : LE false te pe] [m : LE false ti pi] {Dp : PEnds} {ss : List Sl} {as : List Addr} {ks : List Key} {xss : List (List Tv)} (e : ss[i]? = some (.odl as ks xss)) (hl : ks.length < 100000)
    (h : pe ss fun x => pi ss fun y => match x, y.tv.bind Tv.key with | .n xs, some j => j ∉ ks ∧ ∀ p, Dp.nx (ss.set i (.odl (as ++ [p]) (ks ++ [j]) (xss ++ [xs]))) | _, _ => False) : Sim tp (tAsg te (gSub (tVar i) ti rSetD)) Dp ss := fun B O0 O Hs Kb H σ D htp c l => by
  obtain ⟨o, e1, a, us, e2, ma, n, q, kk, k2, w⟩ := c.r.at_ i _ e
  subst e2
  refine k.run c h fun x H1 v q1 s b rx => ?_
  refine ⟨.ref a, e1, ?_⟩
  cases x with
  | n xs =>
    obtain ⟨p, ws, rfl, hp, hp1, rp⟩ := rx
    obtain ⟨w1, r1, hsp, nd⟩ := c.own s b hp hp1
    have c1 : Ct false B O0 (p :: O) Hs Kb H1 ss σ := ⟨w1, r1, fun h => nomatch h⟩
    refine m.run c1 q1 fun y H2 w' q2 s2 b2 ry => ?_
    have c2 := c1.go s2 b2
    split at q2
    · rename_i _ _ xs' j ex ej
      cases ex
      obtain ⟨hnew, q2⟩ := q2
      obtain ⟨ty, ety, ekey⟩ := Option.bind_eq_some_iff.mp ej
      have rw' := Tv.key_rep ekey (ry.rep c1.w s2 ety)
      subst rw'
      have s12 := s.trans s2
      have h2 : H2 a = some (.dK us) := s12 a _ q (c.w.ob a ma)
      have hul : us.length = ks.length := by have := congrArg List.length kk; simpa using this
      refine ⟨a, _, rfl, DPut.k h2 (szl (by rw [hul]; exact hl)), ?_⟩
      have epk : putK us j (.ref p) = us ++ [(j, .ref p)] := putK_nw fun kv hkv z => hnew (by rw [← kk, ← z]; exact List.mem_map.mpr ⟨kv, hkv, rfl⟩)
      have ma' : a ∈ p :: O := List.mem_cons_of_mem _ ma
      have npa : p ≠ a := fun z => by rw [z, q] at hp; cases hp
      have rp2 := rp.mono (kn_sm (O := p :: O) (O' := p :: O) s2 fun _ h => .inl h)
      refine l.nx _ _ _ _ (q2 p) (c2.wrN (p := p) (s' := .odl _ _ _) e rfl e1 ma' n rfl ⟨a, _, rfl, ma', n, upd_same, ?_, ?_, ?_, ?_, fun x b xs' ex1 ex2 => ?_⟩ (fun x hx => (List.mem_append.mp hx).imp id List.mem_singleton.mp) nd)
      · rw [epk, List.map_append, kk]; rfl
      · rw [epk, List.map_append, List.map_append, k2]; rfl
      · refine List.nodup_append.mpr ⟨w.1, by simp, fun x hx y hy z => ?_⟩
        cases List.mem_singleton.mp hy
        subst z
        exact (nd i _ e).2 hx
      · rw [List.length_append, List.length_append, w.2.1]; rfl
      · by_cases hx : x < as.length
        · rw [List.getElem?_append_left hx] at ex1
          rw [List.getElem?_append_left (by rw [← w.2.1]; exact hx)] at ex2
          obtain ⟨z1, z2, ws', z3, z4⟩ := w.2.2 x b xs' ex1 ex2
          have nb : b ≠ a := fun z => by rw [z, q] at z3; cases z3
          refine ⟨List.mem_cons_of_mem _ z1, z2, ws', ?_, ?_⟩
          · rw [upd_ne nb]
            exact s12 b _ z3 (c.w.ob b z1)
          · rw [kn_mut ma']
            exact z4.mono (kn_sm s12 fun x hx => by
              rcases List.mem_cons.mp hx with rfl | hx
              · exact .inr hp
              · exact .inl hx)
        · have hx1 : x < (as ++ [p]).length := (List.getElem?_eq_some_iff.mp ex1).1
          rw [List.length_append, List.length_singleton] at hx1
          have : x = as.length := by omega
          subst this
          rw [List.getElem?_append_right (Nat.le_refl _), Nat.sub_self] at ex1
          rw [List.getElem?_append_right (by rw [w.2.1]; exact Nat.le_refl _), w.2.1, Nat.sub_self] at ex2
          cases ex1
          cases ex2
          refine ⟨List.mem_cons_self, hsp, ws, ?_, ?_⟩
          · rw [upd_ne npa]
            exact s2 p _ hp1 (c1.w.ob p List.mem_cons_self)
          · rw [kn_mut ma']
            exact rp2
    · exact q2.elim
  | _ =>
    refine m.run (c.go s b) q1 fun y H2 w' q2 s2 b2 ry => ?_
    split at q2
    · rename_i _ _ xs' j ex ej
      cases ex
    · exact q2.elim
theorem val_nd {us : List (Key × V)} {ks : List Key} {vs : List V} (h1 : us.map (·.1) = ks) (h2 : us.map (·.2) = vs) (hn : ks.Nodup) {n : Nat} {j : Key} {v : V} (e1 : ks[n]? = some j) (e2 : vs[n]? = some v) : valV us j = some v := by
  induction us generalizing ks vs n with
  | nil => subst h1; simp at e1
  | cons p us ih =>
    subst h1 h2
    cases n with
    | zero =>
      cases e1
      cases e2
      exact valV_pos rfl
    | succ n =>
      rw [List.map_cons, List.getElem?_cons_succ] at e1 e2
      rw [List.map_cons, List.nodup_cons] at hn
      rw [valV_neg (fun z => hn.1 (by rw [z]; exact List.mem_of_getElem? e1))]
      exact ih rfl rfl hn.2 e1 e2
/-- d[k].append(e) -/
theorem s_appD {K : PySem.W.Frag} {i : Nat} {tk te : TE} {pk pe : PX} [m : LE false tk pk] [k : LE false te pe] {Dp : PEnds} {ss : List Sl} {as : List Addr} {ks : List Key} {xss : List (List Tv)} (e : ss[i]? = some (.odl as ks xss)) (hnd : ks.Nodup) (hll : ∀ xs ∈ xss, xs.length < 100000)
    (h : pk ss fun y => match y.tv.bind Tv.key with
      | some j => ∃ n xs, ks[n]? = some j ∧ xss[n]? = some xs ∧ pe ss fun x => match x.tv with | some t => Dp.nx (ss.set i (.odl as ks (xss.set n (xs ++ [t])))) | none => False
      | none => False) : Sim tp (tDrop (tBM K "list" rAppend (tDGet (tVar i) tk) (tCons te tNil))) Dp ss := fun B O0 O Hs Kb H σ D htp c l => by
  obtain ⟨o, e1, a, us, e2, ma, n0, q, kk, k2, w⟩ := c.r.at_ i _ e
  subst e2
  refine ⟨.ref a, e1, m.run c h fun y H1 u q1 s b ry => ?_⟩
  have c1 := c.go s b
  split at q1
  · rename_i j ej
    obtain ⟨n, xs, hn1, hn2, q1⟩ := q1
    obtain ⟨ty, ety, ekey⟩ := Option.bind_eq_some_iff.mp ej
    have rw' := Tv.key_rep ekey (ry.rep c.w s ety)
    subst rw'
    have h1 : H1 a = some (.dK us) := s a _ q (c.w.ob a ma)
    have hna : n < as.length := by rw [w.2.1]; exact (List.getElem?_eq_some_iff.mp hn2).1
    obtain ⟨bb, hb⟩ : ∃ bb, as[n]? = some bb := ⟨_, List.getElem?_eq_getElem hna⟩
    obtain ⟨z1, z2, ws, z3, z4⟩ := w.2.2 n bb xs hb hn2
    have hv : valV us j = some (.ref bb) := val_nd kk k2 hnd hn1 (by rw [List.getElem?_map, hb]; rfl)
    have hb1 : H1 bb = some (.lst ws) := s bb _ z3 (c.w.ob bb z1)
    refine ⟨a, .ref bb, rfl, by rw [← hv]; exact DGet.rd (.inl h1), .inl ⟨rfl, ws, SqL.of hb1⟩, k.run c1 q1 fun x H2 v q2 s2 b2 rx => ?_⟩
    split at q2
    · rename_i t et
      have s12 := s.trans s2
      have c2 := c1.go s2 b2
      have hb2 : H2 bb = some (.lst ws) := s2 bb _ hb1 (c.w.ob bb z1)
      refine ⟨bb, ws, v, rfl, rfl, hb2, szl (by rw [z4.len]; exact hll xs (List.mem_of_getElem? hn2)), ?_⟩
      have h2 : H2 a = some (.dK us) := s12 a _ q (c.w.ob a ma)
      have nab : a ≠ bb := fun z => by rw [z, z3] at q; cases q
      have kk2 := kn_sm (O := O) (O' := O) s12 fun _ h => .inl h
      refine l.nx _ _ _ _ q2 (c2.wrA (v := some (.ref a)) e (List.mem_of_getElem? hb) e1 z1 z2 ⟨a, us, rfl, ma, n0, by rw [upd_ne nab]; exact h2, kk, k2, w.1, by rw [List.length_set]; exact w.2.1, fun x b' xs' ex1 ex2 => ?_⟩ fun _ h => h)
      by_cases hx : n = x
      · subst hx
        rw [hb] at ex1
        cases ex1
        rw [List.getElem?_set_self (List.getElem?_eq_some_iff.mp hn2).1] at ex2
        cases ex2
        refine ⟨z1, z2, _, upd_same, ?_⟩
        rw [kn_mut z1]
        exact (z4.mono kk2).app (RepL.one (rx.rep c1.w s2 et))
      · rw [List.getElem?_set_ne hx] at ex2
        obtain ⟨y1, y2, ws', y3, y4⟩ := w.2.2 x b' xs' ex1 ex2
        have nbb : b' ≠ bb := fun z => by
          subst z
          obtain ⟨l1, l2⟩ := List.getElem?_eq_some_iff.mp ex1
          obtain ⟨l3, l4⟩ := List.getElem?_eq_some_iff.mp hb
          exact hx ((List.getElem_inj w.1).mp (by rw [l4, l2]))
        refine ⟨y1, y2, ws', ?_, ?_⟩
        · rw [upd_ne nbb]
          exact s12 b' _ y3 (c.w.ob b' y1)
        · rw [kn_mut z1]
          exact y4.mono kk2
    · exact q2.elim
  · exact q1.elim
/-- a test that looks into an own dict of own lists -/
theorem s_ifPk (i : Nat) {c : TT} {t u : TS} {pt : PTx} [k : LT false c pt] {Dp : PEnds} {ss : List Sl} {as : List Addr} {ks : List Key} {xss : List (List Tv)} (e : ss[i]? = some (.odl as ks xss))
    (h : pt (ss.set i (.val (.dic false ks (xss.map Tv.lst)))) fun b => if b = true then Sim tp t Dp ss else Sim tp u Dp ss) : Sim tp (tIfS c t u) Dp ss := fun B O0 O Hs Kb H σ D htp ct l => by
  obtain ⟨O', c'⟩ := ct.fzl e
  refine k.run c' h fun b H' q s b1 => ?_
  split at q
  · rename_i e
    rw [if_pos e]
    exact q B O0 O Hs Kb H' σ D htp (ct.go s b1) l
  · rename_i e
    rw [if_neg e]
    exact q B O0 O Hs Kb H' σ D htp (ct.go s b1) l
/-- what is no list and no dict is not hidden -/
theorem Wl.other {B : Bx} {O0 O : List Addr} {Hs Kb H : Hp} (w : Wl B O0 O Hs Kb H) {a : Addr} {o : HO} (h : H a = some o) (n : ¬ LD o) (nt' : NT o := by exact fun _ z => nomatch z) : kn B O H a = some o := by
  refine kn_at (fun hm => n (w.ld a hm o h)) (fun hm => ?_) h nt'
  · obtain ⟨xs, e⟩ := w.bx.lst hm
    rw [h] at e
    cases e
    exact n (.inl ⟨_, rfl⟩)
theorem nLD_tup {us : List V} : ¬ LD (.tup us) := fun h => by rcases h with ⟨_, h⟩ | ⟨_, h⟩ | ⟨_, _, _, h, _⟩ <;> cases h
theorem nLD_ins {C d : Addr} {fs : List (Str × V)} (n : fs.lookup ("farthest" : Str) = none) : ¬ LD (.ins C d fs) := fun h => by
  rcases h with ⟨_, h⟩ | ⟨_, h⟩ | ⟨_, _, _, h, z⟩
  · cases h
  · cases h
  · cases h
    exact z n
/-- d[k] = e in an own dict that is not read again -/
theorem s_setDx {i : Nat} {te ti : TE} {pe pi : PX} [k : LE false te pe] [m : LE false ti pi] {Dp : PEnds} {ss : List Sl} {s : Sl} {n : Nat} (e : ss[i]? = some s) (hs : (∃ ks ts, s = .owd ks ts ∧ ks.length = n) ∨ ∃ as ks xss, s = .odl as ks xss ∧ ks.length = n) (hl : n < 100000)
    (h : pe ss fun x => pi ss fun y => match y.tv.bind Tv.key with | some j => Dp.nx (ss.set i .any) | none => False) : Sim tp (tAsg te (gSub (tVar i) ti rSetD)) Dp ss := fun B O0 O Hs Kb H σ D htp c l => by
  obtain ⟨o, e1, q0⟩ := c.r.at_ i _ e
  obtain ⟨a, us, e2, ma, n0, q, hul⟩ : ∃ a us, o = some (.ref a) ∧ a ∈ O ∧ Hs a = none ∧ H a = some (.dK us) ∧ us.length = n := by
    rcases hs with ⟨ks, ts, rfl, rfl⟩ | ⟨as, ks, xss, rfl, rfl⟩
    · obtain ⟨a, us, e2, ma, n0, q, k, _⟩ := q0
      exact ⟨a, us, e2, ma, n0, q, by rw [← k, List.length_map]⟩
    · obtain ⟨a, us, e2, ma, n0, q, k, _⟩ := q0
      exact ⟨a, us, e2, ma, n0, q, by rw [← k, List.length_map]⟩
  have so : s.isOwn = true := by rcases hs with ⟨_, _, rfl, _⟩ | ⟨_, _, _, rfl, _⟩ <;> rfl
  subst e2
  have hi := (List.getElem?_eq_some_iff.mp e).1
  refine k.run c h fun x H1 v q1 s1 b1 rx => ?_
  refine ⟨.ref a, e1, ?_⟩
  have c1 := c.go s1 b1
  refine m.run c1 q1 fun y H2 w q2 s2 b2 ry => ?_
  have s12 := s1.trans s2
  have c2 := c1.go s2 b2
  split at q2
  · rename_i j ej
    obtain ⟨ty, ety, ekey⟩ := Option.bind_eq_some_iff.mp ej
    have rw' := Tv.key_rep ekey (ry.rep c1.w s2 ety)
    subst rw'
    have h2 : H2 a = some (.dK us) := s12 a _ q (c.w.ob a ma)
    refine ⟨a, _, rfl, DPut.k h2 (szl (by rw [hul]; exact hl)), ?_⟩
    have R3 : Rels B O Hs H2 (ss.set i .any) σ := c2.r.sub (by rw [List.length_set]; exact c2.r.len) (fun j t ej => by
      by_cases hj : i = j
      · subst hj
        rw [List.getElem?_set_self hi] at ej
        cases ej
        exact ⟨_, e1, trivial⟩
      · rw [List.getElem?_set_ne hj] at ej
        exact c2.r.at_ j t ej) fun j t ej oj => by
      by_cases hj : i = j
      · subst hj
        rw [List.getElem?_set_self hi] at ej
        cases ej
        cases oj
      · rw [List.getElem?_set_ne hj] at ej
        exact ⟨t, ej, oj, fun _ h => h, rfl⟩
    have c3 : Ct false B O0 O Hs Kb H2 (ss.set i .any) σ := ⟨c2.w, R3, fun h => nomatch h⟩
    refine l.nx _ _ _ _ q2 (c3.mut ma n0 fun j t ej => ?_)
    by_cases hj : i = j
    · subst hj
      rw [List.getElem?_set_self hi] at ej
      cases ej
      exact ⟨fun z => (by cases z), List.not_mem_nil⟩
    · rw [List.getElem?_set_ne hj] at ej
      exact ⟨fun ot z => c.r.dis i j s t a hj e ej so ot e1 z, fun hm => (c.r.din j i t s a (Ne.symm hj) ej e hm).1 so e1⟩
  · exact q2.elim
theorem rising_pw : ∀ (p : Str) (l : List Str), risingS p l = true → (p :: l).Pairwise fun x y => x.cps.toList ≤ y.cps.toList
  | p, [], _ => by simp
  | p, x :: r, h => by
    have h' : (!ltCps x.cps.toList p.cps.toList && risingS x r) = true := h
    rw [Bool.and_eq_true] at h'
    have ih := rising_pw x r h'.2
    have hx : p.cps.toList ≤ x.cps.toList := by
      have := h'.1
      rw [ltCps_eq] at this
      exact List.not_lt.mp (by simpa using this)
    refine List.pairwise_cons.mpr ⟨fun y hy => ?_, ih⟩
    rcases List.mem_cons.mp hy with rfl | hy
    · exact hx
    · exact List.le_trans hx ((List.pairwise_cons.mp ih).1 y hy)
theorem sortedS_pw {l : List Str} (h : sortedS l = true) : l.Pairwise fun x y => x.cps.toList ≤ y.cps.toList := by
  cases l with
  | nil => exact List.Pairwise.nil
  | cons p l => exact rising_pw p l h
def keyStrs : List Key → Option (List Str)
  | [] => some []
  | .inr z :: r => (keyStrs r).map (z :: ·)
  | _ => none
@[simp] theorem keyStrs_map : ∀ zs : List Str, keyStrs (zs.map Sum.inr) = some zs
  | [] => rfl
  | z :: r => by rw [List.map_cons, keyStrs, keyStrs_map r]; rfl
theorem keyStrs_eq : ∀ {ks : List Key} {zs : List Str}, keyStrs ks = some zs → ks = zs.map Sum.inr
  | [], zs, h => by cases h; rfl
  | .inl _ :: r, zs, h => by cases h
  | .inr z :: r, zs, h => by
    unfold keyStrs at h
    cases e : keyStrs r with
    | none => rw [e] at h; cases h
    | some ms => rw [e] at h; cases h; rw [keyStrs_eq e]; rfl
/-- sorted(a dict of texts) -/
def pSortD : List Sx → (Sx → Prop) → Prop := fun xs Q => match xs with
  | [x] => (match x.dq with
    | some (ks, _) => (match keyStrs ks with | some zs => zs.length < 64 ∧ ∀ ys : List Str, ys.Perm zs → ys.Pairwise (fun x y => x.cps.toList ≤ y.cps.toList) → Q (.n (ys.map Tv.str)) | none => False)
    | none => False)
  | _ => False
instance lSortD : LC fw (fun xs H Q => ∃ (a : Addr) (kvs : List (Key × V)) (ks : List Str), xs = [.ref a] ∧ Rd H a (.dK kvs) ∧ kvs.map (·.1) = ks.map Sum.inr ∧ ks.length < 64 ∧
    ∀ ys p, ys.Perm ks → sortedS ys = true → H p = none → Q (.ref p) (upd H p (.lst (ys.map V.str)))) pSortD := ⟨fun {B O0 O Hs Kb H0 H ss σ Q Qp xs vs} c0 c s r h q => by
  unfold pSortD at h
  split at h
  · rename_i x
    obtain ⟨v, w, rfl, rx, rfl⟩ := r
    split at h
    · rename_i ks ts e
      obtain ⟨a, us, rfl, g, k, _⟩ := rx.dic c0.w s c.r e
      split at h
      · rename_i zs ez
        exact ⟨a, us, zs, rfl, g, by rw [k]; exact keyStrs_eq ez, h.1, fun ys p hp hs hn => q.lst c (h.2 ys hp (sortedS_pw hs)) (RepL.of_strs ys) hn⟩
      · exact h.elim
    · exact h.elim
  · exact h.elim⟩
end Pl

set_option Elab.async false
set_option linter.all false
set_option maxRecDepth 100000
set_option maxHeartbeats 4000000
/-! The pure layer: lambdas handed to a def that catches refusals. -/
namespace Pl
open PySem PySem.Spec PyProof.Rows L2
variable {fw tp : Bool}
theorem kn_ext {B : Bx} {O : List Addr} {H H1 : Hp} (e : LamX.ExtN H H1) : Same (kn B O H) (kn B O H1) := fun a o h => by
  obtain ⟨h1, h2, h3⟩ := kn_inv h
  exact kn_at h2 h3 (e a o h1 (kn_nt h)) (kn_nt h)
/-- tables aside, all stays -/
theorem Ct.ext {B : Bx} {O0 O : List Addr} {Hs Kb H H1 : Hp} {ss : List Sl} {σ : L2.St} (c : Ct fw B O0 O Hs Kb H ss σ) {P : Addr} {q : Str} (eB : B.2 = some (P, q)) (e : LamX.ExtN H H1) (t : LamX.TabS H1 P q) : Ct fw B O0 O Hs Kb H1 ss σ := by
  have kk := kn_ext (B := B) (O := O) e
  have tf := (c.w.tb P q eB).2
  refine ⟨⟨c.w.kb.trans kk, fun a o h n => e a o (c.w.hh a o h n) (fun ps z => tf a ps (by rw [h, z])), fun b k eb => ?_, c.w.bs, c.w.o0, c.w.s0, c.w.on, fun a ha => ?_, c.w.ob, fun a ha o h => ?_, fun P' q' e' => ?_⟩, ⟨c.r.len, fun i s es => ?_, c.r.dis, c.r.din⟩, c.fl⟩
  · obtain ⟨n, cs, k', h1, h2, h3⟩ := c.w.bx b k eb
    exact ⟨n, cs, k', e _ _ h1 (fun _ z => nomatch z), e _ _ h2 (fun _ z => nomatch z), h3⟩
  · obtain ⟨o, h⟩ := c.w.st a ha
    exact ⟨o, e a o h (c.w.ld a ha o h).nt⟩
  · obtain ⟨o', h'⟩ := c.w.st a ha
    have l := c.w.ld a ha o' h'
    have := e a o' h' l.nt
    rw [h] at this
    cases this
    exact l
  · rw [eB] at e'
    cases e'
    exact ⟨t, tf⟩
  · obtain ⟨o, e1, k⟩ := c.r.at_ i s es
    refine ⟨o, e1, ?_⟩
    cases s with
    | any => trivial
    | tab P q => exact k
    | val t => obtain ⟨v, e2, r⟩ := k; exact ⟨v, e2, r.mono kk⟩
    | own xs => obtain ⟨a, us, e2, m, n, g, r⟩ := k; exact ⟨a, us, e2, m, n, e a _ g (fun _ z => nomatch z), r.mono kk⟩
    | owd ks ts => obtain ⟨a, us, e2, m, n, g, k1, r⟩ := k; exact ⟨a, us, e2, m, n, e a _ g (fun _ z => nomatch z), k1, r.mono kk⟩
    | box => exact k
    | lkd d ks ts => obtain ⟨us, x, e2, g, k1, r⟩ := k; exact ⟨us, x, e2, kk _ _ g, k1, r.mono kk⟩
    | pvd K v t => exact ⟨k.1, k.2.1, k.2.2.mono kk⟩
    | odl as ks xss =>
      obtain ⟨a, us, e2, m, n, g, k1, k2, w⟩ := k
      exact ⟨a, us, e2, m, n, e a _ g (fun _ z => nomatch z), k1, k2, w.of fun b xs _ mb nb ws hb r => ⟨mb, nb, ws, e b _ hb (fun _ z => nomatch z), r.mono kk⟩⟩
    | gx G => exact ⟨k.1, G.mono (Sm.of kk) (fun a ha u eu => e a u eu (c.w.ld a (k.1 a ha).1 u eu).nt) k.2⟩
/-! ### readings that may change the table -/
class LN (te : TE) (pe : outParam PX) : Prop where
  run : ∀ {B : Bx} {O0 O : List Addr} {Hs Kb H : Hp} {ss : List Sl} {σ : L2.St} {Q : VK} {Qp : Sx → Prop}, Ct false B O0 O Hs Kb H ss σ → pe ss Qp → (∀ x H1 H' v, Qp x → Ct false B O0 O Hs Kb H1 ss σ → Stay B H1 H' → BxOk B H' → XR B O H1 H' ss σ x v → Q v H') → te σ H Q
class LNT (tt : TT) (pt : outParam PTx) : Prop where
  run : ∀ {B : Bx} {O0 O : List Addr} {Hs Kb H : Hp} {ss : List Sl} {σ : L2.St} {Q : Bool → Hp → Prop} {Qp : Bool → Prop}, Ct false B O0 O Hs Kb H ss σ → pt ss Qp → (∀ b H', Qp b → Ct false B O0 O Hs Kb H' ss σ → Q b H') → tt σ H Q
class LNA (ta : TA) (pa : outParam PAx) : Prop where
  run : ∀ {B : Bx} {O0 O : List Addr} {Hs Kb H : Hp} {ss : List Sl} {σ : L2.St} {Q : List V → Hp → Prop} {Qp : List Sx → Prop}, Ct false B O0 O Hs Kb H ss σ → pa ss Qp → (∀ xs H1 H' vs, Qp xs → Ct false B O0 O Hs Kb H1 ss σ → Stay B H1 H' → BxOk B H' → XRL B O H1 H' ss σ xs vs → Q vs H') → ta σ H Q
instance (priority := low) lnE {te : TE} {pe : PX} [k : LE false te pe] : LN te pe := ⟨fun c h q => k.run c h fun x H' v q1 s b r => q x _ H' v q1 c s b r⟩
instance (priority := low) lnT {tt : TT} {pt : PTx} [k : LT false tt pt] : LNT tt pt := ⟨fun c h q => k.run c h fun b H' q1 s bx => q b H' q1 (c.go s bx)⟩
instance lnCons {te : TE} {ta : TA} {pe : PX} {pa : PAx} [a : LN te pe] [b : LA false ta pa] : LNA (tCons te ta) (pCons pe pa) := ⟨fun c h q =>
  a.run c h fun x H1 H2 v q1 c1 s1 b1 r1 => b.run (c1.go s1 b1) q1 fun xs H3 vs q2 s2 b2 r2 => q _ H1 H3 _ q2 c1 (s1.trans s2) b2 ⟨v, vs, rfl, r1.go c1.w s1 s2, r2.back b1 s1⟩⟩
instance lnCall {sp : Sp} {E : XK} {ta : TA} {pa : PAx} {pr : List Sx → (Sx → Prop) → Prop} [a : LNA ta pa] [k : LSp false sp pr] : LN (tCall sp [] E ta) (pCB pr pa) := ⟨fun c h q =>
  a.run c h fun xs H1 H2 vs q1 c1 s1 b1 r1 => by
    rw [List.append_nil]
    exact k.run c1 (c1.go s1 b1) s1 r1 q1 ⟨fun z H3 w q3 s3 b3 r3 => q _ H1 _ _ q3 c1 (s1.trans s3) b3 (r3.back b1 s1)⟩⟩
instance lnOp {r : R2} {ta tb : TE} {pa pb : PX} {pr : Sx → Sx → (Sx → Prop) → Prop} [a : LN ta pa] [b : LE false tb pb] [k : LR false r pr] : LN (tOp r ta tb) (pOp pr pa pb) := ⟨fun c h q =>
  a.run c h fun x H0 H1 v q1 c0 s1 b1 r1 => b.run (c0.go s1 b1) q1 fun y H2 u q2 s2 b2 r2 =>
    k.run c0 ((c0.go s1 b1).go s2 b2) (s1.trans s2) (r1.go c0.w s1 s2) (r2.back b1 s1) q2 ⟨fun z H3 w q3 s3 b3 r3 => q _ H0 _ _ q3 c0 ((s1.trans s2).trans s3) b3 (r3.back b2 (s1.trans s2))⟩⟩
instance lnTest {te : TE} {pe : PX} [a : LN te pe] : LNT (tTest te) (pTest pe) := ⟨fun {B O0 O Hs Kb H ss σ Q Qp} c h q => a.run c h fun x H0 H1 v q1 c0 s1 b1 r1 => by
  split at q1
  · exact ⟨_, r1, q _ _ q1 (c0.go s1 b1)⟩
  · exact q1.elim⟩
instance lnB {te : TE} {pe : PX} [a : LN te pe] : LNT (tB te) (pTest pe) := ⟨fun {B O0 O Hs Kb H ss σ Q Qp} c h q => a.run c h fun x H0 H1 v q1 c0 s1 b1 r1 => by
  split at q1
  · exact ⟨_, r1, q _ _ q1 (c0.go s1 b1)⟩
  · exact q1.elim⟩
instance lnNot {t1 : TT} {p1 : PTx} [a : LNT t1 p1] : LNT (tNot t1) (pNot p1) := ⟨fun {B O0 O Hs Kb H ss σ Q Qp} c h q => a.run c h fun k H1 q1 c1 => q _ _ q1 c1⟩
instance lnAnd {t1 t2 : TT} {p1 p2 : PTx} [a : LNT t1 p1] [b : LNT t2 p2] : LNT (tAnd t1 t2) (pAnd p1 p2) := ⟨fun {B O0 O Hs Kb H ss σ Q Qp} c h q => a.run c h fun k H1 q1 c1 => by
  split at q1
  · rename_i e
    rw [if_pos e]
    exact b.run c1 q1 q
  · rename_i e
    rw [if_neg e]
    exact q _ _ q1 c1⟩
instance lnOr {t1 t2 : TT} {p1 p2 : PTx} [a : LNT t1 p1] [b : LNT t2 p2] : LNT (tOr t1 t2) (pOr p1 p2) := ⟨fun {B O0 O Hs Kb H ss σ Q Qp} c h q => a.run c h fun k H1 q1 c1 => by
  split at q1
  · rename_i e
    rw [if_pos e]
    exact q _ _ q1 c1
  · rename_i e
    rw [if_neg e]
    exact b.run c1 q1 q⟩
theorem s_ifN {c : TT} {t u : TS} {pt : PTx} [k : LNT c pt] {Dp : PEnds} {ss : List Sl} (h : pt ss fun b => if b = true then Sim tp t Dp ss else Sim tp u Dp ss) : Sim tp (tIfS c t u) Dp ss := fun B O0 O Hs Kb H σ D htp ct l =>
  k.run ct h fun b H' q c1 => by
    split at q
    · rename_i e
      rw [if_pos e]
      exact q B O0 O Hs Kb H' σ D htp c1 l
    · rename_i e
      rw [if_neg e]
      exact q B O0 O Hs Kb H' σ D htp c1 l
theorem s_setN {i : Nat} {te : TE} {pe : PX} [k : LN te pe] {Dp : PEnds} {ss : List Sl} (h : pe ss fun x => match x.sl with | some s => Dp.nx (ss.set i s) | none => False) : Sim tp (tAsg te (gName i)) Dp ss := fun B O0 O Hs Kb H σ D htp c l =>
  k.run c h fun x H1 H' v q c1 s b r => by
    split at q
    · rename_i sl e
      obtain ⟨O', c'⟩ := c1.put s b r e i
      exact l.nx _ _ _ _ q c'
    · exact q.elim
/-! ### what a call may end with -/
inductive Xo where
  | ok
  | er (C : Addr) (x : Option (Str × Tv))
def Xat (B : Bx) (O : List Addr) (H : Hp) (x : Option (Str × Tv)) (d : Option Addr) : Prop := match x with
  | none => True
  | some (f, t) => ∃ dd fs v, d = some dd ∧ H dd = some (.xd fs) ∧ fs.lookup f = some v ∧ Rep (kn B O H) t v
class LX (t : XK → TE) (px : outParam (List Sl → (Xo → Prop) → Prop)) : Prop where
  run : ∀ {B : Bx} {O0 O : List Addr} {Hs Kb H : Hp} {ss : List Sl} {σ : L2.St} {Q : VK} {E : XK} {Qp : Xo → Prop}, Ct false B O0 O Hs Kb H ss σ → px ss Qp → (∀ v H', Qp .ok → Stay B H H' → BxOk B H' → Q v H') → (∀ C x d H', Qp (.er C x) → Stay B H H' → BxOk B H' → Xat B O H' x d → E (.ref C) d H') → t E σ H Q
/-- a promise that may end with an error -/
class LXp (sp : Sp) (pr : outParam (List Sx → (Xo → Prop) → Prop)) : Prop where
  run : ∀ {B : Bx} {O0 O : List Addr} {Hs Kb H0 H : Hp} {ss : List Sl} {σ : L2.St} {Q : VK} {E : XK} {Qp : Xo → Prop} {xs : List Sx} {vs : List V}, Ct false B O0 O Hs Kb H0 ss σ → Ct false B O0 O Hs Kb H ss σ → Stay B H0 H → XRL B O H0 H ss σ xs vs → pr xs Qp → (∀ v H', Qp .ok → Stay B H H' → BxOk B H' → Q v H') → (∀ C x d H', Qp (.er C x) → Stay B H H' → BxOk B H' → Xat B O H' x d → E (.ref C) d H') → sp vs H Q E
def pXC (pr : List Sx → (Xo → Prop) → Prop) (pa : PAx) : List Sl → (Xo → Prop) → Prop := fun ss Q => pa ss fun xs => pr xs Q
instance lxCall {sp : Sp} {ta : TA} {pa : PAx} {pr : List Sx → (Xo → Prop) → Prop} [a : LA false ta pa] [k : LXp sp pr] : LX (fun E => tCall sp [] E ta) (pXC pr pa) := ⟨fun c h q e =>
  a.run c h fun xs H1 vs q1 s1 b1 r1 => by
    rw [List.append_nil]
    exact k.run c (c.go s1 b1) s1 r1 q1 (fun v H' z s b => q v H' z (s1.trans s) b) fun C x d H' z s b xa => e C x d H' z (s1.trans s) b xa⟩
/-- _law_refusal(lambda: ..): slot 0 tells the table -/
def pRef (P : Addr) (q : Str) (es : List Er) (px : List Sl → (Xo → Prop) → Prop) : PX := fun ss Q => ss[0]? = some (.tab P q) ∧ px ss fun o => match o with
  | .ok => Q (.v (.tup [.str "nothing"]))
  | .er C x => ∃ e ∈ es, e.1 = C ∧ match e.2.2 with
    | none => Q (.v (.tup [.str e.2.1]))
    | some f => ∃ t, x = some (f, t) ∧ Q (.v (.tup [.str e.2.1, t]))
instance lnLam {P : Addr} {q : Str} {es : List Er} {t : XK → TE} {px : List Sl → (Xo → Prop) → Prop} [k : LX t px] : LN (LamX.tLam [(P, q)] (TRef es) t) (pRef P q es px) := ⟨fun {B O0 O Hs Kb H ss σ Q Qp} c h q1 => by
  obtain ⟨h0, h⟩ := h
  obtain ⟨o0, _, eB⟩ := c.r.at_ 0 _ h0
  have eB : B.2 = some (P, q) := eB
  refine ⟨fun p hp => ?_, fun H1 eN tb p hp Q' hQ' => ?_⟩
  · rw [List.mem_singleton.mp hp]
    exact (c.w.tb P q eB).1
  · have c1 := c.ext eB eN (tb (P, q) (List.mem_singleton.mpr rfl))
    have sp : Stay B H1 (upd H1 p (.tup [.str "nothing"])) := Stay.of (same_upd hp)
    have bp := c1.w.bx.same (same_upd (o := .tup [.str "nothing"]) hp)
    have c2 := c1.go sp bp
    refine k.run c2 h (fun v H' z s b => hQ' _ _ (q1 _ H1 _ _ z c1 (sp.trans s) b ⟨p, _, rfl, ?_, ⟨_, _, rfl, rfl, rfl⟩⟩)) fun C x d H' z s b xa => ?_
    · exact kn_new c1.w (sp.trans s) hp (s p _ upd_same (c1.w.bx.nin hp))
    · obtain ⟨e, he, ec, z⟩ := z
      refine ⟨e, he, by rw [ec], ?_⟩
      cases ef : e.2.2 with
      | none =>
        rw [ef] at z
        dsimp only at z
        refine fun p' hp' => ?_
        have s' : Stay B H' (upd H' p' (.tup [.str e.2.1])) := Stay.of (same_upd hp')
        refine q1 _ H1 _ _ z c1 ((sp.trans s).trans s') (b.same (same_upd hp')) ⟨p', _, rfl, ?_, ⟨_, _, rfl, rfl, rfl⟩⟩
        exact kn_new c1.w ((sp.trans s).trans s') ((sp.trans s).free b hp') upd_same
      | some f =>
        rw [ef] at z
        obtain ⟨t', ex, z⟩ := z
        subst ex
        obtain ⟨dd, fs, v, h1, h2, h3, h4⟩ := xa
        refine ⟨dd, fs, v, h1, h2, h3, fun p' hp' => ?_⟩
        have s' : Stay B H' (upd H' p' (.tup [.str e.2.1, v])) := Stay.of (same_upd hp')
        refine q1 _ H1 _ _ z c1 ((sp.trans s).trans s') (b.same (same_upd hp')) ⟨p', _, rfl, ?_, ⟨_, _, rfl, rfl, _, _, rfl, h4.mono (kn_sm s' fun _ h => .inl h), rfl⟩⟩
        exact kn_new c1.w ((sp.trans s).trans s') ((sp.trans s).free b hp') upd_same⟩
end Pl

set_option Elab.async false
set_option linter.all false
set_option maxRecDepth 100000
set_option maxHeartbeats 4000000
/-! The pure layer: own things of any kind, seen as values for a step. -/
namespace Pl
open PySem PySem.Spec PyProof.Rows L2
variable {fw tp : Bool}
/-- seen as a value -/
def GSem.As (G : GSem) (t : Tv) : Prop := ∀ {K K' H : Hp} {o : Option V}, Same K K' → (∀ x ∈ G.ads, ∀ u, H x = some u → NT u → K' x = some u) → G.R K H o → ∃ a, o = some (.ref a) ∧ Rep K' t (.ref a)
theorem Ct.fgx {B : Bx} {O0 O : List Addr} {Hs Kb H : Hp} {ss : List Sl} {σ : L2.St} (c : Ct fw B O0 O Hs Kb H ss σ) {i : Nat} {G : GSem} {t : Tv} (e : ss[i]? = some (.gx G)) (ha : G.As t) : ∃ O', Ct fw B O0 O' Hs Kb H (ss.set i (.val t)) σ := by
  obtain ⟨o, e1, h1, h2⟩ := c.r.at_ i _ e
  obtain ⟨a, rfl, _⟩ := ha (K' := H) kn_all (fun _ _ _ e _ => e) h2
  refine c.free e rfl e1 (fun x hx => ?_) fun O' o1 o2 => ?_
  · rcases List.mem_cons.mp hx with rfl | hx
    · exact h1 x (G.hd h2)
    · exact h1 x hx
  · obtain ⟨a', ea, r⟩ := ha (K' := kn B O' H) (kn_less o1) (fun x hx u eu n => kn_at (o2 x (List.mem_cons_of_mem _ hx)) (c.w.ob x (h1 x hx).1) eu n) h2
    cases ea
    exact r
/-- a test that looks into an own thing -/
theorem s_ifG (i : Nat) {c : TT} {t u : TS} {pt : PTx} [k : LT false c pt] {Dp : PEnds} {ss : List Sl} {G : GSem} (v : Tv) (e : ss[i]? = some (.gx G)) (ha : G.As v)
    (h : pt (ss.set i (.val v)) fun b => if b = true then Sim tp t Dp ss else Sim tp u Dp ss) : Sim tp (tIfS c t u) Dp ss := fun B O0 O Hs Kb H σ D htp ct l => by
  obtain ⟨O', c'⟩ := ct.fgx e ha
  refine k.run c' h fun b H' q s b1 => ?_
  split at q
  · rename_i e
    rw [if_pos e]
    exact q B O0 O Hs Kb H' σ D htp (ct.go s b1) l
  · rename_i e
    rw [if_neg e]
    exact q B O0 O Hs Kb H' σ D htp (ct.go s b1) l
/-- never hidden -/
def Rob (t : Tv) : Prop := ∀ {B : Bx} {O0 O O' : List Addr} {Hs Kb H : Hp} {v : V}, Wl B O0 O Hs Kb H → Rep (kn B O' H) t v → Rep (kn B O H) t v
/-- an assignment that looks into an own thing -/
theorem s_setG (i : Nat) {j : Nat} {te : TE} {pe : PX} [k : LE false te pe] {Dp : PEnds} {ss : List Sl} {G : GSem} (v : Tv) (e : ss[i]? = some (.gx G)) (ha : G.As v)
    (h : pe (ss.set i (.val v)) fun x => ∃ t, x = .v t ∧ Rob t ∧ Dp.nx (ss.set j (.val t))) : Sim tp (tAsg te (gName j)) Dp ss := fun B O0 O Hs Kb H σ D htp ct l => by
  obtain ⟨O', c'⟩ := ct.fgx e ha
  refine k.run c' h fun x H' w q s b r => ?_
  obtain ⟨t, rfl, hr, q⟩ := q
  have c1 := ct.go s b
  exact l.nx _ _ _ _ q ⟨c1.w, c1.r.set j (s := .val t) ⟨w, rfl, hr c1.w r⟩ (fun h => nomatch h), (fun h => nomatch h)⟩
/-- an own thing's address is written -/
theorem Ct.wrG {B : Bx} {O0 O : List Addr} {Hs Kb H : Hp} {ss : List Sl} {σ : L2.St} (c : Ct fw B O0 O Hs Kb H ss σ) {i : Nat} {x : Addr} {G G' : GSem} {v : Option V} {o : HO} (e : ss[i]? = some (.gx G)) (hx : x ∈ G.ads) (e1 : σ[i]? = some v) (eh : v = none ∨ ∃ a, v = some (.ref a) ∧ a ∈ G.ads) (ea : G'.ads = G.ads) (k : G'.R (kn B O H) (upd H x o) v) (hl : LD o) : Ct fw B O0 O Hs Kb (upd H x o) (ss.set i (.gx G')) σ := by
  have hi := (List.getElem?_eq_some_iff.mp e).1
  obtain ⟨o', e1', h1, h2⟩ := c.r.at_ i _ e
  rw [e1] at e1'
  cases e1'
  obtain ⟨xO, xs⟩ := h1 x hx
  refine ⟨c.w.mut xO xs hl, c.r.sub (by rw [List.length_set]; exact c.r.len) (fun j t ej => ?_) (fun j t e1' o1 => ?_), c.fl⟩
  · by_cases hj : i = j
    · subst hj
      rw [List.getElem?_set_self hi] at ej
      cases ej
      exact ⟨_, e1, fun a ha => h1 a (by rw [← ea]; exact ha), by rw [kn_mut xO]; exact k⟩
    · rw [List.getElem?_set_ne hj] at ej
      obtain ⟨v2, e2, q⟩ := c.r.at_ j t ej
      exact ⟨v2, e2, q.mut xO (fun h z => (c.r.din i j _ t x hj e ej hx).1 h (by rw [e2, z])) (c.r.din i j _ t x hj e ej hx).2⟩
  · by_cases hz : i = j
    · subst hz
      rw [List.getElem?_set_self hi] at e1'
      cases e1'
      exact ⟨_, e, rfl, fun a ha => by have ha : a ∈ G'.ads := ha; rw [ea] at ha; exact ha, rfl⟩
    · rw [List.getElem?_set_ne hz] at e1'
      exact ⟨t, e1', o1, fun _ h => h, rfl⟩
/-- a new own thing in a slot -/
theorem Rels.setG {B : Bx} {O : List Addr} {Hs H : Hp} {ss : List Sl} {σ : L2.St} (R : Rels B O Hs H ss σ) (i : Nat) {G : GSem} {o : Option V} (k : SlOk B O Hs H (.gx G) o)
    (d : ∀ a ∈ G.ads, ∀ (j : Nat) t, ss[j]? = some t → (t.isOwn = true → σ[j]? ≠ some (some (.ref a))) ∧ a ∉ t.ads) : Rels B O Hs H (ss.set i (.gx G)) (σ.set i o) := by
  have hd : ∀ {a : Addr}, o = some (.ref a) → a ∈ G.ads := fun {a} e => by subst e; exact G.hd k.2
  have at1 : ∀ {j : Nat} {t : Sl}, (ss.set i (.gx G))[j]? = some t → (i = j ∧ t = .gx G ∧ (σ.set i o)[j]? = some o) ∨ (i ≠ j ∧ ss[j]? = some t ∧ (σ.set i o)[j]? = σ[j]?) := fun {j t} e => by
    by_cases h : i = j
    · subst h
      have hl : i < ss.length := by
        have := (List.getElem?_eq_some_iff.mp e).1
        rwa [List.length_set] at this
      rw [List.getElem?_set_self hl] at e
      cases e
      exact .inl ⟨rfl, rfl, List.getElem?_set_self (by rw [← R.len]; exact hl)⟩
    · rw [List.getElem?_set_ne h] at e
      exact .inr ⟨h, e, List.getElem?_set_ne h⟩
  refine ⟨by rw [List.length_set, List.length_set]; exact R.len, fun j t e => ?_, fun j m t u a hne e1 e2 o1 o2 h1 h2 => ?_, fun j m t u a hne e1 e2 hm => ?_⟩
  · rcases at1 e with ⟨_, rfl, e1⟩ | ⟨_, e0, e1⟩
    · exact ⟨o, e1, k⟩
    · obtain ⟨v, e2, q⟩ := R.at_ j t e0
      exact ⟨v, by rw [e1]; exact e2, q⟩
  · rcases at1 e1 with ⟨rfl, rfl, f1⟩ | ⟨n1, f0, f1⟩
    · rcases at1 e2 with ⟨rfl, _, _⟩ | ⟨n2, g0, g1⟩
      · exact hne rfl
      · rw [f1] at h1
        rw [g1] at h2
        exact (d a (hd (Option.some.inj h1)) m u g0).1 o2 h2
    · rcases at1 e2 with ⟨rfl, rfl, g1⟩ | ⟨n2, g0, g1⟩
      · rw [g1] at h2
        rw [f1] at h1
        exact (d a (hd (Option.some.inj h2)) j t f0).1 o1 h1
      · rw [f1] at h1
        rw [g1] at h2
        exact R.dis j m t u a hne f0 g0 o1 o2 h1 h2
  · rcases at1 e1 with ⟨rfl, rfl, f1⟩ | ⟨n1, f0, f1⟩
    · rcases at1 e2 with ⟨rfl, _, _⟩ | ⟨n2, g0, g1⟩
      · exact absurd rfl hne
      · rw [g1]
        exact d a hm m u g0
    · rcases at1 e2 with ⟨rfl, rfl, g1⟩ | ⟨n2, g0, g1⟩
      · rw [g1]
        refine ⟨fun _ z => ?_, fun hg => ?_⟩
        · exact (d a (hd (Option.some.inj z)) j t f0).2 hm
        · exact (d a hg j t f0).2 hm
      · rw [g1]
        exact R.din j m t u a hne f0 g0 hm
end Pl

namespace Pl
open PySem L2
section
variable {P : Program} {w : World} {K : PySem.W.Frag} {mg : Str → Option Value} {base : Heap}
def spOpen (K : PySem.W.Frag) : Sp := fun vs H Q _ => ∃ (a : Addr) (ns : List Int), vs = [.ref a] ∧ SqL K H a (ns.map V.int) ∧ ns.length ≤ 63 ∧
  ∀ (b c : Addr) (H' : Hp), H b = none → H c = none → Same H H' → BoxAt b c H' → Q (.ref b) H'
theorem cut63 (ns : List Int) (h : ns.length ≤ 63) : cutV (ns.map V.int) none (some 63) = ns.map V.int := by
  unfold cutV
  rw [HT.sIx_none, show HT.sIx (ns.map V.int).length (ns.map V.int).length (some 63) = min 63 (ns.map V.int).length from HT.sIx_nat _ _ 63]
  rw [List.drop_zero, List.length_map, Nat.sub_zero]
  exact List.take_of_length_le (by rw [List.length_map]; omega)
theorem ok_law_open (T : Txt P K mg) {k : Nat} : FnOk P w K mg base CX0 (k + 1) T.law_open.f T.law_open.fd ["_law_script"] (spOpen K) := by
  refine T.law_open.F.ok sc_law_open (fun vs H Q E h => ?_) (fun cdv A outer s H vs Q E hr h => ?_)
  · obtain ⟨a, ns, rfl, _⟩ := h
    rfl
  · obtain ⟨a, ns, rfl, hS, hl, q⟩ := h
    refine ⟨_, (pss_cons (ps_set (i := 1) sc_law_open.nd rfl (.inl rfl) (pe_callTy call_list_of (by rfl) T.n_list (by decide +kernel) (pa_cons (pe_slice sl_list (pv 0) po_none (po_some pe_int)) pa_nil)))
  (pss_cons (ps_if (pt_cmpR op_eq (pe_callB call_len_seq (by rfl) T.n_len PySem.boot_len (pa_cons (pv 1) pa_nil)) pe_int (nomark _)) (pss_one (ps_expr (pe_bm PySem.F.plainAttrs_list PySem.F.slot_list_append PySem.F.type_list_append mt_append (pv 1) (pa_cons pe_int pa_nil)))) pss_nil)
  (pss_one (ps_ret (pe_lst (pa_cons (pv 1) (pa_cons pe_int pa_nil))))))), ?_⟩
    refine ⟨.ref a, rfl, 63, rfl, a, _, rfl, hS, fun p hp => ?_⟩
    rw [cut63 ns hl]
    refine ⟨p, _, rfl, .inl (SqL.of upd_same), fun c hc => ?_⟩
    have ncp : c ≠ p := fun e => by
      rw [e, upd_same] at hc
      cases hc
    have hc0 : H c = none := by rw [upd_ne ncp] at hc; exact hc
    have s1 : Same H (upd (upd H p (.lst (ns.map V.int))) c (.lst (ns.map V.int))) := (same_upd hp).trans (same_upd hc)
    refine ⟨.ref c, rfl, c, _, rfl, .inl (SqL.of upd_same), rfl, _, rfl, ite2 (fun e => ?_) (fun e => ?_)⟩
    · have e0 : ((ns.map V.int).length : Int) = 0 := V.int.inj (of_decide_eq_true e)
      have e1 : ns = [] := by
        cases ns with
        | nil => rfl
        | cons x r =>
          rw [List.length_map, List.length_cons] at e0
          omega
      subst e1
      refine ⟨.ref c, rfl, .inl ⟨rfl, _, SqL.of upd_same⟩, c, _, _, rfl, rfl, upd_same, szl (by show 0 < 100000; decide), ?_⟩
      rw [upd_upd]
      have s2 : Same H (upd (upd H p (.lst [])) c (.lst [.int 0])) := (same_upd hp).trans (same_upd hc)
      refine ⟨.ref c, rfl, sz (by show 2 ≤ 100000; decide), fun b hb => ?_⟩
      have nbc : b ≠ c := fun e => by
        rw [e, upd_same] at hb
        cases hb
      exact q b c _ (s2.free hb) hc0 (s2.trans (same_upd hb)) ⟨nbc, [0], 0, upd_same, by rw [upd_ne (Ne.symm nbc), upd_same]; rfl, by decide, by decide⟩
    · have h0 : 0 < ns.length := by
        cases ns with
        | nil => exact absurd (decide_eq_true rfl) e
        | cons x r => exact Nat.succ_pos _
      refine ⟨.ref c, rfl, sz (by show 2 ≤ 100000; decide), fun b hb => ?_⟩
      have nbc : b ≠ c := fun e => by
        rw [e, upd_same] at hb
        cases hb
      exact q b c _ (s1.free hb) hc0 (s1.trans (same_upd hb)) ⟨nbc, ns, 0, upd_same, by rw [upd_ne (Ne.symm nbc), upd_same], h0, by omega⟩
theorem nzA : (2147483647 : Int) ≠ 0 := by decide
theorem nzB : (2147483399 : Int) ≠ 0 := by decide
def spPick : Sp := fun vs H Q _ => ∃ (b c : Addr) (G : Hp) (m : Int), vs = [.ref b, .int m] ∧ Wd b c G H ∧ 0 < m ∧ m < 1073741824 ∧
  ∀ (i : Int) (H' : Hp), Wd b c G H' → 0 ≤ i → i < m → Q (.int i) H'
theorem box_cells {b c : Addr} {G H : Hp} {cs cs' : List Int} {k : Int} (nbc : b ≠ c) (x : Wd b c G H) (h : 0 < cs.length) (h' : cs.length ≤ 64) : Wd b c G (upd (upd H b (.lst [.ref c, .int k])) c (.lst (cs.map V.int))) :=
  ⟨⟨nbc, cs, k, by rw [upd_ne nbc, upd_same], upd_same, h, h'⟩, same_mut (same_mut x.gh x.gb) x.gc, x.gb, x.gc⟩
theorem ok_law_pick (T : Txt P K mg) {k : Nat} : FnOk P w K mg base CX0 (k + 1) T.law_pick.f T.law_pick.fd ["_law_box", "_law_many"] spPick := by
  refine T.law_pick.F.ok sc_law_pick (fun vs H Q E h => ?_) (fun cdv A outer s H vs Q E hr h => ?_)
  · obtain ⟨b, c, G, m, rfl, _⟩ := h
    rfl
  · obtain ⟨b, c, G, m, rfl, W, m0, m1, q⟩ := h
    obtain ⟨nbc, cs, k, hb, hc, l0, l1⟩ := W.box
    refine ⟨_, (pss_cons (ps_set (i := 2) sc_law_pick.nd rfl (.inl rfl) (pe_ix ix_list (pv 0) pe_int (fun _ _ => rfl)))
  (pss_cons (ps_set (i := 3) sc_law_pick.nd rfl (.inl rfl) (pe_ix ix_list (pv 0) pe_int (fun _ _ => rfl)))
  (pss_cons (ps_asg (pe_op op_add (pv 3) pe_int) (pg_sub (pv 0) pe_int set_list))
  (pss_cons (ps_set (i := 4) sc_law_pick.nd rfl (.inl rfl) (pe_op op_modN (pv 3) (pe_callB call_len_seq (by rfl) T.n_len PySem.boot_len (pa_cons (pv 2) pa_nil))))
  (pss_cons (ps_set (i := 5) sc_law_pick.nd rfl (.inl rfl) (pe_ix ix_list (pv 2) (pv 4) (fun _ _ => rfl)))
  (pss_cons (ps_if (pt_cmpR op_ge (pv 5) (pe_op op_pow pe_int pe_int) (nomark _)) (pss_cons (ps_asg (pe_op op_fdivN (pv 5) (pv 1)) (pg_sub (pv 2) (pv 4) set_list))
  (pss_one (ps_ret (pe_op op_modN (pe_callTy call_int1 (by rfl) T.n_int (by decide +kernel) (pa_cons (pv 5) pa_nil)) (pv 1))))) pss_nil)
  (pss_cons (ps_set (i := 6) sc_law_pick.nd rfl (.inl rfl) (pe_op op_modN (pe_callTy call_int1 (by rfl) T.n_int (by decide +kernel) (pa_cons (pe_op op_mul (pe_op op_add (pe_op op_add (pe_op op_modN (pe_callTy call_int1 (by rfl) T.n_int (by decide +kernel) (pa_cons (pv 5) pa_nil)) pe_int) (pe_op op_mul pe_int (pv 3))) pe_int) pe_int) pa_nil)) pe_int))
  (pss_cons (ps_set (i := 6) sc_law_pick.nd rfl (.inl rfl) (pe_op op_modN (pe_callTy call_int1 (by rfl) T.n_int (by decide +kernel) (pa_cons (pe_op op_mul (pv 6) (pe_op op_add (pe_op op_fdivN (pv 6) pe_int) pe_int)) pa_nil)) pe_int))
  (pss_cons (ps_set (i := 6) sc_law_pick.nd rfl (.inl rfl) (pe_op op_modN (pe_callTy call_int1 (by rfl) T.n_int (by decide +kernel) (pa_cons (pe_op op_mul (pv 6) (pe_op op_add (pe_op op_fdivN (pv 6) pe_int) pe_int)) pa_nil)) pe_int))
  (pss_one (ps_ret (pe_op op_modN (pe_callTy call_int1 (by rfl) T.n_int (by decide +kernel) (pa_cons (pe_op op_fdivN (pv 6) pe_int) pa_nil)) (pv 1))))))))))))), ?_⟩
    refine ⟨.ref b, rfl, b, _, 0, _, rfl, rfl, SqL.of hb, rfl, ?_⟩
    refine ⟨.ref b, rfl, b, _, 1, _, rfl, rfl, SqL.of hb, rfl, ?_⟩
    refine ⟨.int k, rfl, k, 1, rfl, rfl, .ref b, rfl, b, _, 1, 1, rfl, rfl, hb, rfl, ?_⟩
    show tSeq _ _ _ _ (upd H b (.lst [.ref c, .int (k + 1)]))
    have hc1 : upd H b (.lst [.ref c, .int (k + 1)]) c = some (.lst (cs.map V.int)) := by rw [upd_ne (Ne.symm nbc)]; exact hc
    have W1 : Wd b c G (upd H b (.lst [.ref c, .int (k + 1)])) := ⟨⟨nbc, cs, k + 1, upd_same, hc1, l0, l1⟩, same_mut W.gh W.gb, W.gb, W.gc⟩
    have ln : (0 : Int) < ((cs.map V.int).length : Int) := by rw [List.length_map]; omega
    refine ⟨.int k, rfl, .ref c, rfl, c, _, rfl, .inl (SqL.of hc1), k, _, rfl, rfl, by omega, ?_⟩
    have j0 := fm0 (a := k) ln
    have j1 := fm1 (a := k) ln
    dsimp only
    generalize ej : k.fmod ((cs.map V.int).length : Int) = j at j0 j1 ⊢
    have j2 : j < (cs.length : Int) := by rw [List.length_map] at j1; exact j1
    obtain ⟨x, hx⟩ := at_ints j0 j2
    refine ⟨.ref c, rfl, .int j, rfl, c, _, j, .int x, rfl, rfl, SqL.of hc1, hx, ?_⟩
    refine ⟨.int x, rfl, 10, 18, rfl, rfl, ⟨by decide, by decide, by decide⟩, x, _, rfl, rfl, _, rfl, ite2 (fun _ => ?_) (fun _ => ?_)⟩
    · refine ⟨.int x, rfl, .int m, rfl, x, m, rfl, rfl, ⟨by omega, by omega⟩, .ref c, rfl, .int j, rfl, c, _, j, j.toNat, rfl, rfl, hc1, ix_in j0 j1, ?_⟩
      refine ⟨.int x, rfl, .inl ⟨x, rfl, .int m, rfl, x, m, rfl, rfl, by omega, ?_⟩⟩
      refine q _ _ ?_ (fm0 m0) (fm1 m0)
      rw [← List.map_set]
      exact ⟨⟨nbc, cs.set j.toNat (x.fdiv m), k + 1, by rw [upd_ne nbc, upd_same], upd_same, by rw [List.length_set]; exact l0, by rw [List.length_set]; exact l1⟩, same_mut W1.gh W1.gc, W1.gb, W1.gc⟩
    · -- the number is mixed
      refine ⟨.int x, rfl, .inl ⟨x, rfl, x, 2147483647, rfl, rfl, nzA, .int k, rfl, 7919, k, rfl, rfl, .inl ⟨by decide, by decide⟩, _, _, rfl, rfl, _, 1, rfl, rfl, _, 48271, rfl, rfl, .inr ⟨by decide, by decide⟩, .inl ⟨_, rfl, _, 2147483647, rfl, rfl, nzA, ?_⟩⟩⟩
      have a0 := fm0 (a := (x.fmod 2147483647 + 7919 * k + 1) * 48271) (b := 2147483647) (by decide)
      have a1 := fm1 (a := (x.fmod 2147483647 + 7919 * k + 1) * 48271) (b := 2147483647) (by decide)
      dsimp only
      generalize ((x.fmod 2147483647 + 7919 * k + 1) * 48271).fmod 2147483647 = y at a0 a1 ⊢
      refine ⟨.int y, rfl, .int y, rfl, y, 1009, rfl, rfl, ⟨by decide, by decide⟩, _, 69621, rfl, rfl, y, _, rfl, rfl, .inl ⟨by omega, by omega⟩, .inl ⟨_, rfl, _, 2147483647, rfl, rfl, nzA, ?_⟩⟩
      have b0 := fm0 (a := y * (y.fdiv 1009 + 69621)) (b := 2147483647) (by decide)
      have b1 := fm1 (a := y * (y.fdiv 1009 + 69621)) (b := 2147483647) (by decide)
      dsimp only
      generalize (y * (y.fdiv 1009 + 69621)).fmod 2147483647 = z at b0 b1 ⊢
      refine ⟨.int z, rfl, .int z, rfl, z, 2003, rfl, rfl, ⟨by decide, by decide⟩, _, 40692, rfl, rfl, z, _, rfl, rfl, .inl ⟨by omega, by omega⟩, .inl ⟨_, rfl, _, 2147483399, rfl, rfl, nzB, ?_⟩⟩
      dsimp only
      generalize (z * (z.fdiv 2003 + 40692)).fmod 2147483399 = u
      refine ⟨.int u, rfl, u, 7, rfl, rfl, ⟨by decide, by decide⟩, .inl ⟨_, rfl, .int m, rfl, _, m, rfl, rfl, by omega, ?_⟩⟩
      exact q _ _ W1 (fm0 m0) (fm1 m0)
def spNumber : Sp := fun vs H Q _ => ∃ (b c : Addr) (G : Hp), vs = [.ref b] ∧ Wd b c G H ∧ ∀ (i : Int) (H' : Hp), Wd b c G H' → -100000000 * 10 ^ 32 ≤ i → i ≤ 100000001 * 10 ^ 32 → Q (.int i) H'
theorem ok_law_number (T : Txt P K mg) {k : Nat} : FnOk P w K mg base CX0 (k + 2) T.law_number.f T.law_number.fd ["_law_box"] spNumber := by
  have G_law_pick : FnOk P w K mg base CX0 (k + 1) T.law_pick.f T.law_pick.fd ["_law_box", "_law_many"] spPick := ok_law_pick T
  refine T.law_number.F.ok sc_law_number (fun vs H Q E h => ?_) (fun cdv A outer s H vs Q E hr h => ?_)
  · obtain ⟨b, c, G, rfl, _⟩ := h
    rfl
  · obtain ⟨b, c, G, rfl, W, q⟩ := h
    refine ⟨_, (pss_cons (ps_set (i := 1) sc_law_number.nd rfl (.inl rfl) (pe_call G_law_pick (hr.mono (by omega)) (by rfl) T.law_pick.g T.law_pick.F.kp T.law_pick.b .nil pass0 (pa_cons (pv 0) (pa_cons pe_int pa_nil))))
  (pss_cons (ps_if (pt_cmpR op_lt (pv 1) pe_int (nomark _)) (pss_one (ps_ret (pe_op op_sub (pe_call G_law_pick (hr.mono (by omega)) (by rfl) T.law_pick.g T.law_pick.F.kp T.law_pick.b .nil pass0 (pa_cons (pv 0) (pa_cons pe_int pa_nil))) pe_int))) pss_nil)
  (pss_cons (ps_if (pt_cmpR op_eq (pv 1) pe_int (nomark _)) (pss_one (ps_ret (pe_op op_sub (pe_call G_law_pick (hr.mono (by omega)) (by rfl) T.law_pick.g T.law_pick.F.kp T.law_pick.b .nil pass0 (pa_cons (pv 0) (pa_cons pe_int pa_nil))) pe_int))) pss_nil)
  (pss_cons (ps_if (pt_cmpR op_eq (pv 1) pe_int (nomark _)) (pss_one (ps_ret (pe_op op_sub (pe_call G_law_pick (hr.mono (by omega)) (by rfl) T.law_pick.g T.law_pick.F.kp T.law_pick.b .nil pass0 (pa_cons (pv 0) (pa_cons pe_int pa_nil))) pe_int))) pss_nil)
  (pss_one (ps_ret (pe_op op_add (pe_op op_mul (pe_op op_sub (pe_call G_law_pick (hr.mono (by omega)) (by rfl) T.law_pick.g T.law_pick.F.kp T.law_pick.b .nil pass0 (pa_cons (pv 0) (pa_cons pe_int pa_nil))) pe_int) (pe_op op_pow pe_int pe_int)) (pe_call G_law_pick (hr.mono (by omega)) (by rfl) T.law_pick.g T.law_pick.F.kp T.law_pick.b .nil pass0 (pa_cons (pv 0) (pa_cons pe_int pa_nil)))))))))), ?_⟩
    refine ⟨.ref b, rfl, b, c, G, 8, rfl, W, by decide, by decide, fun i H1 W1 i0 i1 => ?_⟩
    refine ⟨.int i, rfl, i, 5, rfl, rfl, _, rfl, ite2 (fun _ => ?_) (fun _ => ?_)⟩
    · refine ⟨.ref b, rfl, b, c, G, 9, rfl, W1, by decide, by decide, fun j H2 W2 j0 j1 => ?_⟩
      exact ⟨j, 4, rfl, rfl, q _ _ W2 (by omega) (by omega)⟩
    · refine ⟨.int i, rfl, rfl, _, rfl, ite2 (fun _ => ?_) (fun _ => ?_)⟩
      · refine ⟨.ref b, rfl, b, c, G, 41, rfl, W1, by decide, by decide, fun j H2 W2 j0 j1 => ?_⟩
        exact ⟨j, 20, rfl, rfl, q _ _ W2 (by omega) (by omega)⟩
      · refine ⟨.int i, rfl, rfl, _, rfl, ite2 (fun _ => ?_) (fun _ => ?_)⟩
        · refine ⟨.ref b, rfl, b, c, G, 2000001, rfl, W1, by decide, by decide, fun j H2 W2 j0 j1 => ?_⟩
          exact ⟨j, 1000000, rfl, rfl, q _ _ W2 (by omega) (by omega)⟩
        · refine ⟨.ref b, rfl, b, c, G, 200000001, rfl, W1, by decide, by decide, fun j H2 W2 j0 j1 => ?_⟩
          refine ⟨j, 100000000, rfl, rfl, 10, 32, rfl, rfl, ⟨by decide, by decide, by decide⟩, _, _, rfl, rfl, .inl ⟨by omega, by omega⟩, ?_⟩
          refine ⟨.ref b, rfl, b, c, G, 100000000, rfl, W2, by decide, by decide, fun l H3 W3 l0 l1 => ?_⟩
          refine ⟨_, l, rfl, rfl, q _ _ W3 ?_ ?_⟩
          · show -100000000 * 10 ^ 32 ≤ (j - 100000000) * (10 ^ 32 : Int) + l
            omega
          · show (j - 100000000) * (10 ^ 32 : Int) + l ≤ 100000001 * 10 ^ 32
            omega
end
end Pl

namespace Pl
open PySem L2
section
variable {P : Program} {w : World} {K : PySem.W.Frag} {mg : Str → Option Value} {base : Heap}
theorem prs_len {rs : Rws} (i : Nat) (r : Str × List Int) (h : rs[i]? = some r) : ((rs.take i).flatMap prsOf).length + (prsOf r).length ≤ (rs.map fun r => r.2.length).sum := by
  induction rs generalizing i with
  | nil => simp at h
  | cons x rs ih =>
    cases i with
    | zero =>
      have e : x = r := Option.some.inj h
      subst e
      simp [prsOf]
    | succ i =>
      have := ih i h
      simp only [List.take_succ_cons, List.flatMap_cons, List.length_append, List.map_cons, List.sum_cons]
      have e : (prsOf x).length = x.2.length := by simp [prsOf]
      omega
theorem prs_all (rs : Rws) : (rs.flatMap prsOf).length = (rs.map fun r => r.2.length).sum := by
  induction rs with
  | nil => rfl
  | cons x rs ih =>
    simp only [List.flatMap_cons, List.length_append, List.map_cons, List.sum_cons, ih]
    simp [prsOf]
/-- checked_pairs: the sorted pairs -/
def spChPairs : Sp := fun vs H Q _ => ∃ (d : Addr) (kvs : List (Key × V)) (rs : Rws), vs = [.ref d] ∧ H d = some (.dK kvs) ∧ EntsAt H kvs rs ∧ goodRows rs ∧
  ∀ (r : Addr) (H' : Hp) (us : List V), Same H H' → H r = none → H' r = some (.lst us) → PrsAt H' us (wRows rs) → Q (.ref r) H'
theorem ok_checked_pairs (T : Txt P K mg) {k : Nat} : FnOk P w K mg base CX0 (k + 3) T.checked_pairs.f T.checked_pairs.fd ["rows"] spChPairs := by
  have G_check_name : FnOk P w K mg base CX0 (k + 2) T.check_name.f T.check_name.fd ["name"] spCkName := ok_check_name T
  have G_check_rows : FnOk P w K mg base CX0 (k + 2) T.check_rows.f T.check_rows.fd ["name", "moments"] spCkRows := ok_check_rows T
  have G_limited : FnOk P w K mg base CX0 (k + 1) T.limited.f T.limited.fd ["pairs"] spLimited := ok_limited T
  refine T.checked_pairs.F.ok (k := k + 2) sc_checked_pairs (fun vs H Q E h => ?_) (fun cdv A outer s H vs Q E hr h => ?_)
  · obtain ⟨d, kvs, rs, rfl, _⟩ := h
    rfl
  · obtain ⟨d, kvs, rs, rfl, hd, he, hg, q⟩ := h
    refine ⟨_, (pss_cons (ps_set (i := 1) sc_checked_pairs.nd rfl (.inl rfl) (pe_lst pa_nil))
  (pss_cons (ps_lock (ps_for PassesOwn.never rfl (pi_items (pv 0)) (pg_tup rfl (pgs_cons (pg_name (i := 2) sc_checked_pairs.nd rfl (.inr rfl)) (pgs_cons (pg_name (i := 3) sc_checked_pairs.nd rfl (.inl rfl)) pgs_nil)))
   (pss_cons (ps_expr (pe_call G_check_name (hr.mono (by omega)) (by rfl) T.check_name.g T.check_name.F.kp T.check_name.b .nil pass0 (pa_cons (pv 2) pa_nil)))
  (pss_cons (ps_expr (pe_call G_check_rows (hr.mono (by omega)) (by rfl) T.check_rows.g T.check_rows.F.kp T.check_rows.b .nil pass0 (pa_cons (pv 2) (pa_cons (pv 3) pa_nil))))
  (pss_one (ps_aug (i := 1) sc_checked_pairs.nd rfl (.inl rfl) (pe_lc (own := [("moment", 4)]) (g := gName 4) (tt := tYes) (te := (tTup (tCons (tVar 2) (tCons (tVar 4) tNil)))) rfl sc_checked_pairs.nd (pi_list (pv 3)) (blkOk_by (own := [("moment", 4)]) (N := N_checked_pairs) (sc := defScope s_checked_pairs) (by decide +kernel)) (fun _ _ _ _ _ => (pg_name (i := 4) sc_checked_pairs.nd rfl (.inl rfl))) (fun _ _ _ _ _ => pts_nil) (fun _ _ _ _ _ => (pe_tup (pa_cons (pv 2) (pa_cons (pv 4) pa_nil))))) iop_ext))))))
  (pss_one (ps_ret (pe_call G_limited (hr.mono (by omega)) (by rfl) T.limited.g T.limited.F.kp T.limited.b .nil pass0 (pa_cons (pe_callB (cr_sortD (enc := fun p : Str × Int => .tuple [.str p.1, .int p.2]) hr.units) (by rfl) T.n_sorted (by decide +kernel) (pa_cons (pv 1) pa_nil)) pa_nil)))))), ?_⟩
    refine ⟨sz (by show 0 ≤ 100000; decide), fun l hl => ?_⟩
    have hd1 : upd H l (.lst []) d = some (.dK kvs) := by rw [upd_ne (ne_of_none hd hl)]; exact hd
    refine ⟨d, _, hd1, trivial, fun od => ?_⟩
    refine ⟨.ref d, rfl, d, od, kvs, rfl, upd_same, ?_⟩
    refine for_it (walk_items (d := d) (o := od) (kvs := kvs)) (fun i σ H' => ∃ (us : List V) (y2 y3 y4 : Option V), σ = [some (.ref d), some (.ref l), y2, y3, y4] ∧ (∀ b o, b ≠ d → H b = some o → H' b = some o) ∧ H' d = some (.frz od (.dK kvs)) ∧
      H' l = some (.lst us) ∧ PrsAt H' us ((rs.take i).flatMap prsOf)) ?_ (fun i σ H' _ pp => ?_) (fun i x σ H1 H2 hi pp y => ?_) (fun σ H' pp => ?_)
    · exact ⟨[], none, none, none, rfl, fun b o nb e => by rw [upd_ne nb, upd_ne (ne_of_none e hl)]; exact e, upd_same, by rw [upd_ne (ne_of_none hd hl).symm, upd_same], rfl, fun i p e => by simp at e⟩
    · obtain ⟨us, y2, y3, y4, _, _, h3, _⟩ := pp
      exact h3
    · obtain ⟨us, y2, y3, y4, rfl, hb, hdf, hlu, hpr⟩ := pp
      obtain ⟨t, xk, yv, rfl, hT, rfl, e1, e2⟩ := y
      obtain ⟨kv, hkv⟩ : ∃ kv, kvs[i]? = some kv := ⟨_, List.getElem?_eq_getElem hi⟩
      obtain ⟨r, hr0⟩ : ∃ r, rs[i]? = some r := ⟨_, List.getElem?_eq_getElem (by rw [← he.1]; exact hi)⟩
      obtain ⟨k1, a, k2, ha⟩ := he.2 i kv r hkv hr0
      dsimp only at e1 e2
      rw [hkv] at e1 e2
      have e1' : kV kv.1 = xk := Option.some.inj e1
      have e2' : kv.2 = yv := Option.some.inj e2
      rw [k1] at e1'
      rw [k2] at e2'
      subst e1' e2'
      obtain ⟨g1, g2, g3⟩ := hg.1 r (List.mem_of_getElem? hr0)
      have nad : a ≠ d := fun z => by rw [z, hd] at ha; cases ha
      have ha1 : H1 a = some (.lst (r.2.map V.int)) := hb a _ nad ha
      have s2 : Same H1 (upd H1 t (.tup [kV (.inr r.1), .ref a])) := same_upd hT
      refine ⟨t, _, rfl, SqT.of upd_same, rfl, _, _, rfl, _, _, rfl, rfl, ?_⟩
      refine ⟨.str r.1, rfl, r.1, rfl, g1, fun H3 s3 => ?_⟩
      have s23 := s2.trans s3
      refine ⟨.str r.1, rfl, .ref a, rfl, .str r.1, a, r.2, rfl, s23 _ _ ha1, g2, g3, ?_⟩
      refine ⟨.ref l, rfl, .ref a, rfl, a, rfl, ⟨_, SqL.of (s23 _ _ ha1)⟩, fun D hD => ?_⟩
      have hD1 : H1 D = none := s23.free hD
      refine lc_list (K := K) (a := a) (xs := r.2.map V.int) (fun j H' => Same H3 H' ∧ ∃ vs, H' D = some (.lst vs) ∧ PrsAt H' vs ((prsOf r).take j)) ⟨same_upd hD, [], upd_same, rfl, fun i p e => by simp at e⟩ (fun j H' _ pp => SqL.of (pp.1 _ _ (s23 _ _ ha1))) (fun j x H' hx pp => ?_) (fun H' pp => ?_)
      · obtain ⟨s4, vs, hv, hp4⟩ := pp
        obtain ⟨m, hm, rfl⟩ : ∃ m, r.2[j]? = some m ∧ x = V.int m := by
          rw [List.getElem?_map] at hx
          cases e : r.2[j]? with
          | none => rw [e] at hx; cases hx
          | some m => rw [e] at hx; exact ⟨m, rfl, (Option.some.inj hx).symm⟩
        have hj : j < r.2.length := (List.getElem?_eq_some_iff.mp hm).1
        refine ⟨rfl, yes_if ⟨.str r.1, rfl, .int m, rfl, sz (by show 2 ≤ 100000; decide), fun p hp => ?_⟩⟩
        have npD : D ≠ p := ne_of_none hv hp
        have hv5 : upd H' p (.tup [.str r.1, .int m]) D = some (.lst vs) := by rw [upd_ne npD]; exact hv
        have hlen : vs.length ≤ 300 := by
          have := hp4.1
          rw [List.length_take] at this
          have e : (prsOf r).length = r.2.length := by simp [prsOf]
          omega
        refine ⟨vs, hv5, szl (by omega), same_mut (s4.trans (same_upd hp)) hD, vs ++ [.ref p], upd_same, ?_⟩
        have hpm : (prsOf r)[j]? = some (r.1, m) := by
          unfold prsOf
          rw [List.getElem?_map, hm]
          rfl
        rw [List.take_add_one, hpm]
        refine PrsAt.put hv5 ((hp4.same (same_upd hp)).app ⟨rfl, fun i q e => ?_⟩)
        cases i with
        | zero =>
          cases e
          exact ⟨p, rfl, upd_same⟩
        | succ i => simp at e
      · obtain ⟨s4, vs, hv, hp4⟩ := pp
        have e : (prsOf r).length = r.2.length := by simp [prsOf]
        rw [List.length_map, List.take_of_length_le (by omega)] at hp4
        have s14 := s23.trans s4
        have hl4 := s14 _ _ hlu
        have hlen := prs_len i r hr0
        have nlD : l ≠ D := fun z => by rw [z] at hlu; rw [hD1] at hlu; cases hlu
        refine ⟨l, D, us, vs, rfl, rfl, hl4, hv, sz (by rw [hpr.1, hp4.1]; have := hg.2; omega), ?_⟩
        refine ⟨us ++ vs, _, _, _, rfl, fun b o nb eb => ?_, ?_, upd_same, ?_⟩
        · rw [upd_ne (ne_of_none eb hl)]
          exact s14 _ _ (hb b o nb eb)
        · rw [upd_ne (ne_of_none hd hl)]
          exact s14 _ _ hdf
        · rw [List.take_add_one, hr0]
          rw [show (rs.take i ++ (some r).toList) = rs.take i ++ [r] from rfl, List.flatMap_append, List.flatMap_cons, List.flatMap_nil, List.append_nil]
          exact PrsAt.put hl4 ((hpr.same s14).app hp4)
    · obtain ⟨us, y2, y3, y4, rfl, hb, hdf, hlu, hpr⟩ := pp
      rw [he.1, List.take_of_length_le (Nat.le_refl _)] at hpr
      refine ⟨hdf, ?_⟩
      have hl5 : upd H' d (.dK kvs) l = some (.lst us) := by rw [upd_ne (ne_of_none hd hl).symm]; exact hlu
      have sH : Same H (upd H' d (.dK kvs)) := fun b o e => by
        by_cases nb : b = d
        · subst nb
          rw [upd_same, ← hd, e]
        · rw [upd_ne nb]
          exact hb b o nb e
      have hpr5 : PrsAt (upd H' d (.dK kvs)) us (rs.flatMap prsOf) := ⟨hpr.1, fun i p e => by
        obtain ⟨t, t1, t2⟩ := hpr.2 i p e
        refine ⟨t, t1, ?_⟩
        rw [upd_ne (fun z => by rw [z, hdf] at t2; cases t2)]
        exact t2⟩
      have hlen : us.length ≤ 300 := by rw [hpr.1, prs_all]; exact hg.2
      generalize upd H' d (.dK kvs) = H5 at hl5 sH hpr5 ⊢
      have hz1 : (us.zip (rs.flatMap prsOf)).map (·.1) = us := List.map_fst_zip (by rw [hpr5.1]; exact Nat.le_refl _)
      refine ⟨.ref l, rfl, l, us.zip (rs.flatMap prsOf), rfl, by rw [hz1]; exact SqL.of hl5, by rw [List.length_zip]; omega, fun p hp => ?_, PySem.W.AllAlike.of fun b b' => rfl, PySem.W.Sortable.tuples fun b => ⟨_, _, rfl⟩, fun p hp => ?_, fun z hz => ?_⟩
      · obtain ⟨i, hi⟩ := List.mem_iff_getElem?.mp hp
        obtain ⟨v, q'⟩ := p
        rw [List.getElem?_zip_eq_some] at hi
        obtain ⟨t, t1, t2⟩ := hpr5.2 i q' hi.2
        rw [hi.1] at t1
        cases t1
        exact .tup (SqT.of t2) (.cons (.str _) (.cons (.int _) .nil))
      · show PyData.depth (.tuple [.str p.2.1, .int p.2.2]) ≤ 10
        simp [PyData.depth, PyData.depthAll]
      · refine ⟨z, _, rfl, upd_same, ?_, q z _ _ (sH.trans (same_upd hz)) (sH.free hz) upd_same ((prs_sort hpr5).same (same_upd hz))⟩
        rw [List.length_map, List.length_mergeSort, List.length_zip]
        omega
end
end Pl

namespace Pl
open PySem L2
section
variable {P : Program} {w : World} {K : PySem.W.Frag} {mg : Str → Option Value} {base : Heap}
/-- World.__init__(self, rows) -/
def spWInit (T : Txt P K mg) : Sp := fun vs H Q _ => ∃ (G : Hp) (x d dx : Addr) (kvs : List (Key × V)) (rs : Rws), vs = [.ref x, .ref d] ∧ Same G H ∧ G x = none ∧ H x = some (.ins T.c_World dx []) ∧ H d = some (.dK kvs) ∧ EntsAt H kvs rs ∧ goodRows rs ∧
  ∀ H' l, Same G H' → H l = none → WoA T H' x l (wRows rs) → Q .non H'
theorem ok_world_init (T : Txt P K mg) {k : Nat} : FnR P w K mg base CX0 (k + 4) T.World_init.f (spWInit T) := by
  have G_checked_pairs : FnOk P w K mg base CX0 (k + 3) T.checked_pairs.f T.checked_pairs.fd ["rows"] spChPairs := ok_checked_pairs T
  refine toR (T.World_init.ok (k := k + 3) sc_World_init (fun vs H Q E h => ?_) (fun cdv A outer s H vs Q E hr h => ?_)) T.World_init.b
  · obtain ⟨G, x, d, dx, kvs, rs, rfl, _⟩ := h
    rfl
  · obtain ⟨G, x, d, dx, kvs, rs, rfl, sG, xG, hx, hd, he, hg, q⟩ := h
    refine ⟨_, (pss_one (ps_if (pt_cmpR op_isN (pv 1) pe_non (nomark _)) (pss_one (ps_fld (pv 0) (pe_lst pa_nil) rfl)) (pss_one (ps_fld (pv 0) (pe_call G_checked_pairs (hr.mono (by omega)) (by rfl) T.checked_pairs.g T.checked_pairs.F.kp T.checked_pairs.b .nil pass0 (pa_cons (pv 1) pa_nil)) rfl)))), ?_⟩
    refine ⟨.ref d, rfl, rfl, _, rfl, iF (decide_eq_false (fun h => nomatch h)) ?_⟩
    refine ⟨.ref d, rfl, d, kvs, rs, rfl, hd, he, hg, fun r H1 us s1 r0 h1 h2 => ?_⟩
    refine ⟨.ref x, rfl, x, _, dx, [], rfl, s1 _ _ hx, T.o_World.cl, T.n_World_pairs, by decide, ?_⟩
    have hx1 := s1 _ _ hx
    have nrx : r ≠ x := fun e => by rw [e, hx1] at h1; cases h1
    refine q _ r (same_mut (sG.trans s1) xG) r0 ⟨dx, us, upd_same, by rw [upd_ne nrx]; exact h1, h2.1, fun i p e => ?_⟩
    obtain ⟨t, t1, t2⟩ := h2.2 i p e
    exact ⟨t, t1, by rw [upd_ne (fun z => by rw [z, hx1] at t2; cases t2)]; exact t2⟩
theorem inV_ints (x : Int) : ∀ ns : List Int, inV (.int x) (ns.map V.int) = decide (x ∈ ns)
  | [] => by simp [inV]
  | n :: ns => by
    have := inV_ints x ns
    unfold inV at this ⊢
    rw [List.map_cons, List.any_cons, this]
    show ((n == x) || _) = _
    by_cases e : n = x
    · subst e; simp
    · have e' : ¬ x = n := fun z => e z.symm
      simp [e, e', List.mem_cons]
theorem flat_ints : ∀ ns : List Int, (ns.map V.int).all flatV = true
  | [] => rfl
  | n :: ns => by
    rw [List.map_cons, List.all_cons, flat_ints ns]
    rfl
end
end Pl

namespace Pl
open PySem L2
theorem tl_flat : ∀ parts : List (List Nat), TL.joinL [] parts = parts.flatten
  | [] => rfl
  | [p] => by simp [TL.joinL]
  | p :: q :: ps => by
    have := tl_flat (q :: ps)
    simp only [TL.joinL, List.flatten_cons, List.append_nil, List.nil_append] at this ⊢
    rw [this]
theorem one_good {c : Nat} (h : c ∈ letters.cps.toList) : goodName ⟨#[c]⟩ := ⟨by show 1 ≤ 1; decide, by show 1 ≤ 12; decide, fun d hd => by
  have : d = c := by simpa using hd
  rw [this]; exact h⟩
theorem join_good {cs : List Nat} (h1 : 1 ≤ cs.length) (h2 : cs.length ≤ 12) (h : ∀ c ∈ cs, c ∈ letters.cps.toList) : goodName (Txt.join "" (cs.map fun c => (⟨#[c]⟩ : Str))) := by
  have e : (Txt.join "" (cs.map fun c => (⟨#[c]⟩ : Str))).cps.toList = cs := by
    rw [TL.join_eq]
    show TL.tl _ = cs
    rw [TL.tl_join, show TL.tl ("" : Str) = [] from by decide +kernel, tl_flat, List.map_map]
    clear h1 h2 h
    induction cs with
    | nil => rfl
    | cons c cs ih =>
      rw [List.map_cons, List.flatten_cons, ih]
      rfl
  have el : (Txt.join "" (cs.map fun c => (⟨#[c]⟩ : Str))).length = cs.length := by
    show (Txt.join "" (cs.map fun c => (⟨#[c]⟩ : Str))).cps.size = cs.length
    rw [← Array.length_toList, e]
  exact ⟨by rw [el]; exact h1, by rw [el]; exact h2, by rw [e]; exact h⟩
theorem let_at {i : Int} (h0 : 0 ≤ i) (h1 : i < 26) : ∃ c, atI letters.cps.toList i = some c ∧ c ∈ letters.cps.toList := by
  have hl : i.toNat < letters.cps.toList.length := by
    have : letters.cps.toList.length = 26 := by decide +kernel
    omega
  exact ⟨letters.cps.toList[i.toNat], at_ix2 h0 (List.getElem?_eq_getElem hl), List.getElem_mem hl⟩
theorem inV_strs (x : Str) : ∀ zs : List Str, inV (.str x) (zs.map V.str) = decide (x ∈ zs)
  | [] => by simp [inV]
  | n :: ns => by
    have := inV_strs x ns
    unfold inV at this ⊢
    rw [List.map_cons, List.any_cons, this]
    show ((n == x) || _) = _
    by_cases e : n = x
    · subst e; simp
    · have e' : ¬ x = n := fun z => e z.symm
      simp [e, e', List.mem_cons]
theorem flat_strs : ∀ zs : List Str, (zs.map V.str).all flatV = true
  | [] => rfl
  | n :: ns => by
    rw [List.map_cons, List.all_cons, flat_strs ns]
    rfl
abbrev abcd : List Str := ["a", "b", "c", "d"]
theorem spare {zs : List Str} (h : zs.length ≤ 3) : ∃ z r, abcd.filter (fun w => !decide (w ∈ zs)) = z :: r ∧ z ∈ abcd ∧ z ∉ zs := by
  cases e : abcd.filter (fun w => !decide (w ∈ zs)) with
  | cons z r =>
    have : z ∈ abcd.filter (fun w => !decide (w ∈ zs)) := by rw [e]; simp
    obtain ⟨m1, m2⟩ := List.mem_filter.mp this
    exact ⟨z, r, rfl, m1, by simpa using m2⟩
  | nil =>
    exfalso
    have hin : ∀ w ∈ abcd, w ∈ zs := fun w hw => by
      have := List.filter_eq_nil_iff.mp e w hw
      simpa using this
    have ha := hin "a" (by decide)
    have hb : ("b" : Str) ∈ zs.erase "a" := (List.mem_erase_of_ne (by decide)).mpr (hin "b" (by decide))
    have hc : ("c" : Str) ∈ (zs.erase "a").erase "b" := (List.mem_erase_of_ne (by decide)).mpr ((List.mem_erase_of_ne (by decide)).mpr (hin "c" (by decide)))
    have hd : ("d" : Str) ∈ ((zs.erase "a").erase "b").erase "c" := (List.mem_erase_of_ne (by decide)).mpr ((List.mem_erase_of_ne (by decide)).mpr ((List.mem_erase_of_ne (by decide)).mpr (hin "d" (by decide))))
    have l1 := List.length_erase_of_mem ha
    have l2 := List.length_erase_of_mem hb
    have l3 := List.length_erase_of_mem hc
    have l4 := List.length_pos_of_mem hd
    omega
theorem abcd_good {z : Str} (h : z ∈ abcd) : goodName z := by
  simp only [abcd, List.mem_cons, List.not_mem_nil, or_false] at h
  rcases h with rfl | rfl | rfl | rfl <;> exact ⟨by decide +kernel, by decide +kernel, by decide +kernel⟩
section
variable {P : Program} {w : World} {K : PySem.W.Frag} {mg : Str → Option Value} {base : Heap}
/-- _law_names: distinct names -/
def spNames : Sp := fun vs H Q _ => ∃ (b c : Addr) (G : Hp) (n : Nat), vs = [.ref b, .int (n : Nat)] ∧ Wd b c G H ∧ n ≤ 4 ∧
  ∀ (a : Addr) (zs : List Str) (H' : Hp), G a = none → a ≠ b → a ≠ c → Wd b c (upd G a (.lst (zs.map V.str))) H' → zs.Nodup → zs.length = n → (∀ z ∈ zs, goodName z) → Q (.ref a) H'
theorem ok_law_names (T : Txt P K mg) {k : Nat} : FnOk P w K mg base CX0 (k + 2) T.law_names.f T.law_names.fd ["_law_box", "_law_many"] spNames := by
  have G_law_pick : FnOk P w K mg base CX0 (k + 1) T.law_pick.f T.law_pick.fd ["_law_box", "_law_many"] spPick := ok_law_pick T
  refine T.law_names.F.ok (k := k + 1) sc_law_names (fun vs H Q E h => ?_) (fun cdv A outer s H vs Q E hr h => ?_)
  · obtain ⟨b, c, G, n, rfl, _⟩ := h
    rfl
  · obtain ⟨b, c, G, n, rfl, W, hn, q⟩ := h
    refine ⟨_, (pss_cons (ps_set (i := 2) sc_law_names.nd rfl (.inr rfl) pe_str)
  (pss_cons (ps_set (i := 3) sc_law_names.nd rfl (.inr rfl) (pe_lst pa_nil))
  (pss_cons (ps_for PassesOwn.never rfl (pi_range1 (by rfl) T.n_range (pa_cons (pv 1) pa_nil)) (pg_name (i := 4) sc_law_names.nd rfl (.inl rfl))
   (pss_cons (ps_set (i := 5) sc_law_names.nd rfl (.inl rfl) (pe_ix ix_str (pv 2) (pe_call G_law_pick (hr.mono (by omega)) (by rfl) T.law_pick.g T.law_pick.F.kp T.law_pick.b .nil pass0 (pa_cons (pv 0) (pa_cons pe_int pa_nil))) (fun _ _ => rfl)))
  (Evl.pss_cut (ps_if (pt_cmpR op_eq (pe_call G_law_pick (hr.mono (by omega)) (by rfl) T.law_pick.g T.law_pick.F.kp T.law_pick.b .nil pass0 (pa_cons (pv 0) (pa_cons pe_int pa_nil))) pe_int (nomark _)) (pss_one (ps_set (i := 5) sc_law_names.nd rfl (.inl rfl) (pe_join pe_str (pe_lc (own := [("_law_j", 6)]) (g := gName 6) (tt := tYes) (te := (tOp _ (tVar 2) (tCall _ _ _ (tCons (tVar 0) (tCons (tC _) tNil))))) rfl sc_law_names.nd (pi_range1 (by rfl) T.n_range (pa_cons (pe_op op_add pe_int (pe_call G_law_pick (hr.mono (by omega)) (by rfl) T.law_pick.g T.law_pick.F.kp T.law_pick.b .nil pass0 (pa_cons (pv 0) (pa_cons pe_int pa_nil)))) pa_nil)) (blkOk_by (own := [("_law_j", 6)]) (N := N_law_names) (sc := defScope s_law_names) (by decide +kernel)) (fun _ _ _ _ _ => (pg_name (i := 6) sc_law_names.nd rfl (.inl rfl))) (fun _ _ _ _ _ => pts_nil) (fun _ _ _ _ _ => (pe_ix ix_str (pv 2) (pe_call G_law_pick (hr.mono (by omega)) (by rfl) T.law_pick.g T.law_pick.F.kp T.law_pick.b .nil pass0 (pa_cons (pv 0) (pa_cons pe_int pa_nil))) (fun _ _ => rfl))))))) pss_nil)
  (Evl.pss_cut (ps_if (pt_cmpR op_in_seq (pv 5) (pv 3) (by with_unfolding_all rfl)) (pss_one (ps_set (i := 5) sc_law_names.nd rfl (.inl rfl) (pe_ix ix_list (pe_lc (own := [("_law_word", 7)]) (g := gName 7) (tt := (tTest (tOp (rIn K true) (tVar 7) (tVar 3)))) (te := (tVar 7)) rfl sc_law_names.nd (pi_list (pe_lst (pa_cons pe_str (pa_cons pe_str (pa_cons pe_str (pa_cons pe_str pa_nil)))))) (blkOk_by (own := [("_law_word", 7)]) (N := N_law_names) (sc := defScope s_law_names) (by decide +kernel)) (fun _ _ _ _ _ => (pg_name (i := 7) sc_law_names.nd rfl (.inl rfl))) (fun _ _ _ _ _ => (pts_one (pt_cmpR op_notIn_seq (pv 7) (pv 3) (by with_unfolding_all rfl)))) (fun _ _ _ _ _ => (pv 7))) pe_int (fun _ _ => rfl)))) pss_nil)
  (pss_one (ps_expr (pe_bm PySem.F.plainAttrs_list PySem.F.slot_list_append PySem.F.type_list_append mt_append (pv 3) (pa_cons (pv 5) pa_nil))))))))
  (pss_one (ps_ret (pv 3)))))), ?_⟩
    refine ⟨Nat.zero_le _, fun p hp => ?_⟩
    obtain ⟨pb, pc⟩ := W.nb hp
    have gp : G p = none := W.gh.free hp
    have W1 : Wd b c (upd G p (.lst [])) (upd H p (.lst [])) := (W.mut gp pb pc).keep upd_same pb pc
    refine ⟨_, rfl, (n : Nat), rfl, by omega, by omega, ?_⟩
    refine for_range (lo := 0) (n := ((n : Nat) : Int).toNat) (fun t σ H' => ∃ (zs : List Str) (y4 y5 : Option V), σ = [some (.ref b), some (.int (n : Nat)), some (.str letters), some (.ref p), y4, y5, none, none] ∧ Wd b c (upd G p (.lst (zs.map V.str))) H' ∧ zs.Nodup ∧ zs.length = t ∧ ∀ z ∈ zs, goodName z) ⟨[], none, none, rfl, W1, by simp, rfl, fun z h => nomatch h⟩ (fun t σ H' ht pp => ?_) (fun σ H' pp => ?_)
    · obtain ⟨zs, y4, y5, rfl, W2, nd, hl, hg⟩ := pp
      have ht : t < n := ht
      refine ⟨.str letters, rfl, .ref b, rfl, b, c, _, 3, rfl, W2, by decide, by decide, fun i H1 W3 i0 i1 => ?_⟩
      obtain ⟨ch, hch, hin⟩ := let_at i0 (by omega)
      refine ⟨letters, i, ch, rfl, rfl, by decide +kernel, hch, ?_⟩
      refine ⟨fun σ H2 => ∃ (z : Str) (x4 : Option V), goodName z ∧ σ = [some (.ref b), some (.int (n : Nat)), some (.str letters), some (.ref p), x4, some (.str z), none, none] ∧ Wd b c (upd G p (.lst (zs.map V.str))) H2, ?_, ?_⟩
      · refine ⟨.ref b, rfl, b, c, _, 2, rfl, W3, by decide, by decide, fun j H2 W4 j0 j1 => ?_⟩
        refine ⟨rfl, _, rfl, ite2 (fun _ => ?_) (fun _ => ?_)⟩
        · refine ⟨⟨_, rfl⟩, ?_⟩
          refine ⟨.ref b, rfl, b, c, _, 12, rfl, W4, by decide, by decide, fun m H3 W5 m0 m1 => ?_⟩
          refine ⟨1, m, rfl, rfl, 1 + m, rfl, by omega, by omega, fun D hD => ?_⟩
          obtain ⟨Db, Dc⟩ := W5.nb hD
          have gD : upd G p (.lst (zs.map V.str)) D = none := W5.gh.free hD
          refine lc_range (lo := 0) (n := (1 + m).toNat) (fun r H' => ∃ cs : List Nat, Wd b c (upd (upd G p (.lst (zs.map V.str))) D (.lst ((cs.map fun c => (⟨#[c]⟩ : Str)).map V.str))) H' ∧ cs.length = r ∧ ∀ c ∈ cs, c ∈ letters.cps.toList) ⟨[], (W5.mut gD Db Dc).keep upd_same Db Dc, rfl, fun c h => nomatch h⟩ (fun r H' hr' pp => ?_) (fun H' pp => ?_)
          · obtain ⟨cs, W6, hc, hcs⟩ := pp
            refine ⟨rfl, yes_if ?_⟩
            refine ⟨.str letters, rfl, .ref b, rfl, b, c, _, 26, rfl, W6, by decide, by decide, fun u H7 W7 u0 u1 => ?_⟩
            obtain ⟨d, hd, hdin⟩ := let_at u0 u1
            refine ⟨letters, u, d, rfl, rfl, by decide +kernel, hd, ?_⟩
            have hD7 := W7.gh _ _ (upd_same (H := upd G p (.lst (zs.map V.str))) (a := D))
            refine ⟨_, hD7, szl (by rw [List.length_map, List.length_map]; omega), cs ++ [d], ?_, by rw [List.length_append, hc]; rfl, fun x hx => ?_⟩
            · have e : (cs.map fun c => (⟨#[c]⟩ : Str)).map V.str ++ [V.str ⟨#[d]⟩] = ((cs ++ [d]).map fun c => (⟨#[c]⟩ : Str)).map V.str := by rw [List.map_append, List.map_append]; rfl
              rw [e]
              exact ((W7.weak (same_upd gD)).mut gD Db Dc).keep upd_same Db Dc
            · rcases List.mem_append.mp hx with h | h
              · exact hcs x h
              · cases List.mem_singleton.mp h
                exact hdin
          · obtain ⟨cs, W6, hc, hcs⟩ := pp
            have hD7 := W6.gh _ _ (upd_same (H := upd G p (.lst (zs.map V.str))) (a := D))
            refine ⟨_, D, cs.map fun c => (⟨#[c]⟩ : Str), rfl, rfl, .inl (SqL.of hD7), ?_, ?_⟩
            · rw [show (("" : Str)).length = 0 from rfl, Nat.mul_zero, Nat.add_zero, List.map_map]
              have : (cs.map ((fun x : Str => x.length) ∘ fun c => (⟨#[c]⟩ : Str))).sum = cs.length := by
                clear hD7 W6 hcs hc
                induction cs with
                | nil => rfl
                | cons x xs ih =>
                  rw [List.map_cons, List.sum_cons, ih, List.length_cons]
                  show 1 + xs.length = xs.length + 1
                  omega
              rw [this]
              omega
            · exact ⟨_, _, join_good (by omega) (by omega) hcs, rfl, W6.weak (same_upd gD)⟩
        · exact ⟨_, _, one_good hin, rfl, W4⟩
      · rintro σ H2 ⟨z, x4, gz, rfl, W4⟩
        refine ⟨fun σ H3 => ∃ (z : Str) (x4 : Option V), goodName z ∧ z ∉ zs ∧ σ = [some (.ref b), some (.int (n : Nat)), some (.str letters), some (.ref p), x4, some (.str z), none, none] ∧ Wd b c (upd G p (.lst (zs.map V.str))) H3, ?_, ?_⟩
        · have hp4 := W4.gh _ _ (upd_same (H := G) (a := p))
          refine ⟨.str z, rfl, .ref p, rfl, p, _, rfl, .inl (SqL.of hp4), rfl, flat_strs zs, _, rfl, ?_⟩
          rw [inV_strs]
          by_cases hz : z ∈ zs
          · refine iT (decide_eq_true hz) ⟨sz (by show 4 ≤ 100000; decide), fun L hL => ?_⟩
            have s5 : Same H2 (upd H2 L (.lst (abcd.map V.str))) := same_upd hL
            have W5 := W4.sm s5
            have hp5 := W5.gh _ _ (upd_same (H := G) (a := p))
            refine ⟨L, rfl, ⟨abcd.map V.str, SqL.of upd_same⟩, fun D hD => ?_⟩
            refine lc_pure (K := K) (a := L) (xs := abcd.map V.str) (fun v => match v with | .str r => if !decide (r ∈ zs) then some (V.str r) else none | _ => none) (SqL.of upd_same) hD (by decide) (fun x H6 N N' hx s6 n1 n2 => ?_) (fun H6 s6 hD6 => ?_)
            · obtain ⟨r, _, rfl⟩ := List.mem_map.mp hx
              refine ⟨rfl, .str r, rfl, .ref p, rfl, p, _, rfl, .inl (SqL.of (s6 _ _ hp5)), rfl, flat_strs zs, _, rfl, ?_⟩
              rw [inV_strs]
              cases hf : decide (r ∈ zs) with
              | true => exact iF rfl (n2 _ (Same.refl _) (by simp only [hf]; rfl))
              | false => exact iT rfl ⟨.str r, rfl, n1 _ _ (Same.refl _) (by simp only [hf]; rfl)⟩
            · obtain ⟨z2, r2, e2, m2, n2⟩ := spare (zs := zs) (by omega)
              have e3 : (abcd.map V.str).filterMap (fun v => match v with | .str r => if !decide (r ∈ zs) then some (V.str r) else none | _ => none) = (abcd.filter (fun w => !decide (w ∈ zs))).map V.str := by
                generalize abcd = l
                induction l with
                | nil => rfl
                | cons x l ih =>
                  rw [List.map_cons, List.filterMap_cons, List.filter_cons, ih]
                  by_cases hx : x ∈ zs <;> simp [hx]
              rw [e3, e2] at hD6
              refine ⟨D, _, 0, .str z2, rfl, rfl, SqL.of hD6, at_ix (by decide) rfl, ?_⟩
              exact ⟨z2, _, abcd_good m2, n2, rfl, W5.sm s6⟩
          · exact iF (decide_eq_false hz) ⟨z, _, gz, hz, rfl, W4⟩
        · rintro σ H3 ⟨z, x4, gz, hz, rfl, W5⟩
          have hp5 := W5.gh _ _ (upd_same (H := G) (a := p))
          refine ⟨.ref p, rfl, .inl ⟨rfl, _, SqL.of hp5⟩, .str z, rfl, p, _, _, rfl, rfl, hp5, szl (by rw [List.length_map]; omega), ?_⟩
          have e : zs.map V.str ++ [V.str z] = (zs ++ [z]).map V.str := by rw [List.map_append]; rfl
          rw [e]
          refine ⟨zs ++ [z], _, _, rfl, ((W5.weak (same_upd gp)).mut gp pb pc).keep upd_same pb pc, List.nodup_append.mpr ⟨nd, by simp, fun a ha b hb => by cases List.mem_singleton.mp hb; exact fun y => hz (y ▸ ha)⟩, by rw [List.length_append, hl]; rfl, fun y hy => ?_⟩
          rcases List.mem_append.mp hy with h | h
          · exact hg y h
          · cases List.mem_singleton.mp h
            exact gz
    · obtain ⟨zs, y4, y5, rfl, W2, nd, hl, hg⟩ := pp
      exact ⟨.ref p, rfl, q p zs H' gp pb pc W2 nd (by omega) hg⟩
end
end Pl

namespace Pl
open PySem L2
local macro_rules | `(tactic| bv_omega) => `(tactic| try simp only [pVar, pC, pTy, pCl, pNil, pCons, pOp, pUn, pCB, pI, pIC, pIB, pNeg, eqS, pEq, isNonS, pIsN, pIx, tvs, pTup, pLst, pTest, pAnd, pOr, pNot, pAndV, pOrV, pNotV, pIf, pChain, Sx.sl, Sx.tv, Sx.sq, Sx.dq, Sx.tq, Sx.rt, Sx.sqv, Sx.it, Sx.ar, Option.map_some, Option.bind_some, pgName, pgNil, pgCons, pgTup, piList, piTup, piSeq, piRange1, piRange2, piKeys, piItems, ars, pSp, pLen, tyOf, kb, pIsi, intsT, strsT, intsT_map, strsT_map, blsT_map, pIn, pInG, pNoPart, pPart, pSl, pRev, pAddG, pMulG, pAbs, p2I, pInt1, pBool1, pStrI, pListOf, pTupleOf, ints1, pSum, pSortedI, pMax, pMin, bls1, pAll, pAny, pEqG, pJoin, pDNew, pDGet, pDGet2, pDIn, Tv.key, pPick, pYes, kT, at0, at1, at2, at3, at4, exists_eq_left', Option.some.injEq, List.getElem?_cons_zero, List.getElem?_cons_succ, List.set_cons_zero, List.set_cons_succ, stS, Ar.sl, List.map_cons, List.map_nil, List.length_cons, List.length_nil, List.replicate_succ, List.replicate_zero, List.nil_append, List.cons_append, Nat.reduceSub, Nat.reduceAdd, wipeS, Bool.false_xor, Bool.true_xor, Bool.false_eq_true, if_true, if_false, decide_eq_true_eq, and_true, true_and, Bool.not_true, Bool.not_false, Bool.not_eq_true', decide_eq_false_iff_not, Nat.zero_le, Nat.reduceLeDiff, Int.reduceLT, Int.reduceLE, Int.reduceEq, Int.reduceNeg, Int.reducePow, Int.reduceAdd, Int.reduceSub, Nat.reduceMul, rgT_len, String.reduceBEq, beq_self_eq_true, Bool.or_false, Bool.false_or, Bool.true_or, Bool.or_true, Bool.or_self, ite_true, ite_false, ite_self, Int.zero_add, Bool.true_eq_false, reduceCtorEq, Function.comp_apply, unS, unSl_lkd, unSl_pvd, unSl_val, unSl_own, unSl_owd, unSl_box, unSl_any, pDisp, pDs0, pDs1, kvT, unSl_odl, pSortD, keyStrs_map, pRef, pXC, unSl_tab])
local macro_rules | `(tactic| injections) => `(tactic| first
  | with_reducible refine s_seq ?_
  | with_reducible refine s_set ?_
  | with_reducible refine s_asg ?_
  | with_reducible refine s_if ?_
  | with_reducible refine s_ret ?_
  | with_reducible refine s_retN ?_
  | with_reducible refine s_next ?_
  | with_reducible refine s_for ?_
  | with_reducible refine s_break ?_
  | with_reducible refine s_cont ?_
  | with_reducible refine s_append (by first | with_unfolding_all rfl | assumption) (by with_unfolding_all first | omega | (simp only [List.length_map, List.length_append, List.length_cons, List.length_nil]; omega)) ?_
  | with_reducible refine s_drop ?_
  | with_reducible refine s_setF (by with_unfolding_all rfl) ?_
  | with_reducible refine s_asgF (by with_unfolding_all rfl) ?_
  | with_reducible refine s_ifF (by with_unfolding_all rfl) ?_
  | with_reducible refine s_retF (by with_unfolding_all rfl) ?_
  | with_reducible refine s_ifN ?_
  | with_reducible refine s_setN ?_)
local macro_rules | `(tactic| subst_vars) => `(tactic| ((try simp only [pVar, pC, pTy, pCl, pNil, pCons, pOp, pUn, pCB, pI, pIC, pIB, pNeg, eqS, pEq, isNonS, pIsN, pIx, tvs, pTup, pLst, pTest, pAnd, pOr, pNot, pAndV, pOrV, pNotV, pIf, pChain, Sx.sl, Sx.tv, Sx.sq, Sx.dq, Sx.tq, Sx.rt, Sx.sqv, Sx.it, Sx.ar, Option.map_some, Option.bind_some, pgName, pgNil, pgCons, pgTup, piList, piTup, piSeq, piRange1, piRange2, piKeys, piItems, ars, pSp, pLen, tyOf, kb, pIsi, intsT, strsT, intsT_map, strsT_map, blsT_map, pIn, pInG, pNoPart, pPart, pSl, pRev, pAddG, pMulG, pAbs, p2I, pInt1, pBool1, pStrI, pListOf, pTupleOf, ints1, pSum, pSortedI, pMax, pMin, bls1, pAll, pAny, pEqG, pJoin, pDNew, pDGet, pDGet2, pDIn, Tv.key, pPick, pYes, kT, at0, at1, at2, at3, at4, exists_eq_left', Option.some.injEq, List.getElem?_cons_zero, List.getElem?_cons_succ, List.set_cons_zero, List.set_cons_succ, stS, Ar.sl, List.map_cons, List.map_nil, List.length_cons, List.length_nil, List.replicate_succ, List.replicate_zero, List.nil_append, List.cons_append, Nat.reduceSub, Nat.reduceAdd, wipeS, Bool.false_xor, Bool.true_xor, Bool.false_eq_true, if_true, if_false, decide_eq_true_eq, and_true, true_and, Bool.not_true, Bool.not_false, Bool.not_eq_true', decide_eq_false_iff_not, Nat.zero_le, Nat.reduceLeDiff, Int.reduceLT, Int.reduceLE, Int.reduceEq, Int.reduceNeg, Int.reducePow, Int.reduceAdd, Int.reduceSub, Nat.reduceMul, rgT_len, String.reduceBEq, beq_self_eq_true, Bool.or_false, Bool.false_or, Bool.true_or, Bool.or_true, Bool.or_self, ite_true, ite_false, ite_self, Int.zero_add, Bool.true_eq_false, reduceCtorEq, Function.comp_apply, unS, unSl_lkd, unSl_pvd, unSl_val, unSl_own, unSl_owd, unSl_box, unSl_any, pDisp, pDs0, pDs1, kvT, unSl_odl, pSortD, keyStrs_map, pRef, pXC, unSl_tab]) <;> repeat ((first
  | with_reducible refine s_seq ?_
  | with_reducible refine s_set ?_
  | with_reducible refine s_asg ?_
  | with_reducible refine s_if ?_
  | with_reducible refine s_ret ?_
  | with_reducible refine s_retN ?_
  | with_reducible refine s_next ?_
  | with_reducible refine s_break ?_
  | with_reducible refine s_cont ?_
  | with_reducible refine s_append (by first | with_unfolding_all rfl | assumption) (by with_unfolding_all first | omega | (simp only [List.length_map, List.length_append, List.length_cons, List.length_nil]; omega)) ?_
  | with_reducible refine s_drop ?_
  | with_reducible refine s_setF (by with_unfolding_all rfl) ?_
  | with_reducible refine s_asgF (by with_unfolding_all rfl) ?_
  | with_reducible refine s_ifF (by with_unfolding_all rfl) ?_
  | with_reducible refine s_retF (by with_unfolding_all rfl) ?_
  | with_reducible refine s_ifN ?_
  | with_reducible refine s_setN ?_) <;> try simp only [pVar, pC, pTy, pCl, pNil, pCons, pOp, pUn, pCB, pI, pIC, pIB, pNeg, eqS, pEq, isNonS, pIsN, pIx, tvs, pTup, pLst, pTest, pAnd, pOr, pNot, pAndV, pOrV, pNotV, pIf, pChain, Sx.sl, Sx.tv, Sx.sq, Sx.dq, Sx.tq, Sx.rt, Sx.sqv, Sx.it, Sx.ar, Option.map_some, Option.bind_some, pgName, pgNil, pgCons, pgTup, piList, piTup, piSeq, piRange1, piRange2, piKeys, piItems, ars, pSp, pLen, tyOf, kb, pIsi, intsT, strsT, intsT_map, strsT_map, blsT_map, pIn, pInG, pNoPart, pPart, pSl, pRev, pAddG, pMulG, pAbs, p2I, pInt1, pBool1, pStrI, pListOf, pTupleOf, ints1, pSum, pSortedI, pMax, pMin, bls1, pAll, pAny, pEqG, pJoin, pDNew, pDGet, pDGet2, pDIn, Tv.key, pPick, pYes, kT, at0, at1, at2, at3, at4, exists_eq_left', Option.some.injEq, List.getElem?_cons_zero, List.getElem?_cons_succ, List.set_cons_zero, List.set_cons_succ, stS, Ar.sl, List.map_cons, List.map_nil, List.length_cons, List.length_nil, List.replicate_succ, List.replicate_zero, List.nil_append, List.cons_append, Nat.reduceSub, Nat.reduceAdd, wipeS, Bool.false_xor, Bool.true_xor, Bool.false_eq_true, if_true, if_false, decide_eq_true_eq, and_true, true_and, Bool.not_true, Bool.not_false, Bool.not_eq_true', decide_eq_false_iff_not, Nat.zero_le, Nat.reduceLeDiff, Int.reduceLT, Int.reduceLE, Int.reduceEq, Int.reduceNeg, Int.reducePow, Int.reduceAdd, Int.reduceSub, Nat.reduceMul, rgT_len, String.reduceBEq, beq_self_eq_true, Bool.or_false, Bool.false_or, Bool.true_or, Bool.or_true, Bool.or_self, ite_true, ite_false, ite_self, Int.zero_add, Bool.true_eq_false, reduceCtorEq, Function.comp_apply, unS, unSl_lkd, unSl_pvd, unSl_val, unSl_own, unSl_owd, unSl_box, unSl_any, pDisp, pDs0, pDs1, kvT, unSl_odl, pSortD, keyStrs_map, pRef, pXC, unSl_tab])))
-- USE PL
section
variable {fw : Bool} {P : Program} {w : World} {K : PySem.W.Frag} {mg : Str → Option Value} {base : Heap}
instance lPick : LSp fw spPick pPick := ⟨fun {B O0 O Hs Kb H0 H ss σ Q E Qp xs vs} c0 c s r h f => by
  unfold pPick at h
  split at h
  · obtain ⟨v, u, rfl, ⟨b, k, eB, rfl⟩, v2, u2, rfl, r2, rfl⟩ := r
    cases r2
    refine ⟨b, k, _, _, rfl, c.wd eB, h.1, h.2.1, fun i H' W i0 i1 => ?_⟩
    obtain ⟨s1, b1⟩ := wd_stp eB W
    exact f.run _ _ _ (h.2.2 i i0 i1) s1 b1 rfl
  · exact h.elim⟩
def pNumber : List Sx → (Sx → Prop) → Prop := fun xs Q => match xs with
  | [.b] => ∀ i : Int, -100000000 * 10 ^ 32 ≤ i → i ≤ 100000001 * 10 ^ 32 → Q (.v (.int i))
  | _ => False
instance lNumber : LSp fw spNumber pNumber := ⟨fun {B O0 O Hs Kb H0 H ss σ Q E Qp xs vs} c0 c s r h f => by
  unfold pNumber at h
  split at h
  · obtain ⟨v, u, rfl, ⟨b, k, eB, rfl⟩, rfl⟩ := r
    refine ⟨b, k, _, rfl, c.wd eB, fun i H' W i0 i1 => ?_⟩
    obtain ⟨s1, b1⟩ := wd_stp eB W
    exact f.run _ _ _ (h i i0 i1) s1 b1 rfl
  · exact h.elim⟩
/-- _law_names -/
def qNames : PSp := fun xs Q => ∃ n : Nat, xs = [.b, .tv (.int (n : Nat))] ∧ n ≤ 4 ∧ ∀ zs : List Str, zs.Nodup → zs.length = n → (∀ z ∈ zs, goodName z) → Q (.lst (zs.map Tv.str))
theorem pok_law_names (T : Txt P K mg) {k : Nat} : FnOk P w K mg base CX0 (k + 2) T.law_names.f T.law_names.fd ["_law_box", "_law_many"] (spP 2 qNames) := by
  have G_law_pick : FnOk P w K mg base CX0 (k + 1) T.law_pick.f T.law_pick.fd ["_law_box", "_law_many"] spPick := ok_law_pick T
  refine okPu T.law_names.F sc_law_names fun xs Qp hl hp cdv A outer s H E hr => ⟨_, (pss_cons (ps_set (i := 2) sc_law_names.nd rfl (.inr rfl) pe_str)
  (pss_cons (ps_set (i := 3) sc_law_names.nd rfl (.inr rfl) (pe_lst pa_nil))
  (pss_cons (ps_for PassesOwn.never rfl (pi_range1 (by rfl) T.n_range (pa_cons (pv 1) pa_nil)) (pg_name (i := 4) sc_law_names.nd rfl (.inl rfl))
   (pss_cons (ps_set (i := 5) sc_law_names.nd rfl (.inl rfl) (pe_ix ix_seq (pv 2) (pe_call G_law_pick (hr.mono (by omega)) (by rfl) T.law_pick.g T.law_pick.F.kp T.law_pick.b .nil pass0 (pa_cons (pv 0) (pa_cons pe_int pa_nil))) (fun _ _ => rfl)))
  (Evl.pss_cut (ps_if (pt_cmpR (op_eqG hr.units) (pe_call G_law_pick (hr.mono (by omega)) (by rfl) T.law_pick.g T.law_pick.F.kp T.law_pick.b .nil pass0 (pa_cons (pv 0) (pa_cons pe_int pa_nil))) pe_int (nomark _)) (pss_one (ps_set (i := 5) sc_law_names.nd rfl (.inl rfl) (pe_join pe_str (pe_lc (own := [("_law_j", 6)]) (g := gName 6) (tt := tYes) (te := (tOp (rIx K) (tVar 2) (tCall _ _ _ (tCons (tVar 0) (tCons (tC _) tNil))))) rfl sc_law_names.nd (pi_range1 (by rfl) T.n_range (pa_cons (pe_op op_addG pe_int (pe_call G_law_pick (hr.mono (by omega)) (by rfl) T.law_pick.g T.law_pick.F.kp T.law_pick.b .nil pass0 (pa_cons (pv 0) (pa_cons pe_int pa_nil)))) pa_nil)) (blkOk_by (own := [("_law_j", 6)]) (N := N_law_names) (sc := defScope s_law_names) (by decide +kernel)) (fun _ _ _ _ _ => (pg_name (i := 6) sc_law_names.nd rfl (.inl rfl))) (fun _ _ _ _ _ => pts_nil) (fun _ _ _ _ _ => (pe_ix ix_seq (pv 2) (pe_call G_law_pick (hr.mono (by omega)) (by rfl) T.law_pick.g T.law_pick.F.kp T.law_pick.b .nil pass0 (pa_cons (pv 0) (pa_cons pe_int pa_nil))) (fun _ _ => rfl))))))) pss_nil)
  (Evl.pss_cut (ps_if (pt_cmpR (op_inG (hu65 hr)) (pv 5) (pv 3) (by with_unfolding_all rfl)) (pss_one (ps_set (i := 5) sc_law_names.nd rfl (.inl rfl) (pe_ix ix_seq (pe_lc (own := [("_law_word", 7)]) (g := gName 7) (tt := (tTest (tOp (rNotInG K) (tVar 7) (tVar 3)))) (te := (tVar 7)) rfl sc_law_names.nd (pi_seq (pe_lst (pa_cons pe_str (pa_cons pe_str (pa_cons pe_str (pa_cons pe_str pa_nil)))))) (blkOk_by (own := [("_law_word", 7)]) (N := N_law_names) (sc := defScope s_law_names) (by decide +kernel)) (fun _ _ _ _ _ => (pg_name (i := 7) sc_law_names.nd rfl (.inl rfl))) (fun _ _ _ _ _ => (pts_one (pt_cmpR (op_notInG (hu65 hr)) (pv 7) (pv 3) (by with_unfolding_all rfl)))) (fun _ _ _ _ _ => (pv 7))) pe_int (fun _ _ => rfl)))) pss_nil)
  (pss_one (ps_expr (pe_bm PySem.F.plainAttrs_list PySem.F.slot_list_append PySem.F.type_list_append mt_append (pv 3) (pa_cons (pv 5) pa_nil))))))))
  (pss_one (ps_ret (pv 3)))))), ?_⟩
  obtain ⟨n, rfl, hn, q⟩ := hp
  bv_omega
  injections
  injections
  bv_omega
  injections
  injections
  bv_omega
  injections
  injections
  bv_omega
  refine ⟨by omega, by omega, fun i s => ∃ (zs : List Str) (y4 y5 : Sl), s = [.box, .val (.int (n : Nat)), .val (.str letters), .own (zs.map Tv.str), y4, y5, .any, .any] ∧ zs.Nodup ∧ zs.length = i ∧ ∀ z ∈ zs, goodName z, ⟨[], _, _, rfl, List.nodup_nil, rfl, fun z h => nomatch h⟩, fun i t s ht hI => ?_, fun s hI => ?_⟩
  · obtain ⟨zs, y4, y5, rfl, nd, hl, hg⟩ := hI
    obtain ⟨rfl, hi⟩ := rgT_at ht
    bv_omega
    injections
    injections
    bv_omega
    intro i i0 i1
    obtain ⟨ch, hch, hin⟩ := let_at i0 (by omega)
    refine ⟨by decide +kernel, ch, hch, ?_⟩
    refine s_cut (fun s => ∃ (z : Str) (y4 : Sl), goodName z ∧ s = [.box, .val (.int (n : Nat)), .val (.str letters), .own (zs.map Tv.str), y4, .val (.str z), .any, .any]) ?_ ?_
    · injections
      bv_omega
      intro j j0 j1
      refine ite2 (fun _ => ?_) (fun _ => ?_)
      · injections
        bv_omega
        unfold pLc
        bv_omega
        intro m m0 m1
        refine ⟨by omega, by omega, rfl, fun r acc => ∃ cs : List Nat, acc = (cs.map fun c => (⟨#[c]⟩ : Str)).map Tv.str ∧ cs.length = r ∧ ∀ c ∈ cs, c ∈ letters.cps.toList, ⟨[], rfl, rfl, fun c h => nomatch h⟩, fun r t acc ht hI => ?_, fun acc hI => ?_⟩
        · obtain ⟨cs, rfl, hc, hcs⟩ := hI
          obtain ⟨rfl, hr'⟩ := rgT_at ht
          refine ⟨by simp only [List.length_map]; omega, ?_⟩
          bv_omega
          intro u u0 u1
          obtain ⟨d, hd, hdin⟩ := let_at u0 u1
          refine ⟨by decide +kernel, d, hd, cs ++ [d], by rw [List.map_append, List.map_append]; rfl, by rw [List.length_append, hc]; rfl, fun x hx => ?_⟩
          rcases List.mem_append.mp hx with h | h
          · exact hcs x h
          · cases List.mem_singleton.mp h
            exact hdin
        · obtain ⟨cs, rfl, hc, hcs⟩ := hI
          bv_omega
          refine ⟨?_, _, _, join_good (by omega) (by omega) hcs, rfl⟩
          rw [show (("" : Str)).length = 0 from rfl, Nat.mul_zero, Nat.add_zero, List.map_map]
          have : (cs.map ((fun x : Str => x.length) ∘ fun c => (⟨#[c]⟩ : Str))).sum = cs.length := by
            clear hcs hc
            induction cs with
            | nil => rfl
            | cons x xs ih =>
              rw [List.map_cons, List.sum_cons, ih, List.length_cons]
              show 1 + xs.length = xs.length + 1
              omega
          rw [this]
          omega
      · injections
        exact ⟨_, _, one_good hin, rfl⟩
    · rintro s ⟨z, y4, gz, rfl⟩
      refine s_cut (fun s => ∃ (z : Str) (y4 : Sl), goodName z ∧ z ∉ zs ∧ s = [.box, .val (.int (n : Nat)), .val (.str letters), .own (zs.map Tv.str), y4, .val (.str z), .any, .any]) ?_ ?_
      · injections
        bv_omega
        refine ite2 (fun hz => ?_) (fun hz => ?_)
        · injections
          bv_omega
          unfold pLc
          bv_omega
          refine ⟨rfl, fun i acc => acc = ((abcd.take i).filter (fun w => !decide (w ∈ zs))).map Tv.str, rfl, fun i t acc ht hI => ?_, fun acc hI => ?_⟩
          · subst hI
            have ht : (abcd.map Tv.str)[i]? = some t := ht
            rw [List.getElem?_map] at ht
            obtain ⟨r, hr', rfl⟩ := Option.map_eq_some_iff.mp ht
            refine ⟨by simp only [List.length_map]; have := List.length_filter_le (fun w => !decide (w ∈ zs)) (abcd.take i); have h2 : (abcd.take i).length ≤ 4 := List.length_take_le' i abcd
                       omega, ?_⟩
            bv_omega
            rw [List.take_add_one, hr']
            refine ite2 (fun hx => ?_) (fun hx => ?_)
            · simp [hx]
            · simp [hx]
          · obtain ⟨z2, r2, e2, m2, n2⟩ := spare (zs := zs) (by omega)
            have e3 : acc = Tv.str z2 :: r2.map Tv.str := by rw [hI, show (4 : Nat) = abcd.length from rfl, List.take_length, e2]; rfl
            subst e3
            bv_omega
            exact ⟨_, _, abcd_good m2, n2, rfl⟩
        · injections
          exact ⟨_, _, gz, hz, rfl⟩
      · rintro s ⟨z, y4, gz, hz, rfl⟩
        injections
        bv_omega
        refine ⟨zs ++ [z], _, _, by rw [List.map_append]; rfl, List.nodup_append.mpr ⟨nd, by simp, fun a ha b hb => by cases List.mem_singleton.mp hb; exact fun y => hz (by rw [← y]; exact ha)⟩, by rw [List.length_append, hl]; rfl, fun y hy => ?_⟩
        rcases List.mem_append.mp hy with h | h
        · exact hg y h
        · cases List.mem_singleton.mp h
          exact gz
  · obtain ⟨zs, y4, y5, rfl, nd, hl, hg⟩ := hI
    injections
    bv_omega
    exact q zs nd (by omega) hg
end
end Pl

namespace Pl
open PySem L2
section
variable {P : Program} {w : World} {K : PySem.W.Frag} {mg : Str → Option Value} {base : Heap}
/-- _law_limit -/
def spLimitL : Sp := fun vs H Q _ => ∃ (b c : Addr) (G : Hp), vs = [.ref b] ∧ Wd b c G H ∧ ∀ (lim : Option Int) (H' : Hp), limOk lim → Wd b c G H' → Q (oV lim) H'
theorem ok_law_limit (T : Txt P K mg) {k : Nat} : FnOk P w K mg base CX0 (k + 3) T.law_limit.f T.law_limit.fd ["_law_box"] spLimitL := by
  have G_law_pick : FnOk P w K mg base CX0 (k + 1) T.law_pick.f T.law_pick.fd ["_law_box", "_law_many"] spPick := ok_law_pick T
  have G_law_number : FnOk P w K mg base CX0 (k + 2) T.law_number.f T.law_number.fd ["_law_box"] spNumber := ok_law_number T
  refine T.law_limit.F.ok (k := k + 2) sc_law_limit (fun vs H Q E h => ?_) (fun cdv A outer s H vs Q E hr h => ?_)
  · obtain ⟨b, c, G, rfl, _⟩ := h
    rfl
  · obtain ⟨b, c, G, rfl, W, q⟩ := h
    refine ⟨_, (pss_cons (ps_set (i := 1) sc_law_limit.nd rfl (.inl rfl) (pe_call G_law_pick (hr.mono (by omega)) (by rfl) T.law_pick.g T.law_pick.F.kp T.law_pick.b .nil pass0 (pa_cons (pv 0) (pa_cons pe_int pa_nil))))
  (pss_cons (ps_if (pt_cmpR op_lt (pv 1) pe_int (nomark _)) (pss_one (ps_ret pe_non)) pss_nil)
  (pss_cons (ps_if (pt_cmpR op_lt (pv 1) pe_int (nomark _)) (pss_one (ps_ret (pe_call G_law_pick (hr.mono (by omega)) (by rfl) T.law_pick.g T.law_pick.F.kp T.law_pick.b .nil pass0 (pa_cons (pv 0) (pa_cons pe_int pa_nil))))) pss_nil)
  (pss_one (ps_ret (pe_callB call_abs (by rfl) T.n_abs (by decide +kernel) (pa_cons (pe_call G_law_number (hr.mono (by omega)) (by rfl) T.law_number.g T.law_number.F.kp T.law_number.b .nil pass0 (pa_cons (pv 0) pa_nil)) pa_nil))))))), ?_⟩
    refine ⟨.ref b, rfl, b, c, G, 5, rfl, W, by decide, by decide, fun i H1 W1 i0 i1 => ?_⟩
    refine ⟨.int i, rfl, i, 2, rfl, rfl, _, rfl, ite2 (fun _ => q none H1 trivial W1) (fun _ => ?_)⟩
    refine ⟨.int i, rfl, i, 4, rfl, rfl, _, rfl, ite2 (fun _ => ?_) (fun _ => ?_)⟩
    · exact ⟨.ref b, rfl, b, c, G, 7, rfl, W1, by decide, by decide, fun j H2 W2 j0 j1 => q (some j) H2 j0 W2⟩
    · refine ⟨.ref b, rfl, b, c, G, rfl, W1, fun j H2 W2 _ _ => ⟨j, rfl, ?_⟩⟩
      exact q (some (if j < 0 then -j else j)) H2 (by show 0 ≤ (if j < 0 then -j else j); split <;> omega) W2
end
end Pl

namespace Pl
open PySem L2
section
variable {P : Program} {w : World} {K : PySem.W.Frag} {mg : Str → Option Value} {base : Heap}
def Tm.isPair : Tm → Option (Tm × Tm)
  | .either a b => some (a, b)
  | .later a b => some (a, b)
  | .earlier a b => some (a, b)
  | _ => none
/-- Pair.__init__(self, first, second) -/
def spPairInit (T : Txt P K mg) : Sp := fun vs H Q _ => ∃ (G : Hp) (t u1 u2 : Tm) (x a d dx : Addr), vs = [.ref x, .ref a, .ref d] ∧ t.isPair = some (u1, u2) ∧ Same G H ∧ G x = none ∧ TmAt T.ca G u1 a ∧ TmAt T.ca G u2 d ∧ t.fits ∧ H x = some (.ins (t.cls T.ca) dx []) ∧ ∀ H', Same G H' → TmAt T.ca H' t x → Q .non H'
structure PCls (T : Txt P K mg) (t : Tm) : Prop where
  cl : Cls K (t.cls T.ca)
  n1 : NoAttr K (t.cls T.ca) "first"
  n2 : NoAttr K (t.cls T.ca) "second"
  sup : SupC K (t.cls T.ca) T.c_Pair T.Term_init.f "__init__"
theorem Txt.pc (T : Txt P K mg) {t u1 u2 : Tm} (h : t.isPair = some (u1, u2)) : PCls T t := by
  cases t with
  | either => exact ⟨T.o_Either.cl, T.n_Either_first, T.n_Either_second, T.s_Either_Pair⟩
  | later => exact ⟨T.o_Later.cl, T.n_Later_first, T.n_Later_second, T.s_Later_Pair⟩
  | earlier => exact ⟨T.o_Earlier.cl, T.n_Earlier_first, T.n_Earlier_second, T.s_Earlier_Pair⟩
  | _ => cases h
theorem ok_pair_init (T : Txt P K mg) {k : Nat} : FnR P w K mg base CX0 (k + 2) T.Pair_init.f (spPairInit T) := by
  refine T.Pair_init.ok (pre := (defBody s_Pair_init).take 2) rfl sc_Pair_init rfl rfl (by decide +kernel) (by decide) rfl T.n_super (fun _ _ _ _ _ _ _ us hl => match us, hl with | [_, _, _], _ => rfl) (ok_term_init T (k := k)) (fun vs H Q E h => ?_) (fun A outer s H vs Q E hr h => ?_)
  · obtain ⟨G, t, u1, u2, x, a, d, dx, rfl, _⟩ := h
    rfl
  · obtain ⟨G, t, u1, u2, x, a, d, dx, rfl, hp, sG, xG, h1, h2, hfit, hx, q⟩ := h
    have pc := T.pc hp
    refine ⟨_, _, (pss_cons (ps_fld (pv 0) (pv 1) rfl)
  (pss_one (ps_fld (pv 0) (pv 2) rfl))), (pa_cons (pv 1) (pa_cons (pv 2) pa_nil)), ?_⟩
    refine ⟨.ref a, rfl, .ref x, rfl, x, _, dx, [], rfl, hx, pc.cl, pc.n1, by decide, ?_⟩
    refine ⟨.ref d, rfl, .ref x, rfl, x, _, dx, _, rfl, upd_same, pc.cl, pc.n2, (by show 1 < 1000; decide), ?_⟩
    rw [upd_upd]
    have sG1 : Same G (upd H x (.ins (t.cls T.ca) dx (paF a d))) := same_mut sG xG
    have hk : KidsAt T.ca G t.kids [a, d] := by
      cases t with
      | either => cases hp; exact ⟨h1, h2, trivial⟩
      | later => cases hp; exact ⟨h1, h2, trivial⟩
      | earlier => cases hp; exact ⟨h1, h2, trivial⟩
      | _ => cases hp
    refine ⟨x, _, dx, paF a d, rfl, rfl, upd_same, pc.sup, .ref a, rfl, .ref d, rfl, G, t, x, dx, paF a d, [a, d], rfl, sG1, xG, hk, upd_same, (by show 2 ≤ 10; decide), hfit, fun H' s' b' h' => q H' s' ?_⟩
    cases t with
    | either => cases hp; exact ⟨dx, a, d, h', h1.same s', h2.same s'⟩
    | later => cases hp; exact ⟨dx, a, d, h', h1.same s', h2.same s'⟩
    | earlier => cases hp; exact ⟨dx, a, d, h', h1.same s', h2.same s'⟩
    | _ => cases hp
theorem mk_same {H : Hp} {x dx C : Addr} {fs : List (Str × V)} (hx : H x = none) (hdx : H dx = none) : Same H (upd (upd H dx (.own x)) x (.ins C dx fs)) := fun c o h => by
  rw [upd_ne (ne_of_none h hx), upd_ne (ne_of_none h hdx)]
  exact h
/-- one | other, one.later(other), one.earlier(other) -/
def spJoin (T : Txt P K mg) (f : Tm → Tm → Tm) : Sp := fun vs H Q _ => ∃ (t u : Tm) (a d : Addr), vs = [.ref a, .ref d] ∧ TmAt T.ca H t a ∧ TmAt T.ca H u d ∧ (f t u).fits ∧ ∀ r H', Same H H' → TmAt T.ca H' (f t u) r → Q (.ref r) H'
theorem ok_term_or (T : Txt P K mg) {k : Nat} : FnR P w K mg base CX0 (k + 4) T.Term_or.f (spJoin T .either) := by
  have G_check_term : FnOk P w K mg base CX0 (k + 1) T.check_term.f T.check_term.fd ["value"] (spCkTerm T) := ok_check_term T
  have G_Either_init : FnR P w K mg base CX0 (k + 2) T.Pair_init.f (spPairInit T) := ok_pair_init T
  refine toR (T.Term_or.F.ok (k := k + 3) sc_Term_or (fun vs H Q E h => ?_) (fun cdv A outer s H vs Q E hr h => ?_)) T.Term_or.b
  · obtain ⟨t, u, a, d, rfl, _⟩ := h
    rfl
  · obtain ⟨t, u, a, d, rfl, h1, h2, hf, q⟩ := h
    refine ⟨_, (pss_cons (ps_expr (pe_call G_check_term (hr.mono (by omega)) (by rfl) T.check_term.g T.check_term.F.kp T.check_term.b .nil pass0 (pa_cons (pv 1) pa_nil)))
  (pss_one (ps_ret (StX.pe_makeR T.mk_Either G_Either_init (hr.mono (by omega)) (by rfl) T.g_Either pass0 (pa_cons (pv 0) (pa_cons (pv 1) pa_nil)))))), ?_⟩
    refine ⟨.ref d, rfl, u, d, rfl, h2, .ref a, rfl, .ref d, rfl, fun x dx hx hdx _ => ?_⟩
    exact ⟨H, .either t u, t, u, x, a, d, dx, rfl, rfl, mk_same hx hdx, hx, h1, h2, hf, upd_same, fun H' s' h' => ⟨rfl, q x H' s' h'⟩⟩
theorem ok_term_later (T : Txt P K mg) {k : Nat} : FnR P w K mg base CX0 (k + 4) T.Term_later.f (spJoin T .later) := by
  have G_check_term : FnOk P w K mg base CX0 (k + 1) T.check_term.f T.check_term.fd ["value"] (spCkTerm T) := ok_check_term T
  have G_Later_init : FnR P w K mg base CX0 (k + 2) T.Pair_init.f (spPairInit T) := ok_pair_init T
  refine toR (T.Term_later.F.ok (k := k + 3) sc_Term_later (fun vs H Q E h => ?_) (fun cdv A outer s H vs Q E hr h => ?_)) T.Term_later.b
  · obtain ⟨t, u, a, d, rfl, _⟩ := h
    rfl
  · obtain ⟨t, u, a, d, rfl, h1, h2, hf, q⟩ := h
    refine ⟨_, (pss_cons (ps_expr (pe_call G_check_term (hr.mono (by omega)) (by rfl) T.check_term.g T.check_term.F.kp T.check_term.b .nil pass0 (pa_cons (pv 1) pa_nil)))
  (pss_one (ps_ret (StX.pe_makeR T.mk_Later G_Later_init (hr.mono (by omega)) (by rfl) T.g_Later pass0 (pa_cons (pv 0) (pa_cons (pv 1) pa_nil)))))), ?_⟩
    refine ⟨.ref d, rfl, u, d, rfl, h2, .ref a, rfl, .ref d, rfl, fun x dx hx hdx _ => ?_⟩
    exact ⟨H, .later t u, t, u, x, a, d, dx, rfl, rfl, mk_same hx hdx, hx, h1, h2, hf, upd_same, fun H' s' h' => ⟨rfl, q x H' s' h'⟩⟩
theorem ok_term_earlier (T : Txt P K mg) {k : Nat} : FnR P w K mg base CX0 (k + 4) T.Term_earlier.f (spJoin T .earlier) := by
  have G_check_term : FnOk P w K mg base CX0 (k + 1) T.check_term.f T.check_term.fd ["value"] (spCkTerm T) := ok_check_term T
  have G_Earlier_init : FnR P w K mg base CX0 (k + 2) T.Pair_init.f (spPairInit T) := ok_pair_init T
  refine toR (T.Term_earlier.F.ok (k := k + 3) sc_Term_earlier (fun vs H Q E h => ?_) (fun cdv A outer s H vs Q E hr h => ?_)) T.Term_earlier.b
  · obtain ⟨t, u, a, d, rfl, _⟩ := h
    rfl
  · obtain ⟨t, u, a, d, rfl, h1, h2, hf, q⟩ := h
    refine ⟨_, (pss_cons (ps_expr (pe_call G_check_term (hr.mono (by omega)) (by rfl) T.check_term.g T.check_term.F.kp T.check_term.b .nil pass0 (pa_cons (pv 1) pa_nil)))
  (pss_one (ps_ret (StX.pe_makeR T.mk_Earlier G_Earlier_init (hr.mono (by omega)) (by rfl) T.g_Earlier pass0 (pa_cons (pv 0) (pa_cons (pv 1) pa_nil)))))), ?_⟩
    refine ⟨.ref d, rfl, u, d, rfl, h2, .ref a, rfl, .ref d, rfl, fun x dx hx hdx _ => ?_⟩
    exact ⟨H, .earlier t u, t, u, x, a, d, dx, rfl, rfl, mk_same hx hdx, hx, h1, h2, hf, upd_same, fun H' s' h' => ⟨rfl, q x H' s' h'⟩⟩
/-- how | finds its def -/
theorem Txt.bc (T : Txt P K mg) (t : Tm) : BinC K (t.cls T.ca) T.Term_or.f .BitOr := by
  cases t
  · exact T.bc_Now_BitOr
  · exact T.bc_Shift_BitOr
  · exact T.bc_Look_BitOr
  · exact T.bc_Either_BitOr
  · exact T.bc_Later_BitOr
  · exact T.bc_Earlier_BitOr
theorem Txt.sb (T : Txt P K mg) (t u : Tm) : t.cls T.ca = u.cls T.ca ∨ PySem.W.subIn K (.ref (u.cls T.ca)) (.ref (t.cls T.ca)) = some false := by
  cases t <;> cases u <;> first
    | exact .inl rfl
    | exact .inr T.sb_Now_Shift | exact .inr T.sb_Now_Look | exact .inr T.sb_Now_Either | exact .inr T.sb_Now_Later | exact .inr T.sb_Now_Earlier
    | exact .inr T.sb_Shift_Now | exact .inr T.sb_Shift_Look | exact .inr T.sb_Shift_Either | exact .inr T.sb_Shift_Later | exact .inr T.sb_Shift_Earlier
    | exact .inr T.sb_Look_Now | exact .inr T.sb_Look_Shift | exact .inr T.sb_Look_Either | exact .inr T.sb_Look_Later | exact .inr T.sb_Look_Earlier
    | exact .inr T.sb_Either_Now | exact .inr T.sb_Either_Shift | exact .inr T.sb_Either_Look | exact .inr T.sb_Either_Later | exact .inr T.sb_Either_Earlier
    | exact .inr T.sb_Later_Now | exact .inr T.sb_Later_Shift | exact .inr T.sb_Later_Look | exact .inr T.sb_Later_Either | exact .inr T.sb_Later_Earlier
    | exact .inr T.sb_Earlier_Now | exact .inr T.sb_Earlier_Shift | exact .inr T.sb_Earlier_Look | exact .inr T.sb_Earlier_Either | exact .inr T.sb_Earlier_Later
theorem Txt.laterM (T : Txt P K mg) (t : Tm) : Meth K (t.cls T.ca) "later" T.Term_later.f := by
  cases t
  · exact T.m_Now_later
  · exact T.m_Shift_later
  · exact T.m_Look_later
  · exact T.m_Either_later
  · exact T.m_Later_later
  · exact T.m_Earlier_later
theorem Txt.earlierM (T : Txt P K mg) (t : Tm) : Meth K (t.cls T.ca) "earlier" T.Term_earlier.f := by
  cases t
  · exact T.m_Now_earlier
  · exact T.m_Shift_earlier
  · exact T.m_Look_earlier
  · exact T.m_Either_earlier
  · exact T.m_Later_earlier
  · exact T.m_Earlier_earlier
/-- an attribute that no term has -/
theorem TmAt.ins {c : CA} {H : Hp} {t : Tm} {a : Addr} (h : TmAt c H t a) : ∃ dx fs, H a = some (.ins (t.cls c) dx fs) ∧ fs.lookup ("later" : Str) = none ∧ fs.lookup ("earlier" : Str) = none ∧ fs.lookup ("streams" : Str) = none ∧ fs.lookup ("look_streams" : Str) = none ∧ fs.lookup ("children" : Str) = none ∧ fs.lookup ("part_at" : Str) = none ∧ fs.lookup ("part_paths" : Str) = none ∧ fs.lookup ("with_part" : Str) = none ∧ fs.lookup ("with_child" : Str) = none ∧ fs.lookup ("both" : Str) = none := by
  cases t with
  | now => obtain ⟨dx, h⟩ := h; exact ⟨dx, _, h, rfl, rfl, rfl, rfl, rfl, rfl, rfl, rfl, rfl, rfl⟩
  | shift m n => obtain ⟨dx, b, h, _⟩ := h; exact ⟨dx, _, h, rfl, rfl, rfl, rfl, rfl, rfl, rfl, rfl, rfl, rfl⟩
  | look s m wy lim => obtain ⟨dx, b, h, _⟩ := h; exact ⟨dx, _, h, rfl, rfl, rfl, rfl, rfl, rfl, rfl, rfl, rfl, rfl⟩
  | either x y => obtain ⟨dx, b, d, h, _⟩ := h; exact ⟨dx, _, h, rfl, rfl, rfl, rfl, rfl, rfl, rfl, rfl, rfl, rfl⟩
  | later x y => obtain ⟨dx, b, d, h, _⟩ := h; exact ⟨dx, _, h, rfl, rfl, rfl, rfl, rfl, rfl, rfl, rfl, rfl, rfl⟩
  | earlier x y => obtain ⟨dx, b, d, h, _⟩ := h; exact ⟨dx, _, h, rfl, rfl, rfl, rfl, rfl, rfl, rfl, rfl, rfl, rfl⟩
end
end Pl

namespace Pl
open PySem L2
/-! ### what a term answers -/
def Tm.ans (rows : Str → List Int) (now : Int) : Tm → Option Int
  | .now => some now
  | .shift m n => match m.ans rows now with
    | none => none
    | some x => some (x + n)
  | .look s m wy lim => match m.ans rows now with
    | none => none
    | some x => lookedUp (rows s) x wy lim
  | .either a b => match a.ans rows now with
    | none => b.ans rows now
    | some x => some x
  | .later a b => match a.ans rows now, b.ans rows now with
    | some x, some y => some (if y > x then y else x)
    | _, _ => none
  | .earlier a b => match a.ans rows now, b.ans rows now with
    | some x, some y => some (if y < x then y else x)
    | _, _ => none
/-- names, ways and limits are good -/
def Tm.wf : Tm → Prop
  | .now => True
  | .shift m _ => m.wf
  | .look s m wy lim => goodName s ∧ wy ∈ ways ∧ limOk lim ∧ m.wf
  | .either a b => a.wf ∧ b.wf
  | .later a b => a.wf ∧ b.wf
  | .earlier a b => a.wf ∧ b.wf
section
variable {P : Program} {w : World} {K : PySem.W.Frag} {mg : Str → Option Value} {base : Heap}
def Txt.ansF (T : Txt P K mg) : Kd → Addr
  | .now => T.Term_answer_in.f
  | .shift => T.Shift_answer_in.f
  | .look => T.Look_answer_in.f
  | .either => T.Either_answer_in.f
  | .later => T.Later_answer_in.f
  | .earlier => T.Earlier_answer_in.f
theorem Txt.ansM (T : Txt P K mg) (t : Tm) : Meth K (t.cls T.ca) "answer_in" (T.ansF t.kind) := by
  cases t
  · exact T.m_Now_answer_in
  · exact T.m_Shift_answer_in
  · exact T.m_Look_answer_in
  · exact T.m_Either_answer_in
  · exact T.m_Later_answer_in
  · exact T.m_Earlier_answer_in
def spAns (T : Txt P K mg) (n : Nat) (kd : Kd) : Sp := fun vs H Q _ => ∃ (t : Tm) (a wa l : Addr) (ps : List (Str × Int)) (x : Int), vs = [.ref a, .ref wa, .int x] ∧ t.kind = kd ∧ t.depth ≤ n ∧ t.wf ∧ TmAt T.ca H t a ∧ WoA T H wa l ps ∧ ps.length ≤ 1000 ∧ ∀ H', Same H H' → Q (oV (t.ans (rowsOf ps) x)) H'
/-- o.answer_in(world, now) -/
theorem rd_ans (T : Txt P K mg) {n : Nat} {σ : St} {H : Hp} {Q : VK} {tw tn : TE} {t : Tm} {a wa l : Addr} {ps : List (Str × Int)} {x : Int} (hd : t.depth ≤ n) (hw : t.wf) (hta : TmAt T.ca H t a) (ho : WoA T H wa l ps) (hl : ps.length ≤ 1000) (h1 : ∀ Q' : VK, Q' (.ref wa) H → tw σ H Q') (h2 : ∀ Q' : VK, Q' (.int x) H → tn σ H Q')
    (q : ∀ H', Same H H' → Q (oV (t.ans (rowsOf ps) x)) H') :
    ∃ a' C dx fs i, V.ref a = .ref a' ∧ H a' = some (.ins C dx fs) ∧ fs.lookup ("answer_in" : Str) = none ∧ Cls K C ∧ Meth K C "answer_in" (T.ansF i) ∧ tCons tw (tCons tn tNil) σ H fun vs H2 => spAns T n i (.ref a :: vs) H2 Q E0 := by
  obtain ⟨dx, fs, g1, _, _, _, _, _, g2⟩ := hta.obj
  exact ⟨a, _, dx, fs, t.kind, rfl, g1, g2, (T.kc t).o.cl, T.ansM t, h1 _ (h2 _ ⟨t, a, wa, l, ps, x, rfl, rfl, hd, hw, hta, ho, hl, q⟩)⟩
theorem oV_none {o : Option Int} (h : o = none) : decide (oV o = .non) = true := by subst h; rfl
theorem oV_some {o : Option Int} {x : Int} (h : o = some x) : decide (oV o = .non) = false := by subst h; rfl
theorem ok_ans (T : Txt P K mg) {k : Nat} : ∀ (n : Nat) (kd : Kd), FnR P w K mg base CX0 (k + 4 + n) (T.ansF kd) (spAns T n kd)
  | 0, kd => fun A outer s H us vs Q E hr e0 r h => by
    obtain ⟨t, a, _, _, _, _, _, _, hd, _⟩ := h
    have := depth_pos t
    omega
  | n + 1, kd => by
    have G_answer_in : ∀ kd, FnR P w K mg base CX0 (k + 4 + n) (T.ansF kd) (spAns T n kd) := fun kd => ok_ans T n kd
    have G_getitem : FnR P w K mg base CX0 (k + 3) T.World_getitem.f (spGetItem T) := ok_getitem T
    have G_looked_up : FnOk P w K mg base CX0 (k + 2) T.looked_up.f T.looked_up.fd ["moments", "moment", "way", "within"] (spLookedUp K) := ok_looked_up T
    cases kd with
    | now =>
      refine toR (T.Term_answer_in.F.ok (k := k + 4 + n) sc_Term_answer_in (fun vs H Q E h => ?_) (fun cdv A outer s H vs Q E hr h => ?_)) T.Term_answer_in.b
      · obtain ⟨t, a, wa, l, ps, x, rfl, _⟩ := h
        rfl
      · obtain ⟨t, a, wa, l, ps, x, rfl, hk, hd, hw, hta, ho, hl, q⟩ := h
        cases t with
        | now =>
          refine ⟨_, (pss_one (ps_ret (pv 2))), ?_⟩
          exact ⟨.int x, rfl, q H (Same.refl H)⟩
        | _ => cases hk
    | shift =>
      refine toR (T.Shift_answer_in.F.ok (k := k + 4 + n) sc_Shift_answer_in (fun vs H Q E h => ?_) (fun cdv A outer s H vs Q E hr h => ?_)) T.Shift_answer_in.b
      · obtain ⟨t, a, wa, l, ps, x, rfl, _⟩ := h
        rfl
      · obtain ⟨t, a, wa, l, ps, x, rfl, hk, hd, hw, hta, ho, hl, q⟩ := h
        cases t with
        | shift m i =>
          obtain ⟨dx, b, ha, hm⟩ := hta
          have hd' : m.depth ≤ n := by simp only [Tm.depth] at hd; omega
          refine ⟨_, (pss_cons (ps_set (i := 3) sc_Shift_answer_in.nd rfl (.inl rfl) (pe_methV (pe_fld (pv 0) rfl) G_answer_in (hr.mono (by omega)) pass0 (pa_cons (pv 1) (pa_cons (pv 2) pa_nil))))
  (pss_cons (ps_if (pt_cmpR op_isN (pv 3) pe_non (nomark _)) (pss_one (ps_ret pe_non)) pss_nil)
  (pss_one (ps_ret (pe_op op_add (pv 3) (pe_fld (pv 0) rfl)))))), ?_⟩
          refine ⟨.ref a, rfl, a, _, dx, _, _, rfl, ha, T.o_Shift.cl, T.n_Shift_moment, rfl, ?_⟩
          refine rd_ans T (t := m) (x := x) hd' hw hm ho hl (fun Q' h => ⟨_, rfl, h⟩) (fun Q' h => ⟨.int x, rfl, h⟩) fun H1 s1 => ?_
          simp only [Tm.ans] at q
          cases e : m.ans (rowsOf ps) x with
          | none =>
            rw [e] at q
            exact ⟨_, rfl, rfl, _, rfl, iT rfl (q H1 s1)⟩
          | some y =>
            rw [e] at q
            exact ⟨_, rfl, rfl, _, rfl, iF rfl ⟨.int y, rfl, .ref a, rfl, a, _, dx, _, _, rfl, s1 _ _ ha, T.o_Shift.cl, T.n_Shift_amount, rfl, _, _, rfl, rfl, q H1 s1⟩⟩
        | _ => cases hk
    | look =>
      refine toR (T.Look_answer_in.F.ok (k := k + 4 + n) sc_Look_answer_in (fun vs H Q E h => ?_) (fun cdv A outer s H vs Q E hr h => ?_)) T.Look_answer_in.b
      · obtain ⟨t, a, wa, l, ps, x, rfl, _⟩ := h
        rfl
      · obtain ⟨t, a, wa, l, ps, x, rfl, hk, hd, hw, hta, ho, hl, q⟩ := h
        cases t with
        | look z m wy lim =>
          obtain ⟨dx, b, ha, hm⟩ := hta
          obtain ⟨w1, w2, w3, w4⟩ := hw
          have hd' : m.depth ≤ n := by simp only [Tm.depth] at hd; omega
          refine ⟨_, (pss_cons (ps_set (i := 3) sc_Look_answer_in.nd rfl (.inl rfl) (pe_methV (pe_fld (pv 0) rfl) G_answer_in (hr.mono (by omega)) pass0 (pa_cons (pv 1) (pa_cons (pv 2) pa_nil))))
  (pss_cons (ps_if (pt_cmpR op_isN (pv 3) pe_non (nomark _)) (pss_one (ps_ret pe_non)) pss_nil)
  (pss_one (ps_ret (pe_call G_looked_up (hr.mono (by omega)) (by rfl) T.looked_up.g T.looked_up.F.kp T.looked_up.b .nil pass0 (pa_cons (pe_getO G_getitem (hr.mono (by omega)) pass0 (pv 1) (pe_fld (pv 0) rfl)) (pa_cons (pv 3) (pa_cons (pe_fld (pv 0) rfl) (pa_cons (pe_fld (pv 0) rfl) pa_nil))))))))), ?_⟩
          refine ⟨.ref a, rfl, a, _, dx, _, _, rfl, ha, T.o_Look.cl, T.n_Look_moment, rfl, ?_⟩
          refine rd_ans T (t := m) (x := x) hd' w4 hm ho hl (fun Q' h => ⟨_, rfl, h⟩) (fun Q' h => ⟨.int x, rfl, h⟩) fun H1 s1 => ?_
          simp only [Tm.ans] at q
          cases e : m.ans (rowsOf ps) x with
          | none =>
            rw [e] at q
            exact ⟨_, rfl, rfl, _, rfl, iT rfl (q H1 s1)⟩
          | some y =>
            rw [e] at q
            refine ⟨_, rfl, rfl, _, rfl, iF rfl ⟨.ref wa, rfl, .ref a, rfl, a, _, dx, _, _, rfl, s1 _ _ ha, T.o_Look.cl, T.n_Look_stream, rfl, ?_⟩⟩
            obtain ⟨dw, vs, hwa, _⟩ := ho.same s1
            refine ⟨wa, _, dw, _, rfl, hwa, T.gi_World, wa, l, z, ps, rfl, ho.same s1, w1, hl, fun r H2 s2 _ hr2 => ?_⟩
            have ha2 := s2 _ _ (s1 _ _ ha)
            refine ⟨.int y, rfl, .ref a, rfl, a, _, dx, _, _, rfl, ha2, T.o_Look.cl, T.n_Look_way, rfl, .ref a, rfl, a, _, dx, _, _, rfl, ha2, T.o_Look.cl, T.n_Look_within, rfl, ?_⟩
            refine ⟨r, rowsOf ps z, y, wy, lim, rfl, SqL.of hr2, ?_, fun H3 s3 => q H3 ((s1.trans s2).trans s3)⟩
            unfold rowsOf
            rw [List.length_map]
            exact Nat.le_trans (List.length_filter_le _ _) hl
        | _ => cases hk
    | either =>
      refine toR (T.Either_answer_in.F.ok (k := k + 4 + n) sc_Either_answer_in (fun vs H Q E h => ?_) (fun cdv A outer s H vs Q E hr h => ?_)) T.Either_answer_in.b
      · obtain ⟨t, a, wa, l, ps, x, rfl, _⟩ := h
        rfl
      · obtain ⟨t, a, wa, l, ps, x, rfl, hk, hd, hw, hta, ho, hl, q⟩ := h
        cases t with
        | either t1 t2 =>
          obtain ⟨dx, b, d, ha, hx, hy⟩ := hta
          have hd1 : t1.depth ≤ n := by simp only [Tm.depth] at hd; omega
          have hd2 : t2.depth ≤ n := by simp only [Tm.depth] at hd; omega
          refine ⟨_, (pss_cons (ps_set (i := 3) sc_Either_answer_in.nd rfl (.inl rfl) (pe_methV (pe_fld (pv 0) rfl) G_answer_in (hr.mono (by omega)) pass0 (pa_cons (pv 1) (pa_cons (pv 2) pa_nil))))
  (pss_cons (ps_if (pt_cmpR op_isN (pv 3) pe_non (nomark _)) (pss_one (ps_ret (pe_methV (pe_fld (pv 0) rfl) G_answer_in (hr.mono (by omega)) pass0 (pa_cons (pv 1) (pa_cons (pv 2) pa_nil))))) pss_nil)
  (pss_one (ps_ret (pv 3))))), ?_⟩
          refine ⟨.ref a, rfl, a, _, dx, _, _, rfl, ha, T.o_Either.cl, T.n_Either_first, rfl, ?_⟩
          refine rd_ans T (t := t1) (x := x) hd1 hw.1 hx ho hl (fun Q' h => ⟨_, rfl, h⟩) (fun Q' h => ⟨.int x, rfl, h⟩) fun H1 s1 => ?_
          simp only [Tm.ans] at q
          cases e : t1.ans (rowsOf ps) x with
          | none =>
            rw [e] at q
            refine ⟨_, rfl, rfl, _, rfl, iT rfl ⟨.ref a, rfl, a, _, dx, _, _, rfl, s1 _ _ ha, T.o_Either.cl, T.n_Either_second, rfl, ?_⟩⟩
            exact rd_ans T (t := t2) (x := x) hd2 hw.2 (hy.same s1) (ho.same s1) hl (fun Q' h => ⟨_, rfl, h⟩) (fun Q' h => ⟨.int x, rfl, h⟩) fun H2 s2 => q H2 (s1.trans s2)
          | some y =>
            rw [e] at q
            exact ⟨_, rfl, rfl, _, rfl, iF rfl ⟨.int y, rfl, q H1 s1⟩⟩
        | _ => cases hk
    | later =>
      refine toR (T.Later_answer_in.F.ok (k := k + 4 + n) sc_Later_answer_in (fun vs H Q E h => ?_) (fun cdv A outer s H vs Q E hr h => ?_)) T.Later_answer_in.b
      · obtain ⟨t, a, wa, l, ps, x, rfl, _⟩ := h
        rfl
      · obtain ⟨t, a, wa, l, ps, x, rfl, hk, hd, hw, hta, ho, hl, q⟩ := h
        cases t with
        | later t1 t2 =>
          obtain ⟨dx, b, d, ha, hx, hy⟩ := hta
          have hd1 : t1.depth ≤ n := by simp only [Tm.depth] at hd; omega
          have hd2 : t2.depth ≤ n := by simp only [Tm.depth] at hd; omega
          refine ⟨_, (pss_cons (ps_set (i := 3) sc_Later_answer_in.nd rfl (.inl rfl) (pe_methV (pe_fld (pv 0) rfl) G_answer_in (hr.mono (by omega)) pass0 (pa_cons (pv 1) (pa_cons (pv 2) pa_nil))))
  (pss_cons (ps_set (i := 4) sc_Later_answer_in.nd rfl (.inl rfl) (pe_methV (pe_fld (pv 0) rfl) G_answer_in (hr.mono (by omega)) pass0 (pa_cons (pv 1) (pa_cons (pv 2) pa_nil))))
  (pss_cons (ps_if (PW.pt (pw_or (pt_cmpR op_isN (pv 3) pe_non (nomark _)) (pw_or1 (pt_cmpR op_isN (pv 4) pe_non (nomark _))))) (pss_one (ps_ret pe_non)) pss_nil)
  (pss_one (ps_ret (pe_callB (call_max2 rfl) (by rfl) T.n_max (by decide +kernel) (pa_cons (pv 3) (pa_cons (pv 4) pa_nil)))))))), ?_⟩
          refine ⟨.ref a, rfl, a, _, dx, _, _, rfl, ha, T.o_Later.cl, T.n_Later_first, rfl, ?_⟩
          refine rd_ans T (t := t1) (x := x) hd1 hw.1 hx ho hl (fun Q' h => ⟨_, rfl, h⟩) (fun Q' h => ⟨.int x, rfl, h⟩) fun H1 s1 => ?_
          refine ⟨.ref a, rfl, a, _, dx, _, _, rfl, s1 _ _ ha, T.o_Later.cl, T.n_Later_second, rfl, ?_⟩
          refine rd_ans T (t := t2) (x := x) hd2 hw.2 (hy.same s1) (ho.same s1) hl (fun Q' h => ⟨_, rfl, h⟩) (fun Q' h => ⟨.int x, rfl, h⟩) fun H2 s2 => ?_
          simp only [Tm.ans] at q
          cases e : t1.ans (rowsOf ps) x with
          | none =>
            rw [e] at q
            exact ⟨_, rfl, rfl, _, rfl, iT rfl (iT rfl (q H2 (s1.trans s2)))⟩
          | some y =>
            rw [e] at q
            cases e2 : t2.ans (rowsOf ps) x with
            | none =>
              rw [e2] at q
              exact ⟨_, rfl, rfl, _, rfl, iF rfl ⟨_, rfl, rfl, _, rfl, iT rfl (q H2 (s1.trans s2))⟩⟩
            | some y2 =>
              rw [e2] at q
              exact ⟨_, rfl, rfl, _, rfl, iF rfl ⟨_, rfl, rfl, _, rfl, iF rfl ⟨.int y, rfl, .int y2, rfl, y, y2, rfl, q H2 (s1.trans s2)⟩⟩⟩
        | _ => cases hk
    | earlier =>
      refine toR (T.Earlier_answer_in.F.ok (k := k + 4 + n) sc_Earlier_answer_in (fun vs H Q E h => ?_) (fun cdv A outer s H vs Q E hr h => ?_)) T.Earlier_answer_in.b
      · obtain ⟨t, a, wa, l, ps, x, rfl, _⟩ := h
        rfl
      · obtain ⟨t, a, wa, l, ps, x, rfl, hk, hd, hw, hta, ho, hl, q⟩ := h
        cases t with
        | earlier t1 t2 =>
          obtain ⟨dx, b, d, ha, hx, hy⟩ := hta
          have hd1 : t1.depth ≤ n := by simp only [Tm.depth] at hd; omega
          have hd2 : t2.depth ≤ n := by simp only [Tm.depth] at hd; omega
          refine ⟨_, (pss_cons (ps_set (i := 3) sc_Earlier_answer_in.nd rfl (.inl rfl) (pe_methV (pe_fld (pv 0) rfl) G_answer_in (hr.mono (by omega)) pass0 (pa_cons (pv 1) (pa_cons (pv 2) pa_nil))))
  (pss_cons (ps_set (i := 4) sc_Earlier_answer_in.nd rfl (.inl rfl) (pe_methV (pe_fld (pv 0) rfl) G_answer_in (hr.mono (by omega)) pass0 (pa_cons (pv 1) (pa_cons (pv 2) pa_nil))))
  (pss_cons (ps_if (PW.pt (pw_or (pt_cmpR op_isN (pv 3) pe_non (nomark _)) (pw_or1 (pt_cmpR op_isN (pv 4) pe_non (nomark _))))) (pss_one (ps_ret pe_non)) pss_nil)
  (pss_one (ps_ret (pe_callB (call_min2 rfl) (by rfl) T.n_min (by decide +kernel) (pa_cons (pv 3) (pa_cons (pv 4) pa_nil)))))))), ?_⟩
          refine ⟨.ref a, rfl, a, _, dx, _, _, rfl, ha, T.o_Earlier.cl, T.n_Earlier_first, rfl, ?_⟩
          refine rd_ans T (t := t1) (x := x) hd1 hw.1 hx ho hl (fun Q' h => ⟨_, rfl, h⟩) (fun Q' h => ⟨.int x, rfl, h⟩) fun H1 s1 => ?_
          refine ⟨.ref a, rfl, a, _, dx, _, _, rfl, s1 _ _ ha, T.o_Earlier.cl, T.n_Earlier_second, rfl, ?_⟩
          refine rd_ans T (t := t2) (x := x) hd2 hw.2 (hy.same s1) (ho.same s1) hl (fun Q' h => ⟨_, rfl, h⟩) (fun Q' h => ⟨.int x, rfl, h⟩) fun H2 s2 => ?_
          simp only [Tm.ans] at q
          cases e : t1.ans (rowsOf ps) x with
          | none =>
            rw [e] at q
            exact ⟨_, rfl, rfl, _, rfl, iT rfl (iT rfl (q H2 (s1.trans s2)))⟩
          | some y =>
            rw [e] at q
            cases e2 : t2.ans (rowsOf ps) x with
            | none =>
              rw [e2] at q
              exact ⟨_, rfl, rfl, _, rfl, iF rfl ⟨_, rfl, rfl, _, rfl, iT rfl (q H2 (s1.trans s2))⟩⟩
            | some y2 =>
              rw [e2] at q
              exact ⟨_, rfl, rfl, _, rfl, iF rfl ⟨_, rfl, rfl, _, rfl, iF rfl ⟨.int y, rfl, .int y2, rfl, y, y2, rfl, q H2 (s1.trans s2)⟩⟩⟩
        | _ => cases hk
/-- term(world, now) -/
def spTCall (T : Txt P K mg) : Sp := fun vs H Q _ => ∃ (t : Tm) (a wa l : Addr) (ps : List (Str × Int)) (x : Int), vs = [.ref a, .ref wa, .int x] ∧ t.depth ≤ 12 ∧ t.wf ∧ TmAt T.ca H t a ∧ WoA T H wa l ps ∧ ps.length ≤ 1000 ∧ ∀ H', Same H H' → Q (oV (t.ans (rowsOf ps) x)) H'
theorem ok_term_call (T : Txt P K mg) {k : Nat} : FnR P w K mg base CX0 (k + 17) T.Term_call.f (spTCall T) := by
  have G_check_moment : FnOk P w K mg base CX0 (k + 2) T.check_moment.f T.check_moment.fd ["value"] spCkMoment := ok_check_moment T
  have G_check_world : FnOk P w K mg base CX0 (k + 1) T.check_world.f T.check_world.fd ["value"] (spCkWorld T) := ok_check_world T
  have G_answer_in : ∀ kd, FnR P w K mg base CX0 (k + 4 + 12) (T.ansF kd) (spAns T 12 kd) := fun b => ok_ans T 12 b
  refine toR (T.Term_call.F.ok (k := k + 16) sc_Term_call (fun vs H Q E h => ?_) (fun cdv A outer s H vs Q E hr h => ?_)) T.Term_call.b
  · obtain ⟨t, a, wa, l, ps, x, rfl, _⟩ := h
    rfl
  · obtain ⟨t, a, wa, l, ps, x, rfl, hd, hw, hta, ho, hl, q⟩ := h
    refine ⟨_, (pss_cons (ps_expr (pe_call G_check_world (hr.mono (by omega)) (by rfl) T.check_world.g T.check_world.F.kp T.check_world.b .nil pass0 (pa_cons (pv 1) pa_nil)))
  (pss_cons (ps_expr (pe_call G_check_moment (hr.mono (by omega)) (by rfl) T.check_moment.g T.check_moment.F.kp T.check_moment.b .nil pass0 (pa_cons (pv 2) pa_nil)))
  (pss_one (ps_ret (pe_methV (pv 0) G_answer_in (hr.mono (by omega)) pass0 (pa_cons (pv 1) (pa_cons (pv 2) pa_nil))))))), ?_⟩
    refine ⟨.ref wa, rfl, wa, rfl, ho.is, .int x, rfl, x, rfl, .ref a, rfl, ?_⟩
    exact rd_ans T (t := t) (x := x) hd hw hta ho hl (fun Q' h => ⟨.ref wa, rfl, h⟩) (fun Q' h => ⟨.int x, rfl, h⟩) q
theorem callO_of (T : Txt P K mg) (t : Tm) : StX.CallO K (t.cls T.ca) T.Term_call.f := by
  cases t with
  | now => exact T.call_Now
  | shift => exact T.call_Shift
  | look => exact T.call_Look
  | either => exact T.call_Either
  | later => exact T.call_Later
  | earlier => exact T.call_Earlier
end
end Pl

namespace Pl
open PySem L2
/-! ### the law's own trees -/
def Tm.isShift : Tm → Bool
  | .shift _ _ => true
  | _ => false
/-- no shift by 0, no shift directly in a shift -/
def Tm.norm : Tm → Prop
  | .now => True
  | .shift m n => n ≠ 0 ∧ m.isShift = false ∧ m.norm
  | .look _ m _ _ => m.norm
  | .either a b => a.norm ∧ b.norm
  | .later a b => a.norm ∧ b.norm
  | .earlier a b => a.norm ∧ b.norm
/-- its looks are of these streams -/
def Tm.over (zs : List Str) : Tm → Prop
  | .now => True
  | .shift m _ => m.over zs
  | .look s m _ _ => s ∈ zs ∧ m.over zs
  | .either a b => a.over zs ∧ b.over zs
  | .later a b => a.over zs ∧ b.over zs
  | .earlier a b => a.over zs ∧ b.over zs
def Tm.plusL : Tm → Int → Tm
  | .shift m n, k => if k + n = 0 then m else .shift m (k + n)
  | t, k => if k = 0 then t else .shift t k
theorem Tm.plusL_eq {t : Tm} (h : t.norm) (k : Int) : t.plusL k = t.plus k := by
  cases t with
  | shift m n =>
    simp only [Tm.plusL, Tm.plus]
    by_cases hk : k = 0
    · subst hk
      rw [if_pos rfl, Int.zero_add, if_neg h.1]
    · rw [if_neg hk]
  | _ => rfl
structure TrOk (zs : List Str) (l j : Nat) (t : Tm) : Prop where
  wf : t.wf
  nm : t.norm
  ov : t.over zs
  dp : t.depth ≤ l + j + 2
  pt : t.parts ≤ l + 3 * j + 2
  lk : t.looks = l
  ch : t.choices ≤ l + j
theorem plus_ok (t : Tm) (k : Int) : (t.plus k).depth ≤ t.depth + 1 ∧ (t.plus k).parts ≤ t.parts + 1 ∧ (t.plus k).looks = t.looks ∧ (t.plus k).choices = t.choices ∧ (t.wf → (t.plus k).wf) ∧ (t.norm → (t.plus k).norm) ∧ ∀ zs, t.over zs → (t.plus k).over zs := by
  cases t with
  | shift m n =>
    simp only [Tm.plus]
    split
    · exact ⟨by omega, by omega, rfl, rfl, id, id, fun _ h => h⟩
    · split
      · exact ⟨by simp only [Tm.depth]; omega, by simp only [Tm.parts]; omega, rfl, rfl, id, fun h => h.2.2, fun _ h => h⟩
      · rename_i h1 h2
        exact ⟨by simp only [Tm.depth]; omega, by simp only [Tm.parts]; omega, rfl, rfl, id, fun h => ⟨h2, h.2.1, h.2.2⟩, fun _ h => h⟩
  | _ =>
    simp only [Tm.plus]
    split
    · exact ⟨by omega, by omega, rfl, rfl, id, id, fun _ h => h⟩
    · rename_i h1
      exact ⟨by simp only [Tm.depth]; omega, by simp only [Tm.parts]; omega, rfl, rfl, id, fun h => ⟨h1, rfl, h⟩, fun _ h => h⟩
def TrAt (H : Hp) : Tm → Addr → Prop
  | .now, a => H a = some (.tup [.str "now"])
  | .shift m n, a => ∃ b, H a = some (.tup [.str "shift", .int n, .ref b]) ∧ TrAt H m b
  | .look s m wy lim, a => ∃ b, H a = some (.tup [.str "look", .str s, .str wy, oV lim, .ref b]) ∧ TrAt H m b
  | .either x y, a => ∃ b d, H a = some (.tup [.str "either", .ref b, .ref d]) ∧ TrAt H x b ∧ TrAt H y d
  | .later x y, a => ∃ b d, H a = some (.tup [.str "later", .ref b, .ref d]) ∧ TrAt H x b ∧ TrAt H y d
  | .earlier x y, a => ∃ b d, H a = some (.tup [.str "earlier", .ref b, .ref d]) ∧ TrAt H x b ∧ TrAt H y d
theorem TrAt.same {H H' : Hp} (s : Same H H') : ∀ {t : Tm} {a : Addr}, TrAt H t a → TrAt H' t a
  | .now, _, h => s _ _ h
  | .shift _ _, _, ⟨b, h, h1⟩ => ⟨b, s _ _ h, h1.same s⟩
  | .look _ _ _ _, _, ⟨b, h, h1⟩ => ⟨b, s _ _ h, h1.same s⟩
  | .either _ _, _, ⟨b, d, h, h1, h2⟩ => ⟨b, d, s _ _ h, h1.same s, h2.same s⟩
  | .later _ _, _, ⟨b, d, h, h1, h2⟩ => ⟨b, d, s _ _ h, h1.same s, h2.same s⟩
  | .earlier _ _, _, ⟨b, d, h, h1, h2⟩ => ⟨b, d, s _ _ h, h1.same s, h2.same s⟩
theorem TrAt.mn {S : List Addr} {H : Hp} (hS : Lsts S H) : ∀ {t : Tm} {a : Addr}, TrAt H t a → TrAt (mn S H) t a := by
  have key : ∀ {a : Addr} {xs : List V}, H a = some (.tup xs) → Pl.mn S H a = some (.tup xs) := fun {a xs} h => mn_nl hS h (fun _ z => nomatch z)
  intro t
  induction t with
  | now => intro a h; exact key h
  | shift m n ih => intro a ⟨b, h, h1⟩; exact ⟨b, key h, ih h1⟩
  | look s m wy lim ih => intro a ⟨b, h, h1⟩; exact ⟨b, key h, ih h1⟩
  | either x y i1 i2 => intro a ⟨b, d, h, h1, h2⟩; exact ⟨b, d, key h, i1 h1, i2 h2⟩
  | later x y i1 i2 => intro a ⟨b, d, h, h1, h2⟩; exact ⟨b, d, key h, i1 h1, i2 h2⟩
  | earlier x y i1 i2 => intro a ⟨b, d, h, h1, h2⟩; exact ⟨b, d, key h, i1 h1, i2 h2⟩
/-- the word at the head of a tree -/
def Tm.word : Tm → Str
  | .now => "now"
  | .shift _ _ => "shift"
  | .look _ _ _ _ => "look"
  | .either _ _ => "either"
  | .later _ _ => "later"
  | .earlier _ _ => "earlier"
theorem TrAt.obj {H : Hp} {t : Tm} {a : Addr} (h : TrAt H t a) : ∃ xs, H a = some (.tup (.str t.word :: xs)) := by
  cases t with
  | now => exact ⟨_, h⟩
  | shift => obtain ⟨b, h, _⟩ := h; exact ⟨_, h⟩
  | look => obtain ⟨b, h, _⟩ := h; exact ⟨_, h⟩
  | either => obtain ⟨b, d, h, _⟩ := h; exact ⟨_, h⟩
  | later => obtain ⟨b, d, h, _⟩ := h; exact ⟨_, h⟩
  | earlier => obtain ⟨b, d, h, _⟩ := h; exact ⟨_, h⟩
section
variable {P : Program} {w : World} {K : PySem.W.Frag} {mg : Str → Option Value} {base : Heap}
/-- _law_shift -/
def spShiftL : Sp := fun vs H Q _ => ∃ (t : Tm) (a : Addr) (k : Int), vs = [.ref a, .int k] ∧ TrAt H t a ∧ ∀ r H', Same H H' → TrAt H' (t.plusL k) r → Q (.ref r) H'
theorem ok_law_shift (T : Txt P K mg) {k : Nat} : FnOk P w K mg base CX0 (k + 1) T.law_shift.f T.law_shift.fd ["_law_tree_here", "_law_amount"] spShiftL := by
  refine T.law_shift.F.ok (k := k) sc_law_shift (fun vs H Q E h => ?_) (fun cdv A outer s H vs Q E hr h => ?_)
  · obtain ⟨t, a, k, rfl, _⟩ := h
    rfl
  · obtain ⟨t, a, n, rfl, ht, q⟩ := h
    refine ⟨_, (pss_cons (ps_if (pt_cmpR op_eq (pe_ix ix_tup (pv 0) pe_int (fun _ _ => rfl)) pe_str (nomark _)) (pss_cons (ps_set (i := 1) sc_law_shift.nd rfl (.inl rfl) (pe_op op_add (pv 1) (pe_ix ix_tup (pv 0) pe_int (fun _ _ => rfl))))
  (pss_one (ps_set (i := 0) sc_law_shift.nd rfl (.inl rfl) (pe_ix ix_tup (pv 0) pe_int (fun _ _ => rfl))))) pss_nil)
  (pss_cons (ps_if (pt_cmpR op_eq (pv 1) pe_int (nomark _)) (pss_one (ps_ret (pv 0))) pss_nil)
  (pss_one (ps_ret (pe_tup (pa_cons pe_str (pa_cons (pv 1) (pa_cons (pv 0) pa_nil)))))))), ?_⟩
    obtain ⟨xs, ho⟩ := ht.obj
    refine ⟨_, rfl, a, _, 0, .str t.word, rfl, rfl, SqT.of ho, at_ix (by decide) rfl, rfl, _, rfl, ?_⟩
    rw [dstr]
    by_cases hs : ∃ m i, t = .shift m i
    · obtain ⟨m, i, rfl⟩ := hs
      obtain ⟨b, ha, hm⟩ := ht
      refine iT rfl ⟨_, rfl, _, rfl, a, _, 1, .int i, rfl, rfl, SqT.of ha, at_ix (by decide) rfl, _, _, rfl, rfl, _, rfl, a, _, 2, .ref b, rfl, rfl, SqT.of ha, at_ix (by decide) rfl, ?_⟩
      refine ⟨_, rfl, rfl, _, rfl, ?_⟩
      simp only [Tm.plusL] at q
      by_cases e : n + i = 0
      · rw [if_pos e] at q
        exact iT (decide_eq_true (by show V.int (n + i) = _; rw [e])) ⟨_, rfl, q b H (Same.refl H) hm⟩
      · rw [if_neg e] at q
        refine iF (decide_eq_false (fun h => e (V.int.inj h))) ⟨_, rfl, _, rfl, sz (by show 3 ≤ 100000; decide), fun p hp => ?_⟩
        exact q p _ (same_upd hp) ⟨b, upd_same, hm.same (same_upd hp)⟩
    · have hw : ¬ t.word = "shift" := by
        cases t with
        | shift m i => exact absurd ⟨m, i, rfl⟩ hs
        | _ => simp only [Tm.word]; decide
      refine iF (decide_eq_false hw) ?_
      have ep : t.plusL n = if n = 0 then t else .shift t n := by
        cases t with
        | shift m i => exact absurd ⟨m, i, rfl⟩ hs
        | _ => rfl
      rw [ep] at q
      refine ⟨_, rfl, rfl, _, rfl, ?_⟩
      by_cases n0 : n = 0
      · rw [if_pos n0] at q
        exact iT (decide_eq_true (by rw [n0])) ⟨_, rfl, q a H (Same.refl H) ht⟩
      · rw [if_neg n0] at q
        refine iF (decide_eq_false (fun h => n0 (V.int.inj h))) ⟨_, rfl, _, rfl, sz (by show 3 ≤ 100000; decide), fun p hp => ?_⟩
        exact q p _ (same_upd hp) ⟨a, upd_same, ht.same (same_upd hp)⟩
/-- _law_tree -/
def spTree (n : Nat) : Sp := fun vs H Q _ => ∃ (b c nl : Addr) (G : Hp) (zs : List Str) (l j : Nat), vs = [.ref b, .ref nl, .int (l : Nat), .int (j : Nat)] ∧ Wd b c G H ∧ G nl = some (.lst (zs.map V.str)) ∧ 0 < zs.length ∧ zs.length ≤ 10 ∧ (∀ z ∈ zs, goodName z) ∧ l + j < n ∧ n ≤ 100 ∧
  ∀ (t : Tm) (a : Addr) (G' H' : Hp), Same G G' → Wd b c G' H' → TrAt G' t a → TrOk zs l j t → Q (.ref a) H'
theorem kind3 {i : Int} (h0 : 0 ≤ i) (h1 : i < 3) : ∃ (wd : Str) (f : Tm → Tm → Tm), atI ([.str "either", .str "later", .str "earlier"] : List V) i = some (.str wd) ∧ (∀ (H : Hp) (x y : Tm) (a b d : Addr), H a = some (.tup [.str wd, .ref b, .ref d]) → TrAt H x b → TrAt H y d → TrAt H (f x y) a) ∧
    (∀ x y, (f x y).depth = 1 + max x.depth y.depth ∧ (f x y).parts = 1 + (x.parts + y.parts) ∧ (f x y).looks = x.looks + y.looks ∧ (f x y).choices ≤ x.choices + y.choices + 1 ∧ (x.wf → y.wf → (f x y).wf) ∧ (x.norm → y.norm → (f x y).norm) ∧ ∀ zs, x.over zs → y.over zs → (f x y).over zs) := by
  have : i = 0 ∨ i = 1 ∨ i = 2 := by omega
  rcases this with rfl | rfl | rfl
  · exact ⟨"either", .either, at_ix (by decide) rfl, fun H x y a b d h1 h2 h3 => ⟨b, d, h1, h2, h3⟩, fun x y => ⟨rfl, rfl, rfl, Nat.le_succ _, fun a b => ⟨a, b⟩, fun a b => ⟨a, b⟩, fun _ a b => ⟨a, b⟩⟩⟩
  · exact ⟨"later", .later, at_ix (by decide) rfl, fun H x y a b d h1 h2 h3 => ⟨b, d, h1, h2, h3⟩, fun x y => ⟨rfl, rfl, rfl, Nat.le_refl _, fun a b => ⟨a, b⟩, fun a b => ⟨a, b⟩, fun _ a b => ⟨a, b⟩⟩⟩
  · exact ⟨"earlier", .earlier, at_ix (by decide) rfl, fun H x y a b d h1 h2 h3 => ⟨b, d, h1, h2, h3⟩, fun x y => ⟨rfl, rfl, rfl, Nat.le_refl _, fun a b => ⟨a, b⟩, fun a b => ⟨a, b⟩, fun _ a b => ⟨a, b⟩⟩⟩
theorem ways_at {i : Int} (h0 : 0 ≤ i) (h1 : i < 4) : ∃ wy ∈ ways, atI (ways.map V.str) i = some (.str wy) := by
  have hl : i.toNat < ways.length := by
    have : ways.length = 4 := rfl
    omega
  exact ⟨ways[i.toNat], List.getElem_mem hl, at_ix h0 (by rw [List.getElem?_map, List.getElem?_eq_getElem hl]; rfl)⟩
theorem strs_at {zs : List Str} {i : Int} (h0 : 0 ≤ i) (h1 : i < zs.length) : ∃ z ∈ zs, atI (zs.map V.str) i = some (.str z) := by
  have hl : i.toNat < zs.length := by omega
  exact ⟨zs[i.toNat], List.getElem_mem hl, at_ix h0 (by rw [List.getElem?_map, List.getElem?_eq_getElem hl]; rfl)⟩
theorem ok_law_tree (T : Txt P K mg) {k : Nat} : ∀ n, FnOk P w K mg base CX0 (k + 4 + n) T.law_tree.f T.law_tree.fd ["_law_box", "_law_names_here", "_law_looks", "_law_joins"] (spTree n)
  | 0 => T.law_tree.F.ok (k := k + 3) sc_law_tree (fun vs H Q E h => by obtain ⟨_, _, _, _, _, _, _, _, _, _, _, _, _, h, _⟩ := h; omega) (fun _ _ _ _ _ _ _ _ _ h => by obtain ⟨_, _, _, _, _, _, _, _, _, _, _, _, _, h, _⟩ := h; omega)
  | n + 1 => by
    have G_law_tree : FnOk P w K mg base CX0 (k + 4 + n) T.law_tree.f T.law_tree.fd ["_law_box", "_law_names_here", "_law_looks", "_law_joins"] (spTree n) := ok_law_tree T n
    have G_law_pick : FnOk P w K mg base CX0 (k + 1) T.law_pick.f T.law_pick.fd ["_law_box", "_law_many"] spPick := ok_law_pick T
    have G_law_number : FnOk P w K mg base CX0 (k + 2) T.law_number.f T.law_number.fd ["_law_box"] spNumber := ok_law_number T
    have G_law_limit : FnOk P w K mg base CX0 (k + 3) T.law_limit.f T.law_limit.fd ["_law_box"] spLimitL := ok_law_limit T
    have G_law_shift : FnOk P w K mg base CX0 (k + 1) T.law_shift.f T.law_shift.fd ["_law_tree_here", "_law_amount"] spShiftL := ok_law_shift T
    refine T.law_tree.F.ok (k := k + 4 + n) sc_law_tree (fun vs H Q E h => ?_) (fun cdv A outer s H vs Q E hr h => ?_)
    · obtain ⟨b, c, nl, G, zs, l, j, rfl, _⟩ := h
      rfl
    · obtain ⟨b, c, nl, G, zs, l, j, rfl, W, hnl, hz0, hz1, hg, hn, hn1, q⟩ := h
      refine ⟨_, (pss_cons (ps_set (i := 4) sc_law_tree.nd rfl (.inl rfl) (pe_call G_law_pick (hr.mono (by omega)) (by rfl) T.law_pick.g T.law_pick.F.kp T.law_pick.b .nil pass0 (pa_cons (pv 0) (pa_cons pe_int pa_nil))))
  (Evl.pss_cut (ps_if (PW.pt (pw_and (pt_cmpR op_gt (pv 3) pe_int (nomark _)) (pw_and1 (pt_cmpR op_lt (pv 4) pe_int (nomark _))))) (pss_cons (ps_set (i := 5) sc_law_tree.nd rfl (.inl rfl) (pe_call G_law_pick (hr.mono (by omega)) (by rfl) T.law_pick.g T.law_pick.F.kp T.law_pick.b .nil pass0 (pa_cons (pv 0) (pa_cons (pe_op op_add (pv 2) pe_int) pa_nil))))
  (pss_cons (ps_set (i := 6) sc_law_tree.nd rfl (.inl rfl) (pe_call G_law_pick (hr.mono (by omega)) (by rfl) T.law_pick.g T.law_pick.F.kp T.law_pick.b .nil pass0 (pa_cons (pv 0) (pa_cons (pv 3) pa_nil))))
  (pss_cons (ps_set (i := 7) sc_law_tree.nd rfl (.inl rfl) (pe_call G_law_tree (hr.mono (by omega)) (by rfl) T.law_tree.g T.law_tree.F.kp T.law_tree.b .nil pass0 (pa_cons (pv 0) (pa_cons (pv 1) (pa_cons (pv 5) (pa_cons (pv 6) pa_nil))))))
  (pss_cons (ps_set (i := 8) sc_law_tree.nd rfl (.inl rfl) (pe_call G_law_tree (hr.mono (by omega)) (by rfl) T.law_tree.g T.law_tree.F.kp T.law_tree.b .nil pass0 (pa_cons (pv 0) (pa_cons (pv 1) (pa_cons (pe_op op_sub (pv 2) (pv 5)) (pa_cons (pe_op op_sub (pe_op op_sub (pv 3) pe_int) (pv 6)) pa_nil))))))
  (pss_one (ps_ret (pe_tup (pa_cons (pe_ix ix_list (pe_lst (pa_cons pe_str (pa_cons pe_str (pa_cons pe_str pa_nil)))) (pv 4) (fun _ _ => rfl)) (pa_cons (pv 7) (pa_cons (pv 8) pa_nil)))))))))) pss_nil)
  (Evl.pss_cut (ps_if (PW.pt (pw_and (pt_cmpR op_gt (pv 3) pe_int (nomark _)) (pw_and1 (pt_cmpR op_eq (pv 4) pe_int (nomark _))))) (pss_cons (ps_set (i := 9) sc_law_tree.nd rfl (.inl rfl) (pe_call G_law_tree (hr.mono (by omega)) (by rfl) T.law_tree.g T.law_tree.F.kp T.law_tree.b .nil pass0 (pa_cons (pv 0) (pa_cons (pv 1) (pa_cons (pv 2) (pa_cons (pe_op op_sub (pv 3) pe_int) pa_nil))))))
  (pss_one (ps_ret (pe_call G_law_shift (hr.mono (by omega)) (by rfl) T.law_shift.g T.law_shift.F.kp T.law_shift.b .nil pass0 (pa_cons (pv 9) (pa_cons (pe_call G_law_number (hr.mono (by omega)) (by rfl) T.law_number.g T.law_number.F.kp T.law_number.b .nil pass0 (pa_cons (pv 0) pa_nil)) pa_nil)))))) pss_nil)
  (pss_cons (ps_if (pt_cmpR op_gt (pv 2) pe_int (nomark _)) (pss_cons (ps_set (i := 10) sc_law_tree.nd rfl (.inl rfl) (pe_ix ix_list (pv 1) (pe_call G_law_pick (hr.mono (by omega)) (by rfl) T.law_pick.g T.law_pick.F.kp T.law_pick.b .nil pass0 (pa_cons (pv 0) (pa_cons (pe_callB call_len_seq (by rfl) T.n_len PySem.boot_len (pa_cons (pv 1) pa_nil)) pa_nil))) (fun _ _ => rfl)))
  (pss_cons (ps_set (i := 11) sc_law_tree.nd rfl (.inl rfl) (pe_ix ix_list (pe_lst (pa_cons pe_str (pa_cons pe_str (pa_cons pe_str (pa_cons pe_str pa_nil))))) (pe_call G_law_pick (hr.mono (by omega)) (by rfl) T.law_pick.g T.law_pick.F.kp T.law_pick.b .nil pass0 (pa_cons (pv 0) (pa_cons pe_int pa_nil))) (fun _ _ => rfl)))
  (pss_cons (ps_set (i := 12) sc_law_tree.nd rfl (.inl rfl) (pe_call G_law_limit (hr.mono (by omega)) (by rfl) T.law_limit.g T.law_limit.F.kp T.law_limit.b .nil pass0 (pa_cons (pv 0) pa_nil)))
  (pss_one (ps_ret (pe_tup (pa_cons pe_str (pa_cons (pv 10) (pa_cons (pv 11) (pa_cons (pv 12) (pa_cons (pe_call G_law_tree (hr.mono (by omega)) (by rfl) T.law_tree.g T.law_tree.F.kp T.law_tree.b .nil pass0 (pa_cons (pv 0) (pa_cons (pv 1) (pa_cons (pe_op op_sub (pv 2) pe_int) (pa_cons (pv 3) pa_nil))))) pa_nil))))))))))) pss_nil)
  (pss_cons (ps_if (pt_cmpR op_eq (pe_op op_modN (pv 4) pe_int) pe_int (nomark _)) (pss_one (ps_ret (pe_tup (pa_cons pe_str pa_nil)))) pss_nil)
  (pss_one (ps_ret (pe_call G_law_shift (hr.mono (by omega)) (by rfl) T.law_shift.g T.law_shift.F.kp T.law_shift.b .nil pass0 (pa_cons (pe_tup (pa_cons pe_str pa_nil)) (pa_cons (pe_call G_law_number (hr.mono (by omega)) (by rfl) T.law_number.g T.law_number.F.kp T.law_number.b .nil pass0 (pa_cons (pv 0) pa_nil)) pa_nil)))))))))), ?_⟩
      refine ⟨_, rfl, b, c, _, 8, rfl, W, by decide, by decide, fun kd H1 W1 k0 k1 => ?_⟩
      -- a shift of a tree
      have shiftEnd : ∀ {t : Tm} {a : Addr} {G1 H1 : Hp} {i : Int} {Q' : VK}, Same G G1 → Wd b c G1 H1 → TrAt G1 t a → t.norm → (∀ r G' H', Same G G' → Wd b c G' H' → TrAt G' (t.plus i) r → Q' (.ref r) H') → spShiftL [.ref a, .int i] H1 Q' E0 := fun {t a G1 H1 i Q'} s1 W1 ht hnm q' => by
        refine ⟨t, a, i, rfl, ht.same W1.gh, fun r H' s' hr' => ?_⟩
        rw [Tm.plusL_eq hnm] at hr'
        have W' := W1.sm s'
        exact q' r (mn [b, c] H') H' (s1.trans W'.allS) W'.all (hr'.mn W'.lsts)
      refine ⟨fun σ H' => H1 = H' ∧ σ = [some (.ref b), some (.ref nl), some (.int (l : Nat)), some (.int (j : Nat)), some (.int kd), none, none, none, none, none, none, none, none], ?_, ?_⟩
      · -- a join of two trees
        refine ⟨_, rfl, _, _, rfl, rfl, _, rfl, ?_⟩
        by_cases hj : 0 < j
        · refine iT (decide_eq_true (by omega)) ⟨_, rfl, _, _, rfl, rfl, _, rfl, ?_⟩
          by_cases h3 : kd < 3
          · refine iT (decide_eq_true (by omega)) ?_
            refine ⟨_, rfl, _, rfl, _, _, rfl, rfl, b, c, _, (l : Int) + 1, rfl, W1, by omega, by omega, fun lf H2 W2 l0 l1 => ?_⟩
            refine ⟨_, rfl, _, rfl, b, c, _, (j : Int), rfl, W2, by omega, by omega, fun ir H3 W3 i0 i1 => ?_⟩
            have e1 : lf = ((lf.toNat : Nat) : Int) := by omega
            have e2 : ir = ((ir.toNat : Nat) : Int) := by omega
            rw [e1, e2]
            refine ⟨_, rfl, _, rfl, _, rfl, _, rfl, b, c, nl, G, zs, lf.toNat, ir.toNat, rfl, W3, hnl, hz0, hz1, hg, by omega, by omega, fun t1 a1 G4 H4 s4 W4 ht1 ok1 => ?_⟩
            refine ⟨_, rfl, _, rfl, _, rfl, _, rfl, _, _, rfl, rfl, _, rfl, _, _, rfl, rfl, _, rfl, _, _, rfl, rfl, b, c, nl, G4, zs, l - lf.toNat, j - 1 - ir.toNat, ?_, W4, s4 _ _ hnl, hz0, hz1, hg, by omega, by omega, fun t2 a2 G5 H5 s5 W5 ht2 ok2 => ?_⟩
            · show [V.ref b, V.ref nl, V.int ((l : Int) - ((lf.toNat : Nat) : Int)), V.int ((j : Int) - 1 - ((ir.toNat : Nat) : Int))] = _
              rw [show (l : Int) - ((lf.toNat : Nat) : Int) = ((l - lf.toNat : Nat) : Int) by omega, show (j : Int) - 1 - ((ir.toNat : Nat) : Int) = ((j - 1 - ir.toNat : Nat) : Int) by omega]
            · obtain ⟨wd, f, hat, hf, hs⟩ := kind3 k0 h3
              refine ⟨sz (by show 3 ≤ 100000; decide), fun p hp => ?_⟩
              refine ⟨_, rfl, p, _, kd, .str wd, rfl, rfl, SqL.of upd_same, hat, _, rfl, _, rfl, sz (by show 3 ≤ 100000; decide), fun r hr' => ?_⟩
              have s6 := (same_upd (o := .lst [.str "either", .str "later", .str "earlier"]) hp).trans (same_upd (o := .tup [.str wd, .ref a1, .ref a2]) hr')
              have W6 := W5.sm s6
              have g6 := W5.gh.trans s6
              obtain ⟨d1, d2, d3, d4, d5, d6, d7⟩ := hs t1 t2
              refine q (f t1 t2) r _ _ (s4.trans (s5.trans W6.allS)) W6.all ((hf _ _ _ _ _ _ upd_same (ht1.same (s5.trans g6)) (ht2.same g6)).mn W6.lsts) ⟨d5 ok1.wf ok2.wf, d6 ok1.nm ok2.nm, d7 zs ok1.ov ok2.ov, ?_, ?_, ?_, ?_⟩
              · rw [d1]; have := ok1.dp; have := ok2.dp; omega
              · rw [d2]; have := ok1.pt; have := ok2.pt; omega
              · rw [d3, ok1.lk, ok2.lk]; omega
              · have := ok1.ch; have := ok2.ch; omega
          · exact iF (decide_eq_false (by omega)) ⟨rfl, rfl⟩
        · exact iF (decide_eq_false (by omega)) (iF rfl ⟨rfl, rfl⟩)
      rintro σ H1' ⟨rfl, rfl⟩
      refine ⟨fun σ H' => H1 = H' ∧ σ = [some (.ref b), some (.ref nl), some (.int (l : Nat)), some (.int (j : Nat)), some (.int kd), none, none, none, none, none, none, none, none], ?_, ?_⟩
      · -- a shift of a tree
        refine ⟨_, rfl, _, _, rfl, rfl, _, rfl, ?_⟩
        by_cases hj : 0 < j
        · refine iT (decide_eq_true (by omega)) ⟨_, rfl, rfl, _, rfl, ?_⟩
          by_cases h4 : kd = 3
          · subst h4
            refine iT rfl ?_
            refine ⟨_, rfl, _, rfl, _, rfl, _, rfl, _, _, rfl, rfl, b, c, nl, G, zs, l, j - 1, ?_, W1, hnl, hz0, hz1, hg, by omega, by omega, fun t1 a1 G4 H4 s4 W4 ht1 ok1 => ?_⟩
            · show [V.ref b, V.ref nl, V.int (l : Int), V.int ((j : Int) - 1)] = _
              rw [show (j : Int) - 1 = ((j - 1 : Nat) : Int) by omega]
            · refine ⟨_, rfl, _, rfl, b, c, _, rfl, W4, fun i H5 W5 _ _ => ?_⟩
              refine shiftEnd s4 W5 ht1 ok1.nm fun r G' H' sG WG hr' => ?_
              obtain ⟨p1, p2, p3, p4, p5, p6, p7⟩ := plus_ok t1 i
              exact q _ r G' H' sG WG hr' ⟨p5 ok1.wf, p6 ok1.nm, p7 zs ok1.ov, by have := ok1.dp; omega, by have := ok1.pt; omega, by rw [p3]; exact ok1.lk, by rw [p4]; have := ok1.ch; omega⟩
          · exact iF (decide_eq_false (fun h => h4 (V.int.inj h))) ⟨rfl, rfl⟩
        · exact iF (decide_eq_false (by omega)) (iF rfl ⟨rfl, rfl⟩)
      rintro σ H1' ⟨rfl, rfl⟩
      refine ⟨_, rfl, _, _, rfl, rfl, _, rfl, ?_⟩
      by_cases hl : 0 < l
      · -- a look
        refine iT (decide_eq_true (by omega)) ?_
        refine ⟨_, rfl, _, rfl, _, rfl, nl, _, rfl, .inl (SqL.of (W1.gh _ _ hnl)), b, c, _, ((zs.map V.str).length : Int), rfl, W1, by rw [List.length_map]; omega, by rw [List.length_map]; omega, fun i H2 W2 i0 i1 => ?_⟩
        rw [List.length_map] at i1
        obtain ⟨z, hz, hat⟩ := strs_at i0 i1
        refine ⟨nl, _, i, .str z, rfl, rfl, SqL.of (W2.gh _ _ hnl), hat, ?_⟩
        refine ⟨sz (by show 4 ≤ 100000; decide), fun wl hwl => ?_⟩
        obtain ⟨wb, wc⟩ := W2.nb hwl
        have gwl := W2.gh.free hwl
        have W3 : Wd b c (upd G wl (.lst (ways.map V.str))) (upd H2 wl (.lst (ways.map V.str))) := (W2.mut gwl wb wc).keep upd_same wb wc
        refine ⟨_, rfl, b, c, _, 4, rfl, W3, by decide, by decide, fun i2 H4 W4 j0 j1 => ?_⟩
        obtain ⟨wy, hwy, hat2⟩ := ways_at j0 j1
        refine ⟨wl, ways.map V.str, i2, .str wy, rfl, rfl, SqL.of (W4.gh _ _ upd_same), hat2, ?_⟩
        have W5 : Wd b c G H4 := W4.weak (same_upd gwl)
        refine ⟨_, rfl, b, c, _, rfl, W5, fun lim H5 hlim W6 => ?_⟩
        refine ⟨_, rfl, _, rfl, _, rfl, _, rfl, _, rfl, _, rfl, _, _, rfl, rfl, _, rfl, b, c, nl, G, zs, l - 1, j, ?_, W6, hnl, hz0, hz1, hg, by omega, by omega, fun t1 a1 G7 H7 s7 W7 ht1 ok1 => ?_⟩
        · show [V.ref b, V.ref nl, V.int ((l : Int) - 1), V.int (j : Int)] = _
          rw [show (l : Int) - 1 = ((l - 1 : Nat) : Int) by omega]
        · refine ⟨sz (by show 5 ≤ 100000; decide), fun r hr' => ?_⟩
          have s8 := same_upd (o := .tup [.str "look", .str z, .str wy, oV lim, .ref a1]) hr'
          have W8 := W7.sm s8
          have g8 := W7.gh.trans s8
          have ht8 : TrAt (upd H7 r (.tup [.str "look", .str z, .str wy, oV lim, .ref a1])) (.look z t1 wy lim) r := ⟨a1, upd_same, ht1.same g8⟩
          exact q (.look z t1 wy lim) r _ _ (s7.trans W8.allS) W8.all (ht8.mn W8.lsts) ⟨⟨hg z hz, hwy, hlim, ok1.wf⟩, ok1.nm, ⟨hz, ok1.ov⟩, by simp only [Tm.depth]; have := ok1.dp; omega, by simp only [Tm.parts]; have := ok1.pt; omega, by simp only [Tm.looks]; rw [ok1.lk]; omega, by simp only [Tm.choices]; have := ok1.ch; omega⟩
      · refine iF (decide_eq_false (by omega)) ?_
        have hl0 : l = 0 := by omega
        subst hl0
        refine ⟨_, rfl, kd, 2, rfl, rfl, (by show (2 : Int) ≠ 0; decide), rfl, _, rfl, ite2 (fun _ => ?_) (fun _ => ?_)⟩
        · refine ⟨sz (by show 1 ≤ 100000; decide), fun r hr' => ?_⟩
          have s8 := same_upd (o := .tup [.str "now"]) hr'
          have W8 := W1.sm s8
          have ht8 : TrAt (upd H1 r (.tup [.str "now"])) .now r := upd_same
          exact q .now r _ _ W8.allS W8.all (ht8.mn W8.lsts) ⟨trivial, trivial, trivial, by simp only [Tm.depth]; omega, by simp only [Tm.parts]; omega, rfl, by simp only [Tm.choices]; omega⟩
        · refine ⟨sz (by show 1 ≤ 100000; decide), fun r hr' => ?_⟩
          have s8 := same_upd (o := .tup [.str "now"]) hr'
          have W8 := W1.sm s8
          have ht8 : TrAt (upd H1 r (.tup [.str "now"])) .now r := upd_same
          refine ⟨_, rfl, b, c, _, rfl, W8.all, fun i H9 W9 _ _ => ?_⟩
          refine shiftEnd W8.allS W9 (ht8.mn W8.lsts) trivial fun r' G' H' sG WG hr'' => ?_
          obtain ⟨p1, p2, p3, p4, p5, p6, p7⟩ := plus_ok .now i
          simp only [Tm.depth, Tm.parts, Tm.looks, Tm.choices] at p1 p2 p3 p4
          exact q _ r' G' H' sG WG hr'' ⟨p5 trivial, p6 trivial, p7 zs trivial, by omega, by omega, p3, by omega⟩
end
end Pl

namespace Pl
open PySem L2
section
variable {P : Program} {w : World} {K : PySem.W.Frag} {mg : Str → Option Value} {base : Heap}
theorem Txt.addB (T : Txt P K mg) (t : Tm) : BinI K (t.cls T.ca) T.Term_add.f .Add := by
  cases t
  · exact T.b_Now_Add
  · exact T.b_Shift_Add
  · exact T.b_Look_Add
  · exact T.b_Either_Add
  · exact T.b_Later_Add
  · exact T.b_Earlier_Add
/-- _law_term -/
def spTermL (T : Txt P K mg) (n : Nat) : Sp := fun vs H Q _ => ∃ (t : Tm) (a : Addr), vs = [.ref a] ∧ TrAt H t a ∧ t.depth ≤ n ∧ t.wf ∧ t.norm ∧ t.fits ∧ ∀ r H', Same H H' → TmAt T.ca H' t r → Q (.ref r) H'
theorem plus_shift {m : Tm} {n : Int} (h0 : n ≠ 0) (h : m.isShift = false) : m.plus n = .shift m n := by
  cases m with
  | shift => cases h
  | _ => simp only [Tm.plus]; rw [if_neg h0]
theorem word_ne {t : Tm} {z : Str} (h : t.word ≠ z) : decide (V.str t.word = V.str z) = false := by
  rw [dstr]
  exact decide_eq_false h
theorem ok_law_term (T : Txt P K mg) {k : Nat} : ∀ n, FnOk P w K mg base CX0 (k + 7 + n) T.law_term.f T.law_term.fd ["_law_tree_here"] (spTermL T n)
  | 0 => T.law_term.F.ok (k := k + 6) sc_law_term (fun vs H Q E h => by obtain ⟨t, _, _, _, h, _⟩ := h; have := depth_pos t; omega) (fun _ _ _ _ _ _ _ _ _ h => by obtain ⟨t, _, _, _, h, _⟩ := h; have := depth_pos t; omega)
  | n + 1 => by
    have G_law_term : FnOk P w K mg base CX0 (k + 7 + n) T.law_term.f T.law_term.fd ["_law_tree_here"] (spTermL T n) := ok_law_term T n
    have G_add : FnR P w K mg base CX0 (k + 5) T.Term_add.f (spTAdd T 1) := ok_term_add T
    have G_or : FnR P w K mg base CX0 (k + 4) T.Term_or.f (spJoin T .either) := ok_term_or T
    have G_later : ∀ _ : Unit, FnR P w K mg base CX0 (k + 4) T.Term_later.f (spJoin T .later) := fun _ => ok_term_later T
    have G_earlier : ∀ _ : Unit, FnR P w K mg base CX0 (k + 4) T.Term_earlier.f (spJoin T .earlier) := fun _ => ok_term_earlier T
    have G_Now_init : FnR P w K mg base CX0 (k + 2) T.Now_init.f (spNowInit T) := ok_now_init T
    obtain ⟨fdL, G_Look_init, B_Look_init⟩ := ok_look_init (P := P) (w := w) (base := base) T (k := k)
    refine T.law_term.F.ok (k := k + 7 + n) sc_law_term (fun vs H Q E h => ?_) (fun cdv A outer s H vs Q E hr h => ?_)
    · obtain ⟨t, a, rfl, _⟩ := h
      rfl
    · obtain ⟨t, a, rfl, ht, hd, hw, hn, hf, q⟩ := h
      refine ⟨_, (pss_cons (ps_if (pt_cmpR op_eq (pe_ix ix_tup (pv 0) pe_int (fun _ _ => rfl)) pe_str (nomark _)) (pss_one (ps_ret (pe_makeR0 T.mk_Now G_Now_init (hr.mono (by omega)) (by rfl) T.g_Now pass0))) pss_nil)
  (pss_cons (ps_if (pt_cmpR op_eq (pe_ix ix_tup (pv 0) pe_int (fun _ _ => rfl)) pe_str (nomark _)) (pss_one (ps_ret (pe_op (op_binI G_add (hr.mono (by omega)) pass0) (pe_call G_law_term (hr.mono (by omega)) (by rfl) T.law_term.g T.law_term.F.kp T.law_term.b .nil pass0 (pa_cons (pe_ix ix_tup (pv 0) pe_int (fun _ _ => rfl)) pa_nil)) (pe_ix ix_tup (pv 0) pe_int (fun _ _ => rfl))))) pss_nil)
  (pss_cons (ps_if (pt_cmpR op_eq (pe_ix ix_tup (pv 0) pe_int (fun _ _ => rfl)) pe_str (nomark _)) (pss_one (ps_ret (pe_makeK (n := 3) T.mk_Look G_Look_init (hr.mono (by omega)) (by rfl) T.g_Look B_Look_init pass0 (pa_cons (pe_ix ix_tup (pv 0) pe_int (fun _ _ => rfl)) (pa_cons (pe_call G_law_term (hr.mono (by omega)) (by rfl) T.law_term.g T.law_term.F.kp T.law_term.b .nil pass0 (pa_cons (pe_ix ix_tup (pv 0) pe_int (fun _ _ => rfl)) pa_nil)) (pa_cons (pe_ix ix_tup (pv 0) pe_int (fun _ _ => rfl)) pa_nil))) (pk_cons (pe_ix ix_tup (pv 0) pe_int (fun _ _ => rfl)) pk_nil)))) pss_nil)
  (pss_cons (ps_set (i := 1) sc_law_term.nd rfl (.inl rfl) (pe_call G_law_term (hr.mono (by omega)) (by rfl) T.law_term.g T.law_term.F.kp T.law_term.b .nil pass0 (pa_cons (pe_ix ix_tup (pv 0) pe_int (fun _ _ => rfl)) pa_nil)))
  (pss_cons (ps_set (i := 2) sc_law_term.nd rfl (.inl rfl) (pe_call G_law_term (hr.mono (by omega)) (by rfl) T.law_term.g T.law_term.F.kp T.law_term.b .nil pass0 (pa_cons (pe_ix ix_tup (pv 0) pe_int (fun _ _ => rfl)) pa_nil)))
  (pss_cons (ps_if (pt_cmpR op_eq (pe_ix ix_tup (pv 0) pe_int (fun _ _ => rfl)) pe_str (nomark _)) (pss_one (ps_ret (pe_op (op_binO G_or (hr.mono (by omega)) pass0) (pv 1) (pv 2)))) pss_nil)
  (pss_cons (ps_if (pt_cmpR op_eq (pe_ix ix_tup (pv 0) pe_int (fun _ _ => rfl)) pe_str (nomark _)) (pss_one (ps_ret (pe_methV (pv 1) G_later (hr.mono (by omega)) pass0 (pa_cons (pv 2) pa_nil)))) pss_nil)
  (pss_one (ps_ret (pe_methV (pv 1) G_earlier (hr.mono (by omega)) pass0 (pa_cons (pv 2) pa_nil))))))))))), ?_⟩
      obtain ⟨xs, ho⟩ := ht.obj
      refine ⟨_, rfl, a, _, 0, .str t.word, rfl, rfl, SqT.of ho, at_ix (by decide) rfl, rfl, _, rfl, ?_⟩
      obtain ⟨f1, f2, f3⟩ := hf
      cases t with
      | now =>
        refine iT rfl fun x dx hx hdx _ => ?_
        exact ⟨H, x, dx, rfl, mk_same hx hdx, hx, upd_same, fun H' s' h' => ⟨rfl, q x H' s' h'⟩⟩
      | shift m i =>
        obtain ⟨b, ha, hm⟩ := ht
        simp only [Tm.depth] at hd f1
        simp only [Tm.parts] at f2
        simp only [Tm.looks] at f3
        refine iF (word_ne (by simp only [Tm.word]; decide)) ⟨_, rfl, a, _, 0, _, rfl, rfl, SqT.of ho, at_ix (by decide) rfl, rfl, _, rfl, iT rfl ?_⟩
        refine ⟨_, rfl, a, _, 2, .ref b, rfl, rfl, SqT.of ha, at_ix (by decide) rfl, m, b, rfl, hm, by omega, hw, hn.2.2, ⟨by omega, by omega, by omega⟩, fun r H1 s1 h1 => ?_⟩
        refine ⟨_, rfl, a, _, 1, .int i, rfl, rfl, SqT.of (s1 _ _ ha), at_ix (by decide) rfl, ?_⟩
        obtain ⟨dx, fs, hr0, _⟩ := h1.obj
        refine ⟨r, _, dx, fs, i, rfl, rfl, hr0, T.addB m, m, r, i, rfl, h1, ?_, fun r2 H2 s2 h2 => ?_⟩
        · rw [Int.one_mul, plus_shift hn.1 hn.2.1]
          exact ⟨by simp only [Tm.depth]; omega, by simp only [Tm.parts]; omega, by simp only [Tm.looks]; omega⟩
        · rw [Int.one_mul, plus_shift hn.1 hn.2.1] at h2
          exact q r2 H2 (s1.trans s2) h2
      | look z m wy lim =>
        obtain ⟨b, ha, hm⟩ := ht
        have hfit : (Tm.look z m wy lim).fits := ⟨f1, f2, f3⟩
        simp only [Tm.depth] at hd f1
        simp only [Tm.parts] at f2
        simp only [Tm.looks] at f3
        refine iF (word_ne (by simp only [Tm.word]; decide)) ⟨_, rfl, a, _, 0, _, rfl, rfl, SqT.of ho, at_ix (by decide) rfl, rfl, _, rfl, iF (word_ne (by simp only [Tm.word]; decide)) ?_⟩
        refine ⟨_, rfl, a, _, 0, _, rfl, rfl, SqT.of ho, at_ix (by decide) rfl, rfl, _, rfl, iT rfl ?_⟩
        refine ⟨_, rfl, a, _, 1, .str z, rfl, rfl, SqT.of ha, at_ix (by decide) rfl, ?_⟩
        refine ⟨_, rfl, a, _, 4, .ref b, rfl, rfl, SqT.of ha, at_ix (by decide) rfl, m, b, rfl, hm, by omega, hw.2.2.2, hn, ⟨by omega, by omega, by omega⟩, fun r H1 s1 h1 => ?_⟩
        refine ⟨_, rfl, a, _, 2, .str wy, rfl, rfl, SqT.of (s1 _ _ ha), at_ix (by decide) rfl, ?_⟩
        refine ⟨_, rfl, a, _, 3, oV lim, rfl, rfl, SqT.of (s1 _ _ ha), at_ix (by decide) rfl, rfl, rfl, fun x dx hx hdx _ => ?_⟩
        exact ⟨H1, m, z, wy, lim, x, r, dx, rfl, mk_same hx hdx, hx, h1, hw.1, hw.2.1, hw.2.2.1, hfit, upd_same, fun H' s' h' => ⟨rfl, q x H' (s1.trans s') h'⟩⟩
      | either t1 t2 =>
        obtain ⟨b, d, ha, h1, h2⟩ := ht
        have hfit : (Tm.either t1 t2).fits := ⟨f1, f2, f3⟩
        simp only [Tm.depth] at hd f1
        simp only [Tm.parts] at f2
        simp only [Tm.looks] at f3
        refine iF (word_ne (by simp only [Tm.word]; decide)) ⟨_, rfl, a, _, 0, _, rfl, rfl, SqT.of ho, at_ix (by decide) rfl, rfl, _, rfl, iF (word_ne (by simp only [Tm.word]; decide)) ?_⟩
        refine ⟨_, rfl, a, _, 0, _, rfl, rfl, SqT.of ho, at_ix (by decide) rfl, rfl, _, rfl, iF (word_ne (by simp only [Tm.word]; decide)) ?_⟩
        refine ⟨_, rfl, a, _, 1, .ref b, rfl, rfl, SqT.of ha, at_ix (by decide) rfl, t1, b, rfl, h1, by omega, hw.1, hn.1, ⟨by omega, by omega, by omega⟩, fun r1 H1 s1 g1 => ?_⟩
        refine ⟨_, rfl, a, _, 2, .ref d, rfl, rfl, SqT.of (s1 _ _ ha), at_ix (by decide) rfl, t2, d, rfl, h2.same s1, by omega, hw.2, hn.2, ⟨by omega, by omega, by omega⟩, fun r2 H2 s2 g2 => ?_⟩
        have s12 := s1.trans s2
        refine ⟨_, rfl, a, _, 0, _, rfl, rfl, SqT.of (s12 _ _ ho), at_ix (by decide) rfl, rfl, _, rfl, iT rfl ?_⟩
        obtain ⟨dx1, fs1, hr1, _⟩ := (g1.same s2).obj
        obtain ⟨dx2, fs2, hr2, _⟩ := g2.obj
        exact ⟨_, rfl, _, rfl, r1, _, dx1, fs1, r2, _, dx2, fs2, rfl, rfl, hr1, hr2, T.bc t1, T.bc t2, T.sb t1 t2, t1, t2, r1, r2, rfl, g1.same s2, g2, hfit, fun r H3 s3 g3 => q r H3 (s12.trans s3) g3⟩
      | later t1 t2 =>
        obtain ⟨b, d, ha, h1, h2⟩ := ht
        have hfit : (Tm.later t1 t2).fits := ⟨f1, f2, f3⟩
        simp only [Tm.depth] at hd f1
        simp only [Tm.parts] at f2
        simp only [Tm.looks] at f3
        refine iF (word_ne (by simp only [Tm.word]; decide)) ⟨_, rfl, a, _, 0, _, rfl, rfl, SqT.of ho, at_ix (by decide) rfl, rfl, _, rfl, iF (word_ne (by simp only [Tm.word]; decide)) ?_⟩
        refine ⟨_, rfl, a, _, 0, _, rfl, rfl, SqT.of ho, at_ix (by decide) rfl, rfl, _, rfl, iF (word_ne (by simp only [Tm.word]; decide)) ?_⟩
        refine ⟨_, rfl, a, _, 1, .ref b, rfl, rfl, SqT.of ha, at_ix (by decide) rfl, t1, b, rfl, h1, by omega, hw.1, hn.1, ⟨by omega, by omega, by omega⟩, fun r1 H1 s1 g1 => ?_⟩
        refine ⟨_, rfl, a, _, 2, .ref d, rfl, rfl, SqT.of (s1 _ _ ha), at_ix (by decide) rfl, t2, d, rfl, h2.same s1, by omega, hw.2, hn.2, ⟨by omega, by omega, by omega⟩, fun r2 H2 s2 g2 => ?_⟩
        have s12 := s1.trans s2
        refine ⟨_, rfl, a, _, 0, _, rfl, rfl, SqT.of (s12 _ _ ho), at_ix (by decide) rfl, rfl, _, rfl, iF (word_ne (by simp only [Tm.word]; decide)) ?_⟩
        refine ⟨_, rfl, a, _, 0, _, rfl, rfl, SqT.of (s12 _ _ ho), at_ix (by decide) rfl, rfl, _, rfl, iT rfl ?_⟩
        obtain ⟨dx1, fs1, hr1, l1, _⟩ := (g1.same s2).ins
        exact ⟨_, rfl, r1, _, dx1, fs1, (), rfl, hr1, l1, (T.kc t1).o.cl, T.laterM t1, _, rfl, t1, t2, r1, r2, rfl, g1.same s2, g2, hfit, fun r H3 s3 g3 => q r H3 (s12.trans s3) g3⟩
      | earlier t1 t2 =>
        obtain ⟨b, d, ha, h1, h2⟩ := ht
        have hfit : (Tm.earlier t1 t2).fits := ⟨f1, f2, f3⟩
        simp only [Tm.depth] at hd f1
        simp only [Tm.parts] at f2
        simp only [Tm.looks] at f3
        refine iF (word_ne (by simp only [Tm.word]; decide)) ⟨_, rfl, a, _, 0, _, rfl, rfl, SqT.of ho, at_ix (by decide) rfl, rfl, _, rfl, iF (word_ne (by simp only [Tm.word]; decide)) ?_⟩
        refine ⟨_, rfl, a, _, 0, _, rfl, rfl, SqT.of ho, at_ix (by decide) rfl, rfl, _, rfl, iF (word_ne (by simp only [Tm.word]; decide)) ?_⟩
        refine ⟨_, rfl, a, _, 1, .ref b, rfl, rfl, SqT.of ha, at_ix (by decide) rfl, t1, b, rfl, h1, by omega, hw.1, hn.1, ⟨by omega, by omega, by omega⟩, fun r1 H1 s1 g1 => ?_⟩
        refine ⟨_, rfl, a, _, 2, .ref d, rfl, rfl, SqT.of (s1 _ _ ha), at_ix (by decide) rfl, t2, d, rfl, h2.same s1, by omega, hw.2, hn.2, ⟨by omega, by omega, by omega⟩, fun r2 H2 s2 g2 => ?_⟩
        have s12 := s1.trans s2
        refine ⟨_, rfl, a, _, 0, _, rfl, rfl, SqT.of (s12 _ _ ho), at_ix (by decide) rfl, rfl, _, rfl, iF (word_ne (by simp only [Tm.word]; decide)) ?_⟩
        refine ⟨_, rfl, a, _, 0, _, rfl, rfl, SqT.of (s12 _ _ ho), at_ix (by decide) rfl, rfl, _, rfl, iF (word_ne (by simp only [Tm.word]; decide)) ?_⟩
        obtain ⟨dx1, fs1, hr1, _, l1, _⟩ := (g1.same s2).ins
        exact ⟨_, rfl, r1, _, dx1, fs1, (), rfl, hr1, l1, (T.kc t1).o.cl, T.earlierM t1, _, rfl, t1, t2, r1, r2, rfl, g1.same s2, g2, hfit, fun r H3 s3 g3 => q r H3 (s12.trans s3) g3⟩
end
end Pl

namespace Pl
open PySem L2
local macro_rules | `(tactic| bv_omega) => `(tactic| try simp only [pVar, pC, pTy, pCl, pNil, pCons, pOp, pUn, pCB, pI, pIC, pIB, pNeg, eqS, pEq, isNonS, pIsN, pIx, tvs, pTup, pLst, pTest, pAnd, pOr, pNot, pAndV, pOrV, pNotV, pIf, pChain, Sx.sl, Sx.tv, Sx.sq, Sx.dq, Sx.tq, Sx.rt, Sx.sqv, Sx.it, Sx.ar, Option.map_some, Option.bind_some, pgName, pgNil, pgCons, pgTup, piList, piTup, piSeq, piRange1, piRange2, piKeys, piItems, ars, pSp, pLen, tyOf, kb, pIsi, intsT, strsT, intsT_map, strsT_map, blsT_map, pIn, pInG, pNoPart, pPart, pSl, pRev, pAddG, pMulG, pAbs, p2I, pInt1, pBool1, pStrI, pListOf, pTupleOf, ints1, pSum, pSortedI, pMax, pMin, bls1, pAll, pAny, pEqG, pJoin, pDNew, pDGet, pDGet2, pDIn, Tv.key, pPick, pYes, kT, at0, at1, at2, at3, at4, exists_eq_left', Option.some.injEq, List.getElem?_cons_zero, List.getElem?_cons_succ, List.set_cons_zero, List.set_cons_succ, stS, Ar.sl, List.map_cons, List.map_nil, List.length_cons, List.length_nil, List.replicate_succ, List.replicate_zero, List.nil_append, List.cons_append, Nat.reduceSub, Nat.reduceAdd, wipeS, Bool.false_xor, Bool.true_xor, Bool.false_eq_true, if_true, if_false, decide_eq_true_eq, and_true, true_and, Bool.not_true, Bool.not_false, Bool.not_eq_true', decide_eq_false_iff_not, Nat.zero_le, Nat.reduceLeDiff, Int.reduceLT, Int.reduceLE, Int.reduceEq, Int.reduceNeg, Int.reducePow, Int.reduceAdd, Int.reduceSub, Nat.reduceMul, rgT_len, String.reduceBEq, beq_self_eq_true, Bool.or_false, Bool.false_or, Bool.true_or, Bool.or_true, Bool.or_self, ite_true, ite_false, ite_self, Int.zero_add, Bool.true_eq_false, reduceCtorEq, Function.comp_apply, unS, unSl_lkd, unSl_pvd, unSl_val, unSl_own, unSl_owd, unSl_box, unSl_any, pDisp, pDs0, pDs1, kvT, unSl_odl, pSortD, keyStrs_map, pRef, pXC, unSl_tab])
local macro_rules | `(tactic| injections) => `(tactic| first
  | with_reducible refine s_seq ?_
  | with_reducible refine s_set ?_
  | with_reducible refine s_asg ?_
  | with_reducible refine s_if ?_
  | with_reducible refine s_ret ?_
  | with_reducible refine s_retN ?_
  | with_reducible refine s_next ?_
  | with_reducible refine s_for ?_
  | with_reducible refine s_break ?_
  | with_reducible refine s_cont ?_
  | with_reducible refine s_append (by first | with_unfolding_all rfl | assumption) (by with_unfolding_all first | omega | (simp only [List.length_map, List.length_append, List.length_cons, List.length_nil]; omega)) ?_
  | with_reducible refine s_drop ?_
  | with_reducible refine s_setF (by with_unfolding_all rfl) ?_
  | with_reducible refine s_asgF (by with_unfolding_all rfl) ?_
  | with_reducible refine s_ifF (by with_unfolding_all rfl) ?_
  | with_reducible refine s_retF (by with_unfolding_all rfl) ?_
  | with_reducible refine s_ifN ?_
  | with_reducible refine s_setN ?_)
local macro_rules | `(tactic| subst_vars) => `(tactic| ((try simp only [pVar, pC, pTy, pCl, pNil, pCons, pOp, pUn, pCB, pI, pIC, pIB, pNeg, eqS, pEq, isNonS, pIsN, pIx, tvs, pTup, pLst, pTest, pAnd, pOr, pNot, pAndV, pOrV, pNotV, pIf, pChain, Sx.sl, Sx.tv, Sx.sq, Sx.dq, Sx.tq, Sx.rt, Sx.sqv, Sx.it, Sx.ar, Option.map_some, Option.bind_some, pgName, pgNil, pgCons, pgTup, piList, piTup, piSeq, piRange1, piRange2, piKeys, piItems, ars, pSp, pLen, tyOf, kb, pIsi, intsT, strsT, intsT_map, strsT_map, blsT_map, pIn, pInG, pNoPart, pPart, pSl, pRev, pAddG, pMulG, pAbs, p2I, pInt1, pBool1, pStrI, pListOf, pTupleOf, ints1, pSum, pSortedI, pMax, pMin, bls1, pAll, pAny, pEqG, pJoin, pDNew, pDGet, pDGet2, pDIn, Tv.key, pPick, pYes, kT, at0, at1, at2, at3, at4, exists_eq_left', Option.some.injEq, List.getElem?_cons_zero, List.getElem?_cons_succ, List.set_cons_zero, List.set_cons_succ, stS, Ar.sl, List.map_cons, List.map_nil, List.length_cons, List.length_nil, List.replicate_succ, List.replicate_zero, List.nil_append, List.cons_append, Nat.reduceSub, Nat.reduceAdd, wipeS, Bool.false_xor, Bool.true_xor, Bool.false_eq_true, if_true, if_false, decide_eq_true_eq, and_true, true_and, Bool.not_true, Bool.not_false, Bool.not_eq_true', decide_eq_false_iff_not, Nat.zero_le, Nat.reduceLeDiff, Int.reduceLT, Int.reduceLE, Int.reduceEq, Int.reduceNeg, Int.reducePow, Int.reduceAdd, Int.reduceSub, Nat.reduceMul, rgT_len, String.reduceBEq, beq_self_eq_true, Bool.or_false, Bool.false_or, Bool.true_or, Bool.or_true, Bool.or_self, ite_true, ite_false, ite_self, Int.zero_add, Bool.true_eq_false, reduceCtorEq, Function.comp_apply, unS, unSl_lkd, unSl_pvd, unSl_val, unSl_own, unSl_owd, unSl_box, unSl_any, pDisp, pDs0, pDs1, kvT, unSl_odl, pSortD, keyStrs_map, pRef, pXC, unSl_tab]) <;> repeat ((first
  | with_reducible refine s_seq ?_
  | with_reducible refine s_set ?_
  | with_reducible refine s_asg ?_
  | with_reducible refine s_if ?_
  | with_reducible refine s_ret ?_
  | with_reducible refine s_retN ?_
  | with_reducible refine s_next ?_
  | with_reducible refine s_break ?_
  | with_reducible refine s_cont ?_
  | with_reducible refine s_append (by first | with_unfolding_all rfl | assumption) (by with_unfolding_all first | omega | (simp only [List.length_map, List.length_append, List.length_cons, List.length_nil]; omega)) ?_
  | with_reducible refine s_drop ?_
  | with_reducible refine s_setF (by with_unfolding_all rfl) ?_
  | with_reducible refine s_asgF (by with_unfolding_all rfl) ?_
  | with_reducible refine s_ifF (by with_unfolding_all rfl) ?_
  | with_reducible refine s_retF (by with_unfolding_all rfl) ?_
  | with_reducible refine s_ifN ?_
  | with_reducible refine s_setN ?_) <;> try simp only [pVar, pC, pTy, pCl, pNil, pCons, pOp, pUn, pCB, pI, pIC, pIB, pNeg, eqS, pEq, isNonS, pIsN, pIx, tvs, pTup, pLst, pTest, pAnd, pOr, pNot, pAndV, pOrV, pNotV, pIf, pChain, Sx.sl, Sx.tv, Sx.sq, Sx.dq, Sx.tq, Sx.rt, Sx.sqv, Sx.it, Sx.ar, Option.map_some, Option.bind_some, pgName, pgNil, pgCons, pgTup, piList, piTup, piSeq, piRange1, piRange2, piKeys, piItems, ars, pSp, pLen, tyOf, kb, pIsi, intsT, strsT, intsT_map, strsT_map, blsT_map, pIn, pInG, pNoPart, pPart, pSl, pRev, pAddG, pMulG, pAbs, p2I, pInt1, pBool1, pStrI, pListOf, pTupleOf, ints1, pSum, pSortedI, pMax, pMin, bls1, pAll, pAny, pEqG, pJoin, pDNew, pDGet, pDGet2, pDIn, Tv.key, pPick, pYes, kT, at0, at1, at2, at3, at4, exists_eq_left', Option.some.injEq, List.getElem?_cons_zero, List.getElem?_cons_succ, List.set_cons_zero, List.set_cons_succ, stS, Ar.sl, List.map_cons, List.map_nil, List.length_cons, List.length_nil, List.replicate_succ, List.replicate_zero, List.nil_append, List.cons_append, Nat.reduceSub, Nat.reduceAdd, wipeS, Bool.false_xor, Bool.true_xor, Bool.false_eq_true, if_true, if_false, decide_eq_true_eq, and_true, true_and, Bool.not_true, Bool.not_false, Bool.not_eq_true', decide_eq_false_iff_not, Nat.zero_le, Nat.reduceLeDiff, Int.reduceLT, Int.reduceLE, Int.reduceEq, Int.reduceNeg, Int.reducePow, Int.reduceAdd, Int.reduceSub, Nat.reduceMul, rgT_len, String.reduceBEq, beq_self_eq_true, Bool.or_false, Bool.false_or, Bool.true_or, Bool.or_true, Bool.or_self, ite_true, ite_false, ite_self, Int.zero_add, Bool.true_eq_false, reduceCtorEq, Function.comp_apply, unS, unSl_lkd, unSl_pvd, unSl_val, unSl_own, unSl_owd, unSl_box, unSl_any, pDisp, pDs0, pDs1, kvT, unSl_odl, pSortD, keyStrs_map, pRef, pXC, unSl_tab])))
-- USE PL
section
variable {fw : Bool} {P : Program} {w : World} {K : PySem.W.Frag} {mg : Str → Option Value} {base : Heap}
def oT : Option Int → Tv
  | none => .non
  | some i => .int i
theorem oT_rep {H : Hp} {o : Option Int} {v : V} : Rep H (oT o) v ↔ v = oV o := by cases o <;> exact Iff.rfl
/-- a tree of the law as a value -/
def trT : Tm → Tv
  | .now => .tup [.str "now"]
  | .shift m n => .tup [.str "shift", .int n, trT m]
  | .look s m wy lim => .tup [.str "look", .str s, .str wy, oT lim, trT m]
  | .either a b => .tup [.str "either", trT a, trT b]
  | .later a b => .tup [.str "later", trT a, trT b]
  | .earlier a b => .tup [.str "earlier", trT a, trT b]
theorem rep_cons {H : Hp} {x : Tv} {xs : List Tv} {us : List V} : RepL H (x :: xs) us ↔ ∃ u r, us = u :: r ∧ Rep H x u ∧ RepL H xs r := Iff.rfl
theorem tr_to {H : Hp} : ∀ {t : Tm} {a : Addr}, TrAt H t a → Rep H (trT t) (.ref a)
  | .now, a, h => ⟨a, _, rfl, h, _, _, rfl, rfl, rfl⟩
  | .shift m n, a, ⟨b, h, h1⟩ => ⟨a, _, rfl, h, _, _, rfl, rfl, _, _, rfl, rfl, _, _, rfl, tr_to h1, rfl⟩
  | .look s m wy lim, a, ⟨b, h, h1⟩ => ⟨a, _, rfl, h, _, _, rfl, rfl, _, _, rfl, rfl, _, _, rfl, rfl, _, _, rfl, oT_rep.mpr rfl, _, _, rfl, tr_to h1, rfl⟩
  | .either x y, a, ⟨b, d, h, h1, h2⟩ => ⟨a, _, rfl, h, _, _, rfl, rfl, _, _, rfl, tr_to h1, _, _, rfl, tr_to h2, rfl⟩
  | .later x y, a, ⟨b, d, h, h1, h2⟩ => ⟨a, _, rfl, h, _, _, rfl, rfl, _, _, rfl, tr_to h1, _, _, rfl, tr_to h2, rfl⟩
  | .earlier x y, a, ⟨b, d, h, h1, h2⟩ => ⟨a, _, rfl, h, _, _, rfl, rfl, _, _, rfl, tr_to h1, _, _, rfl, tr_to h2, rfl⟩
theorem tr_ref {H : Hp} {t : Tm} {v : V} (h : Rep H (trT t) v) : ∃ a, v = .ref a := by
  cases t <;> (obtain ⟨a, us, rfl, _⟩ := h; exact ⟨a, rfl⟩)
theorem tr_of {H : Hp} : ∀ {t : Tm} {a : Addr}, Rep H (trT t) (.ref a) → TrAt H t a
  | .now, a, h => by
    obtain ⟨a', us, e, h1, u, r, rfl, rfl, rfl⟩ := h
    cases e
    exact h1
  | .shift m n, a, h => by
    obtain ⟨a', us, e, h1, u, r, rfl, rfl, u2, r2, rfl, rfl, u3, r3, rfl, h3, rfl⟩ := h
    cases e
    obtain ⟨b, rfl⟩ := tr_ref h3
    exact ⟨b, h1, tr_of h3⟩
  | .look s m wy lim, a, h => by
    obtain ⟨a', us, e, h1, u, r, rfl, rfl, u2, r2, rfl, rfl, u3, r3, rfl, rfl, u4, r4, rfl, h4, u5, r5, rfl, h5, rfl⟩ := h
    cases e
    obtain ⟨b, rfl⟩ := tr_ref h5
    cases oT_rep.mp h4
    exact ⟨b, h1, tr_of h5⟩
  | .either x y, a, h => by
    obtain ⟨a', us, e, h1, u, r, rfl, rfl, u2, r2, rfl, h2, u3, r3, rfl, h3, rfl⟩ := h
    cases e
    obtain ⟨b, rfl⟩ := tr_ref h2
    obtain ⟨d, rfl⟩ := tr_ref h3
    exact ⟨b, d, h1, tr_of h2, tr_of h3⟩
  | .later x y, a, h => by
    obtain ⟨a', us, e, h1, u, r, rfl, rfl, u2, r2, rfl, h2, u3, r3, rfl, h3, rfl⟩ := h
    cases e
    obtain ⟨b, rfl⟩ := tr_ref h2
    obtain ⟨d, rfl⟩ := tr_ref h3
    exact ⟨b, d, h1, tr_of h2, tr_of h3⟩
  | .earlier x y, a, h => by
    obtain ⟨a', us, e, h1, u, r, rfl, rfl, u2, r2, rfl, h2, u3, r3, rfl, h3, rfl⟩ := h
    cases e
    obtain ⟨b, rfl⟩ := tr_ref h2
    obtain ⟨d, rfl⟩ := tr_ref h3
    exact ⟨b, d, h1, tr_of h2, tr_of h3⟩
theorem tr_at {H : Hp} {t : Tm} {v : V} (h : Rep H (trT t) v) : ∃ a, v = .ref a ∧ TrAt H t a := by
  obtain ⟨a, rfl⟩ := tr_ref h
  exact ⟨a, rfl, tr_of h⟩
theorem TmAt.sm {c : CA} {H H' : Hp} (s : Sm H H') : ∀ {t : Tm} {a : Addr}, TmAt c H t a → TmAt c H' t a
  | .now, _, ⟨dx, h⟩ => ⟨dx, s.ins h⟩
  | .shift _ _, _, ⟨dx, b, h, h1⟩ => ⟨dx, b, s.ins h, h1.sm s⟩
  | .look _ _ _ _, _, ⟨dx, b, h, h1⟩ => ⟨dx, b, s.ins h, h1.sm s⟩
  | .either _ _, _, ⟨dx, b, d, h, h1, h2⟩ => ⟨dx, b, d, s.ins h, h1.sm s, h2.sm s⟩
  | .later _ _, _, ⟨dx, b, d, h, h1, h2⟩ => ⟨dx, b, d, s.ins h, h1.sm s, h2.sm s⟩
  | .earlier _ _, _, ⟨dx, b, d, h, h1, h2⟩ => ⟨dx, b, d, s.ins h, h1.sm s, h2.sm s⟩
theorem TmAt.insm {c : CA} {H H' : Hp} (s : ∀ a C d (fs : List (Str × V)), fs.lookup ("farthest" : Str) = none → H a = some (.ins C d fs) → H' a = some (.ins C d fs)) : ∀ {t : Tm} {a : Addr}, TmAt c H t a → TmAt c H' t a
  | .now, _, ⟨dx, h⟩ => ⟨dx, s _ _ _ _ rfl h⟩
  | .shift _ _, _, ⟨dx, b, h, h1⟩ => ⟨dx, b, s _ _ _ _ rfl h, h1.insm s⟩
  | .look _ _ _ _, _, ⟨dx, b, h, h1⟩ => ⟨dx, b, s _ _ _ _ rfl h, h1.insm s⟩
  | .either _ _, _, ⟨dx, b, d, h, h1, h2⟩ => ⟨dx, b, d, s _ _ _ _ rfl h, h1.insm s, h2.insm s⟩
  | .later _ _, _, ⟨dx, b, d, h, h1, h2⟩ => ⟨dx, b, d, s _ _ _ _ rfl h, h1.insm s, h2.insm s⟩
  | .earlier _ _, _, ⟨dx, b, d, h, h1, h2⟩ => ⟨dx, b, d, s _ _ _ _ rfl h, h1.insm s, h2.insm s⟩
theorem TmAt.insw {c : CA} {H : Hp} : ∀ {t : Tm} {a : Addr}, TmAt c H t a → ∃ dx fs, H a = some (.ins (t.cls c) dx fs) ∧ fs.lookup ("with_child" : Str) = none ∧ fs.lookup ("with_part" : Str) = none ∧ fs.lookup ("part_at" : Str) = none
  | .now, _, ⟨dx, h⟩ => ⟨dx, _, h, rfl, rfl, rfl⟩
  | .shift _ _, _, ⟨dx, b, h, h1⟩ => ⟨dx, _, h, rfl, rfl, rfl⟩
  | .look _ _ _ _, _, ⟨dx, b, h, h1⟩ => ⟨dx, _, h, rfl, rfl, rfl⟩
  | .either _ _, _, ⟨dx, b, d, h, h1, h2⟩ => ⟨dx, _, h, rfl, rfl, rfl⟩
  | .later _ _, _, ⟨dx, b, d, h, h1, h2⟩ => ⟨dx, _, h, rfl, rfl, rfl⟩
  | .earlier _ _, _, ⟨dx, b, d, h, h1, h2⟩ => ⟨dx, _, h, rfl, rfl, rfl⟩
theorem TrAt.tupm {H H' : Hp} (s : ∀ a us, H a = some (.tup us) → H' a = some (.tup us)) : ∀ {t : Tm} {a : Addr}, TrAt H t a → TrAt H' t a
  | .now, _, h => s _ _ h
  | .shift _ _, _, ⟨b, h, h1⟩ => ⟨b, s _ _ h, h1.tupm s⟩
  | .look _ _ _ _, _, ⟨b, h, h1⟩ => ⟨b, s _ _ h, h1.tupm s⟩
  | .either _ _, _, ⟨b, d, h, h1, h2⟩ => ⟨b, d, s _ _ h, h1.tupm s, h2.tupm s⟩
  | .later _ _, _, ⟨b, d, h, h1, h2⟩ => ⟨b, d, s _ _ h, h1.tupm s, h2.tupm s⟩
  | .earlier _ _, _, ⟨b, d, h, h1, h2⟩ => ⟨b, d, s _ _ h, h1.tupm s, h2.tupm s⟩
/-- a term -/
def semTm (T : Txt P K mg) (t : Tm) : TvSem := ⟨fun H v => ∃ a, v = .ref a ∧ TmAt T.ca H t a, fun s h => by
  obtain ⟨a, rfl, h⟩ := h
  exact ⟨a, rfl, h.sm s⟩, fun h => by
  obtain ⟨a, rfl, h⟩ := h
  exact ⟨a, rfl, h.insm fun a C d fs _ e => kt_at e fun _ z => nomatch z⟩⟩
def tmT (T : Txt P K mg) (t : Tm) : Tv := .ext (semTm T t)
theorem tm_kn {T : Txt P K mg} {B : Bx} {O0 O : List Addr} {Hs Kb H : Hp} {t : Tm} {a : Addr} (w : Wl B O0 O Hs Kb H) (h : TmAt T.ca H t a) : Rep (kn B O H) (tmT T t) (.ref a) := ⟨a, rfl, h.insm fun a C d fs n e => w.other e (nLD_ins n)⟩
theorem tr_kn {B : Bx} {O0 O : List Addr} {Hs Kb H : Hp} {t : Tm} {a : Addr} (w : Wl B O0 O Hs Kb H) (h : TrAt H t a) : Rep (kn B O H) (trT t) (.ref a) := tr_to (h.tupm fun a us e => w.other e nLD_tup)
theorem kn_mnG {B : Bx} {O : List Addr} {H : Hp} {b k a : Addr} {o : HO} (e : B.1 = some (b, k)) (h : kn B O H a = some o) : mn [b, k] H a = some o := by
  obtain ⟨h1, _, h3⟩ := kn_inv h
  rw [mn_at (by rw [bxs_eq e] at h3; exact h3)]
  exact h1
/-- a tree drawn -/
def pTreeL (n : Nat) : List Sx → (Sx → Prop) → Prop := fun xs Q => match xs with
  | [.b, x, .v (.int l), .v (.int j)] => ∃ zs : List Str, x.tv = some (.lst (zs.map Tv.str)) ∧ 0 < zs.length ∧ zs.length ≤ 10 ∧ (∀ z ∈ zs, goodName z) ∧ 0 ≤ l ∧ 0 ≤ j ∧ l.toNat + j.toNat < n ∧ n ≤ 100 ∧ ∀ t : Tm, TrOk zs l.toNat j.toNat t → Q (.v (trT t))
  | _ => False
instance lTree {n : Nat} : LSp fw (spTree n) (pTreeL n) := ⟨fun {B O0 O Hs Kb H0 H ss σ Q E Qp xs vs} c0 c s r h f => by
  unfold pTreeL at h
  split at h
  · rename_i x l j
    obtain ⟨v, u, rfl, ⟨b, k, eB, rfl⟩, v2, u2, rfl, r2, v3, u3, rfl, r3, v4, u4, rfl, r4, rfl⟩ := r
    cases r3
    cases r4
    obtain ⟨zs, ex, z0, z1, hg, l0, j0, hn, hn2, q⟩ := h
    obtain ⟨nl, us, rfl, hnl, rn⟩ := r2.rep c0.w s ex
    rw [rn.strs] at hnl
    have hnl := kn_mnG eB hnl
    refine ⟨b, k, nl, _, zs, l.toNat, j.toNat, by rw [Int.toNat_of_nonneg l0, Int.toNat_of_nonneg j0], c.wd eB, hnl, z0, z1, hg, hn, hn2, fun t a G' H' sg W ht ok => ?_⟩
    obtain ⟨s1, b1⟩ := wd_stp eB (W.weak sg)
    refine f.run _ _ _ (q t ok) s1 b1 ?_
    exact tr_kn (c.w.go s1 b1) (ht.same W.gh)
  · exact h.elim⟩
/-- the term of a tree -/
def pTermL (T : Txt P K mg) (n : Nat) : List Sx → (Sx → Prop) → Prop := fun xs Q => match xs with
  | [x] => ∃ t : Tm, x.tv = some (trT t) ∧ t.depth ≤ n ∧ t.wf ∧ t.norm ∧ t.fits ∧ Q (.v (tmT T t))
  | _ => False
instance lTermL {T : Txt P K mg} {n : Nat} : LSp fw (spTermL T n) (pTermL T n) := ⟨fun {B O0 O Hs Kb H0 H ss σ Q E Qp xs vs} c0 c s r h f => by
  unfold pTermL at h
  split at h
  · rename_i x
    obtain ⟨v, u, rfl, r1, rfl⟩ := r
    obtain ⟨t, ex, hd, hw, hn, hf, q⟩ := h
    obtain ⟨a, rfl, ht⟩ := tr_at (r1.rep c0.w s ex)
    refine ⟨t, a, rfl, ht.same kn_all, hd, hw, hn, hf, fun r H' s1 hr => ?_⟩
    have b1 := c.w.bx.same s1
    exact f.run _ _ _ q (Stay.of s1) b1 (tm_kn (c.w.go (Stay.of s1) b1) hr)
  · exact h.elim⟩
end
end Pl

namespace Pl
open PySem L2
local macro_rules | `(tactic| bv_omega) => `(tactic| try simp only [pVar, pC, pTy, pCl, pNil, pCons, pOp, pUn, pCB, pI, pIC, pIB, pNeg, eqS, pEq, isNonS, pIsN, pIx, tvs, pTup, pLst, pTest, pAnd, pOr, pNot, pAndV, pOrV, pNotV, pIf, pChain, Sx.sl, Sx.tv, Sx.sq, Sx.dq, Sx.tq, Sx.rt, Sx.sqv, Sx.it, Sx.ar, Option.map_some, Option.bind_some, pgName, pgNil, pgCons, pgTup, piList, piTup, piSeq, piRange1, piRange2, piKeys, piItems, ars, pSp, pLen, tyOf, kb, pIsi, intsT, strsT, intsT_map, strsT_map, blsT_map, pIn, pInG, pNoPart, pPart, pSl, pRev, pAddG, pMulG, pAbs, p2I, pInt1, pBool1, pStrI, pListOf, pTupleOf, ints1, pSum, pSortedI, pMax, pMin, bls1, pAll, pAny, pEqG, pJoin, pDNew, pDGet, pDGet2, pDIn, Tv.key, pPick, pYes, kT, at0, at1, at2, at3, at4, exists_eq_left', Option.some.injEq, List.getElem?_cons_zero, List.getElem?_cons_succ, List.set_cons_zero, List.set_cons_succ, stS, Ar.sl, List.map_cons, List.map_nil, List.length_cons, List.length_nil, List.replicate_succ, List.replicate_zero, List.nil_append, List.cons_append, Nat.reduceSub, Nat.reduceAdd, wipeS, Bool.false_xor, Bool.true_xor, Bool.false_eq_true, if_true, if_false, decide_eq_true_eq, and_true, true_and, Bool.not_true, Bool.not_false, Bool.not_eq_true', decide_eq_false_iff_not, Nat.zero_le, Nat.reduceLeDiff, Int.reduceLT, Int.reduceLE, Int.reduceEq, Int.reduceNeg, Int.reducePow, Int.reduceAdd, Int.reduceSub, Nat.reduceMul, rgT_len, String.reduceBEq, beq_self_eq_true, Bool.or_false, Bool.false_or, Bool.true_or, Bool.or_true, Bool.or_self, ite_true, ite_false, ite_self, Int.zero_add, Bool.true_eq_false, reduceCtorEq, Function.comp_apply, unS, unSl_lkd, unSl_pvd, unSl_val, unSl_own, unSl_owd, unSl_box, unSl_any, pDisp, pDs0, pDs1, kvT, unSl_odl, pSortD, keyStrs_map, pRef, pXC, unSl_tab])
local macro_rules | `(tactic| injections) => `(tactic| first
  | with_reducible refine s_seq ?_
  | with_reducible refine s_set ?_
  | with_reducible refine s_asg ?_
  | with_reducible refine s_if ?_
  | with_reducible refine s_ret ?_
  | with_reducible refine s_retN ?_
  | with_reducible refine s_next ?_
  | with_reducible refine s_for ?_
  | with_reducible refine s_break ?_
  | with_reducible refine s_cont ?_
  | with_reducible refine s_append (by first | with_unfolding_all rfl | assumption) (by with_unfolding_all first | omega | (simp only [List.length_map, List.length_append, List.length_cons, List.length_nil]; omega)) ?_
  | with_reducible refine s_drop ?_
  | with_reducible refine s_setF (by with_unfolding_all rfl) ?_
  | with_reducible refine s_asgF (by with_unfolding_all rfl) ?_
  | with_reducible refine s_ifF (by with_unfolding_all rfl) ?_
  | with_reducible refine s_retF (by with_unfolding_all rfl) ?_
  | with_reducible refine s_ifN ?_
  | with_reducible refine s_setN ?_)
local macro_rules | `(tactic| subst_vars) => `(tactic| ((try simp only [pVar, pC, pTy, pCl, pNil, pCons, pOp, pUn, pCB, pI, pIC, pIB, pNeg, eqS, pEq, isNonS, pIsN, pIx, tvs, pTup, pLst, pTest, pAnd, pOr, pNot, pAndV, pOrV, pNotV, pIf, pChain, Sx.sl, Sx.tv, Sx.sq, Sx.dq, Sx.tq, Sx.rt, Sx.sqv, Sx.it, Sx.ar, Option.map_some, Option.bind_some, pgName, pgNil, pgCons, pgTup, piList, piTup, piSeq, piRange1, piRange2, piKeys, piItems, ars, pSp, pLen, tyOf, kb, pIsi, intsT, strsT, intsT_map, strsT_map, blsT_map, pIn, pInG, pNoPart, pPart, pSl, pRev, pAddG, pMulG, pAbs, p2I, pInt1, pBool1, pStrI, pListOf, pTupleOf, ints1, pSum, pSortedI, pMax, pMin, bls1, pAll, pAny, pEqG, pJoin, pDNew, pDGet, pDGet2, pDIn, Tv.key, pPick, pYes, kT, at0, at1, at2, at3, at4, exists_eq_left', Option.some.injEq, List.getElem?_cons_zero, List.getElem?_cons_succ, List.set_cons_zero, List.set_cons_succ, stS, Ar.sl, List.map_cons, List.map_nil, List.length_cons, List.length_nil, List.replicate_succ, List.replicate_zero, List.nil_append, List.cons_append, Nat.reduceSub, Nat.reduceAdd, wipeS, Bool.false_xor, Bool.true_xor, Bool.false_eq_true, if_true, if_false, decide_eq_true_eq, and_true, true_and, Bool.not_true, Bool.not_false, Bool.not_eq_true', decide_eq_false_iff_not, Nat.zero_le, Nat.reduceLeDiff, Int.reduceLT, Int.reduceLE, Int.reduceEq, Int.reduceNeg, Int.reducePow, Int.reduceAdd, Int.reduceSub, Nat.reduceMul, rgT_len, String.reduceBEq, beq_self_eq_true, Bool.or_false, Bool.false_or, Bool.true_or, Bool.or_true, Bool.or_self, ite_true, ite_false, ite_self, Int.zero_add, Bool.true_eq_false, reduceCtorEq, Function.comp_apply, unS, unSl_lkd, unSl_pvd, unSl_val, unSl_own, unSl_owd, unSl_box, unSl_any, pDisp, pDs0, pDs1, kvT, unSl_odl, pSortD, keyStrs_map, pRef, pXC, unSl_tab]) <;> repeat ((first
  | with_reducible refine s_seq ?_
  | with_reducible refine s_set ?_
  | with_reducible refine s_asg ?_
  | with_reducible refine s_if ?_
  | with_reducible refine s_ret ?_
  | with_reducible refine s_retN ?_
  | with_reducible refine s_next ?_
  | with_reducible refine s_break ?_
  | with_reducible refine s_cont ?_
  | with_reducible refine s_append (by first | with_unfolding_all rfl | assumption) (by with_unfolding_all first | omega | (simp only [List.length_map, List.length_append, List.length_cons, List.length_nil]; omega)) ?_
  | with_reducible refine s_drop ?_
  | with_reducible refine s_setF (by with_unfolding_all rfl) ?_
  | with_reducible refine s_asgF (by with_unfolding_all rfl) ?_
  | with_reducible refine s_ifF (by with_unfolding_all rfl) ?_
  | with_reducible refine s_retF (by with_unfolding_all rfl) ?_
  | with_reducible refine s_ifN ?_
  | with_reducible refine s_setN ?_) <;> try simp only [pVar, pC, pTy, pCl, pNil, pCons, pOp, pUn, pCB, pI, pIC, pIB, pNeg, eqS, pEq, isNonS, pIsN, pIx, tvs, pTup, pLst, pTest, pAnd, pOr, pNot, pAndV, pOrV, pNotV, pIf, pChain, Sx.sl, Sx.tv, Sx.sq, Sx.dq, Sx.tq, Sx.rt, Sx.sqv, Sx.it, Sx.ar, Option.map_some, Option.bind_some, pgName, pgNil, pgCons, pgTup, piList, piTup, piSeq, piRange1, piRange2, piKeys, piItems, ars, pSp, pLen, tyOf, kb, pIsi, intsT, strsT, intsT_map, strsT_map, blsT_map, pIn, pInG, pNoPart, pPart, pSl, pRev, pAddG, pMulG, pAbs, p2I, pInt1, pBool1, pStrI, pListOf, pTupleOf, ints1, pSum, pSortedI, pMax, pMin, bls1, pAll, pAny, pEqG, pJoin, pDNew, pDGet, pDGet2, pDIn, Tv.key, pPick, pYes, kT, at0, at1, at2, at3, at4, exists_eq_left', Option.some.injEq, List.getElem?_cons_zero, List.getElem?_cons_succ, List.set_cons_zero, List.set_cons_succ, stS, Ar.sl, List.map_cons, List.map_nil, List.length_cons, List.length_nil, List.replicate_succ, List.replicate_zero, List.nil_append, List.cons_append, Nat.reduceSub, Nat.reduceAdd, wipeS, Bool.false_xor, Bool.true_xor, Bool.false_eq_true, if_true, if_false, decide_eq_true_eq, and_true, true_and, Bool.not_true, Bool.not_false, Bool.not_eq_true', decide_eq_false_iff_not, Nat.zero_le, Nat.reduceLeDiff, Int.reduceLT, Int.reduceLE, Int.reduceEq, Int.reduceNeg, Int.reducePow, Int.reduceAdd, Int.reduceSub, Nat.reduceMul, rgT_len, String.reduceBEq, beq_self_eq_true, Bool.or_false, Bool.false_or, Bool.true_or, Bool.or_true, Bool.or_self, ite_true, ite_false, ite_self, Int.zero_add, Bool.true_eq_false, reduceCtorEq, Function.comp_apply, unS, unSl_lkd, unSl_pvd, unSl_val, unSl_own, unSl_owd, unSl_box, unSl_any, pDisp, pDs0, pDs1, kvT, unSl_odl, pSortD, keyStrs_map, pRef, pXC, unSl_tab])))
-- USE PL
section
variable {fw : Bool} {P : Program} {w : World} {K : PySem.W.Frag} {mg : Str → Option Value} {base : Heap}
class IsK (K' K : PySem.W.Frag) : Prop where
  eq : K' = K
instance isK0 : IsK K K := ⟨rfl⟩
instance isK1 {CX : CXT} {N : List Str} {qual : Str} {sc : Scope} {f : Addr} {cdv : Value} {A : Around} {outer : List Env} {s : Shared} {H : Hp} {E : XK} : IsK (cxOf CX P w K mg base N qual sc f cdv A outer s H E).K K := ⟨rfl⟩
instance isK2 {CX : CXT} {N : List Str} {qual : Str} {sc : Scope} {f : Addr} {cdv : Value} {A : Around} {outer : List Env} {s : Shared} {H : Hp} {E : XK} : IsK (cxOf CX P w K mg base N qual sc f cdv A outer s H E).nox.K K := ⟨rfl⟩
/-- the law's run in the pure layer: behind the box -/
theorem sim_law {a b c : Addr} {n : Nat} {H : Hp} {t : TS} {D : Ends} (bx : BoxAt b c H) (h : Sim true t ⟨fun _ => False, fun u => u = .bl true, fun _ => False, fun _ => False⟩ (.any :: .box :: List.replicate n .any)) (q : ∀ H', D.rt (.bl true) H') : t D (some (.ref a) :: some (.ref b) :: List.replicate n none) H := by
  have bo : BxOk (some (b, c), none) H := by
    intro b' c' e
    cases e
    exact bx
  refine h (some (b, c), none) [] [] H (kn (some (b, c), none) [] H) H _ D (fun _ => rfl) ⟨⟨Same.refl _, Stay.refl _ _, bo, bo, fun _ h => h, fun a h => (List.not_mem_nil h).elim, fun a h => (List.not_mem_nil h).elim, fun a h => (List.not_mem_nil h).elim, fun a h => (List.not_mem_nil h).elim, fun a h => (List.not_mem_nil h).elim, fun _ _ h => nomatch h⟩, ⟨?_, fun i s e => ?_, fun i j s t a _ e1 e2 o1 => ?_, fun i j s t a _ e1 e2 hm => ?_⟩, fun h => nomatch h⟩ ⟨fun _ _ _ _ h => h.elim, fun _ _ _ _ h => h.elim, fun _ _ _ _ h => h.elim, fun O' H' t v e w' r' => ?_⟩
  · simp
  · cases i with
    | zero => cases e; exact ⟨_, rfl, trivial⟩
    | succ i =>
      cases i with
      | zero => cases e; exact ⟨_, rfl, b, c, rfl, rfl⟩
      | succ i =>
        simp only [List.getElem?_cons_succ, List.getElem?_replicate] at e ⊢
        split at e
        · rename_i hi
          cases e
          exact ⟨_, if_pos hi, trivial⟩
        · cases e
  · cases i with
    | zero => cases e1; cases o1
    | succ i =>
      cases i with
      | zero => cases e1; cases o1
      | succ i =>
        simp only [List.getElem?_cons_succ, List.getElem?_replicate] at e1
        split at e1
        · cases e1; cases o1
        · cases e1
  · have o1 := Sl.ads_own hm
    cases i with
    | zero => cases e1; cases o1
    | succ i =>
      cases i with
      | zero => cases e1; cases o1
      | succ i =>
        simp only [List.getElem?_cons_succ, List.getElem?_replicate] at e1
        split at e1
        · cases e1; cases o1
        · cases e1
  · subst e
    cases r'
    exact q H'
theorem sim_lawT {a b c : Addr} {n : Nat} {H : Hp} {t : TS} {D : Ends} {P : Addr} {qn : Str} (bx : BoxAt b c H) (tb : LamX.TabS H P qn) (h : Sim true t ⟨fun _ => False, fun u => u = .bl true, fun _ => False, fun _ => False⟩ (.tab P qn :: .box :: List.replicate n .any)) (q : ∀ H', D.rt (.bl true) H') : t D (some (.ref a) :: some (.ref b) :: List.replicate n none) H := by
  have bo : BxOk (some (b, c), some (P, qn)) H := by
    intro b' c' e
    cases e
    exact bx
  have bo2 : BxOk (some (b, c), some (P, qn)) (kt H) := by
    intro b' c' e
    cases e
    obtain ⟨n, cs, k, h1, h2, h3⟩ := bx
    exact ⟨n, cs, k, kt_at h1 (fun _ z => nomatch z), kt_at h2 (fun _ z => nomatch z), h3⟩
  refine h (some (b, c), some (P, qn)) [] [] (kt H) (kn (some (b, c), some (P, qn)) [] H) H _ D (fun _ => rfl) ⟨⟨Same.refl _, Stay.of kt_le, bo, bo2, fun _ h => h, fun a h => (List.not_mem_nil h).elim, fun a h => (List.not_mem_nil h).elim, fun a h => (List.not_mem_nil h).elim, fun a h => (List.not_mem_nil h).elim, fun a h => (List.not_mem_nil h).elim, fun P' q' e => ?_⟩, ⟨?_, fun i s e => ?_, fun i j s t a _ e1 e2 o1 => ?_, fun i j s t a _ e1 e2 hm => ?_⟩, fun h => nomatch h⟩ ⟨fun _ _ _ _ h => h.elim, fun _ _ _ _ h => h.elim, fun _ _ _ _ h => h.elim, fun O' H' t v e w' r' => ?_⟩
  · cases e
    exact ⟨tb, fun a ps z => (kt_sub z).2 ps rfl⟩
  · simp
  · cases i with
    | zero => cases e; exact ⟨_, rfl, rfl⟩
    | succ i =>
      cases i with
      | zero => cases e; exact ⟨_, rfl, b, c, rfl, rfl⟩
      | succ i =>
        simp only [List.getElem?_cons_succ, List.getElem?_replicate] at e ⊢
        split at e
        · rename_i hi
          cases e
          exact ⟨_, if_pos hi, trivial⟩
        · cases e
  · cases i with
    | zero => cases e1; cases o1
    | succ i =>
      cases i with
      | zero => cases e1; cases o1
      | succ i =>
        simp only [List.getElem?_cons_succ, List.getElem?_replicate] at e1
        split at e1
        · cases e1; cases o1
        · cases e1
  · have o1 := Sl.ads_own hm
    cases i with
    | zero => cases e1; cases o1
    | succ i =>
      cases i with
      | zero => cases e1; cases o1
      | succ i =>
        simp only [List.getElem?_cons_succ, List.getElem?_replicate] at e1
        split at e1
        · cases e1; cases o1
        · cases e1
  · subst e
    cases r'
    exact q H'
/-- the law's run, the law makes lambdas -/
theorem law_beginT {rest : TS} {N : List Str} {sa : Addr} {sns : List Int} {E : XK} {H : Hp} {Q : VK} {n : Nat} {P : Addr} (qn : Str) (hN : N.length = n + 2) (hS : SqL K H sa (sns.map V.int)) (hl : sns.length ≤ 63) (hP : H P = some (.tbl #[])) (q : ∀ H', Q (.bl true) H') (h : Sim true rest ⟨fun _ => False, fun u => u = .bl true, fun _ => False, fun _ => False⟩ (.tab P qn :: .box :: List.replicate n .any)) :
    tSeq (tAsg (tCall (spOpen K) [] E (tCons (tVar 0) tNil)) (gName 1)) rest { nx := fun _ H' => Q V.non H', rt := Q } (L2.start N [.ref sa]) H := by
  have e : L2.start N [.ref sa] = some (V.ref sa) :: none :: List.replicate n none := by
    unfold L2.start
    rw [hN]
    rfl
  rw [e]
  refine ⟨_, rfl, sa, sns, rfl, hS, hl, fun b c H1 _ _ s1 bx => ?_⟩
  exact sim_lawT (t := rest) bx (LamX.TabS.nil (s1 _ _ hP)) h q
theorem law_begin {rest : TS} {N : List Str} {sa : Addr} {sns : List Int} {E : XK} {H : Hp} {Q : VK} {n : Nat} (hN : N.length = n + 2) (hS : SqL K H sa (sns.map V.int)) (hl : sns.length ≤ 63) (q : ∀ H', Q (.bl true) H') (h : Sim true rest ⟨fun _ => False, fun u => u = .bl true, fun _ => False, fun _ => False⟩ (.any :: .box :: List.replicate n .any)) :
    tSeq (tAsg (tCall (spOpen K) [] E (tCons (tVar 0) tNil)) (gName 1)) rest { nx := fun _ H' => Q V.non H', rt := Q } (L2.start N [.ref sa]) H := by
  have e : L2.start N [.ref sa] = some (V.ref sa) :: none :: List.replicate n none := by
    unfold L2.start
    rw [hN]
    rfl
  rw [e]
  refine ⟨_, rfl, sa, sns, rfl, hS, hl, fun b c H1 _ _ s1 bx => ?_⟩
  exact sim_law (t := rest) bx h q
end
end Pl

namespace Pl
open PySem L2
local macro_rules | `(tactic| infer_instance) => `(tactic| first
  | with_reducible assumption
  | with_reducible exact Same.refl _
  | exact Wd.gh (by with_reducible assumption)
  | exact sm2 (by with_reducible assumption) (by infer_instance)
  | exact sm2 (same_upd (by with_reducible assumption)) (by infer_instance)
  | exact sm2 (Wd.gh (by with_reducible assumption)) (by infer_instance))
local macro_rules | `(tactic| trivial) => `(tactic| first
  | with_reducible assumption
  | with_reducible exact upd_same
  | exact at_same (by with_reducible assumption) (by trivial)
  | exact at_same (same_upd (by with_reducible assumption)) (by trivial)
  | exact at_same (Wd.gh (by with_reducible assumption)) (by trivial))
local macro_rules | `(tactic| ac_rfl) => `(tactic| first
  | exact Ty.int _
  | exact Ty.str _
  | exact Ty.non
  | exact Ty.bl _
  | exact Ty.tup (by trivial)
  | exact Ty.lst (by trivial))
local macro_rules | `(tactic| contradiction) => `(tactic| first
  | exact rfl
  | exact decide_eq_true (by first | assumption | omega)
  | exact decide_eq_false (by first | assumption | omega)
  | exact dI_t (by first | assumption | omega)
  | exact dI_f (by first | assumption | omega)
  | exact dS_t (by first | assumption | decide)
  | exact dS_f (by first | assumption | decide)
  | exact nI_t (by first | assumption | omega)
  | exact nI_f (by first | assumption | omega)
  | exact nS_t (by first | assumption | decide)
  | exact nS_f (by first | assumption | decide)
  | assumption
  | exact q_none_int | exact q_none_bool | exact q_none_tuple | exact q_none_list | exact q_none_str | exact q_bool_int | exact q_bool_bool | exact q_bool_tuple | exact q_bool_list | exact q_bool_str | exact q_int_int | exact q_int_bool | exact q_int_tuple | exact q_int_list | exact q_int_str | exact q_str_int | exact q_str_bool | exact q_str_tuple | exact q_str_list | exact q_str_str | exact q_list_int | exact q_list_bool | exact q_list_tuple | exact q_list_list | exact q_list_str | exact q_tuple_int | exact q_tuple_bool | exact q_tuple_tuple | exact q_tuple_list | exact q_tuple_str
  | exact nb_t (by contradiction)
  | exact nb_f (by contradiction))
local macro_rules | `(tactic| and_intros) => `(tactic| repeat (first
  | refine ⟨_, rfl, ?_⟩
  | refine ⟨_, _, rfl, rfl, ?_⟩
  | refine ⟨rfl, ?_⟩
  | refine ⟨_, _, _, _, rfl, rfl, SqT.of (by trivial), at_ix (by decide) rfl, ?_⟩
  | refine ⟨_, _, _, _, rfl, rfl, SqL.of (by trivial), at_ix (by decide) rfl, ?_⟩
  | refine ⟨_, _, rfl, Or.inl (SqL.of (by trivial)), ?_⟩
  | refine ⟨_, _, rfl, Or.inr (SqT.of (by trivial)), ?_⟩
  | refine ⟨_, _, _, _, _, rfl, (by trivial), (by trivial), (by trivial), rfl, ?_⟩
  | refine ⟨_, _, _, _, _, rfl, ClsV.ty _, Ty.x (by ac_rfl), isI_tuple (by ac_rfl), ?_⟩
  | refine ⟨_, _, _, _, _, rfl, ClsV.ty _, Ty.x (by ac_rfl), isI_list (by ac_rfl), ?_⟩
  | refine ⟨_, _, _, _, _, rfl, ClsV.ty _, Ty.x (by ac_rfl), isI_int (by ac_rfl), ?_⟩
  | refine ⟨_, _, _, _, _, rfl, ClsV.ty _, Ty.x (by ac_rfl), isI_bool (by ac_rfl), ?_⟩
  | refine ⟨_, _, _, _, _, rfl, ClsV.ty _, Ty.x (by ac_rfl), isI_str (by ac_rfl), ?_⟩
  | refine ⟨sz (Nat.le_of_ble_eq_true rfl), ?_⟩
  | refine ⟨Or.inl ⟨rfl, _, SqL.of (by trivial)⟩, ?_⟩
  | refine ⟨_, _, rfl, SqT.of (by trivial), rfl, _, _, rfl, _, _, rfl, _, _, rfl, _, _, rfl, rfl, ?_⟩
  | refine ⟨_, _, rfl, SqT.of (by trivial), rfl, _, _, rfl, _, _, rfl, _, _, rfl, rfl, ?_⟩
  | refine ⟨_, _, rfl, SqT.of (by trivial), rfl, _, _, rfl, _, _, rfl, rfl, ?_⟩
  | refine ⟨_, _, _, _, rfl, (by with_reducible assumption : Wd _ _ _ _), (by first | decide | omega), (by first | decide | omega), ?_⟩
  | refine ⟨_, _, _, rfl, (by with_reducible assumption : Wd _ _ _ _), ?_⟩
  | refine iT (by contradiction) ?_
  | refine iF (by contradiction) ?_))
-- USE RD
section
variable {P : Program} {w : World} {K : PySem.W.Frag} {mg : Str → Option Value} {base : Heap}
def pairD (p : Str × Int) : PyData := .tuple [.str p.1, .int p.2]
theorem dp_pair {H : Hp} {t : Addr} {p : Str × Int} (h : H t = some (.tup [.str p.1, .int p.2])) : Dp K H (.ref t) (pairD p) := .tup (SqT.of h) (.cons (.str _) (.cons (.int _) .nil))
theorem dp_pairs {H : Hp} : ∀ {us : List V} {ps : List (Str × Int)}, PrsAt H us ps → DpAll K H us (ps.map pairD)
  | [], [], _ => .nil
  | u :: us, p :: ps, h => by
    obtain ⟨t, e1, e2⟩ := h.2 0 p rfl
    cases e1
    exact .cons (dp_pair e2) (dp_pairs ⟨Nat.succ.inj h.1, fun i q e => h.2 (i + 1) q e⟩)
  | [], _ :: _, h => nomatch h.1
  | _ :: _, [], h => nomatch h.1
theorem pair_eqv (p q : Str × Int) : PyData.eqv (pairD p) (pairD q) = decide (p = q) := by
  obtain ⟨a, b⟩ := p
  obtain ⟨c, d⟩ := q
  simp only [pairD, PyData.eqv, PyData.eqvAll, Bool.and_true]
  by_cases h1 : a = c
  · subst h1
    by_cases h2 : b = d
    · subst h2; simp
    · simp [h2]
  · simp [h1]
theorem name_ok {z : Str} (h : goodName z) : PyData.strOk z = true := by
  unfold PyData.strOk
  rw [Array.all_eq_true]
  intro i hi
  have hm : z.cps[i] ∈ letters.cps.toList := h.2.2 _ (Array.mem_toList_iff.mpr (Array.getElem_mem hi))
  have hall : ∀ c ∈ letters.cps.toList, decide (c < 0x110000) = true := by decide +kernel
  exact hall _ hm
theorem pairs_lay {ps : List (Str × Int)} (h : ∀ p ∈ ps, goodName p.1) : PyData.canLayAll0 (ps.map pairD) = true ∧ PyData.depthAll (ps.map pairD) ≤ 1 := by
  induction ps with
  | nil => simp [PyData.canLayAll0, PyData.depthAll]
  | cons p ps ih =>
    obtain ⟨i1, i2⟩ := ih fun q hq => h q (List.mem_cons_of_mem _ hq)
    have e := name_ok (h p List.mem_cons_self)
    constructor
    · simp [pairD, PyData.canLayAll0, PyData.canLay0, e, i1]
    · have e1 : (pairD p).depth = 1 := by simp [pairD, PyData.depth, PyData.depthAll]
      rw [List.map_cons, PyData.depthAll, e1]
      omega
theorem pair_shaped {p : Str × Int} (h : goodName p.1) : SeqAt.shaped (pairD p) = true := by
  have e := name_ok h
  simp [SeqAt.shaped, pairD, PyData.canLay0, PyData.canLayAll0, e, PyData.depth, PyData.depthAll]
theorem pairs_shaped {ps : List (Str × Int)} (h : ∀ p ∈ ps, goodName p.1) : SeqAt.shaped (.list (ps.map pairD)) = true := by
  obtain ⟨i1, i2⟩ := pairs_lay h
  simp only [SeqAt.shaped, PyData.canLay0, i1, PyData.depth, Bool.true_and, decide_eq_true_eq]
  refine decide_eq_true ?_
  omega
theorem any_pair (p : Str × Int) (ps : List (Str × Int)) : ((ps.map pairD).any fun z => PyData.eqv z (pairD p)) = decide (p ∈ ps) := by
  induction ps with
  | nil => simp
  | cons q ps ih =>
    rw [List.map_cons, List.any_cons, ih, pair_eqv]
    by_cases h : q = p
    · subst h; simp
    · have h' : ¬ p = q := fun e => h e.symm
      simp [h, h', List.mem_cons]
theorem rowsOf_nd {ps : List (Str × Int)} (h : ps.Nodup) {m : Nat} (hl : ps.length ≤ m) (z : Str) : (rowsOf ps z).Nodup ∧ (rowsOf ps z).length ≤ m := by
  constructor
  · unfold rowsOf
    rw [List.nodup_iff_pairwise_ne, List.pairwise_map]
    refine (List.Pairwise.and_mem.mp (h.filter _)).imp ?_
    rintro a b ⟨ha, hb, hab⟩ e
    have e1 : a.1 = z := of_decide_eq_true (List.mem_filter.mp ha).2
    have e2 : b.1 = z := of_decide_eq_true (List.mem_filter.mp hb).2
    exact hab (Prod.ext (e1.trans e2.symm) e)
  · unfold rowsOf
    rw [List.length_map]
    exact Nat.le_trans (List.length_filter_le _ _) hl
theorem str_mem {zs : List Str} {i : Int} (h0 : 0 ≤ i) (h1 : i < zs.length) : ∃ z ∈ zs, atI (zs.map V.str) i = some (.str z) := by
  have hl : i.toNat < zs.length := by omega
  exact ⟨zs[i.toNat], List.getElem_mem hl, at_ix h0 (by rw [List.getElem?_map, List.getElem?_eq_getElem hl]; rfl)⟩
theorem PrsAt.snoc {H : Hp} {vs : List V} {ps : List (Str × Int)} {t : Addr} {p : Str × Int} (h : PrsAt H vs ps) (ht : H t = some (.tup [.str p.1, .int p.2])) : PrsAt H (vs ++ [.ref t]) (ps ++ [p]) :=
  h.app ⟨rfl, fun i q e => by
    cases i with
    | zero => cases e; exact ⟨t, rfl, ht⟩
    | succ i => simp at e⟩
end
end Pl

set_option Elab.async false
set_option linter.all false
set_option maxRecDepth 100000
set_option maxHeartbeats 4000000
/-! o == v and o != v, o of an own class with __eq__ and no __ne__, v anything. -/
namespace Pl
open PySem PySem.Spec PyProof.Rows L2 NdefX ClX PySem.W Builtin
theorem ne_bind (self : Value) : bindSpecial (.builtin "object.__ne__") self = pure (.builtin "object.__ne__", [self]) :=
  (Slot.of (T := "object") (name := "__ne__") (owner := "object") (n := "__ne__") (by rw [typeLookup_type, builtinLookup_eq_fast]; kernel_rfl) (by decide +kernel) (by decide +kernel) (by decide +kernel)
    (.inl (by decide +kernel)) (by rw [isSubtype_type]; kernel_rfl)).bind self
section
variable {prog : Program} {w : World} {A : Around} {E : Value → Shared → Prop} {s : Shared} {K : Frag} {x C L f : Addr} {h₀ : Heap} {m : Str → Option Value} {ox : Obj} {od : Option Obj} {b tb : Value}
theorem objNe_K {Q : PySem.Fin → Shared → Prop} (hu : A.units < cLine) (X : K.In s.heap) (I : InstAt s.heap x ox C od) (B : NeO K C f)
    (h : wpAny (model prog w) A (call (.ref f) [.ref x, b]) (fun v s' => ∃ r, v = .bool r ∧ Q (.done (.ret (.bool (!r)))) s') E s) :
    wpAny (model prog w) A (Builtin.«object.__ne__» ⟨[.ref x, b], []⟩) Q E s := by
  unfold Builtin.«object.__ne__»
  repeat (first
    | with_reducible refine wpAny_cRoomFor hu ?_
    | (refine wpAny_bind (m := callSpecialIfBound? (.ref x) (Str.ofString "__eq__") [b])
        (ifBound_K X I B.at_ B.fn (wpAny_mono h (fun v s' hr => by
          obtain ⟨r, rfl, hq⟩ := hr
          repeat (first | exact hq | exact wpAny_pure hq | exact wpAny_truthy_bool hq | (refine wpAny_bind (m := truthy (.bool _)) (wpAny_truthy_bool ?_)) | wp_step)) fun _ _ e => e)))
    | wp_step)
theorem ne_plain : plainId "object.__ne__" = true := by decide +kernel
theorem rcNe_K {Q : Value → Shared → Prop} (hu : A.units + 1 < cLine) (F : Fr h₀ L s.heap m) (X₀ : K.In h₀) (I : InstAt s.heap x ox C od) (hb : Looks (model prog w) s.heap (typeOf b) tb) (hn : notFirst K C tb = true) (B : NeO K C f)
    (h : wpAny (model prog w) A.in1 (call (.ref f) [.ref x, b]) (fun v s' => ∃ r, v = .bool r ∧ Q (.bool (!r)) s') E s) : wpAny (model prog w) A (richCompare .NotEq (.ref x) b) Q E s := by
  have X := X₀.keeps F.keep
  have hin : Looks (model prog w) s.heap (isInstance (.ref x) (.type "object")) true := I.type.andThen (looks_subIn X (show subIn K (.ref C) (.type "object") = some true from B.top))
  have fin : wpAny (model prog w) A (call (.builtin "object.__ne__") ([.ref x] ++ [b]) >>= fun v => pure (some v)) (fun r s' => ∃ z, r = some z ∧ (∃ r, z = .bool (!r) ∧ Q z s')) E s := by
    refine wpAny_bind (wpAny_call (codeAny_call_builtin ne_plain PySem.F.cmpEntry_ne (check_slot PySem.F.cmpKind_ne PySem.F.cmpSplit_ne hin (PySem.F.cmpArgs_ne _ _) (objNe_K (A := A.in1) hu X I B (wpAny_mono h (fun v s' hv => ?_) fun _ _ e => e)))))
    obtain ⟨r, rfl, hq⟩ := hv
    exact ⟨r, rfl, wpAny_pure ⟨_, rfl, r, rfl, hq⟩⟩
  have one : wpAny (model prog w) A (tryCompare (.ref x) (cmpInfo .NotEq).2.1 b) (fun r s' => ∃ v, r = some v ∧ Q v s') E s := by
    unfold tryCompare
    refine wpAny_bind ?_
    simp only [callSpecialIfBound?, bindSpecialIfBound?]
    refine wpAny_holding (wpAny_bind (wpAny_bind (wpAny_bind (I.type.here ((looks_findIn X B.ne).here ?_)))))
    refine wpAny_bind (wpAny_askSetting (wpAny_ite ?_))
    have fin2 : wpAny (model prog w) A (call (.builtin "object.__ne__") ([.ref x] ++ [b]) >>= fun v => pure (some v)) (fun a s' => wpAny (model prog w) A (match a with | some Value.notImplemented => pure none | none => pure none | some v => pure (some v)) (fun r s' => ∃ v, r = some v ∧ Q v s') E s') E s :=
      wpAny_mono fin (fun r s' hr => by
        obtain ⟨z, rfl, r, rfl, hq⟩ := hr
        exact wpAny_pure ⟨_, rfl, hq⟩) fun _ _ e => e
    split
    · refine wpAny_bind ?_
      rw [ne_bind]
      refine wpAny_pure (wpAny_pure ?_)
      exact fin2
    · refine wpAny_tryCatch (wpAny_bind ?_)
      rw [ne_bind]
      refine wpAny_pure (wpAny_pure ?_)
      exact fin2
  unfold richCompare
  simp only [oneThing_ref]
  refine wpAny_holding (wpAny_bind (wpAny_cRoomFor (Nat.lt_of_succ_lt hu) ?_))
  refine wpAny_bind (I.type.here (wpAny_bind (hb.here ?_)))
  split
  · rename_i q
    have e : subIn K tb (.ref C) = some false := by
      rcases Bool.or_eq_true_iff.mp hn with e | e
      · rw [beq_iff_eq.mp e] at q; simp at q
      · exact beq_iff_eq.mp e
    refine wpAny_bind ((looks_subIn X e).here ?_)
    simp only [Bool.false_eq_true, if_false]
    refine wpAny_bind (wpAny_mono one (fun r s' z => ?_) fun _ _ e => e)
    obtain ⟨v, rfl, hq⟩ := z
    exact wpAny_pure hq
  · refine wpAny_bind (wpAny_pure ?_)
    simp only [Bool.false_eq_true, if_false]
    refine wpAny_bind (wpAny_mono one (fun r s' z => ?_) fun _ _ e => e)
    obtain ⟨v, rfl, hq⟩ := z
    exact wpAny_pure hq
end
section
variable {X : Cx} {CX : CXT} {k : Nat} {sp : Sp} {E : XK}
/-- o == v -/
def rEqO (X : Cx) (f : Addr) (sp : Sp) (E : XK) : R2 := fun x y H Q => ∃ a C dx fs t, x = .ref a ∧ H a = some (.ins C dx fs) ∧ TyX X.K H y t ∧ CmpO X.K C f .Eq ∧ notFirst X.K C t = true ∧ sp [x, y] H (fun v H' => ∃ b, v = .bl b ∧ Q (.bl b) H') E
theorem op_eqO {f : Addr} (F : FnR X.prog X.w X.K X.mg X.base CX k f sp) (hr : Room k X.A) (hx : Passes CX X E) : OpR X (compareOp .Eq) (rEqO X f sp E) := by
  intro pins s σ H x y v u Q I rx ry h
  obtain ⟨a, C, dx, fs, t, rfl, ha, ty, B, hn, q⟩ := h
  cases (show v = Value.ref a from rx)
  obtain ⟨mA, O, _⟩ := ins_get I.hok ha
  obtain ⟨odx, J, _⟩ := O.look
  obtain ⟨P, Z, hp, _⟩ := kit_of I ry ty
  obtain ⟨m, hF⟩ := I.fr
  rw [show compareOp .Eq (.ref a) u = richCompare .Eq (.ref a) u from rfl]
  refine cmp_K (op := .Eq) (tb := t) hr.units0 hF I.ok.mod.kin J (Z.ty _ _ I.kIn hp) hn B.at_ B.fn ?_
  refine wpAny_mono (wpAny_call (run_fnR (us := [.ref a, u]) (vs := [.ref a, y]) F hr hx I (.cons rfl (.cons ry .nil)) q)) (fun w s' z => ?_) fun _ _ x => x
  obtain ⟨z', H', I', rz, b, ez, qz⟩ := z
  subst ez
  obtain rfl : w = Value.bool b := rz
  exact ⟨.bl b, H', I', rfl, qz⟩
/-- o != v -/
def rNeO (X : Cx) (f : Addr) (sp : Sp) (E : XK) : R2 := fun x y H Q => ∃ a C dx fs t, x = .ref a ∧ H a = some (.ins C dx fs) ∧ TyX X.K H y t ∧ NeO X.K C f ∧ notFirst X.K C t = true ∧ sp [x, y] H (fun v H' => ∃ b, v = .bl b ∧ Q (.bl (!b)) H') E
theorem op_neO {f : Addr} (F : FnR X.prog X.w X.K X.mg X.base CX k f sp) (hr : Room (k + 1) X.A) (hx : Passes CX X E) : OpR X (compareOp .NotEq) (rNeO X f sp E) := by
  intro pins s σ H x y v u Q I rx ry h
  obtain ⟨a, C, dx, fs, t, rfl, ha, ty, B, hn, q⟩ := h
  cases (show v = Value.ref a from rx)
  obtain ⟨mA, O, _⟩ := ins_get I.hok ha
  obtain ⟨odx, J, _⟩ := O.look
  obtain ⟨P, Z, hp, _⟩ := kit_of I ry ty
  obtain ⟨m, hF⟩ := I.fr
  rw [show compareOp .NotEq (.ref a) u = richCompare .NotEq (.ref a) u from rfl]
  refine rcNe_K (tb := t) ?_ hF I.ok.mod.kin J (Z.ty _ _ I.kIn hp) hn B ?_
  · exact hr.in1.units0
  refine wpAny_mono (wpAny_call (run_fnR1 (us := [.ref a, u]) (vs := [.ref a, y]) F hr hx I (.cons rfl (.cons ry .nil)) q)) (fun w s' z => ?_) fun _ _ x => x
  obtain ⟨z', H', I', rz, b, ez, qz⟩ := z
  subst ez
  obtain rfl : w = Value.bool b := rz
  exact ⟨b, rfl, .bl (!b), H', I', rfl, qz⟩
end
theorem notFirst_ty {K : Frag} {C : Addr} {t : String} {l : List Value} (e : fastBuiltinMro t = some l) (h : (l.all fun v => match v with | .ref _ => false | _ => true) = true) : notFirst K C (.type t) = true := by
  unfold notFirst subIn
  dsimp only
  rw [e]
  have hm : ¬ Value.ref C ∈ l := fun hm => by
    have h1 := List.all_eq_true.mp h _ hm
    cases h1
  simp [hm]
theorem notFirst_non {K : Frag} {C : Addr} : notFirst K C (.type "NoneType") = true := notFirst_ty (l := [.type "NoneType", .type "object"]) (by kernel_rfl) rfl
theorem notFirst_bool {K : Frag} {C : Addr} : notFirst K C (.type "bool") = true := notFirst_ty (l := [.type "bool", .type "int", .type "object"]) (by kernel_rfl) rfl
theorem notFirst_int {K : Frag} {C : Addr} : notFirst K C (.type "int") = true := notFirst_ty (l := [.type "int", .type "object"]) (by kernel_rfl) rfl
theorem notFirst_str {K : Frag} {C : Addr} : notFirst K C (.type "str") = true := notFirst_ty (l := [.type "str", .type "object"]) (by kernel_rfl) rfl
theorem notFirst_lst {K : Frag} {C : Addr} : notFirst K C (.type "list") = true := notFirst_ty (l := [.type "list", .type "object"]) (by kernel_rfl) rfl
theorem notFirst_tup {K : Frag} {C : Addr} : notFirst K C (.type "tuple") = true := notFirst_ty (l := [.type "tuple", .type "object"]) (by kernel_rfl) rfl
theorem notFirst_dic {K : Frag} {C : Addr} : notFirst K C (.type "dict") = true := notFirst_ty (l := [.type "dict", .type "object"]) (by kernel_rfl) rfl
end Pl

namespace Pl
open PySem L2
local macro_rules | `(tactic| bv_omega) => `(tactic| try simp only [pVar, pC, pTy, pCl, pNil, pCons, pOp, pUn, pCB, pI, pIC, pIB, pNeg, eqS, pEq, isNonS, pIsN, pIx, tvs, pTup, pLst, pTest, pAnd, pOr, pNot, pAndV, pOrV, pNotV, pIf, pChain, Sx.sl, Sx.tv, Sx.sq, Sx.dq, Sx.tq, Sx.rt, Sx.sqv, Sx.it, Sx.ar, Option.map_some, Option.bind_some, pgName, pgNil, pgCons, pgTup, piList, piTup, piSeq, piRange1, piRange2, piKeys, piItems, ars, pSp, pLen, tyOf, kb, pIsi, intsT, strsT, intsT_map, strsT_map, blsT_map, pIn, pInG, pNoPart, pPart, pSl, pRev, pAddG, pMulG, pAbs, p2I, pInt1, pBool1, pStrI, pListOf, pTupleOf, ints1, pSum, pSortedI, pMax, pMin, bls1, pAll, pAny, pEqG, pJoin, pDNew, pDGet, pDGet2, pDIn, Tv.key, pPick, pYes, kT, at0, at1, at2, at3, at4, exists_eq_left', Option.some.injEq, List.getElem?_cons_zero, List.getElem?_cons_succ, List.set_cons_zero, List.set_cons_succ, stS, Ar.sl, List.map_cons, List.map_nil, List.length_cons, List.length_nil, List.replicate_succ, List.replicate_zero, List.nil_append, List.cons_append, Nat.reduceSub, Nat.reduceAdd, wipeS, Bool.false_xor, Bool.true_xor, Bool.false_eq_true, if_true, if_false, decide_eq_true_eq, and_true, true_and, Bool.not_true, Bool.not_false, Bool.not_eq_true', decide_eq_false_iff_not, Nat.zero_le, Nat.reduceLeDiff, Int.reduceLT, Int.reduceLE, Int.reduceEq, Int.reduceNeg, Int.reducePow, Int.reduceAdd, Int.reduceSub, Nat.reduceMul, rgT_len, String.reduceBEq, beq_self_eq_true, Bool.or_false, Bool.false_or, Bool.true_or, Bool.or_true, Bool.or_self, ite_true, ite_false, ite_self, Int.zero_add, Bool.true_eq_false, reduceCtorEq, Function.comp_apply, unS, unSl_lkd, unSl_pvd, unSl_val, unSl_own, unSl_owd, unSl_box, unSl_any, pDisp, pDs0, pDs1, kvT, unSl_odl, pSortD, keyStrs_map, pRef, pXC, unSl_tab])
local macro_rules | `(tactic| injections) => `(tactic| first
  | with_reducible refine s_seq ?_
  | with_reducible refine s_set ?_
  | with_reducible refine s_asg ?_
  | with_reducible refine s_if ?_
  | with_reducible refine s_ret ?_
  | with_reducible refine s_retN ?_
  | with_reducible refine s_next ?_
  | with_reducible refine s_for ?_
  | with_reducible refine s_break ?_
  | with_reducible refine s_cont ?_
  | with_reducible refine s_append (by first | with_unfolding_all rfl | assumption) (by with_unfolding_all first | omega | (simp only [List.length_map, List.length_append, List.length_cons, List.length_nil]; omega)) ?_
  | with_reducible refine s_drop ?_
  | with_reducible refine s_setF (by with_unfolding_all rfl) ?_
  | with_reducible refine s_asgF (by with_unfolding_all rfl) ?_
  | with_reducible refine s_ifF (by with_unfolding_all rfl) ?_
  | with_reducible refine s_retF (by with_unfolding_all rfl) ?_
  | with_reducible refine s_ifN ?_
  | with_reducible refine s_setN ?_)
local macro_rules | `(tactic| subst_vars) => `(tactic| ((try simp only [pVar, pC, pTy, pCl, pNil, pCons, pOp, pUn, pCB, pI, pIC, pIB, pNeg, eqS, pEq, isNonS, pIsN, pIx, tvs, pTup, pLst, pTest, pAnd, pOr, pNot, pAndV, pOrV, pNotV, pIf, pChain, Sx.sl, Sx.tv, Sx.sq, Sx.dq, Sx.tq, Sx.rt, Sx.sqv, Sx.it, Sx.ar, Option.map_some, Option.bind_some, pgName, pgNil, pgCons, pgTup, piList, piTup, piSeq, piRange1, piRange2, piKeys, piItems, ars, pSp, pLen, tyOf, kb, pIsi, intsT, strsT, intsT_map, strsT_map, blsT_map, pIn, pInG, pNoPart, pPart, pSl, pRev, pAddG, pMulG, pAbs, p2I, pInt1, pBool1, pStrI, pListOf, pTupleOf, ints1, pSum, pSortedI, pMax, pMin, bls1, pAll, pAny, pEqG, pJoin, pDNew, pDGet, pDGet2, pDIn, Tv.key, pPick, pYes, kT, at0, at1, at2, at3, at4, exists_eq_left', Option.some.injEq, List.getElem?_cons_zero, List.getElem?_cons_succ, List.set_cons_zero, List.set_cons_succ, stS, Ar.sl, List.map_cons, List.map_nil, List.length_cons, List.length_nil, List.replicate_succ, List.replicate_zero, List.nil_append, List.cons_append, Nat.reduceSub, Nat.reduceAdd, wipeS, Bool.false_xor, Bool.true_xor, Bool.false_eq_true, if_true, if_false, decide_eq_true_eq, and_true, true_and, Bool.not_true, Bool.not_false, Bool.not_eq_true', decide_eq_false_iff_not, Nat.zero_le, Nat.reduceLeDiff, Int.reduceLT, Int.reduceLE, Int.reduceEq, Int.reduceNeg, Int.reducePow, Int.reduceAdd, Int.reduceSub, Nat.reduceMul, rgT_len, String.reduceBEq, beq_self_eq_true, Bool.or_false, Bool.false_or, Bool.true_or, Bool.or_true, Bool.or_self, ite_true, ite_false, ite_self, Int.zero_add, Bool.true_eq_false, reduceCtorEq, Function.comp_apply, unS, unSl_lkd, unSl_pvd, unSl_val, unSl_own, unSl_owd, unSl_box, unSl_any, pDisp, pDs0, pDs1, kvT, unSl_odl, pSortD, keyStrs_map, pRef, pXC, unSl_tab]) <;> repeat ((first
  | with_reducible refine s_seq ?_
  | with_reducible refine s_set ?_
  | with_reducible refine s_asg ?_
  | with_reducible refine s_if ?_
  | with_reducible refine s_ret ?_
  | with_reducible refine s_retN ?_
  | with_reducible refine s_next ?_
  | with_reducible refine s_break ?_
  | with_reducible refine s_cont ?_
  | with_reducible refine s_append (by first | with_unfolding_all rfl | assumption) (by with_unfolding_all first | omega | (simp only [List.length_map, List.length_append, List.length_cons, List.length_nil]; omega)) ?_
  | with_reducible refine s_drop ?_
  | with_reducible refine s_setF (by with_unfolding_all rfl) ?_
  | with_reducible refine s_asgF (by with_unfolding_all rfl) ?_
  | with_reducible refine s_ifF (by with_unfolding_all rfl) ?_
  | with_reducible refine s_retF (by with_unfolding_all rfl) ?_
  | with_reducible refine s_ifN ?_
  | with_reducible refine s_setN ?_) <;> try simp only [pVar, pC, pTy, pCl, pNil, pCons, pOp, pUn, pCB, pI, pIC, pIB, pNeg, eqS, pEq, isNonS, pIsN, pIx, tvs, pTup, pLst, pTest, pAnd, pOr, pNot, pAndV, pOrV, pNotV, pIf, pChain, Sx.sl, Sx.tv, Sx.sq, Sx.dq, Sx.tq, Sx.rt, Sx.sqv, Sx.it, Sx.ar, Option.map_some, Option.bind_some, pgName, pgNil, pgCons, pgTup, piList, piTup, piSeq, piRange1, piRange2, piKeys, piItems, ars, pSp, pLen, tyOf, kb, pIsi, intsT, strsT, intsT_map, strsT_map, blsT_map, pIn, pInG, pNoPart, pPart, pSl, pRev, pAddG, pMulG, pAbs, p2I, pInt1, pBool1, pStrI, pListOf, pTupleOf, ints1, pSum, pSortedI, pMax, pMin, bls1, pAll, pAny, pEqG, pJoin, pDNew, pDGet, pDGet2, pDIn, Tv.key, pPick, pYes, kT, at0, at1, at2, at3, at4, exists_eq_left', Option.some.injEq, List.getElem?_cons_zero, List.getElem?_cons_succ, List.set_cons_zero, List.set_cons_succ, stS, Ar.sl, List.map_cons, List.map_nil, List.length_cons, List.length_nil, List.replicate_succ, List.replicate_zero, List.nil_append, List.cons_append, Nat.reduceSub, Nat.reduceAdd, wipeS, Bool.false_xor, Bool.true_xor, Bool.false_eq_true, if_true, if_false, decide_eq_true_eq, and_true, true_and, Bool.not_true, Bool.not_false, Bool.not_eq_true', decide_eq_false_iff_not, Nat.zero_le, Nat.reduceLeDiff, Int.reduceLT, Int.reduceLE, Int.reduceEq, Int.reduceNeg, Int.reducePow, Int.reduceAdd, Int.reduceSub, Nat.reduceMul, rgT_len, String.reduceBEq, beq_self_eq_true, Bool.or_false, Bool.false_or, Bool.true_or, Bool.or_true, Bool.or_self, ite_true, ite_false, ite_self, Int.zero_add, Bool.true_eq_false, reduceCtorEq, Function.comp_apply, unS, unSl_lkd, unSl_pvd, unSl_val, unSl_own, unSl_owd, unSl_box, unSl_any, pDisp, pDs0, pDs1, kvT, unSl_odl, pSortD, keyStrs_map, pRef, pXC, unSl_tab])))
-- USE PL
section
variable {fw : Bool} {P : Program} {w : World} {K : PySem.W.Frag} {mg : Str → Option Value} {base : Heap}
theorem Txt.eqM (T : Txt P K mg) (t : Tm) : CmpO K (t.cls T.ca) T.Term_eq.f .Eq := by
  cases t
  · exact T.e_Now_Eq
  · exact T.e_Shift_Eq
  · exact T.e_Look_Eq
  · exact T.e_Either_Eq
  · exact T.e_Later_Eq
  · exact T.e_Earlier_Eq
theorem Txt.neM (T : Txt P K mg) (t : Tm) : NeO K (t.cls T.ca) T.Term_eq.f := by
  cases t
  · exact T.ne_Now
  · exact T.ne_Shift
  · exact T.ne_Look
  · exact T.ne_Either
  · exact T.ne_Later
  · exact T.ne_Earlier
theorem Txt.nfM (T : Txt P K mg) (t u : Tm) : PySem.W.notFirst K (t.cls T.ca) (.ref (u.cls T.ca)) = true := by
  cases t <;> cases u
  · exact T.nf_Now_Now
  · exact T.nf_Now_Shift
  · exact T.nf_Now_Look
  · exact T.nf_Now_Either
  · exact T.nf_Now_Later
  · exact T.nf_Now_Earlier
  · exact T.nf_Shift_Now
  · exact T.nf_Shift_Shift
  · exact T.nf_Shift_Look
  · exact T.nf_Shift_Either
  · exact T.nf_Shift_Later
  · exact T.nf_Shift_Earlier
  · exact T.nf_Look_Now
  · exact T.nf_Look_Shift
  · exact T.nf_Look_Look
  · exact T.nf_Look_Either
  · exact T.nf_Look_Later
  · exact T.nf_Look_Earlier
  · exact T.nf_Either_Now
  · exact T.nf_Either_Shift
  · exact T.nf_Either_Look
  · exact T.nf_Either_Either
  · exact T.nf_Either_Later
  · exact T.nf_Either_Earlier
  · exact T.nf_Later_Now
  · exact T.nf_Later_Shift
  · exact T.nf_Later_Look
  · exact T.nf_Later_Either
  · exact T.nf_Later_Later
  · exact T.nf_Later_Earlier
  · exact T.nf_Earlier_Now
  · exact T.nf_Earlier_Shift
  · exact T.nf_Earlier_Look
  · exact T.nf_Earlier_Either
  · exact T.nf_Earlier_Later
  · exact T.nf_Earlier_Earlier
theorem way_ok {wy : Str} (h : wy ∈ ways) : PyData.strOk wy = true := by
  simp only [List.mem_cons, List.not_mem_nil, or_false] at h
  rcases h with rfl | rfl | rfl | rfl <;> decide +kernel
theorem wf_sok : ∀ {t : Tm}, t.wf → t.sok
  | .now, _ => trivial
  | .shift m _, h => wf_sok (t := m) h
  | .look _ m _ _, h => ⟨name_ok h.1, way_ok h.2.1, wf_sok (t := m) h.2.2.2⟩
  | .either a b, h => ⟨wf_sok (t := a) h.1, wf_sok (t := b) h.2⟩
  | .later a b, h => ⟨wf_sok (t := a) h.1, wf_sok (t := b) h.2⟩
  | .earlier a b, h => ⟨wf_sok (t := a) h.1, wf_sok (t := b) h.2⟩
theorem oD_refl (o : Option Int) : PyData.eqv (oD o) (oD o) = true := by cases o <;> simp [oD, PyData.eqv]
theorem data_refl : ∀ t : Tm, PyData.eqv t.data t.data = true
  | .now => by simp [Tm.data, PyData.eqv, PyData.eqvAll]
  | .shift m n => by simp [Tm.data, PyData.eqv, PyData.eqvAll, data_refl m]
  | .look s m w l => by simp [Tm.data, PyData.eqv, PyData.eqvAll, data_refl m, oD_refl]
  | .either a b => by simp [Tm.data, PyData.eqv, PyData.eqvAll, data_refl a, data_refl b]
  | .later a b => by simp [Tm.data, PyData.eqv, PyData.eqvAll, data_refl a, data_refl b]
  | .earlier a b => by simp [Tm.data, PyData.eqv, PyData.eqvAll, data_refl a, data_refl b]
def pEqTm (T : Txt P K mg) (neg : Bool) : Sx → Sx → (Sx → Prop) → Prop := fun x y Q => ∃ t u, x = .v (tmT T t) ∧ y = .v (tmT T u) ∧ t.wf ∧ u.wf ∧ t.depth ≤ 12 ∧ u.depth ≤ 12 ∧ Q (.v (.bl (neg ^^ PyData.eqv t.data u.data)))
theorem eqtm_go {T : Txt P K mg} {B : Bx} {H0 H : Hp} {O0 O : List Addr} {Hs Kb : Hp} {ss : List Sl} {σ : L2.St} {Q : VK} {Qp : Sx → Prop} {E : XK} {x y : Sx} {v u : V} {neg : Bool} (c : Ct fw B O0 O Hs Kb H ss σ) (rx : XR B O H0 H ss σ x v) (ry : XR B O H0 H ss σ y u) (h : pEqTm T neg x y Qp) (f : Fin B O H ss σ Q Qp) :
    ∃ (t s : Tm) (a : Addr) (dx : Addr) (fs : List (Str × V)), v = .ref a ∧ H a = some (.ins (t.cls T.ca) dx fs) ∧ TyX K H u (.ref (s.cls T.ca)) ∧ spTEq T [v, u] H (fun v' H' => ∃ b, v' = .bl b ∧ Q (.bl (neg ^^ b)) H') E := by
  obtain ⟨t, s, rfl, rfl, hw, hw2, d1, d2, q⟩ := h
  obtain ⟨a, rfl, ht⟩ : ∃ a, v = .ref a ∧ TmAt T.ca (kn B O H) t a := rx
  obtain ⟨b, rfl, hs⟩ : ∃ a, u = .ref a ∧ TmAt T.ca (kn B O H) s a := ry
  have ht1 := ht.same kn_all
  have hs1 := hs.same kn_all
  obtain ⟨dx, fs, ho, _⟩ := ht1.insw
  exact ⟨t, s, a, dx, fs, rfl, ho, hs1.ty, t, s, a, b, rfl, ht1, hs1, wf_sok hw, wf_sok hw2, d1, d2, fun H' s' => ⟨_, rfl, f.run _ _ _ q (Stay.of s') (c.w.bx.same s') (show Rep (kn B O H') (.bl _) (.bl _) from rfl)⟩⟩
instance lEqTm {X : Cx} {T : Txt P K mg} {E : XK} [hK : IsK X.K K] : LR fw (rEqO X T.Term_eq.f (spTEq T) E) (pEqTm T false) := ⟨fun {B O0 O Hs Kb H0 H ss σ Q Qp x y v u} c0 c s rx ry h f => by
  have e := hK.eq
  obtain ⟨t, s', a, dx, fs, rfl, h1, ty, hs⟩ := eqtm_go (E := E) c rx ry h f
  simp only [Bool.false_xor] at hs
  unfold rEqO
  rw [e]
  exact ⟨a, _, dx, fs, _, rfl, h1, ty, T.eqM t, T.nfM t s', hs⟩⟩
instance lNeTm {X : Cx} {T : Txt P K mg} {E : XK} [hK : IsK X.K K] : LR fw (rNeO X T.Term_eq.f (spTEq T) E) (pEqTm T true) := ⟨fun {B O0 O Hs Kb H0 H ss σ Q Qp x y v u} c0 c s rx ry h f => by
  have e := hK.eq
  obtain ⟨t, s', a, dx, fs, rfl, h1, ty, hs⟩ := eqtm_go (E := E) c rx ry h f
  simp only [Bool.true_xor] at hs
  unfold rNeO
  rw [e]
  exact ⟨a, _, dx, fs, _, rfl, h1, ty, T.neM t, T.nfM t s', hs⟩⟩
/-- isinstance(x, Term) -/
def rIsiTm (T : Txt P K mg) (K' : PySem.W.Frag) : List V → Hp → VK → Prop := rIsi K'
theorem call_isiTm {X : Cx} (T : Txt P K mg) : CallR X (.builtin "isinstance") (rIsiTm T X.K) := call_isi
def pIsiTm (T : Txt P K mg) : List Sx → (Sx → Prop) → Prop := fun xs Q => ∃ t, xs = [.v (tmT T t), .cl T.c_Term] ∧ Q (.v (.bl true))
instance lIsiTm {K' : PySem.W.Frag} {T : Txt P K mg} [hK : IsK K' K] : LC fw (rIsiTm T K') (pIsiTm T) := ⟨fun {B O0 O Hs Kb H0 H ss σ Q Qp xs vs} c0 c s r h q => by
  cases hK.eq
  obtain ⟨t, rfl, h⟩ := h
  obtain ⟨v, w, rfl, rx, v2, w2, rfl, rc, rfl⟩ := r
  cases rc
  obtain ⟨a, rfl, ht⟩ : ∃ a, v = .ref a ∧ TmAt T.ca (kn B O H) t a := rx
  exact ⟨.ref a, .ref T.c_Term, _, _, true, rfl, .own _, (ht.same kn_all).ty, (T.kc t).kt, q.now c.w.bx h rfl⟩⟩
end
theorem ne_first {a b : Str} (h : a ≠ b) {xs ys : List PyData} : ¬ PyData.eqv (.tuple (.str a :: xs)) (.tuple (.str b :: ys)) = true := by
  rw [show PyData.eqv (.tuple (.str a :: xs)) (.tuple (.str b :: ys)) = PyData.eqvAll (.str a :: xs) (.str b :: ys) from by simp [PyData.eqv]]
  rw [PyData.eqvAll, show PyData.eqv (.str a) (.str b) = (a == b) from by simp [PyData.eqv]]
  simp [h]
theorem eqvAll_len : ∀ {xs ys : List PyData}, PyData.eqvAll xs ys = true → xs.length = ys.length
  | [], [], _ => rfl
  | [], y :: ys, h => by rw [PyData.eqvAll] at h <;> simp at h
  | x :: xs, [], h => by rw [PyData.eqvAll] at h <;> simp at h
  | x :: xs, y :: ys, h => by
    rw [PyData.eqvAll, Bool.and_eq_true] at h
    rw [List.length_cons, List.length_cons, eqvAll_len h.2]
theorem ne_len {xs ys : List PyData} (h : xs.length ≠ ys.length) : ¬ PyData.eqv (.tuple xs) (.tuple ys) = true := fun e => by
  rw [show PyData.eqv (.tuple xs) (.tuple ys) = PyData.eqvAll xs ys from by simp [PyData.eqv]] at e
  exact h (eqvAll_len e)
theorem oD_eqv (a b : Option Int) : PyData.eqv (oD a) (oD b) = true ↔ a = b := by
  cases a <;> cases b <;> simp [oD, PyData.eqv]
theorem data_eqv : ∀ t u : Tm, PyData.eqv t.data u.data = true ↔ t = u := by
  intro t
  induction t with
  | now   =>
    intro u
    cases u with
    | now  => simp [Tm.data, PyData.eqv, PyData.eqvAll, and_comm]
    | shift m' n' => exact ⟨fun h => absurd h (ne_len (by simp)), fun h => nomatch h⟩
    | look s' m' w' l' => exact ⟨fun h => absurd h (ne_len (by simp)), fun h => nomatch h⟩
    | either a' b' => exact ⟨fun h => absurd h (ne_len (by simp)), fun h => nomatch h⟩
    | later a' b' => exact ⟨fun h => absurd h (ne_len (by simp)), fun h => nomatch h⟩
    | earlier a' b' => exact ⟨fun h => absurd h (ne_len (by simp)), fun h => nomatch h⟩
  | shift m n ih =>
    intro u
    cases u with
    | now  => exact ⟨fun h => absurd h (ne_len (by simp)), fun h => nomatch h⟩
    | shift m' n' => simp [Tm.data, PyData.eqv, PyData.eqvAll, ih, and_comm]
    | look s' m' w' l' => exact ⟨fun h => absurd h (ne_len (by simp)), fun h => nomatch h⟩
    | either a' b' => exact ⟨fun h => absurd h (ne_first (by decide)), fun h => nomatch h⟩
    | later a' b' => exact ⟨fun h => absurd h (ne_first (by decide)), fun h => nomatch h⟩
    | earlier a' b' => exact ⟨fun h => absurd h (ne_first (by decide)), fun h => nomatch h⟩
  | look s m w l ih =>
    intro u
    cases u with
    | now  => exact ⟨fun h => absurd h (ne_len (by simp)), fun h => nomatch h⟩
    | shift m' n' => exact ⟨fun h => absurd h (ne_len (by simp)), fun h => nomatch h⟩
    | look s' m' w' l' =>
      simp [Tm.data, PyData.eqv, PyData.eqvAll, ih, oD_eqv]
      constructor <;> (intro h; simp [h])
    | either a' b' => exact ⟨fun h => absurd h (ne_len (by simp)), fun h => nomatch h⟩
    | later a' b' => exact ⟨fun h => absurd h (ne_len (by simp)), fun h => nomatch h⟩
    | earlier a' b' => exact ⟨fun h => absurd h (ne_len (by simp)), fun h => nomatch h⟩
  | either a b i1 i2 =>
    intro u
    cases u with
    | now  => exact ⟨fun h => absurd h (ne_len (by simp)), fun h => nomatch h⟩
    | shift m' n' => exact ⟨fun h => absurd h (ne_first (by decide)), fun h => nomatch h⟩
    | look s' m' w' l' => exact ⟨fun h => absurd h (ne_len (by simp)), fun h => nomatch h⟩
    | either a' b' => simp [Tm.data, PyData.eqv, PyData.eqvAll, i1, i2, and_comm]
    | later a' b' => exact ⟨fun h => absurd h (ne_first (by decide)), fun h => nomatch h⟩
    | earlier a' b' => exact ⟨fun h => absurd h (ne_first (by decide)), fun h => nomatch h⟩
  | later a b i1 i2 =>
    intro u
    cases u with
    | now  => exact ⟨fun h => absurd h (ne_len (by simp)), fun h => nomatch h⟩
    | shift m' n' => exact ⟨fun h => absurd h (ne_first (by decide)), fun h => nomatch h⟩
    | look s' m' w' l' => exact ⟨fun h => absurd h (ne_len (by simp)), fun h => nomatch h⟩
    | either a' b' => exact ⟨fun h => absurd h (ne_first (by decide)), fun h => nomatch h⟩
    | later a' b' => simp [Tm.data, PyData.eqv, PyData.eqvAll, i1, i2, and_comm]
    | earlier a' b' => exact ⟨fun h => absurd h (ne_first (by decide)), fun h => nomatch h⟩
  | earlier a b i1 i2 =>
    intro u
    cases u with
    | now  => exact ⟨fun h => absurd h (ne_len (by simp)), fun h => nomatch h⟩
    | shift m' n' => exact ⟨fun h => absurd h (ne_first (by decide)), fun h => nomatch h⟩
    | look s' m' w' l' => exact ⟨fun h => absurd h (ne_len (by simp)), fun h => nomatch h⟩
    | either a' b' => exact ⟨fun h => absurd h (ne_first (by decide)), fun h => nomatch h⟩
    | later a' b' => exact ⟨fun h => absurd h (ne_first (by decide)), fun h => nomatch h⟩
    | earlier a' b' => simp [Tm.data, PyData.eqv, PyData.eqvAll, i1, i2, and_comm]
end Pl

namespace Pl
open PySem L2
local macro_rules | `(tactic| bv_omega) => `(tactic| try simp only [pVar, pC, pTy, pCl, pNil, pCons, pOp, pUn, pCB, pI, pIC, pIB, pNeg, eqS, pEq, isNonS, pIsN, pIx, tvs, pTup, pLst, pTest, pAnd, pOr, pNot, pAndV, pOrV, pNotV, pIf, pChain, Sx.sl, Sx.tv, Sx.sq, Sx.dq, Sx.tq, Sx.rt, Sx.sqv, Sx.it, Sx.ar, Option.map_some, Option.bind_some, pgName, pgNil, pgCons, pgTup, piList, piTup, piSeq, piRange1, piRange2, piKeys, piItems, ars, pSp, pLen, tyOf, kb, pIsi, intsT, strsT, intsT_map, strsT_map, blsT_map, pIn, pInG, pNoPart, pPart, pSl, pRev, pAddG, pMulG, pAbs, p2I, pInt1, pBool1, pStrI, pListOf, pTupleOf, ints1, pSum, pSortedI, pMax, pMin, bls1, pAll, pAny, pEqG, pJoin, pDNew, pDGet, pDGet2, pDIn, Tv.key, pPick, pYes, kT, at0, at1, at2, at3, at4, exists_eq_left', Option.some.injEq, List.getElem?_cons_zero, List.getElem?_cons_succ, List.set_cons_zero, List.set_cons_succ, stS, Ar.sl, List.map_cons, List.map_nil, List.length_cons, List.length_nil, List.replicate_succ, List.replicate_zero, List.nil_append, List.cons_append, Nat.reduceSub, Nat.reduceAdd, wipeS, Bool.false_xor, Bool.true_xor, Bool.false_eq_true, if_true, if_false, decide_eq_true_eq, and_true, true_and, Bool.not_true, Bool.not_false, Bool.not_eq_true', decide_eq_false_iff_not, Nat.zero_le, Nat.reduceLeDiff, Int.reduceLT, Int.reduceLE, Int.reduceEq, Int.reduceNeg, Int.reducePow, Int.reduceAdd, Int.reduceSub, Nat.reduceMul, rgT_len, String.reduceBEq, beq_self_eq_true, Bool.or_false, Bool.false_or, Bool.true_or, Bool.or_true, Bool.or_self, ite_true, ite_false, ite_self, Int.zero_add, Bool.true_eq_false, reduceCtorEq, Function.comp_apply, unS, unSl_lkd, unSl_pvd, unSl_val, unSl_own, unSl_owd, unSl_box, unSl_any, pDisp, pDs0, pDs1, kvT, unSl_odl, pSortD, keyStrs_map, pRef, pXC, unSl_tab])
local macro_rules | `(tactic| injections) => `(tactic| first
  | with_reducible refine s_seq ?_
  | with_reducible refine s_set ?_
  | with_reducible refine s_asg ?_
  | with_reducible refine s_if ?_
  | with_reducible refine s_ret ?_
  | with_reducible refine s_retN ?_
  | with_reducible refine s_next ?_
  | with_reducible refine s_for ?_
  | with_reducible refine s_break ?_
  | with_reducible refine s_cont ?_
  | with_reducible refine s_append (by first | with_unfolding_all rfl | assumption) (by with_unfolding_all first | omega | (simp only [List.length_map, List.length_append, List.length_cons, List.length_nil]; omega)) ?_
  | with_reducible refine s_drop ?_
  | with_reducible refine s_setF (by with_unfolding_all rfl) ?_
  | with_reducible refine s_asgF (by with_unfolding_all rfl) ?_
  | with_reducible refine s_ifF (by with_unfolding_all rfl) ?_
  | with_reducible refine s_retF (by with_unfolding_all rfl) ?_
  | with_reducible refine s_ifN ?_
  | with_reducible refine s_setN ?_)
local macro_rules | `(tactic| subst_vars) => `(tactic| ((try simp only [pVar, pC, pTy, pCl, pNil, pCons, pOp, pUn, pCB, pI, pIC, pIB, pNeg, eqS, pEq, isNonS, pIsN, pIx, tvs, pTup, pLst, pTest, pAnd, pOr, pNot, pAndV, pOrV, pNotV, pIf, pChain, Sx.sl, Sx.tv, Sx.sq, Sx.dq, Sx.tq, Sx.rt, Sx.sqv, Sx.it, Sx.ar, Option.map_some, Option.bind_some, pgName, pgNil, pgCons, pgTup, piList, piTup, piSeq, piRange1, piRange2, piKeys, piItems, ars, pSp, pLen, tyOf, kb, pIsi, intsT, strsT, intsT_map, strsT_map, blsT_map, pIn, pInG, pNoPart, pPart, pSl, pRev, pAddG, pMulG, pAbs, p2I, pInt1, pBool1, pStrI, pListOf, pTupleOf, ints1, pSum, pSortedI, pMax, pMin, bls1, pAll, pAny, pEqG, pJoin, pDNew, pDGet, pDGet2, pDIn, Tv.key, pPick, pYes, kT, at0, at1, at2, at3, at4, exists_eq_left', Option.some.injEq, List.getElem?_cons_zero, List.getElem?_cons_succ, List.set_cons_zero, List.set_cons_succ, stS, Ar.sl, List.map_cons, List.map_nil, List.length_cons, List.length_nil, List.replicate_succ, List.replicate_zero, List.nil_append, List.cons_append, Nat.reduceSub, Nat.reduceAdd, wipeS, Bool.false_xor, Bool.true_xor, Bool.false_eq_true, if_true, if_false, decide_eq_true_eq, and_true, true_and, Bool.not_true, Bool.not_false, Bool.not_eq_true', decide_eq_false_iff_not, Nat.zero_le, Nat.reduceLeDiff, Int.reduceLT, Int.reduceLE, Int.reduceEq, Int.reduceNeg, Int.reducePow, Int.reduceAdd, Int.reduceSub, Nat.reduceMul, rgT_len, String.reduceBEq, beq_self_eq_true, Bool.or_false, Bool.false_or, Bool.true_or, Bool.or_true, Bool.or_self, ite_true, ite_false, ite_self, Int.zero_add, Bool.true_eq_false, reduceCtorEq, Function.comp_apply, unS, unSl_lkd, unSl_pvd, unSl_val, unSl_own, unSl_owd, unSl_box, unSl_any, pDisp, pDs0, pDs1, kvT, unSl_odl, pSortD, keyStrs_map, pRef, pXC, unSl_tab]) <;> repeat ((first
  | with_reducible refine s_seq ?_
  | with_reducible refine s_set ?_
  | with_reducible refine s_asg ?_
  | with_reducible refine s_if ?_
  | with_reducible refine s_ret ?_
  | with_reducible refine s_retN ?_
  | with_reducible refine s_next ?_
  | with_reducible refine s_break ?_
  | with_reducible refine s_cont ?_
  | with_reducible refine s_append (by first | with_unfolding_all rfl | assumption) (by with_unfolding_all first | omega | (simp only [List.length_map, List.length_append, List.length_cons, List.length_nil]; omega)) ?_
  | with_reducible refine s_drop ?_
  | with_reducible refine s_setF (by with_unfolding_all rfl) ?_
  | with_reducible refine s_asgF (by with_unfolding_all rfl) ?_
  | with_reducible refine s_ifF (by with_unfolding_all rfl) ?_
  | with_reducible refine s_retF (by with_unfolding_all rfl) ?_
  | with_reducible refine s_ifN ?_
  | with_reducible refine s_setN ?_) <;> try simp only [pVar, pC, pTy, pCl, pNil, pCons, pOp, pUn, pCB, pI, pIC, pIB, pNeg, eqS, pEq, isNonS, pIsN, pIx, tvs, pTup, pLst, pTest, pAnd, pOr, pNot, pAndV, pOrV, pNotV, pIf, pChain, Sx.sl, Sx.tv, Sx.sq, Sx.dq, Sx.tq, Sx.rt, Sx.sqv, Sx.it, Sx.ar, Option.map_some, Option.bind_some, pgName, pgNil, pgCons, pgTup, piList, piTup, piSeq, piRange1, piRange2, piKeys, piItems, ars, pSp, pLen, tyOf, kb, pIsi, intsT, strsT, intsT_map, strsT_map, blsT_map, pIn, pInG, pNoPart, pPart, pSl, pRev, pAddG, pMulG, pAbs, p2I, pInt1, pBool1, pStrI, pListOf, pTupleOf, ints1, pSum, pSortedI, pMax, pMin, bls1, pAll, pAny, pEqG, pJoin, pDNew, pDGet, pDGet2, pDIn, Tv.key, pPick, pYes, kT, at0, at1, at2, at3, at4, exists_eq_left', Option.some.injEq, List.getElem?_cons_zero, List.getElem?_cons_succ, List.set_cons_zero, List.set_cons_succ, stS, Ar.sl, List.map_cons, List.map_nil, List.length_cons, List.length_nil, List.replicate_succ, List.replicate_zero, List.nil_append, List.cons_append, Nat.reduceSub, Nat.reduceAdd, wipeS, Bool.false_xor, Bool.true_xor, Bool.false_eq_true, if_true, if_false, decide_eq_true_eq, and_true, true_and, Bool.not_true, Bool.not_false, Bool.not_eq_true', decide_eq_false_iff_not, Nat.zero_le, Nat.reduceLeDiff, Int.reduceLT, Int.reduceLE, Int.reduceEq, Int.reduceNeg, Int.reducePow, Int.reduceAdd, Int.reduceSub, Nat.reduceMul, rgT_len, String.reduceBEq, beq_self_eq_true, Bool.or_false, Bool.false_or, Bool.true_or, Bool.or_true, Bool.or_self, ite_true, ite_false, ite_self, Int.zero_add, Bool.true_eq_false, reduceCtorEq, Function.comp_apply, unS, unSl_lkd, unSl_pvd, unSl_val, unSl_own, unSl_owd, unSl_box, unSl_any, pDisp, pDs0, pDs1, kvT, unSl_odl, pSortD, keyStrs_map, pRef, pXC, unSl_tab])))
-- USE PL
section
variable {fw : Bool} {P : Program} {w : World} {K : PySem.W.Frag} {mg : Str → Option Value} {base : Heap}
/-- an attribute of a value -/
def FldOf (K : PySem.W.Frag) (t : Tv) (f : Str) (t' : Tv) : Prop := ∀ {H : Hp} {v : V}, Rep H t v → ∃ a C dx fs u, v = .ref a ∧ H a = some (.ins C dx fs) ∧ Cls K C ∧ NoAttr K C f ∧ fs.lookup f = some u ∧ Rep H t' u
def pFld (K : PySem.W.Frag) (f : Str) (pe : PX) : PX := fun ss Q => pe ss fun x => ∃ t t', x = .v t ∧ FldOf K t f t' ∧ Q (.v t')
instance lFld {K : PySem.W.Frag} {f : Str} {te : TE} {pe : PX} [k : LE fw te pe] : LE fw (tFld K te f) (pFld K f pe) := ⟨fun {B O0 O Hs Kb H ss σ Q Qp} c h q => by
  refine k.run c h fun x H1 v q1 s1 b1 r1 => ?_
  obtain ⟨t, t', rfl, hf, q1⟩ := q1
  obtain ⟨a, C, dx, fs, u, rfl, h1, h2, h3, h4, h5⟩ := hf (show Rep (kn B O H1) t v from r1)
  exact ⟨a, C, dx, fs, u, rfl, kn_all _ _ h1, h2, h3, h4, q _ _ _ q1 s1 b1 h5⟩⟩
theorem fld_stream (T : Txt P K mg) {z : Str} {m : Tm} {wy : Str} {lim : Option Int} : FldOf K (tmT T (.look z m wy lim)) "stream" (.str z) := fun h => by
  obtain ⟨a, rfl, dx, b, h1, h2⟩ := h
  exact ⟨a, _, dx, _, _, rfl, h1, T.o_Look.cl, T.n_Look_stream, rfl, rfl⟩
theorem fld_moment (T : Txt P K mg) {z : Str} {m : Tm} {wy : Str} {lim : Option Int} : FldOf K (tmT T (.look z m wy lim)) "moment" (tmT T m) := fun h => by
  obtain ⟨a, rfl, dx, b, h1, h2⟩ := h
  exact ⟨a, _, dx, _, _, rfl, h1, T.o_Look.cl, T.n_Look_moment, rfl, ⟨b, rfl, h2⟩⟩
theorem fld_way (T : Txt P K mg) {z : Str} {m : Tm} {wy : Str} {lim : Option Int} : FldOf K (tmT T (.look z m wy lim)) "way" (.str wy) := fun h => by
  obtain ⟨a, rfl, dx, b, h1, h2⟩ := h
  exact ⟨a, _, dx, _, _, rfl, h1, T.o_Look.cl, T.n_Look_way, rfl, rfl⟩
theorem fld_within (T : Txt P K mg) {z : Str} {m : Tm} {wy : Str} {lim : Option Int} : FldOf K (tmT T (.look z m wy lim)) "within" (oT lim) := fun h => by
  obtain ⟨a, rfl, dx, b, h1, h2⟩ := h
  exact ⟨a, _, dx, _, _, rfl, h1, T.o_Look.cl, T.n_Look_within, rfl, oT_rep.mpr rfl⟩
/-- isinstance(x, Look) -/
def rIsiLk (T : Txt P K mg) (K' : PySem.W.Frag) : List V → Hp → VK → Prop := rIsi K'
theorem call_isiLk {X : Cx} (T : Txt P K mg) : CallR X (.builtin "isinstance") (rIsiLk T X.K) := call_isi
def pIsiLk (T : Txt P K mg) : List Sx → (Sx → Prop) → Prop := fun xs Q => ∃ z m wy lim, xs = [.v (tmT T (.look z m wy lim)), .cl T.c_Look] ∧ Q (.v (.bl true))
instance lIsiLk {K' : PySem.W.Frag} {T : Txt P K mg} [hK : IsK K' K] : LC fw (rIsiLk T K') (pIsiLk T) := ⟨fun {B O0 O Hs Kb H0 H ss σ Q Qp xs vs} c0 c s r h q => by
  cases hK.eq
  obtain ⟨z, m, wy, lim, rfl, h⟩ := h
  obtain ⟨v, w, rfl, rx, v2, w2, rfl, rc, rfl⟩ := r
  cases rc
  obtain ⟨a, rfl, ht⟩ : ∃ a, v = .ref a ∧ TmAt T.ca (kn B O H) (.look z m wy lim) a := rx
  exact ⟨.ref a, .ref T.c_Look, _, _, true, rfl, .own _, (ht.same kn_all).ty, T.k1_Look_Look, q.now c.w.bx h rfl⟩⟩
end
end Pl

namespace Pl
open PySem L2
section
variable {P : Program} {w : World} {K : PySem.W.Frag} {mg : Str → Option Value} {base : Heap}
theorem ok_law_is_integer (T : Txt P K mg) {k : Nat} : FnOk P w K mg base CX0 (k + 1) T.law_is_integer.f T.law_is_integer.fd ["_law_thing"] spIsInteger := by
  refine T.law_is_integer.F.ok sc_law_is_integer (fun vs H Q E h => ?_) (fun cdv A outer s H vs Q E hr h => ?_)
  · obtain ⟨v, t, rfl, _⟩ := h
    rfl
  · obtain ⟨v, t, rfl, ty, q⟩ := h
    refine ⟨_, (pss_one (ps_ret (pe_and (pe_callB call_isi (by rfl) T.n_isinstance (by decide +kernel) (pa_cons (pv 0) (pa_cons (pe_bltn (v := .ty "int") (by rfl) T.n_int (by decide +kernel) rfl) pa_nil))) (pe_one (pe_not (pe_callB call_isi (by rfl) T.n_isinstance (by decide +kernel) (pa_cons (pv 0) (pa_cons (pe_bltn (v := .ty "bool") (by rfl) T.n_bool (by decide +kernel) rfl) pa_nil)))))))), ?_⟩
    refine ⟨v, rfl, _, _, _, _, _, rfl, .ty "int", ty.x, isI_int ty, _, rfl, ?_⟩
    rw [← isInt_of ty] at q
    cases h1 : tyB t "int" with
    | false =>
      rw [h1] at q
      exact iF rfl q
    | true =>
      rw [h1] at q
      refine iT rfl ⟨v, rfl, _, _, _, _, _, rfl, .ty "bool", ty.x, isI_bool ty, _, rfl, ?_⟩
      rw [Bool.true_and] at q
      exact q
end
end Pl

namespace Pl
open PySem L2
section
variable {P : Program} {w : World} {K : PySem.W.Frag} {mg : Str → Option Value} {base : Heap}
def spAnswerL : Sp := fun vs H Q _ => ∃ o : Option Int, vs = [oV o, oV o] ∧ Q (.bl true) H
theorem ok_law_answer (T : Txt P K mg) {k : Nat} : FnOk P w K mg base CX0 (k + 2) T.law_answer.f T.law_answer.fd ["_law_thing", "_law_due"] spAnswerL := by
  have G_law_is_integer : FnOk P w K mg base CX0 (k + 1) T.law_is_integer.f T.law_is_integer.fd ["_law_thing"] spIsInteger := ok_law_is_integer T
  refine T.law_answer.F.ok (k := k + 1) sc_law_answer (fun vs H Q E h => ?_) (fun cdv A outer s H vs Q E hr h => ?_)
  · obtain ⟨i, rfl, _⟩ := h
    rfl
  · obtain ⟨o, rfl, q⟩ := h
    refine ⟨_, (pss_cons (ps_if (pt_cmpR op_isN (pv 1) pe_non (nomark _)) (pss_one (ps_ret (pe_cmpR op_isN (pv 0) pe_non (nomark _)))) pss_nil)
  (pss_one (ps_ret (pe_and (pe_call G_law_is_integer (hr.mono (by omega)) (by rfl) T.law_is_integer.g T.law_is_integer.F.kp T.law_is_integer.b .nil pass0 (pa_cons (pv 0) pa_nil)) (pe_one (pe_cmpR op_eq (pv 0) (pv 1) (nomark _))))))), ?_⟩
    cases o with
    | none => exact ⟨_, rfl, rfl, _, rfl, iT rfl ⟨_, rfl, rfl, q⟩⟩
    | some i =>
      refine ⟨.int i, rfl, rfl, _, rfl, iF (decide_eq_false (fun h => nomatch h)) ?_⟩
      refine ⟨.int i, rfl, .int i, "int", rfl, .int i, _, rfl, iT rfl ⟨.int i, rfl, .int i, rfl, rfl, ?_⟩⟩
      rw [decide_eq_true rfl]
      exact q
end
end Pl

namespace Pl
open PySem L2
local macro_rules | `(tactic| bv_omega) => `(tactic| try simp only [pVar, pC, pTy, pCl, pNil, pCons, pOp, pUn, pCB, pI, pIC, pIB, pNeg, eqS, pEq, isNonS, pIsN, pIx, tvs, pTup, pLst, pTest, pAnd, pOr, pNot, pAndV, pOrV, pNotV, pIf, pChain, Sx.sl, Sx.tv, Sx.sq, Sx.dq, Sx.tq, Sx.rt, Sx.sqv, Sx.it, Sx.ar, Option.map_some, Option.bind_some, pgName, pgNil, pgCons, pgTup, piList, piTup, piSeq, piRange1, piRange2, piKeys, piItems, ars, pSp, pLen, tyOf, kb, pIsi, intsT, strsT, intsT_map, strsT_map, blsT_map, pIn, pInG, pNoPart, pPart, pSl, pRev, pAddG, pMulG, pAbs, p2I, pInt1, pBool1, pStrI, pListOf, pTupleOf, ints1, pSum, pSortedI, pMax, pMin, bls1, pAll, pAny, pEqG, pJoin, pDNew, pDGet, pDGet2, pDIn, Tv.key, pPick, pYes, kT, at0, at1, at2, at3, at4, exists_eq_left', Option.some.injEq, List.getElem?_cons_zero, List.getElem?_cons_succ, List.set_cons_zero, List.set_cons_succ, stS, Ar.sl, List.map_cons, List.map_nil, List.length_cons, List.length_nil, List.replicate_succ, List.replicate_zero, List.nil_append, List.cons_append, Nat.reduceSub, Nat.reduceAdd, wipeS, Bool.false_xor, Bool.true_xor, Bool.false_eq_true, if_true, if_false, decide_eq_true_eq, and_true, true_and, Bool.not_true, Bool.not_false, Bool.not_eq_true', decide_eq_false_iff_not, Nat.zero_le, Nat.reduceLeDiff, Int.reduceLT, Int.reduceLE, Int.reduceEq, Int.reduceNeg, Int.reducePow, Int.reduceAdd, Int.reduceSub, Nat.reduceMul, rgT_len, String.reduceBEq, beq_self_eq_true, Bool.or_false, Bool.false_or, Bool.true_or, Bool.or_true, Bool.or_self, ite_true, ite_false, ite_self, Int.zero_add, Bool.true_eq_false, reduceCtorEq, Function.comp_apply, unS, unSl_lkd, unSl_pvd, unSl_val, unSl_own, unSl_owd, unSl_box, unSl_any, pDisp, pDs0, pDs1, kvT, unSl_odl, pSortD, keyStrs_map, pRef, pXC, unSl_tab])
local macro_rules | `(tactic| injections) => `(tactic| first
  | with_reducible refine s_seq ?_
  | with_reducible refine s_set ?_
  | with_reducible refine s_asg ?_
  | with_reducible refine s_if ?_
  | with_reducible refine s_ret ?_
  | with_reducible refine s_retN ?_
  | with_reducible refine s_next ?_
  | with_reducible refine s_for ?_
  | with_reducible refine s_break ?_
  | with_reducible refine s_cont ?_
  | with_reducible refine s_append (by first | with_unfolding_all rfl | assumption) (by with_unfolding_all first | omega | (simp only [List.length_map, List.length_append, List.length_cons, List.length_nil]; omega)) ?_
  | with_reducible refine s_drop ?_
  | with_reducible refine s_setF (by with_unfolding_all rfl) ?_
  | with_reducible refine s_asgF (by with_unfolding_all rfl) ?_
  | with_reducible refine s_ifF (by with_unfolding_all rfl) ?_
  | with_reducible refine s_retF (by with_unfolding_all rfl) ?_
  | with_reducible refine s_ifN ?_
  | with_reducible refine s_setN ?_)
local macro_rules | `(tactic| subst_vars) => `(tactic| ((try simp only [pVar, pC, pTy, pCl, pNil, pCons, pOp, pUn, pCB, pI, pIC, pIB, pNeg, eqS, pEq, isNonS, pIsN, pIx, tvs, pTup, pLst, pTest, pAnd, pOr, pNot, pAndV, pOrV, pNotV, pIf, pChain, Sx.sl, Sx.tv, Sx.sq, Sx.dq, Sx.tq, Sx.rt, Sx.sqv, Sx.it, Sx.ar, Option.map_some, Option.bind_some, pgName, pgNil, pgCons, pgTup, piList, piTup, piSeq, piRange1, piRange2, piKeys, piItems, ars, pSp, pLen, tyOf, kb, pIsi, intsT, strsT, intsT_map, strsT_map, blsT_map, pIn, pInG, pNoPart, pPart, pSl, pRev, pAddG, pMulG, pAbs, p2I, pInt1, pBool1, pStrI, pListOf, pTupleOf, ints1, pSum, pSortedI, pMax, pMin, bls1, pAll, pAny, pEqG, pJoin, pDNew, pDGet, pDGet2, pDIn, Tv.key, pPick, pYes, kT, at0, at1, at2, at3, at4, exists_eq_left', Option.some.injEq, List.getElem?_cons_zero, List.getElem?_cons_succ, List.set_cons_zero, List.set_cons_succ, stS, Ar.sl, List.map_cons, List.map_nil, List.length_cons, List.length_nil, List.replicate_succ, List.replicate_zero, List.nil_append, List.cons_append, Nat.reduceSub, Nat.reduceAdd, wipeS, Bool.false_xor, Bool.true_xor, Bool.false_eq_true, if_true, if_false, decide_eq_true_eq, and_true, true_and, Bool.not_true, Bool.not_false, Bool.not_eq_true', decide_eq_false_iff_not, Nat.zero_le, Nat.reduceLeDiff, Int.reduceLT, Int.reduceLE, Int.reduceEq, Int.reduceNeg, Int.reducePow, Int.reduceAdd, Int.reduceSub, Nat.reduceMul, rgT_len, String.reduceBEq, beq_self_eq_true, Bool.or_false, Bool.false_or, Bool.true_or, Bool.or_true, Bool.or_self, ite_true, ite_false, ite_self, Int.zero_add, Bool.true_eq_false, reduceCtorEq, Function.comp_apply, unS, unSl_lkd, unSl_pvd, unSl_val, unSl_own, unSl_owd, unSl_box, unSl_any, pDisp, pDs0, pDs1, kvT, unSl_odl, pSortD, keyStrs_map, pRef, pXC, unSl_tab]) <;> repeat ((first
  | with_reducible refine s_seq ?_
  | with_reducible refine s_set ?_
  | with_reducible refine s_asg ?_
  | with_reducible refine s_if ?_
  | with_reducible refine s_ret ?_
  | with_reducible refine s_retN ?_
  | with_reducible refine s_next ?_
  | with_reducible refine s_break ?_
  | with_reducible refine s_cont ?_
  | with_reducible refine s_append (by first | with_unfolding_all rfl | assumption) (by with_unfolding_all first | omega | (simp only [List.length_map, List.length_append, List.length_cons, List.length_nil]; omega)) ?_
  | with_reducible refine s_drop ?_
  | with_reducible refine s_setF (by with_unfolding_all rfl) ?_
  | with_reducible refine s_asgF (by with_unfolding_all rfl) ?_
  | with_reducible refine s_ifF (by with_unfolding_all rfl) ?_
  | with_reducible refine s_retF (by with_unfolding_all rfl) ?_
  | with_reducible refine s_ifN ?_
  | with_reducible refine s_setN ?_) <;> try simp only [pVar, pC, pTy, pCl, pNil, pCons, pOp, pUn, pCB, pI, pIC, pIB, pNeg, eqS, pEq, isNonS, pIsN, pIx, tvs, pTup, pLst, pTest, pAnd, pOr, pNot, pAndV, pOrV, pNotV, pIf, pChain, Sx.sl, Sx.tv, Sx.sq, Sx.dq, Sx.tq, Sx.rt, Sx.sqv, Sx.it, Sx.ar, Option.map_some, Option.bind_some, pgName, pgNil, pgCons, pgTup, piList, piTup, piSeq, piRange1, piRange2, piKeys, piItems, ars, pSp, pLen, tyOf, kb, pIsi, intsT, strsT, intsT_map, strsT_map, blsT_map, pIn, pInG, pNoPart, pPart, pSl, pRev, pAddG, pMulG, pAbs, p2I, pInt1, pBool1, pStrI, pListOf, pTupleOf, ints1, pSum, pSortedI, pMax, pMin, bls1, pAll, pAny, pEqG, pJoin, pDNew, pDGet, pDGet2, pDIn, Tv.key, pPick, pYes, kT, at0, at1, at2, at3, at4, exists_eq_left', Option.some.injEq, List.getElem?_cons_zero, List.getElem?_cons_succ, List.set_cons_zero, List.set_cons_succ, stS, Ar.sl, List.map_cons, List.map_nil, List.length_cons, List.length_nil, List.replicate_succ, List.replicate_zero, List.nil_append, List.cons_append, Nat.reduceSub, Nat.reduceAdd, wipeS, Bool.false_xor, Bool.true_xor, Bool.false_eq_true, if_true, if_false, decide_eq_true_eq, and_true, true_and, Bool.not_true, Bool.not_false, Bool.not_eq_true', decide_eq_false_iff_not, Nat.zero_le, Nat.reduceLeDiff, Int.reduceLT, Int.reduceLE, Int.reduceEq, Int.reduceNeg, Int.reducePow, Int.reduceAdd, Int.reduceSub, Nat.reduceMul, rgT_len, String.reduceBEq, beq_self_eq_true, Bool.or_false, Bool.false_or, Bool.true_or, Bool.or_true, Bool.or_self, ite_true, ite_false, ite_self, Int.zero_add, Bool.true_eq_false, reduceCtorEq, Function.comp_apply, unS, unSl_lkd, unSl_pvd, unSl_val, unSl_own, unSl_owd, unSl_box, unSl_any, pDisp, pDs0, pDs1, kvT, unSl_odl, pSortD, keyStrs_map, pRef, pXC, unSl_tab])))
-- USE PL
section
variable {fw : Bool} {P : Program} {w : World} {K : PySem.W.Frag} {mg : Str → Option Value} {base : Heap}
/-- _law_answer -/
def pAnswerL : List Sx → (Sx → Prop) → Prop := fun xs Q => ∃ o : Option Int, xs = [.v (oT o), .v (oT o)] ∧ Q (.v (.bl true))
instance lAnswerL : LSp fw spAnswerL pAnswerL := ⟨fun {B O0 O Hs Kb H0 H ss σ Q E Qp xs vs} c0 c s r h f => by
  obtain ⟨o, rfl, q⟩ := h
  obtain ⟨v, w1, rfl, r1, v2, w2, rfl, r2, rfl⟩ := r
  cases oT_rep.mp (show Rep (kn B O H) (oT o) v from r1)
  cases oT_rep.mp (show Rep (kn B O H) (oT o) v2 from r2)
  exact ⟨o, rfl, f.now c.w.bx q rfl⟩⟩
end
end Pl

namespace Pl
open PySem L2
local macro_rules | `(tactic| bv_omega) => `(tactic| try simp only [pVar, pC, pTy, pCl, pNil, pCons, pOp, pUn, pCB, pI, pIC, pIB, pNeg, eqS, pEq, isNonS, pIsN, pIx, tvs, pTup, pLst, pTest, pAnd, pOr, pNot, pAndV, pOrV, pNotV, pIf, pChain, Sx.sl, Sx.tv, Sx.sq, Sx.dq, Sx.tq, Sx.rt, Sx.sqv, Sx.it, Sx.ar, Option.map_some, Option.bind_some, pgName, pgNil, pgCons, pgTup, piList, piTup, piSeq, piRange1, piRange2, piKeys, piItems, ars, pSp, pLen, tyOf, kb, pIsi, intsT, strsT, intsT_map, strsT_map, blsT_map, pIn, pInG, pNoPart, pPart, pSl, pRev, pAddG, pMulG, pAbs, p2I, pInt1, pBool1, pStrI, pListOf, pTupleOf, ints1, pSum, pSortedI, pMax, pMin, bls1, pAll, pAny, pEqG, pJoin, pDNew, pDGet, pDGet2, pDIn, Tv.key, pPick, pYes, kT, at0, at1, at2, at3, at4, exists_eq_left', Option.some.injEq, List.getElem?_cons_zero, List.getElem?_cons_succ, List.set_cons_zero, List.set_cons_succ, stS, Ar.sl, List.map_cons, List.map_nil, List.length_cons, List.length_nil, List.replicate_succ, List.replicate_zero, List.nil_append, List.cons_append, Nat.reduceSub, Nat.reduceAdd, wipeS, Bool.false_xor, Bool.true_xor, Bool.false_eq_true, if_true, if_false, decide_eq_true_eq, and_true, true_and, Bool.not_true, Bool.not_false, Bool.not_eq_true', decide_eq_false_iff_not, Nat.zero_le, Nat.reduceLeDiff, Int.reduceLT, Int.reduceLE, Int.reduceEq, Int.reduceNeg, Int.reducePow, Int.reduceAdd, Int.reduceSub, Nat.reduceMul, rgT_len, String.reduceBEq, beq_self_eq_true, Bool.or_false, Bool.false_or, Bool.true_or, Bool.or_true, Bool.or_self, ite_true, ite_false, ite_self, Int.zero_add, Bool.true_eq_false, reduceCtorEq, Function.comp_apply, unS, unSl_lkd, unSl_pvd, unSl_val, unSl_own, unSl_owd, unSl_box, unSl_any, pDisp, pDs0, pDs1, kvT, unSl_odl, pSortD, keyStrs_map, pRef, pXC, unSl_tab])
local macro_rules | `(tactic| injections) => `(tactic| first
  | with_reducible refine s_seq ?_
  | with_reducible refine s_set ?_
  | with_reducible refine s_asg ?_
  | with_reducible refine s_if ?_
  | with_reducible refine s_ret ?_
  | with_reducible refine s_retN ?_
  | with_reducible refine s_next ?_
  | with_reducible refine s_for ?_
  | with_reducible refine s_break ?_
  | with_reducible refine s_cont ?_
  | with_reducible refine s_append (by first | with_unfolding_all rfl | assumption) (by with_unfolding_all first | omega | (simp only [List.length_map, List.length_append, List.length_cons, List.length_nil]; omega)) ?_
  | with_reducible refine s_drop ?_
  | with_reducible refine s_setF (by with_unfolding_all rfl) ?_
  | with_reducible refine s_asgF (by with_unfolding_all rfl) ?_
  | with_reducible refine s_ifF (by with_unfolding_all rfl) ?_
  | with_reducible refine s_retF (by with_unfolding_all rfl) ?_
  | with_reducible refine s_ifN ?_
  | with_reducible refine s_setN ?_)
local macro_rules | `(tactic| subst_vars) => `(tactic| ((try simp only [pVar, pC, pTy, pCl, pNil, pCons, pOp, pUn, pCB, pI, pIC, pIB, pNeg, eqS, pEq, isNonS, pIsN, pIx, tvs, pTup, pLst, pTest, pAnd, pOr, pNot, pAndV, pOrV, pNotV, pIf, pChain, Sx.sl, Sx.tv, Sx.sq, Sx.dq, Sx.tq, Sx.rt, Sx.sqv, Sx.it, Sx.ar, Option.map_some, Option.bind_some, pgName, pgNil, pgCons, pgTup, piList, piTup, piSeq, piRange1, piRange2, piKeys, piItems, ars, pSp, pLen, tyOf, kb, pIsi, intsT, strsT, intsT_map, strsT_map, blsT_map, pIn, pInG, pNoPart, pPart, pSl, pRev, pAddG, pMulG, pAbs, p2I, pInt1, pBool1, pStrI, pListOf, pTupleOf, ints1, pSum, pSortedI, pMax, pMin, bls1, pAll, pAny, pEqG, pJoin, pDNew, pDGet, pDGet2, pDIn, Tv.key, pPick, pYes, kT, at0, at1, at2, at3, at4, exists_eq_left', Option.some.injEq, List.getElem?_cons_zero, List.getElem?_cons_succ, List.set_cons_zero, List.set_cons_succ, stS, Ar.sl, List.map_cons, List.map_nil, List.length_cons, List.length_nil, List.replicate_succ, List.replicate_zero, List.nil_append, List.cons_append, Nat.reduceSub, Nat.reduceAdd, wipeS, Bool.false_xor, Bool.true_xor, Bool.false_eq_true, if_true, if_false, decide_eq_true_eq, and_true, true_and, Bool.not_true, Bool.not_false, Bool.not_eq_true', decide_eq_false_iff_not, Nat.zero_le, Nat.reduceLeDiff, Int.reduceLT, Int.reduceLE, Int.reduceEq, Int.reduceNeg, Int.reducePow, Int.reduceAdd, Int.reduceSub, Nat.reduceMul, rgT_len, String.reduceBEq, beq_self_eq_true, Bool.or_false, Bool.false_or, Bool.true_or, Bool.or_true, Bool.or_self, ite_true, ite_false, ite_self, Int.zero_add, Bool.true_eq_false, reduceCtorEq, Function.comp_apply, unS, unSl_lkd, unSl_pvd, unSl_val, unSl_own, unSl_owd, unSl_box, unSl_any, pDisp, pDs0, pDs1, kvT, unSl_odl, pSortD, keyStrs_map, pRef, pXC, unSl_tab]) <;> repeat ((first
  | with_reducible refine s_seq ?_
  | with_reducible refine s_set ?_
  | with_reducible refine s_asg ?_
  | with_reducible refine s_if ?_
  | with_reducible refine s_ret ?_
  | with_reducible refine s_retN ?_
  | with_reducible refine s_next ?_
  | with_reducible refine s_break ?_
  | with_reducible refine s_cont ?_
  | with_reducible refine s_append (by first | with_unfolding_all rfl | assumption) (by with_unfolding_all first | omega | (simp only [List.length_map, List.length_append, List.length_cons, List.length_nil]; omega)) ?_
  | with_reducible refine s_drop ?_
  | with_reducible refine s_setF (by with_unfolding_all rfl) ?_
  | with_reducible refine s_asgF (by with_unfolding_all rfl) ?_
  | with_reducible refine s_ifF (by with_unfolding_all rfl) ?_
  | with_reducible refine s_retF (by with_unfolding_all rfl) ?_
  | with_reducible refine s_ifN ?_
  | with_reducible refine s_setN ?_) <;> try simp only [pVar, pC, pTy, pCl, pNil, pCons, pOp, pUn, pCB, pI, pIC, pIB, pNeg, eqS, pEq, isNonS, pIsN, pIx, tvs, pTup, pLst, pTest, pAnd, pOr, pNot, pAndV, pOrV, pNotV, pIf, pChain, Sx.sl, Sx.tv, Sx.sq, Sx.dq, Sx.tq, Sx.rt, Sx.sqv, Sx.it, Sx.ar, Option.map_some, Option.bind_some, pgName, pgNil, pgCons, pgTup, piList, piTup, piSeq, piRange1, piRange2, piKeys, piItems, ars, pSp, pLen, tyOf, kb, pIsi, intsT, strsT, intsT_map, strsT_map, blsT_map, pIn, pInG, pNoPart, pPart, pSl, pRev, pAddG, pMulG, pAbs, p2I, pInt1, pBool1, pStrI, pListOf, pTupleOf, ints1, pSum, pSortedI, pMax, pMin, bls1, pAll, pAny, pEqG, pJoin, pDNew, pDGet, pDGet2, pDIn, Tv.key, pPick, pYes, kT, at0, at1, at2, at3, at4, exists_eq_left', Option.some.injEq, List.getElem?_cons_zero, List.getElem?_cons_succ, List.set_cons_zero, List.set_cons_succ, stS, Ar.sl, List.map_cons, List.map_nil, List.length_cons, List.length_nil, List.replicate_succ, List.replicate_zero, List.nil_append, List.cons_append, Nat.reduceSub, Nat.reduceAdd, wipeS, Bool.false_xor, Bool.true_xor, Bool.false_eq_true, if_true, if_false, decide_eq_true_eq, and_true, true_and, Bool.not_true, Bool.not_false, Bool.not_eq_true', decide_eq_false_iff_not, Nat.zero_le, Nat.reduceLeDiff, Int.reduceLT, Int.reduceLE, Int.reduceEq, Int.reduceNeg, Int.reducePow, Int.reduceAdd, Int.reduceSub, Nat.reduceMul, rgT_len, String.reduceBEq, beq_self_eq_true, Bool.or_false, Bool.false_or, Bool.true_or, Bool.or_true, Bool.or_self, ite_true, ite_false, ite_self, Int.zero_add, Bool.true_eq_false, reduceCtorEq, Function.comp_apply, unS, unSl_lkd, unSl_pvd, unSl_val, unSl_own, unSl_owd, unSl_box, unSl_any, pDisp, pDs0, pDs1, kvT, unSl_odl, pSortD, keyStrs_map, pRef, pXC, unSl_tab])))
-- USE PL
section
variable {fw : Bool} {P : Program} {w : World} {K : PySem.W.Frag} {mg : Str → Option Value} {base : Heap}
/-- _law_limit -/
def pLimitL : List Sx → (Sx → Prop) → Prop := fun xs Q => xs = [.b] ∧ ∀ lim : Option Int, limOk lim → Q (.v (oT lim))
instance lLimitL : LSp fw spLimitL pLimitL := ⟨fun {B O0 O Hs Kb H0 H ss σ Q E Qp xs vs} c0 c s r h f => by
  obtain ⟨rfl, h⟩ := h
  obtain ⟨v, u, rfl, ⟨b, k, eB, rfl⟩, rfl⟩ := r
  refine ⟨b, k, _, rfl, c.wd eB, fun lim H' hl W => ?_⟩
  obtain ⟨s1, b1⟩ := wd_stp eB W
  exact f.run _ _ _ (h lim hl) s1 b1 (oT_rep.mpr rfl)⟩
end
end Pl

namespace Pl
open PySem L2
local macro_rules | `(tactic| bv_omega) => `(tactic| try simp only [pVar, pC, pTy, pCl, pNil, pCons, pOp, pUn, pCB, pI, pIC, pIB, pNeg, eqS, pEq, isNonS, pIsN, pIx, tvs, pTup, pLst, pTest, pAnd, pOr, pNot, pAndV, pOrV, pNotV, pIf, pChain, Sx.sl, Sx.tv, Sx.sq, Sx.dq, Sx.tq, Sx.rt, Sx.sqv, Sx.it, Sx.ar, Option.map_some, Option.bind_some, pgName, pgNil, pgCons, pgTup, piList, piTup, piSeq, piRange1, piRange2, piKeys, piItems, ars, pSp, pLen, tyOf, kb, pIsi, intsT, strsT, intsT_map, strsT_map, blsT_map, pIn, pInG, pNoPart, pPart, pSl, pRev, pAddG, pMulG, pAbs, p2I, pInt1, pBool1, pStrI, pListOf, pTupleOf, ints1, pSum, pSortedI, pMax, pMin, bls1, pAll, pAny, pEqG, pJoin, pDNew, pDGet, pDGet2, pDIn, Tv.key, pPick, pYes, kT, at0, at1, at2, at3, at4, exists_eq_left', Option.some.injEq, List.getElem?_cons_zero, List.getElem?_cons_succ, List.set_cons_zero, List.set_cons_succ, stS, Ar.sl, List.map_cons, List.map_nil, List.length_cons, List.length_nil, List.replicate_succ, List.replicate_zero, List.nil_append, List.cons_append, Nat.reduceSub, Nat.reduceAdd, wipeS, Bool.false_xor, Bool.true_xor, Bool.false_eq_true, if_true, if_false, decide_eq_true_eq, and_true, true_and, Bool.not_true, Bool.not_false, Bool.not_eq_true', decide_eq_false_iff_not, Nat.zero_le, Nat.reduceLeDiff, Int.reduceLT, Int.reduceLE, Int.reduceEq, Int.reduceNeg, Int.reducePow, Int.reduceAdd, Int.reduceSub, Nat.reduceMul, rgT_len, String.reduceBEq, beq_self_eq_true, Bool.or_false, Bool.false_or, Bool.true_or, Bool.or_true, Bool.or_self, ite_true, ite_false, ite_self, Int.zero_add, Bool.true_eq_false, reduceCtorEq, Function.comp_apply, unS, unSl_lkd, unSl_pvd, unSl_val, unSl_own, unSl_owd, unSl_box, unSl_any, pDisp, pDs0, pDs1, kvT, unSl_odl, pSortD, keyStrs_map, pRef, pXC, unSl_tab])
local macro_rules | `(tactic| injections) => `(tactic| first
  | with_reducible refine s_seq ?_
  | with_reducible refine s_set ?_
  | with_reducible refine s_asg ?_
  | with_reducible refine s_if ?_
  | with_reducible refine s_ret ?_
  | with_reducible refine s_retN ?_
  | with_reducible refine s_next ?_
  | with_reducible refine s_for ?_
  | with_reducible refine s_break ?_
  | with_reducible refine s_cont ?_
  | with_reducible refine s_append (by first | with_unfolding_all rfl | assumption) (by with_unfolding_all first | omega | (simp only [List.length_map, List.length_append, List.length_cons, List.length_nil]; omega)) ?_
  | with_reducible refine s_drop ?_
  | with_reducible refine s_setF (by with_unfolding_all rfl) ?_
  | with_reducible refine s_asgF (by with_unfolding_all rfl) ?_
  | with_reducible refine s_ifF (by with_unfolding_all rfl) ?_
  | with_reducible refine s_retF (by with_unfolding_all rfl) ?_
  | with_reducible refine s_ifN ?_
  | with_reducible refine s_setN ?_)
local macro_rules | `(tactic| subst_vars) => `(tactic| ((try simp only [pVar, pC, pTy, pCl, pNil, pCons, pOp, pUn, pCB, pI, pIC, pIB, pNeg, eqS, pEq, isNonS, pIsN, pIx, tvs, pTup, pLst, pTest, pAnd, pOr, pNot, pAndV, pOrV, pNotV, pIf, pChain, Sx.sl, Sx.tv, Sx.sq, Sx.dq, Sx.tq, Sx.rt, Sx.sqv, Sx.it, Sx.ar, Option.map_some, Option.bind_some, pgName, pgNil, pgCons, pgTup, piList, piTup, piSeq, piRange1, piRange2, piKeys, piItems, ars, pSp, pLen, tyOf, kb, pIsi, intsT, strsT, intsT_map, strsT_map, blsT_map, pIn, pInG, pNoPart, pPart, pSl, pRev, pAddG, pMulG, pAbs, p2I, pInt1, pBool1, pStrI, pListOf, pTupleOf, ints1, pSum, pSortedI, pMax, pMin, bls1, pAll, pAny, pEqG, pJoin, pDNew, pDGet, pDGet2, pDIn, Tv.key, pPick, pYes, kT, at0, at1, at2, at3, at4, exists_eq_left', Option.some.injEq, List.getElem?_cons_zero, List.getElem?_cons_succ, List.set_cons_zero, List.set_cons_succ, stS, Ar.sl, List.map_cons, List.map_nil, List.length_cons, List.length_nil, List.replicate_succ, List.replicate_zero, List.nil_append, List.cons_append, Nat.reduceSub, Nat.reduceAdd, wipeS, Bool.false_xor, Bool.true_xor, Bool.false_eq_true, if_true, if_false, decide_eq_true_eq, and_true, true_and, Bool.not_true, Bool.not_false, Bool.not_eq_true', decide_eq_false_iff_not, Nat.zero_le, Nat.reduceLeDiff, Int.reduceLT, Int.reduceLE, Int.reduceEq, Int.reduceNeg, Int.reducePow, Int.reduceAdd, Int.reduceSub, Nat.reduceMul, rgT_len, String.reduceBEq, beq_self_eq_true, Bool.or_false, Bool.false_or, Bool.true_or, Bool.or_true, Bool.or_self, ite_true, ite_false, ite_self, Int.zero_add, Bool.true_eq_false, reduceCtorEq, Function.comp_apply, unS, unSl_lkd, unSl_pvd, unSl_val, unSl_own, unSl_owd, unSl_box, unSl_any, pDisp, pDs0, pDs1, kvT, unSl_odl, pSortD, keyStrs_map, pRef, pXC, unSl_tab]) <;> repeat ((first
  | with_reducible refine s_seq ?_
  | with_reducible refine s_set ?_
  | with_reducible refine s_asg ?_
  | with_reducible refine s_if ?_
  | with_reducible refine s_ret ?_
  | with_reducible refine s_retN ?_
  | with_reducible refine s_next ?_
  | with_reducible refine s_break ?_
  | with_reducible refine s_cont ?_
  | with_reducible refine s_append (by first | with_unfolding_all rfl | assumption) (by with_unfolding_all first | omega | (simp only [List.length_map, List.length_append, List.length_cons, List.length_nil]; omega)) ?_
  | with_reducible refine s_drop ?_
  | with_reducible refine s_setF (by with_unfolding_all rfl) ?_
  | with_reducible refine s_asgF (by with_unfolding_all rfl) ?_
  | with_reducible refine s_ifF (by with_unfolding_all rfl) ?_
  | with_reducible refine s_retF (by with_unfolding_all rfl) ?_
  | with_reducible refine s_ifN ?_
  | with_reducible refine s_setN ?_) <;> try simp only [pVar, pC, pTy, pCl, pNil, pCons, pOp, pUn, pCB, pI, pIC, pIB, pNeg, eqS, pEq, isNonS, pIsN, pIx, tvs, pTup, pLst, pTest, pAnd, pOr, pNot, pAndV, pOrV, pNotV, pIf, pChain, Sx.sl, Sx.tv, Sx.sq, Sx.dq, Sx.tq, Sx.rt, Sx.sqv, Sx.it, Sx.ar, Option.map_some, Option.bind_some, pgName, pgNil, pgCons, pgTup, piList, piTup, piSeq, piRange1, piRange2, piKeys, piItems, ars, pSp, pLen, tyOf, kb, pIsi, intsT, strsT, intsT_map, strsT_map, blsT_map, pIn, pInG, pNoPart, pPart, pSl, pRev, pAddG, pMulG, pAbs, p2I, pInt1, pBool1, pStrI, pListOf, pTupleOf, ints1, pSum, pSortedI, pMax, pMin, bls1, pAll, pAny, pEqG, pJoin, pDNew, pDGet, pDGet2, pDIn, Tv.key, pPick, pYes, kT, at0, at1, at2, at3, at4, exists_eq_left', Option.some.injEq, List.getElem?_cons_zero, List.getElem?_cons_succ, List.set_cons_zero, List.set_cons_succ, stS, Ar.sl, List.map_cons, List.map_nil, List.length_cons, List.length_nil, List.replicate_succ, List.replicate_zero, List.nil_append, List.cons_append, Nat.reduceSub, Nat.reduceAdd, wipeS, Bool.false_xor, Bool.true_xor, Bool.false_eq_true, if_true, if_false, decide_eq_true_eq, and_true, true_and, Bool.not_true, Bool.not_false, Bool.not_eq_true', decide_eq_false_iff_not, Nat.zero_le, Nat.reduceLeDiff, Int.reduceLT, Int.reduceLE, Int.reduceEq, Int.reduceNeg, Int.reducePow, Int.reduceAdd, Int.reduceSub, Nat.reduceMul, rgT_len, String.reduceBEq, beq_self_eq_true, Bool.or_false, Bool.false_or, Bool.true_or, Bool.or_true, Bool.or_self, ite_true, ite_false, ite_self, Int.zero_add, Bool.true_eq_false, reduceCtorEq, Function.comp_apply, unS, unSl_lkd, unSl_pvd, unSl_val, unSl_own, unSl_owd, unSl_box, unSl_any, pDisp, pDs0, pDs1, kvT, unSl_odl, pSortD, keyStrs_map, pRef, pXC, unSl_tab])))
-- USE PL
section
variable {fw tp : Bool} {P : Program} {w : World} {K : PySem.W.Frag} {mg : Str → Option Value} {base : Heap}
/-- a list of streams of one's own -/
def semSL (C a : Addr) (as : List Addr) (xs : List (Str × Option Int)) : GSem where
  ads := a :: as
  R := fun _ H o => o = some (.ref a) ∧ H a = some (.lst (as.map V.ref)) ∧ (a :: as).Nodup ∧ as.length = xs.length ∧ ∀ (i : Nat) b x, as[i]? = some b → xs[i]? = some x → ∃ dx, H b = some (.ins C dx (stF x.1 x.2))
  mono := fun _ s ⟨h1, h2, h3, h4, h5⟩ => ⟨h1, s _ List.mem_cons_self _ h2, h3, h4, fun i b x e1 e2 => by
    obtain ⟨dx, h⟩ := h5 i b x e1 e2
    exact ⟨dx, s _ (List.mem_cons_of_mem _ (List.mem_of_getElem? e1)) _ h⟩⟩
  hd := fun ⟨h1, _⟩ => by cases h1; exact List.mem_cons_self
/-- a stream seen as a value -/
def semSt (C : Addr) (x : Str × Option Int) : TvSem := ⟨fun H v => ∃ b dx, v = .ref b ∧ H b = some (.ins C dx (stF x.1 x.2)), fun s ⟨b, dx, e, h⟩ => ⟨b, dx, e, s.ins h⟩, fun ⟨b, dx, e, h⟩ => ⟨b, dx, e, kt_at h fun _ z => nomatch z⟩⟩
def stT (C : Addr) (x : Str × Option Int) : Tv := .ext (semSt C x)
theorem stT_list {C : Addr} {H : Hp} : ∀ (as : List Addr) (xs : List (Str × Option Int)), as.length = xs.length → (∀ (i : Nat) b x, as[i]? = some b → xs[i]? = some x → ∃ dx, H b = some (.ins C dx (stF x.1 x.2))) → RepL H (xs.map (stT C)) (as.map V.ref)
  | [], [], _, _ => rfl
  | [], _ :: _, h, _ => nomatch h
  | _ :: _, [], h, _ => nomatch h
  | a :: as, x :: xs, h, k => by
    obtain ⟨dx, e⟩ := k 0 a x rfl rfl
    exact ⟨_, _, rfl, ⟨a, dx, rfl, e⟩, stT_list as xs (Nat.succ.inj h) fun i b y e1 e2 => k (i + 1) b y (by simpa using e1) (by simpa using e2)⟩
theorem semSL_as {C a : Addr} {as : List Addr} {xs : List (Str × Option Int)} : (semSL C a as xs).As (.lst (xs.map (stT C))) := fun {K K' H o} _ vis ⟨h1, h2, h3, h4, h5⟩ => by
  refine ⟨a, h1, a, _, rfl, vis a List.mem_cons_self _ h2 (fun _ z => nomatch z), stT_list as xs h4 fun i b x e1 e2 => ?_⟩
  obtain ⟨dx, h⟩ := h5 i b x e1 e2
  exact ⟨dx, vis b (List.mem_cons_of_mem _ (List.mem_of_getElem? e1)) _ h (fun _ z => nomatch z)⟩
theorem rob_tm {T : Txt P K mg} {t : Tm} : Rob (tmT T t) := fun w h => by
  obtain ⟨a, rfl, h⟩ := h
  exact tm_kn w (h.same kn_all)
/-- _law_made -/
def pMadeL (T : Txt P K mg) : List Sx → (Sx → Prop) → Prop := fun xs Q => ∃ (x : Str × Option Int) (n : Nat) (t : Tm), xs = [.v (stT T.c_Stream x), .v (.int (n : Nat)), .v (tmT T t)] ∧ n < 4 ∧ goodName x.1 ∧ limOk x.2 ∧ (Tm.look x.1 t (wayN n) x.2).fits ∧ Q (.v (tmT T (.look x.1 t (wayN n) x.2)))
instance lMadeL {T : Txt P K mg} : LSp fw (spMadeL T) (pMadeL T) := ⟨fun {B O0 O Hs Kb H0 H ss σ Q E Qp xs vs} c0 c s r h f => by
  obtain ⟨x, n, t, rfl, hn, hz, hl, hf, q⟩ := h
  obtain ⟨v, w1, rfl, r1, v2, w2, rfl, r2, v3, w3, rfl, r3, rfl⟩ := r
  obtain ⟨b, dx, rfl, hb⟩ : ∃ b dx, v = .ref b ∧ kn B O H b = some (.ins T.c_Stream dx (stF x.1 x.2)) := r1
  cases r2
  obtain ⟨a, rfl, ht⟩ : ∃ a, v3 = .ref a ∧ TmAt T.ca (kn B O H) t a := r3
  refine ⟨b, dx, a, x.1, x.2, t, n, rfl, hn, kn_all _ _ hb, hz, hl, ht.same kn_all, hf, fun r H' s1 h1 => ?_⟩
  have b1 := c.w.bx.same s1
  exact f.run _ _ _ q (Stay.of s1) b1 (tm_kn (c.w.go (Stay.of s1) b1) h1)⟩
/-- stream.limit -/
def pLimGet (T : Txt P K mg) (pe : PX) : PX := fun ss Q => pe ss fun y => ∃ x : Str × Option Int, y = .v (stT T.c_Stream x) ∧ Q (.v (oT x.2))
instance lLimGet {K' : PySem.W.Frag} {T : Txt P K mg} {E : XK} {te : TE} {pe : PX} [k : LE fw te pe] [hK : IsK K' K] : LE fw (tPropR K' "limit" T.Stream_limitGet.f (spLimGet T) E te) (pLimGet T pe) := ⟨fun {B O0 O Hs Kb H ss σ Q Qp} c h q => by
  cases hK.eq
  refine k.run c h fun y H1 v q1 s1 b1 r1 => ?_
  obtain ⟨x, rfl, q1⟩ := q1
  obtain ⟨b, dx, rfl, hb⟩ : ∃ b dx, v = .ref b ∧ kn B O H1 b = some (.ins T.c_Stream dx (stF x.1 x.2)) := r1
  obtain ⟨p, hp⟩ := T.pr_Stream_limit
  exact ⟨b, _, dx, _, p, rfl, kn_all _ _ hb, T.o_Stream.cl, hp, b, dx, x.1, x.2, rfl, kn_all _ _ hb, q _ _ _ q1 s1 b1 (oT_rep.mpr rfl)⟩⟩
theorem fld_name (T : Txt P K mg) {x : Str × Option Int} : FldOf K (stT T.c_Stream x) "name" (.str x.1) := fun h => by
  obtain ⟨b, dx, rfl, h⟩ := h
  exact ⟨b, _, dx, _, _, rfl, h, T.o_Stream.cl, T.n_Stream_name, rfl, rfl⟩
/-- _law_is_look -/
def qIsLook (T : Txt P K mg) : PSp := fun xs Q => ∃ (z : Str) (m : Tm) (wy : Str) (lim : Option Int), xs = [.tv (tmT T (.look z m wy lim)), .tv (.tup [.str z, .str wy, oT lim]), .tv (tmT T m)] ∧ m.wf ∧ m.depth ≤ 12 ∧ Q (.bl true)
theorem pok_law_is_look (T : Txt P K mg) {k : Nat} : FnOk P w K mg base CX0 (k + 18) T.law_is_look.f T.law_is_look.fd ["_law_look", "_law_due", "_law_moment"] (spP 3 (qIsLook T)) := by
  have G_eq : FnR P w K mg base CX0 (k + 13) T.Term_eq.f (spTEq T) := ok_term_eq T
  have G_law_answer : FnOk P w K mg base CX0 (k + 2) T.law_answer.f T.law_answer.fd ["_law_thing", "_law_due"] spAnswerL := ok_law_answer T
  refine okPu T.law_is_look.F sc_law_is_look fun xs Qp hl hp cdv A outer s H E hr => ⟨_, (pss_cons (ps_if (PW.pt (pw_or (pt_not (pt_val (pe_callB (call_isiLk T) (by rfl) T.n_isinstance (by decide +kernel) (pa_cons (pv 0) (pa_cons (pe_glob (v := .ref T.c_Look) (by rfl) T.g_Look rfl) pa_nil))))) (pw_or (pt_cmpR (op_neG hr.units) (pe_fld (pv 0) rfl) (pe_ix ix_seq (pv 1) pe_int (fun _ _ => rfl)) (nomark _)) (pw_or (pt_cmpR (op_neG hr.units) (pe_fld (pv 0) rfl) (pe_ix ix_seq (pv 1) pe_int (fun _ _ => rfl)) (nomark _)) (pw_or1 (pt_cmpR (op_neO G_eq (hr.mono (by omega)) pass0) (pe_fld (pv 0) rfl) (pv 2) (nomark _))))))) (pss_one (ps_ret pe_bl)) pss_nil)
  (pss_one (ps_ret (pe_call G_law_answer (hr.mono (by omega)) (by rfl) T.law_answer.g T.law_answer.F.kp T.law_answer.b .nil pass0 (pa_cons (pe_fld (pv 0) rfl) (pa_cons (pe_ix ix_seq (pv 1) pe_int (fun _ _ => rfl)) pa_nil)))))), ?_⟩
  obtain ⟨z, m, wy, lim, rfl, hw, hd, q⟩ := hp
  injections
  bv_omega
  injections
  bv_omega
  unfold pIsiLk pFld
  bv_omega
  refine ⟨z, m, wy, lim, rfl, _, _, rfl, fld_stream T, ?_⟩
  bv_omega
  refine ⟨_, _, rfl, fld_way T, ?_⟩
  bv_omega
  refine ⟨_, _, rfl, fld_moment T, ?_⟩
  unfold pEqTm
  refine ⟨m, m, rfl, rfl, hw, hw, hd, hd, ?_⟩
  rw [data_refl]
  bv_omega
  injections
  injections
  unfold pFld
  bv_omega
  refine ⟨_, _, rfl, fld_within T, ?_⟩
  unfold pAnswerL
  exact ⟨lim, rfl, q⟩
theorem ld_st {C dx : Addr} {z : Str} {l : Option Int} : LD (.ins C dx (stF z l)) := .inr (.inr ⟨C, dx, _, rfl, fun h => nomatch (show some (oV l) = none from h)⟩)
/-- x = [Stream(z, limit=l), Stream(y)] -/
theorem s_mkSL {T : Txt P K mg} {i : Nat} {ta tb tl : TE} {pa pb pl : PX} {E0 E1 : XK} [ka : LE false ta pa] [kl : LE false tl pl] [kb : LE false tb pb] {Dp : PEnds} {ss : List Sl}
    (h : pa ss fun x0 => ∃ z0 : Str, x0 = .v (.str z0) ∧ goodName z0 ∧ pl ss fun y0 => ∃ l0 : Option Int, y0 = .v (oT l0) ∧ limOk l0 ∧ pb ss fun x1 => ∃ z1 : Str, x1 = .v (.str z1) ∧ goodName z1 ∧ ∀ a a0 a1, Dp.nx (ss.set i (.gx (semSL T.c_Stream a [a0, a1] [(z0, l0), (z1, none)])))) :
    Sim tp (tAsg (tLst (tCons (tMakeK T.c_Stream 1 1 (spStInitK T) (fun vs zs => vs ++ zs) E0 (tCons ta tNil) (tCons tl tNil)) (tCons (StX.tMakeR T.c_Stream (fun vs H Q E => spStInit T (vs ++ [V.non]) H Q E) E1 (tCons tb tNil)) tNil))) (gName i)) Dp ss := fun B O0 O Hs Kb H σ D htp c l => by
  have c := c.dn
  refine ka.run c h fun x0 H1 v0 q0 s1 b1 r0 => ?_
  obtain ⟨z0, rfl, hz0, q0⟩ := q0
  cases (show v0 = V.str z0 from r0)
  have c1 := c.go s1 b1
  refine kl.run c1 q0 fun y0 H2 w0 q1 s2 b2 r1 => ?_
  obtain ⟨l0, rfl, hl0, q1⟩ := q1
  cases oT_rep.mp (show Rep (kn B O H2) (oT l0) w0 from r1)
  have c2 := c1.go s2 b2
  refine ⟨rfl, rfl, fun x dx hx hd hne => ⟨x, dx, z0, l0, rfl, hz0, hl0, upd_same, fun H3 k3 k4 => ⟨rfl, ?_⟩⟩⟩
  have s3 : Same H2 H3 := fun c o h => k3 c o (ne_of_none h hx) (mk_same2 hx hd c o h)
  have b3 := b2.same s3
  obtain ⟨w3, r3, hsx, dx3⟩ := c2.own (Stay.of s3) b3 hx k4 ld_st
  have c3 : Ct false B O0 (x :: O) Hs Kb H3 ss σ := ⟨w3, r3, fun h => nomatch h⟩
  refine kb.run c3 q1 fun x1 H4 v1 q2 s4 b4 r2 => ?_
  obtain ⟨z1, rfl, hz1, q2⟩ := q2
  cases (show v1 = V.str z1 from r2)
  have c4 := c3.go s4 b4
  intro y dy hy hdy hne2
  refine ⟨y, dy, z1, rfl, hz1, upd_same, fun H5 k5 k6 => ⟨rfl, ?_⟩⟩
  have s5 : Same H4 H5 := fun c o h => k5 c o (ne_of_none h hy) (mk_same2 hy hdy c o h)
  have b5 := b4.same s5
  have hx4 : H4 x = some (.ins T.c_Stream dx (stF z0 l0)) := s4 _ _ k4 (w3.ob x List.mem_cons_self)
  obtain ⟨w5, r5, hsy, dy5⟩ := c4.own (Stay.of s5) b5 hy k6 (ld_st (l := none))
  have c5 : Ct false B O0 (y :: x :: O) Hs Kb H5 ss σ := ⟨w5, r5, fun h => nomatch h⟩
  refine ⟨sz (Nat.le_of_ble_eq_true rfl), fun p hp => ?_⟩
  have s6 := same_upd (o := .lst [.ref x, .ref y]) hp
  have b6 := b5.same s6
  obtain ⟨w6, r6, hsp, dp6⟩ := c5.own (Stay.of s6) b6 hp upd_same
  have hx5 := s5 _ _ hx4
  have nxp : x ≠ p := ne_of_none hx5 hp
  have nyp : y ≠ p := ne_of_none k6 hp
  have nxy : x ≠ y := ne_of_none hx4 hy
  refine l.nx _ _ _ _ (q2 p x y) ⟨w6, r6.setG i (o := some (.ref p)) ⟨fun a ha => ?_, rfl, upd_same, ?_, rfl, fun j b xx e1 e2 => ?_⟩ (fun a ha => ?_), fun h => nomatch h⟩
  · have ha : a ∈ [p, x, y] := ha
    simp only [List.mem_cons, List.not_mem_nil, or_false] at ha
    rcases ha with rfl | rfl | rfl
    · exact ⟨List.mem_cons_self, hsp⟩
    · exact ⟨by simp, hsx⟩
    · exact ⟨by simp, hsy⟩
  · simp only [List.nodup_cons, List.mem_cons, List.not_mem_nil, or_false, not_or, not_false_eq_true, List.nodup_nil, and_true]
    exact ⟨⟨Ne.symm nxp, Ne.symm nyp⟩, nxy⟩
  · match j, e1, e2 with
    | 0, e1, e2 => cases e1; cases e2; exact ⟨dx, s6 _ _ hx5⟩
    | 1, e1, e2 => cases e1; cases e2; exact ⟨dy, s6 _ _ k6⟩
  · have ha : a ∈ [p, x, y] := ha
    simp only [List.mem_cons, List.not_mem_nil, or_false] at ha
    rcases ha with rfl | rfl | rfl
    · exact dp6
    · exact dx3
    · exact dy5
/-- if xs[n].limit_to(limit) is not None -/
theorem s_limIf {T : Txt P K mg} {K1 K2 : PySem.W.Frag} {i j n : Nat} {te : TE} {pe : PX} {E0 : XK} {t u : TS} [k : LE false te pe] [hK1 : IsK K1 K] {Dp : PEnds} {ss : List Sl} {a : Addr} {as : List Addr} {xs : List (Str × Option Int)} {x : Str × Option Int} (e : ss[i]? = some (.gx (semSL T.c_Stream a as xs))) (ej : ss[j]? = some (.val (.int (n : Nat)))) (ex : xs[n]? = some x)
    (h : pe ss fun y => ∃ lim : Option Int, y = .v (oT lim) ∧ limOk lim ∧ Sim tp u Dp (ss.set i (.gx (semSL T.c_Stream a as (xs.set n (x.1, lim)))))) :
    Sim tp (tIfS (tTest (tOp (fun x y H Q => y = V.non ∧ Q (V.bl (!decide (x = V.non))) H) (tMethV K1 (fun _ : Unit => T.Stream_limit_to.f) "limit_to" (fun _ => spLimTo T) E0 (tOp (rIx K2) (tVar i) (tVar j)) (tCons te tNil)) (tC .non))) t u) Dp ss := fun B O0 O Hs Kb H σ D htp c l => by
  cases hK1.eq
  obtain ⟨o, e1, hO, rfl, h2, h3, h4, h5⟩ := c.r.at_ i _ e
  obtain ⟨oj, ej1, vj, rfl, rj⟩ := c.r.at_ j _ ej
  cases rj
  have hnl : n < as.length := by rw [h4]; exact (List.getElem?_eq_some_iff.mp ex).1
  obtain ⟨b, hb⟩ : ∃ b, as[n]? = some b := ⟨_, List.getElem?_eq_getElem hnl⟩
  obtain ⟨dx, hbx⟩ := h5 n b x hb ex
  have bm : b ∈ a :: as := List.mem_cons_of_mem _ (List.mem_of_getElem? hb)
  refine ⟨.ref a, e1, .int n, ej1, .inl ⟨a, as.map V.ref, (n : Int), .ref b, rfl, rfl, SqL.of h2, ?_, ?_⟩⟩
  · exact at_ix2 (Int.natCast_nonneg n) (by rw [Int.toNat_natCast, List.getElem?_map, hb]; rfl)
  refine ⟨b, _, dx, _, (), rfl, hbx, rfl, T.o_Stream.cl, T.m_Stream_limit_to, k.run c h fun y H1 v q s1 b1 r1 => ?_⟩
  obtain ⟨lim, rfl, hl, q⟩ := q
  cases oT_rep.mp (show Rep (kn B O H1) (oT lim) v from r1)
  have c1 := c.go s1 b1
  have hb1 : H1 b = some (.ins T.c_Stream dx (stF x.1 x.2)) := s1 _ _ hbx (c.w.ob b (hO b bm).1)
  have ha1 : H1 a = some (.lst (as.map V.ref)) := s1 _ _ h2 (c.w.ob a (hO a List.mem_cons_self).1)
  have nab : a ≠ b := fun z => by rw [z] at h3; exact (List.nodup_cons.mp h3).1 (List.mem_of_getElem? hb)
  refine ⟨b, dx, x.1, x.2, lim, rfl, hl, hb1, rfl, _, rfl, ?_⟩
  rw [show (!decide (V.non = V.non)) = false from by simp]
  show if (false = true) then _ else _
  rw [if_neg Bool.false_ne_true]
  refine q B O0 O Hs Kb _ σ D htp (c1.wrG (x := b) (G' := semSL T.c_Stream a as (xs.set n (x.1, lim))) e bm e1 (.inr ⟨a, rfl, List.mem_cons_self⟩) rfl ⟨rfl, ?_, h3, by rw [List.length_set]; exact h4, fun m b' x' f1 f2 => ?_⟩ ld_st) l
  · rw [upd_ne nab]
    exact ha1
  · by_cases hm : n = m
    · subst hm
      rw [hb] at f1
      cases f1
      rw [List.getElem?_set_self (List.getElem?_eq_some_iff.mp ex).1] at f2
      cases f2
      exact ⟨dx, upd_same⟩
    · rw [List.getElem?_set_ne hm] at f2
      obtain ⟨dx', g⟩ := h5 m b' x' f1 f2
      have nbb : b' ≠ b := fun z => by
        subst z
        obtain ⟨l1, l2⟩ := List.getElem?_eq_some_iff.mp f1
        obtain ⟨l3, l4⟩ := List.getElem?_eq_some_iff.mp hb
        exact hm ((List.getElem_inj (List.nodup_cons.mp h3).2).mp (by rw [l4, l2]))
      exact ⟨dx', by rw [upd_ne nbb]; exact s1 _ _ g (c.w.ob b' (hO b' (List.mem_cons_of_mem _ (List.mem_of_getElem? f1))).1)⟩
/-- xs[n].limit_to(what is no limit) -/
def badLimT : Tv → Bool
  | .int i => decide (i < 0)
  | .bl _ => true
  | .str _ => true
  | .tup _ => true
  | .lst _ => true
  | _ => false
theorem badLim_ty {H : Hp} {t : Tv} {v : V} (h : badLimT t = true) (r : Rep H t v) : ∃ ty, Ty H v ty ∧ geZ v = false ∧ v ≠ .non := by
  cases t with
  | int i => cases r; exact ⟨_, .int _, decide_eq_false (by have := of_decide_eq_true h; omega), fun z => nomatch z⟩
  | bl b => cases r; exact ⟨_, .bl _, rfl, fun z => nomatch z⟩
  | str z => cases r; exact ⟨_, .str _, rfl, fun z => nomatch z⟩
  | tup xs => obtain ⟨a, us, rfl, h1, _⟩ := r; exact ⟨_, .tup h1, rfl, fun z => nomatch z⟩
  | lst xs => obtain ⟨a, us, rfl, h1, _⟩ := r; exact ⟨_, .lst h1, rfl, fun z => nomatch z⟩
  | _ => cases h
def pxLim (T : Txt P K mg) (i j m : Nat) : List Sl → (Xo → Prop) → Prop := fun ss Q => ∃ (a : Addr) (as : List Addr) (xs : List (Str × Option Int)) (n : Nat) (t : Tv), ss[i]? = some (.gx (semSL T.c_Stream a as xs)) ∧ ss[j]? = some (.val (.int (n : Nat))) ∧ n < xs.length ∧ ss[m]? = some (.val t) ∧ badLimT t = true ∧ Q (.er T.c_BadBound (some ("value", t)))
instance lxLim {K1 K2 : PySem.W.Frag} {T : Txt P K mg} {i j m : Nat} [hK1 : IsK K1 K] : LX (fun E => tMethV K1 (fun _ : Unit => T.Stream_limit_to.f) "limit_to" (fun _ => spLimToBad T) E (tOp (rIx K2) (tVar i) (tVar j)) (tCons (tVar m) tNil)) (pxLim T i j m) := ⟨fun {B O0 O Hs Kb H ss σ Q E Qp} c h q er => by
  cases hK1.eq
  obtain ⟨a, as, xs, n, t, e, ej, hn, em, hb, q1⟩ := h
  obtain ⟨o, e1, hO, rfl, h2, h3, h4, h5⟩ := c.r.at_ i _ e
  obtain ⟨oj, ej1, vj, rfl, rj⟩ := c.r.at_ j _ ej
  cases rj
  obtain ⟨om, em1, vm, rfl, rm⟩ := c.r.at_ m _ em
  have hnl : n < as.length := by rw [h4]; exact hn
  obtain ⟨b, hbb⟩ : ∃ b, as[n]? = some b := ⟨_, List.getElem?_eq_getElem hnl⟩
  obtain ⟨dx, hbx⟩ := h5 n b _ hbb (List.getElem?_eq_getElem hn)
  obtain ⟨ty, ht, hz, hnn⟩ := badLim_ty hb (rm.mono kn_all)
  refine ⟨.ref a, e1, .int n, ej1, .inl ⟨a, as.map V.ref, (n : Int), .ref b, rfl, rfl, SqL.of h2, at_ix2 (Int.natCast_nonneg n) (by rw [Int.toNat_natCast, List.getElem?_map, hbb]; rfl), ?_⟩⟩
  refine ⟨b, _, dx, _, (), rfl, hbx, rfl, T.o_Stream.cl, T.m_Stream_limit_to, vm, em1, b, dx, _, vm, ty, rfl, hbx, ht, hz, hnn, fun H' d s' hd => ?_⟩
  have s3 : Same H (upd H' d (.xd [(("value" : Str), vm)])) := s'.trans (same_upd hd)
  exact er _ _ _ _ q1 (Stay.of s3) (c.w.bx.same s3) ⟨d, _, vm, rfl, upd_same, rfl, rm.mono (kn_sm (Stay.of s3) fun _ h => .inl h)⟩⟩
end
end Pl

namespace Pl
open PySem L2
local macro_rules | `(tactic| bv_omega) => `(tactic| try simp only [pVar, pC, pTy, pCl, pNil, pCons, pOp, pUn, pCB, pI, pIC, pIB, pNeg, eqS, pEq, isNonS, pIsN, pIx, tvs, pTup, pLst, pTest, pAnd, pOr, pNot, pAndV, pOrV, pNotV, pIf, pChain, Sx.sl, Sx.tv, Sx.sq, Sx.dq, Sx.tq, Sx.rt, Sx.sqv, Sx.it, Sx.ar, Option.map_some, Option.bind_some, pgName, pgNil, pgCons, pgTup, piList, piTup, piSeq, piRange1, piRange2, piKeys, piItems, ars, pSp, pLen, tyOf, kb, pIsi, intsT, strsT, intsT_map, strsT_map, blsT_map, pIn, pInG, pNoPart, pPart, pSl, pRev, pAddG, pMulG, pAbs, p2I, pInt1, pBool1, pStrI, pListOf, pTupleOf, ints1, pSum, pSortedI, pMax, pMin, bls1, pAll, pAny, pEqG, pJoin, pDNew, pDGet, pDGet2, pDIn, Tv.key, pPick, pYes, kT, at0, at1, at2, at3, at4, exists_eq_left', Option.some.injEq, List.getElem?_cons_zero, List.getElem?_cons_succ, List.set_cons_zero, List.set_cons_succ, stS, Ar.sl, List.map_cons, List.map_nil, List.length_cons, List.length_nil, List.replicate_succ, List.replicate_zero, List.nil_append, List.cons_append, Nat.reduceSub, Nat.reduceAdd, wipeS, Bool.false_xor, Bool.true_xor, Bool.false_eq_true, if_true, if_false, decide_eq_true_eq, and_true, true_and, Bool.not_true, Bool.not_false, Bool.not_eq_true', decide_eq_false_iff_not, Nat.zero_le, Nat.reduceLeDiff, Int.reduceLT, Int.reduceLE, Int.reduceEq, Int.reduceNeg, Int.reducePow, Int.reduceAdd, Int.reduceSub, Nat.reduceMul, rgT_len, String.reduceBEq, beq_self_eq_true, Bool.or_false, Bool.false_or, Bool.true_or, Bool.or_true, Bool.or_self, ite_true, ite_false, ite_self, Int.zero_add, Bool.true_eq_false, reduceCtorEq, Function.comp_apply, unS, unSl_lkd, unSl_pvd, unSl_val, unSl_own, unSl_owd, unSl_box, unSl_any, pDisp, pDs0, pDs1, kvT, unSl_odl, pSortD, keyStrs_map, pRef, pXC, unSl_tab])
local macro_rules | `(tactic| injections) => `(tactic| first
  | with_reducible refine s_seq ?_
  | with_reducible refine s_set ?_
  | with_reducible refine s_asg ?_
  | with_reducible refine s_if ?_
  | with_reducible refine s_ret ?_
  | with_reducible refine s_retN ?_
  | with_reducible refine s_next ?_
  | with_reducible refine s_for ?_
  | with_reducible refine s_break ?_
  | with_reducible refine s_cont ?_
  | with_reducible refine s_append (by first | with_unfolding_all rfl | assumption) (by with_unfolding_all first | omega | (simp only [List.length_map, List.length_append, List.length_cons, List.length_nil]; omega)) ?_
  | with_reducible refine s_drop ?_
  | with_reducible refine s_setF (by with_unfolding_all rfl) ?_
  | with_reducible refine s_asgF (by with_unfolding_all rfl) ?_
  | with_reducible refine s_ifF (by with_unfolding_all rfl) ?_
  | with_reducible refine s_retF (by with_unfolding_all rfl) ?_
  | with_reducible refine s_ifN ?_
  | with_reducible refine s_setN ?_)
local macro_rules | `(tactic| subst_vars) => `(tactic| ((try simp only [pVar, pC, pTy, pCl, pNil, pCons, pOp, pUn, pCB, pI, pIC, pIB, pNeg, eqS, pEq, isNonS, pIsN, pIx, tvs, pTup, pLst, pTest, pAnd, pOr, pNot, pAndV, pOrV, pNotV, pIf, pChain, Sx.sl, Sx.tv, Sx.sq, Sx.dq, Sx.tq, Sx.rt, Sx.sqv, Sx.it, Sx.ar, Option.map_some, Option.bind_some, pgName, pgNil, pgCons, pgTup, piList, piTup, piSeq, piRange1, piRange2, piKeys, piItems, ars, pSp, pLen, tyOf, kb, pIsi, intsT, strsT, intsT_map, strsT_map, blsT_map, pIn, pInG, pNoPart, pPart, pSl, pRev, pAddG, pMulG, pAbs, p2I, pInt1, pBool1, pStrI, pListOf, pTupleOf, ints1, pSum, pSortedI, pMax, pMin, bls1, pAll, pAny, pEqG, pJoin, pDNew, pDGet, pDGet2, pDIn, Tv.key, pPick, pYes, kT, at0, at1, at2, at3, at4, exists_eq_left', Option.some.injEq, List.getElem?_cons_zero, List.getElem?_cons_succ, List.set_cons_zero, List.set_cons_succ, stS, Ar.sl, List.map_cons, List.map_nil, List.length_cons, List.length_nil, List.replicate_succ, List.replicate_zero, List.nil_append, List.cons_append, Nat.reduceSub, Nat.reduceAdd, wipeS, Bool.false_xor, Bool.true_xor, Bool.false_eq_true, if_true, if_false, decide_eq_true_eq, and_true, true_and, Bool.not_true, Bool.not_false, Bool.not_eq_true', decide_eq_false_iff_not, Nat.zero_le, Nat.reduceLeDiff, Int.reduceLT, Int.reduceLE, Int.reduceEq, Int.reduceNeg, Int.reducePow, Int.reduceAdd, Int.reduceSub, Nat.reduceMul, rgT_len, String.reduceBEq, beq_self_eq_true, Bool.or_false, Bool.false_or, Bool.true_or, Bool.or_true, Bool.or_self, ite_true, ite_false, ite_self, Int.zero_add, Bool.true_eq_false, reduceCtorEq, Function.comp_apply, unS, unSl_lkd, unSl_pvd, unSl_val, unSl_own, unSl_owd, unSl_box, unSl_any, pDisp, pDs0, pDs1, kvT, unSl_odl, pSortD, keyStrs_map, pRef, pXC, unSl_tab]) <;> repeat ((first
  | with_reducible refine s_seq ?_
  | with_reducible refine s_set ?_
  | with_reducible refine s_asg ?_
  | with_reducible refine s_if ?_
  | with_reducible refine s_ret ?_
  | with_reducible refine s_retN ?_
  | with_reducible refine s_next ?_
  | with_reducible refine s_break ?_
  | with_reducible refine s_cont ?_
  | with_reducible refine s_append (by first | with_unfolding_all rfl | assumption) (by with_unfolding_all first | omega | (simp only [List.length_map, List.length_append, List.length_cons, List.length_nil]; omega)) ?_
  | with_reducible refine s_drop ?_
  | with_reducible refine s_setF (by with_unfolding_all rfl) ?_
  | with_reducible refine s_asgF (by with_unfolding_all rfl) ?_
  | with_reducible refine s_ifF (by with_unfolding_all rfl) ?_
  | with_reducible refine s_retF (by with_unfolding_all rfl) ?_
  | with_reducible refine s_ifN ?_
  | with_reducible refine s_setN ?_) <;> try simp only [pVar, pC, pTy, pCl, pNil, pCons, pOp, pUn, pCB, pI, pIC, pIB, pNeg, eqS, pEq, isNonS, pIsN, pIx, tvs, pTup, pLst, pTest, pAnd, pOr, pNot, pAndV, pOrV, pNotV, pIf, pChain, Sx.sl, Sx.tv, Sx.sq, Sx.dq, Sx.tq, Sx.rt, Sx.sqv, Sx.it, Sx.ar, Option.map_some, Option.bind_some, pgName, pgNil, pgCons, pgTup, piList, piTup, piSeq, piRange1, piRange2, piKeys, piItems, ars, pSp, pLen, tyOf, kb, pIsi, intsT, strsT, intsT_map, strsT_map, blsT_map, pIn, pInG, pNoPart, pPart, pSl, pRev, pAddG, pMulG, pAbs, p2I, pInt1, pBool1, pStrI, pListOf, pTupleOf, ints1, pSum, pSortedI, pMax, pMin, bls1, pAll, pAny, pEqG, pJoin, pDNew, pDGet, pDGet2, pDIn, Tv.key, pPick, pYes, kT, at0, at1, at2, at3, at4, exists_eq_left', Option.some.injEq, List.getElem?_cons_zero, List.getElem?_cons_succ, List.set_cons_zero, List.set_cons_succ, stS, Ar.sl, List.map_cons, List.map_nil, List.length_cons, List.length_nil, List.replicate_succ, List.replicate_zero, List.nil_append, List.cons_append, Nat.reduceSub, Nat.reduceAdd, wipeS, Bool.false_xor, Bool.true_xor, Bool.false_eq_true, if_true, if_false, decide_eq_true_eq, and_true, true_and, Bool.not_true, Bool.not_false, Bool.not_eq_true', decide_eq_false_iff_not, Nat.zero_le, Nat.reduceLeDiff, Int.reduceLT, Int.reduceLE, Int.reduceEq, Int.reduceNeg, Int.reducePow, Int.reduceAdd, Int.reduceSub, Nat.reduceMul, rgT_len, String.reduceBEq, beq_self_eq_true, Bool.or_false, Bool.false_or, Bool.true_or, Bool.or_true, Bool.or_self, ite_true, ite_false, ite_self, Int.zero_add, Bool.true_eq_false, reduceCtorEq, Function.comp_apply, unS, unSl_lkd, unSl_pvd, unSl_val, unSl_own, unSl_owd, unSl_box, unSl_any, pDisp, pDs0, pDs1, kvT, unSl_odl, pSortD, keyStrs_map, pRef, pXC, unSl_tab])))
-- USE PL
section
variable {P : Program} {w : World} {K : PySem.W.Frag} {mg : Str → Option Value} {base : Heap}
mutual
/-- what _law_equal answers -/
def teq : Tv → Tv → Bool
  | .tup xs, y => match y with | .tup ys => teqL xs ys | _ => false
  | .lst xs, y => match y with | .lst ys => teqL xs ys | _ => false
  | .non, y => match y with | .non => true | _ => false
  | .bl a, y => match y with | .bl b => decide (a = b) | _ => false
  | .int a, y => match y with | .int b => decide (a = b) | _ => false
  | .str a, y => match y with | .str b => decide (a = b) | _ => false
  | .dic _ _ _, _ => false
  | .ext _, _ => false
def teqL : List Tv → List Tv → Bool
  | [], ys => match ys with | [] => true | _ => false
  | x :: xs, ys => match ys with | y :: ys => teq x y && teqL xs ys | _ => false
end
mutual
def Tv.dp : Tv → Nat
  | .tup xs => dpL xs + 1
  | .lst xs => dpL xs + 1
  | _ => 0
def dpL : List Tv → Nat
  | [] => 0
  | x :: xs => max x.dp (dpL xs)
end
mutual
/-- plain data, no list too long -/
def Tv.sm : Tv → Prop
  | .tup xs => xs.length ≤ 100000 ∧ smL xs
  | .lst xs => xs.length ≤ 100000 ∧ smL xs
  | .dic _ _ _ => False
  | .ext _ => False
  | _ => True
def smL : List Tv → Prop
  | [] => True
  | x :: xs => x.sm ∧ smL xs
end
theorem dpL_at : ∀ {xs : List Tv} {i : Nat} {x : Tv}, xs[i]? = some x → x.dp ≤ dpL xs
  | y :: ys, 0, x, h => by cases h; rw [dpL]; omega
  | y :: ys, i + 1, x, h => by have := dpL_at (xs := ys) (i := i) h; rw [dpL]; omega
theorem smL_at : ∀ {xs : List Tv} {i : Nat} {x : Tv}, smL xs → xs[i]? = some x → x.sm
  | y :: ys, 0, x, s, h => by cases h; rw [smL] at s; exact s.1
  | y :: ys, i + 1, x, s, h => by rw [smL] at s; exact smL_at s.2 (i := i) h
theorem teqL_at : ∀ {xs ys : List Tv}, xs.length = ys.length → (∀ (i : Nat) x y, xs[i]? = some x → ys[i]? = some y → teq x y = true) → teqL xs ys = true
  | [], [], _, _ => by rw [teqL]
  | x :: xs, y :: ys, hl, h => by
    rw [teqL]
    simp only [Bool.and_eq_true]
    exact ⟨h 0 x y rfl rfl, teqL_at (Nat.succ.inj hl) fun i a b ha hb => h (i + 1) a b ha hb⟩
  | [], _ :: _, hl, _ => by cases hl
  | _ :: _, [], hl, _ => by cases hl
theorem teqL_len : ∀ {xs ys : List Tv}, xs.length ≠ ys.length → teqL xs ys = false
  | [], [], h => absurd rfl h
  | x :: xs, y :: ys, h => by
    rw [teqL, teqL_len (xs := xs) (ys := ys) (fun e => h (by rw [List.length_cons, List.length_cons, e])), Bool.and_false]
  | [], _ :: _, _ => by simp [teqL]
  | _ :: _, [], _ => by simp [teqL]
theorem teqL_no : ∀ {xs ys : List Tv} {i : Nat} {x y : Tv}, xs[i]? = some x → ys[i]? = some y → teq x y = false → teqL xs ys = false
  | a :: xs, b :: ys, 0, x, y, h1, h2, h => by cases h1; cases h2; rw [teqL]; simp only [h, Bool.false_and]
  | a :: xs, b :: ys, i + 1, x, y, h1, h2, h => by rw [teqL]; simp only [teqL_no (xs := xs) (ys := ys) (i := i) h1 h2 h, Bool.and_false]
theorem atI_nat' {α : Type} {xs : List α} {j : Nat} {v : α} (h : xs[j]? = some v) : atI xs ((j : Nat) : Int) = some v := at_ix2 (by omega) (by rw [Int.toNat_natCast]; exact h)
def qEqual (n : Nat) : PSp := fun xs Q => ∃ a b, xs = [.tv a, .tv b] ∧ a.dp < n ∧ b.dp < n ∧ a.sm ∧ b.sm ∧ Q (.bl (teq a b))
theorem pok_law_equal (T : Txt P K mg) {k : Nat} : ∀ n, FnOk P w K mg base CX0 (k + n + 1) T.law_equal.f T.law_equal.fd ["_law_one", "_law_other"] (spP 2 (qEqual n))
  | 0 => okPu T.law_equal.F sc_law_equal fun xs Qp hl hp => by obtain ⟨a, b, _, h, _⟩ := hp; cases h
  | n + 1 => by
    have G_law_equal : FnOk P w K mg base CX0 (k + n + 1) T.law_equal.f T.law_equal.fd ["_law_one", "_law_other"] (spP 2 (qEqual n)) := pok_law_equal T n
    refine okPu T.law_equal.F sc_law_equal fun xs Qp hl hp cdv A outer s H E hr => ⟨_, (pss_cons (ps_set (i := 2) sc_law_equal.nd rfl (.inl rfl) (pe_and (pe_callB call_isi (by rfl) T.n_isinstance (by decide +kernel) (pa_cons (pv 0) (pa_cons (pe_bltn (v := .ty "tuple") (by rfl) T.n_tuple (by decide +kernel) rfl) pa_nil))) (pe_one (pe_callB call_isi (by rfl) T.n_isinstance (by decide +kernel) (pa_cons (pv 1) (pa_cons (pe_bltn (v := .ty "tuple") (by rfl) T.n_tuple (by decide +kernel) rfl) pa_nil))))))
  (pss_cons (ps_if (PW.pt (pw_or (pt_val (pv 2)) (pw_or1 (PW.pt (pw_and (pt_val (pe_callB call_isi (by rfl) T.n_isinstance (by decide +kernel) (pa_cons (pv 0) (pa_cons (pe_bltn (v := .ty "list") (by rfl) T.n_list (by decide +kernel) rfl) pa_nil)))) (pw_and1 (pt_val (pe_callB call_isi (by rfl) T.n_isinstance (by decide +kernel) (pa_cons (pv 1) (pa_cons (pe_bltn (v := .ty "list") (by rfl) T.n_list (by decide +kernel) rfl) pa_nil)))))))))) (pss_cons (ps_if (pt_cmpR (op_neG hr.units) (pe_callB call_lenG (by rfl) T.n_len PySem.boot_len (pa_cons (pv 0) pa_nil)) (pe_callB call_lenG (by rfl) T.n_len PySem.boot_len (pa_cons (pv 1) pa_nil)) (nomark _)) (pss_one (ps_ret pe_bl)) pss_nil)
  (pss_cons (ps_for PassesOwn.never rfl (pi_range1 (by rfl) T.n_range (pa_cons (pe_callB call_lenG (by rfl) T.n_len PySem.boot_len (pa_cons (pv 0) pa_nil)) pa_nil)) (pg_name (i := 3) sc_law_equal.nd rfl (.inl rfl))
   (pss_one (ps_if (pt_not (pt_val (pe_call G_law_equal (hr.mono (by omega)) (by rfl) T.law_equal.g T.law_equal.F.kp T.law_equal.b .nil pass0 (pa_cons (pe_ix ix_seq (pv 0) (pv 3) (fun _ _ => rfl)) (pa_cons (pe_ix ix_seq (pv 1) (pv 3) (fun _ _ => rfl)) pa_nil))))) (pss_one (ps_ret pe_bl)) pss_nil)))
  (pss_one (ps_ret pe_bl)))) pss_nil)
  (pss_cons (ps_if (PW.pt (pw_or (pt_cmpR op_isN (pv 0) pe_non (nomark _)) (pw_or1 (pt_cmpR op_isN (pv 1) pe_non (nomark _))))) (pss_one (ps_ret (pe_and (pe_cmpR op_isN (pv 0) pe_non (nomark _)) (pe_one (pe_cmpR op_isN (pv 1) pe_non (nomark _)))))) pss_nil)
  (pss_cons (ps_if (PW.pt (pw_or (pt_val (pe_callB call_isi (by rfl) T.n_isinstance (by decide +kernel) (pa_cons (pv 0) (pa_cons (pe_bltn (v := .ty "bool") (by rfl) T.n_bool (by decide +kernel) rfl) pa_nil)))) (pw_or1 (pt_val (pe_callB call_isi (by rfl) T.n_isinstance (by decide +kernel) (pa_cons (pv 1) (pa_cons (pe_bltn (v := .ty "bool") (by rfl) T.n_bool (by decide +kernel) rfl) pa_nil))))))) (pss_one (ps_ret (pe_and (pe_callB call_isi (by rfl) T.n_isinstance (by decide +kernel) (pa_cons (pv 0) (pa_cons (pe_bltn (v := .ty "bool") (by rfl) T.n_bool (by decide +kernel) rfl) pa_nil))) (pe_and (pe_callB call_isi (by rfl) T.n_isinstance (by decide +kernel) (pa_cons (pv 1) (pa_cons (pe_bltn (v := .ty "bool") (by rfl) T.n_bool (by decide +kernel) rfl) pa_nil))) (pe_one (pe_cmpR (op_eqG hr.units) (pv 0) (pv 1) (nomark _))))))) pss_nil)
  (pss_cons (ps_if (PW.pt (pw_or (PW.pt (pw_and (pt_val (pe_callB call_isi (by rfl) T.n_isinstance (by decide +kernel) (pa_cons (pv 0) (pa_cons (pe_bltn (v := .ty "int") (by rfl) T.n_int (by decide +kernel) rfl) pa_nil)))) (pw_and1 (pt_val (pe_callB call_isi (by rfl) T.n_isinstance (by decide +kernel) (pa_cons (pv 1) (pa_cons (pe_bltn (v := .ty "int") (by rfl) T.n_int (by decide +kernel) rfl) pa_nil))))))) (pw_or1 (PW.pt (pw_and (pt_val (pe_callB call_isi (by rfl) T.n_isinstance (by decide +kernel) (pa_cons (pv 0) (pa_cons (pe_bltn (v := .ty "str") (by rfl) T.n_str (by decide +kernel) rfl) pa_nil)))) (pw_and1 (pt_val (pe_callB call_isi (by rfl) T.n_isinstance (by decide +kernel) (pa_cons (pv 1) (pa_cons (pe_bltn (v := .ty "str") (by rfl) T.n_str (by decide +kernel) rfl) pa_nil)))))))))) (pss_one (ps_ret (pe_cmpR (op_eqG hr.units) (pv 0) (pv 1) (nomark _)))) pss_nil)
  (pss_one (ps_ret pe_bl))))))), ?_⟩
    obtain ⟨a, b, rfl, da, db, sa, sb, q⟩ := hp
    bv_omega
    injections
    injections
    cases a with
    | dic => exact (show False from sa).elim
    | ext => exact (show False from sa).elim
    | tup as =>
      cases b with
      | dic => exact (show False from sb).elim
      | ext => exact (show False from sb).elim
      | tup bs =>
        obtain ⟨za, sa⟩ := sa
        obtain ⟨zb, sb⟩ := sb
        have tq : teq (.tup as) (.tup bs) = teqL as bs := by rw [teq]
        rw [tq] at q
        rw [Tv.dp] at da db
        subst_vars
        refine ite2 (fun hne => ?_) (fun he => ?_)
        · rw [teqL_len (fun z => hne (by rw [z]))] at q
          subst_vars <;> exact q
        · have hl : as.length = bs.length := by omega
          subst_vars
          injections
          bv_omega
          refine ⟨by omega, by omega, fun i s => ∃ y3, s = [.val (.tup as), .val (.tup bs), .val (.bl true), y3] ∧ ∀ (j : Nat) x y, j < i → as[j]? = some x → bs[j]? = some y → teq x y = true, ⟨_, rfl, fun j x y h => by omega⟩, fun i t s ht hI => ?_, fun s hI => ?_⟩
          · obtain ⟨y3, rfl, hI⟩ := hI
            obtain ⟨rfl, hi⟩ := rgT_at ht
            have ha : as[i]? = some (as[i]'(by omega)) := List.getElem?_eq_getElem _
            have hb : bs[i]? = some (bs[i]'(by omega)) := List.getElem?_eq_getElem _
            generalize (as[i]'(by omega)) = x at ha
            generalize (bs[i]'(by omega)) = y at hb
            have d1 := dpL_at ha
            have d2 := dpL_at hb
            bv_omega
            injections
            bv_omega
            refine ⟨x, atI_nat' ha, y, atI_nat' hb, ?_⟩
            refine ⟨x, y, rfl, by omega, by omega, smL_at sa ha, smL_at sb hb, ?_⟩
            cases hxy : teq x y with
            | false =>
              rw [teqL_no ha hb hxy] at q
              subst_vars
              exact q
            | true =>
              subst_vars
              refine ⟨_, rfl, fun j x' y' hj h1 h2 => ?_⟩
              by_cases e : j = i
              · subst e
                rw [ha] at h1
                rw [hb] at h2
                cases h1
                cases h2
                exact hxy
              · exact hI j x' y' (by omega) h1 h2
          · obtain ⟨y3, rfl, hI⟩ := hI
            rw [teqL_at hl fun j x y h1 h2 => hI j x y (by
              have := (List.getElem?_eq_some_iff.mp h1).1
              omega) h1 h2] at q
            subst_vars
            exact q
      | _ => subst_vars <;> exact q
    | lst as =>
      cases b with
      | dic => exact (show False from sb).elim
      | ext => exact (show False from sb).elim
      | lst bs =>
        obtain ⟨za, sa⟩ := sa
        obtain ⟨zb, sb⟩ := sb
        have tq : teq (.lst as) (.lst bs) = teqL as bs := by rw [teq]
        rw [tq] at q
        rw [Tv.dp] at da db
        subst_vars
        refine ite2 (fun hne => ?_) (fun he => ?_)
        · rw [teqL_len (fun z => hne (by rw [z]))] at q
          subst_vars <;> exact q
        · have hl : as.length = bs.length := by omega
          subst_vars
          injections
          bv_omega
          refine ⟨by omega, by omega, fun i s => ∃ y3, s = [.val (.lst as), .val (.lst bs), .val (.bl false), y3] ∧ ∀ (j : Nat) x y, j < i → as[j]? = some x → bs[j]? = some y → teq x y = true, ⟨_, rfl, fun j x y h => by omega⟩, fun i t s ht hI => ?_, fun s hI => ?_⟩
          · obtain ⟨y3, rfl, hI⟩ := hI
            obtain ⟨rfl, hi⟩ := rgT_at ht
            have ha : as[i]? = some (as[i]'(by omega)) := List.getElem?_eq_getElem _
            have hb : bs[i]? = some (bs[i]'(by omega)) := List.getElem?_eq_getElem _
            generalize (as[i]'(by omega)) = x at ha
            generalize (bs[i]'(by omega)) = y at hb
            have d1 := dpL_at ha
            have d2 := dpL_at hb
            bv_omega
            injections
            bv_omega
            refine ⟨x, atI_nat' ha, y, atI_nat' hb, ?_⟩
            refine ⟨x, y, rfl, by omega, by omega, smL_at sa ha, smL_at sb hb, ?_⟩
            cases hxy : teq x y with
            | false =>
              rw [teqL_no ha hb hxy] at q
              subst_vars
              exact q
            | true =>
              subst_vars
              refine ⟨_, rfl, fun j x' y' hj h1 h2 => ?_⟩
              by_cases e : j = i
              · subst e
                rw [ha] at h1
                rw [hb] at h2
                cases h1
                cases h2
                exact hxy
              · exact hI j x' y' (by omega) h1 h2
          · obtain ⟨y3, rfl, hI⟩ := hI
            rw [teqL_at hl fun j x y h1 h2 => hI j x y (by
              have := (List.getElem?_eq_some_iff.mp h1).1
              omega) h1 h2] at q
            subst_vars
            exact q
      | _ => subst_vars <;> exact q
    | _ =>
      cases b with
      | dic => exact (show False from sb).elim
      | ext => exact (show False from sb).elim
      | _ => subst_vars <;> exact q
end
end Pl

namespace Pl
open PySem L2
local macro_rules | `(tactic| bv_omega) => `(tactic| try simp only [pVar, pC, pTy, pCl, pNil, pCons, pOp, pUn, pCB, pI, pIC, pIB, pNeg, eqS, pEq, isNonS, pIsN, pIx, tvs, pTup, pLst, pTest, pAnd, pOr, pNot, pAndV, pOrV, pNotV, pIf, pChain, Sx.sl, Sx.tv, Sx.sq, Sx.dq, Sx.tq, Sx.rt, Sx.sqv, Sx.it, Sx.ar, Option.map_some, Option.bind_some, pgName, pgNil, pgCons, pgTup, piList, piTup, piSeq, piRange1, piRange2, piKeys, piItems, ars, pSp, pLen, tyOf, kb, pIsi, intsT, strsT, intsT_map, strsT_map, blsT_map, pIn, pInG, pNoPart, pPart, pSl, pRev, pAddG, pMulG, pAbs, p2I, pInt1, pBool1, pStrI, pListOf, pTupleOf, ints1, pSum, pSortedI, pMax, pMin, bls1, pAll, pAny, pEqG, pJoin, pDNew, pDGet, pDGet2, pDIn, Tv.key, pPick, pYes, kT, at0, at1, at2, at3, at4, exists_eq_left', Option.some.injEq, List.getElem?_cons_zero, List.getElem?_cons_succ, List.set_cons_zero, List.set_cons_succ, stS, Ar.sl, List.map_cons, List.map_nil, List.length_cons, List.length_nil, List.replicate_succ, List.replicate_zero, List.nil_append, List.cons_append, Nat.reduceSub, Nat.reduceAdd, wipeS, Bool.false_xor, Bool.true_xor, Bool.false_eq_true, if_true, if_false, decide_eq_true_eq, and_true, true_and, Bool.not_true, Bool.not_false, Bool.not_eq_true', decide_eq_false_iff_not, Nat.zero_le, Nat.reduceLeDiff, Int.reduceLT, Int.reduceLE, Int.reduceEq, Int.reduceNeg, Int.reducePow, Int.reduceAdd, Int.reduceSub, Nat.reduceMul, rgT_len, String.reduceBEq, beq_self_eq_true, Bool.or_false, Bool.false_or, Bool.true_or, Bool.or_true, Bool.or_self, ite_true, ite_false, ite_self, Int.zero_add, Bool.true_eq_false, reduceCtorEq, Function.comp_apply, unS, unSl_lkd, unSl_pvd, unSl_val, unSl_own, unSl_owd, unSl_box, unSl_any, pDisp, pDs0, pDs1, kvT, unSl_odl, pSortD, keyStrs_map, pRef, pXC, unSl_tab])
local macro_rules | `(tactic| injections) => `(tactic| first
  | with_reducible refine s_seq ?_
  | with_reducible refine s_set ?_
  | with_reducible refine s_asg ?_
  | with_reducible refine s_if ?_
  | with_reducible refine s_ret ?_
  | with_reducible refine s_retN ?_
  | with_reducible refine s_next ?_
  | with_reducible refine s_for ?_
  | with_reducible refine s_break ?_
  | with_reducible refine s_cont ?_
  | with_reducible refine s_append (by first | with_unfolding_all rfl | assumption) (by with_unfolding_all first | omega | (simp only [List.length_map, List.length_append, List.length_cons, List.length_nil]; omega)) ?_
  | with_reducible refine s_drop ?_
  | with_reducible refine s_setF (by with_unfolding_all rfl) ?_
  | with_reducible refine s_asgF (by with_unfolding_all rfl) ?_
  | with_reducible refine s_ifF (by with_unfolding_all rfl) ?_
  | with_reducible refine s_retF (by with_unfolding_all rfl) ?_
  | with_reducible refine s_ifN ?_
  | with_reducible refine s_setN ?_)
local macro_rules | `(tactic| subst_vars) => `(tactic| ((try simp only [pVar, pC, pTy, pCl, pNil, pCons, pOp, pUn, pCB, pI, pIC, pIB, pNeg, eqS, pEq, isNonS, pIsN, pIx, tvs, pTup, pLst, pTest, pAnd, pOr, pNot, pAndV, pOrV, pNotV, pIf, pChain, Sx.sl, Sx.tv, Sx.sq, Sx.dq, Sx.tq, Sx.rt, Sx.sqv, Sx.it, Sx.ar, Option.map_some, Option.bind_some, pgName, pgNil, pgCons, pgTup, piList, piTup, piSeq, piRange1, piRange2, piKeys, piItems, ars, pSp, pLen, tyOf, kb, pIsi, intsT, strsT, intsT_map, strsT_map, blsT_map, pIn, pInG, pNoPart, pPart, pSl, pRev, pAddG, pMulG, pAbs, p2I, pInt1, pBool1, pStrI, pListOf, pTupleOf, ints1, pSum, pSortedI, pMax, pMin, bls1, pAll, pAny, pEqG, pJoin, pDNew, pDGet, pDGet2, pDIn, Tv.key, pPick, pYes, kT, at0, at1, at2, at3, at4, exists_eq_left', Option.some.injEq, List.getElem?_cons_zero, List.getElem?_cons_succ, List.set_cons_zero, List.set_cons_succ, stS, Ar.sl, List.map_cons, List.map_nil, List.length_cons, List.length_nil, List.replicate_succ, List.replicate_zero, List.nil_append, List.cons_append, Nat.reduceSub, Nat.reduceAdd, wipeS, Bool.false_xor, Bool.true_xor, Bool.false_eq_true, if_true, if_false, decide_eq_true_eq, and_true, true_and, Bool.not_true, Bool.not_false, Bool.not_eq_true', decide_eq_false_iff_not, Nat.zero_le, Nat.reduceLeDiff, Int.reduceLT, Int.reduceLE, Int.reduceEq, Int.reduceNeg, Int.reducePow, Int.reduceAdd, Int.reduceSub, Nat.reduceMul, rgT_len, String.reduceBEq, beq_self_eq_true, Bool.or_false, Bool.false_or, Bool.true_or, Bool.or_true, Bool.or_self, ite_true, ite_false, ite_self, Int.zero_add, Bool.true_eq_false, reduceCtorEq, Function.comp_apply, unS, unSl_lkd, unSl_pvd, unSl_val, unSl_own, unSl_owd, unSl_box, unSl_any, pDisp, pDs0, pDs1, kvT, unSl_odl, pSortD, keyStrs_map, pRef, pXC, unSl_tab]) <;> repeat ((first
  | with_reducible refine s_seq ?_
  | with_reducible refine s_set ?_
  | with_reducible refine s_asg ?_
  | with_reducible refine s_if ?_
  | with_reducible refine s_ret ?_
  | with_reducible refine s_retN ?_
  | with_reducible refine s_next ?_
  | with_reducible refine s_break ?_
  | with_reducible refine s_cont ?_
  | with_reducible refine s_append (by first | with_unfolding_all rfl | assumption) (by with_unfolding_all first | omega | (simp only [List.length_map, List.length_append, List.length_cons, List.length_nil]; omega)) ?_
  | with_reducible refine s_drop ?_
  | with_reducible refine s_setF (by with_unfolding_all rfl) ?_
  | with_reducible refine s_asgF (by with_unfolding_all rfl) ?_
  | with_reducible refine s_ifF (by with_unfolding_all rfl) ?_
  | with_reducible refine s_retF (by with_unfolding_all rfl) ?_
  | with_reducible refine s_ifN ?_
  | with_reducible refine s_setN ?_) <;> try simp only [pVar, pC, pTy, pCl, pNil, pCons, pOp, pUn, pCB, pI, pIC, pIB, pNeg, eqS, pEq, isNonS, pIsN, pIx, tvs, pTup, pLst, pTest, pAnd, pOr, pNot, pAndV, pOrV, pNotV, pIf, pChain, Sx.sl, Sx.tv, Sx.sq, Sx.dq, Sx.tq, Sx.rt, Sx.sqv, Sx.it, Sx.ar, Option.map_some, Option.bind_some, pgName, pgNil, pgCons, pgTup, piList, piTup, piSeq, piRange1, piRange2, piKeys, piItems, ars, pSp, pLen, tyOf, kb, pIsi, intsT, strsT, intsT_map, strsT_map, blsT_map, pIn, pInG, pNoPart, pPart, pSl, pRev, pAddG, pMulG, pAbs, p2I, pInt1, pBool1, pStrI, pListOf, pTupleOf, ints1, pSum, pSortedI, pMax, pMin, bls1, pAll, pAny, pEqG, pJoin, pDNew, pDGet, pDGet2, pDIn, Tv.key, pPick, pYes, kT, at0, at1, at2, at3, at4, exists_eq_left', Option.some.injEq, List.getElem?_cons_zero, List.getElem?_cons_succ, List.set_cons_zero, List.set_cons_succ, stS, Ar.sl, List.map_cons, List.map_nil, List.length_cons, List.length_nil, List.replicate_succ, List.replicate_zero, List.nil_append, List.cons_append, Nat.reduceSub, Nat.reduceAdd, wipeS, Bool.false_xor, Bool.true_xor, Bool.false_eq_true, if_true, if_false, decide_eq_true_eq, and_true, true_and, Bool.not_true, Bool.not_false, Bool.not_eq_true', decide_eq_false_iff_not, Nat.zero_le, Nat.reduceLeDiff, Int.reduceLT, Int.reduceLE, Int.reduceEq, Int.reduceNeg, Int.reducePow, Int.reduceAdd, Int.reduceSub, Nat.reduceMul, rgT_len, String.reduceBEq, beq_self_eq_true, Bool.or_false, Bool.false_or, Bool.true_or, Bool.or_true, Bool.or_self, ite_true, ite_false, ite_self, Int.zero_add, Bool.true_eq_false, reduceCtorEq, Function.comp_apply, unS, unSl_lkd, unSl_pvd, unSl_val, unSl_own, unSl_owd, unSl_box, unSl_any, pDisp, pDs0, pDs1, kvT, unSl_odl, pSortD, keyStrs_map, pRef, pXC, unSl_tab])))
-- USE PL
mutual
theorem teq_refl : ∀ {t : Tv}, t.sm → teq t t = true
  | .tup xs, h => by rw [teq]; exact teqL_refl h.2
  | .lst xs, h => by rw [teq]; exact teqL_refl h.2
  | .non, _ => by rw [teq]
  | .bl a, _ => by simp [teq]
  | .int a, _ => by simp [teq]
  | .str a, _ => by simp [teq]
theorem teqL_refl : ∀ {ts : List Tv}, smL ts → teqL ts ts = true
  | [], _ => by rw [teqL]
  | t :: ts, h => by
    rw [smL] at h
    rw [teqL, teq_refl h.1, teqL_refl h.2]
    rfl
end
theorem smL_all : ∀ {ts : List Tv}, (∀ t ∈ ts, t.sm) → smL ts
  | [], _ => by rw [smL]; trivial
  | t :: ts, h => by
    rw [smL]
    exact ⟨h t List.mem_cons_self, smL_all fun x hx => h x (List.mem_cons_of_mem _ hx)⟩
theorem dpL_all {n : Nat} : ∀ {ts : List Tv}, (∀ t ∈ ts, t.dp ≤ n) → dpL ts ≤ n
  | [], _ => by rw [dpL]; omega
  | t :: ts, h => by
    rw [dpL]
    have h1 := h t List.mem_cons_self
    have h2 := dpL_all fun x hx => h x (List.mem_cons_of_mem _ hx)
    omega
end Pl

namespace Pl
open PySem L2
local macro_rules | `(tactic| bv_omega) => `(tactic| try simp only [pVar, pC, pTy, pCl, pNil, pCons, pOp, pUn, pCB, pI, pIC, pIB, pNeg, eqS, pEq, isNonS, pIsN, pIx, tvs, pTup, pLst, pTest, pAnd, pOr, pNot, pAndV, pOrV, pNotV, pIf, pChain, Sx.sl, Sx.tv, Sx.sq, Sx.dq, Sx.tq, Sx.rt, Sx.sqv, Sx.it, Sx.ar, Option.map_some, Option.bind_some, pgName, pgNil, pgCons, pgTup, piList, piTup, piSeq, piRange1, piRange2, piKeys, piItems, ars, pSp, pLen, tyOf, kb, pIsi, intsT, strsT, intsT_map, strsT_map, blsT_map, pIn, pInG, pNoPart, pPart, pSl, pRev, pAddG, pMulG, pAbs, p2I, pInt1, pBool1, pStrI, pListOf, pTupleOf, ints1, pSum, pSortedI, pMax, pMin, bls1, pAll, pAny, pEqG, pJoin, pDNew, pDGet, pDGet2, pDIn, Tv.key, pPick, pYes, kT, at0, at1, at2, at3, at4, exists_eq_left', Option.some.injEq, List.getElem?_cons_zero, List.getElem?_cons_succ, List.set_cons_zero, List.set_cons_succ, stS, Ar.sl, List.map_cons, List.map_nil, List.length_cons, List.length_nil, List.replicate_succ, List.replicate_zero, List.nil_append, List.cons_append, Nat.reduceSub, Nat.reduceAdd, wipeS, Bool.false_xor, Bool.true_xor, Bool.false_eq_true, if_true, if_false, decide_eq_true_eq, and_true, true_and, Bool.not_true, Bool.not_false, Bool.not_eq_true', decide_eq_false_iff_not, Nat.zero_le, Nat.reduceLeDiff, Int.reduceLT, Int.reduceLE, Int.reduceEq, Int.reduceNeg, Int.reducePow, Int.reduceAdd, Int.reduceSub, Nat.reduceMul, rgT_len, String.reduceBEq, beq_self_eq_true, Bool.or_false, Bool.false_or, Bool.true_or, Bool.or_true, Bool.or_self, ite_true, ite_false, ite_self, Int.zero_add, Bool.true_eq_false, reduceCtorEq, Function.comp_apply, unS, unSl_lkd, unSl_pvd, unSl_val, unSl_own, unSl_owd, unSl_box, unSl_any, pDisp, pDs0, pDs1, kvT, unSl_odl, pSortD, keyStrs_map, pRef, pXC, unSl_tab])
local macro_rules | `(tactic| injections) => `(tactic| first
  | with_reducible refine s_seq ?_
  | with_reducible refine s_set ?_
  | with_reducible refine s_asg ?_
  | with_reducible refine s_if ?_
  | with_reducible refine s_ret ?_
  | with_reducible refine s_retN ?_
  | with_reducible refine s_next ?_
  | with_reducible refine s_for ?_
  | with_reducible refine s_break ?_
  | with_reducible refine s_cont ?_
  | with_reducible refine s_append (by first | with_unfolding_all rfl | assumption) (by with_unfolding_all first | omega | (simp only [List.length_map, List.length_append, List.length_cons, List.length_nil]; omega)) ?_
  | with_reducible refine s_drop ?_
  | with_reducible refine s_setF (by with_unfolding_all rfl) ?_
  | with_reducible refine s_asgF (by with_unfolding_all rfl) ?_
  | with_reducible refine s_ifF (by with_unfolding_all rfl) ?_
  | with_reducible refine s_retF (by with_unfolding_all rfl) ?_
  | with_reducible refine s_ifN ?_
  | with_reducible refine s_setN ?_)
local macro_rules | `(tactic| subst_vars) => `(tactic| ((try simp only [pVar, pC, pTy, pCl, pNil, pCons, pOp, pUn, pCB, pI, pIC, pIB, pNeg, eqS, pEq, isNonS, pIsN, pIx, tvs, pTup, pLst, pTest, pAnd, pOr, pNot, pAndV, pOrV, pNotV, pIf, pChain, Sx.sl, Sx.tv, Sx.sq, Sx.dq, Sx.tq, Sx.rt, Sx.sqv, Sx.it, Sx.ar, Option.map_some, Option.bind_some, pgName, pgNil, pgCons, pgTup, piList, piTup, piSeq, piRange1, piRange2, piKeys, piItems, ars, pSp, pLen, tyOf, kb, pIsi, intsT, strsT, intsT_map, strsT_map, blsT_map, pIn, pInG, pNoPart, pPart, pSl, pRev, pAddG, pMulG, pAbs, p2I, pInt1, pBool1, pStrI, pListOf, pTupleOf, ints1, pSum, pSortedI, pMax, pMin, bls1, pAll, pAny, pEqG, pJoin, pDNew, pDGet, pDGet2, pDIn, Tv.key, pPick, pYes, kT, at0, at1, at2, at3, at4, exists_eq_left', Option.some.injEq, List.getElem?_cons_zero, List.getElem?_cons_succ, List.set_cons_zero, List.set_cons_succ, stS, Ar.sl, List.map_cons, List.map_nil, List.length_cons, List.length_nil, List.replicate_succ, List.replicate_zero, List.nil_append, List.cons_append, Nat.reduceSub, Nat.reduceAdd, wipeS, Bool.false_xor, Bool.true_xor, Bool.false_eq_true, if_true, if_false, decide_eq_true_eq, and_true, true_and, Bool.not_true, Bool.not_false, Bool.not_eq_true', decide_eq_false_iff_not, Nat.zero_le, Nat.reduceLeDiff, Int.reduceLT, Int.reduceLE, Int.reduceEq, Int.reduceNeg, Int.reducePow, Int.reduceAdd, Int.reduceSub, Nat.reduceMul, rgT_len, String.reduceBEq, beq_self_eq_true, Bool.or_false, Bool.false_or, Bool.true_or, Bool.or_true, Bool.or_self, ite_true, ite_false, ite_self, Int.zero_add, Bool.true_eq_false, reduceCtorEq, Function.comp_apply, unS, unSl_lkd, unSl_pvd, unSl_val, unSl_own, unSl_owd, unSl_box, unSl_any, pDisp, pDs0, pDs1, kvT, unSl_odl, pSortD, keyStrs_map, pRef, pXC, unSl_tab]) <;> repeat ((first
  | with_reducible refine s_seq ?_
  | with_reducible refine s_set ?_
  | with_reducible refine s_asg ?_
  | with_reducible refine s_if ?_
  | with_reducible refine s_ret ?_
  | with_reducible refine s_retN ?_
  | with_reducible refine s_next ?_
  | with_reducible refine s_break ?_
  | with_reducible refine s_cont ?_
  | with_reducible refine s_append (by first | with_unfolding_all rfl | assumption) (by with_unfolding_all first | omega | (simp only [List.length_map, List.length_append, List.length_cons, List.length_nil]; omega)) ?_
  | with_reducible refine s_drop ?_
  | with_reducible refine s_setF (by with_unfolding_all rfl) ?_
  | with_reducible refine s_asgF (by with_unfolding_all rfl) ?_
  | with_reducible refine s_ifF (by with_unfolding_all rfl) ?_
  | with_reducible refine s_retF (by with_unfolding_all rfl) ?_
  | with_reducible refine s_ifN ?_
  | with_reducible refine s_setN ?_) <;> try simp only [pVar, pC, pTy, pCl, pNil, pCons, pOp, pUn, pCB, pI, pIC, pIB, pNeg, eqS, pEq, isNonS, pIsN, pIx, tvs, pTup, pLst, pTest, pAnd, pOr, pNot, pAndV, pOrV, pNotV, pIf, pChain, Sx.sl, Sx.tv, Sx.sq, Sx.dq, Sx.tq, Sx.rt, Sx.sqv, Sx.it, Sx.ar, Option.map_some, Option.bind_some, pgName, pgNil, pgCons, pgTup, piList, piTup, piSeq, piRange1, piRange2, piKeys, piItems, ars, pSp, pLen, tyOf, kb, pIsi, intsT, strsT, intsT_map, strsT_map, blsT_map, pIn, pInG, pNoPart, pPart, pSl, pRev, pAddG, pMulG, pAbs, p2I, pInt1, pBool1, pStrI, pListOf, pTupleOf, ints1, pSum, pSortedI, pMax, pMin, bls1, pAll, pAny, pEqG, pJoin, pDNew, pDGet, pDGet2, pDIn, Tv.key, pPick, pYes, kT, at0, at1, at2, at3, at4, exists_eq_left', Option.some.injEq, List.getElem?_cons_zero, List.getElem?_cons_succ, List.set_cons_zero, List.set_cons_succ, stS, Ar.sl, List.map_cons, List.map_nil, List.length_cons, List.length_nil, List.replicate_succ, List.replicate_zero, List.nil_append, List.cons_append, Nat.reduceSub, Nat.reduceAdd, wipeS, Bool.false_xor, Bool.true_xor, Bool.false_eq_true, if_true, if_false, decide_eq_true_eq, and_true, true_and, Bool.not_true, Bool.not_false, Bool.not_eq_true', decide_eq_false_iff_not, Nat.zero_le, Nat.reduceLeDiff, Int.reduceLT, Int.reduceLE, Int.reduceEq, Int.reduceNeg, Int.reducePow, Int.reduceAdd, Int.reduceSub, Nat.reduceMul, rgT_len, String.reduceBEq, beq_self_eq_true, Bool.or_false, Bool.false_or, Bool.true_or, Bool.or_true, Bool.or_self, ite_true, ite_false, ite_self, Int.zero_add, Bool.true_eq_false, reduceCtorEq, Function.comp_apply, unS, unSl_lkd, unSl_pvd, unSl_val, unSl_own, unSl_owd, unSl_box, unSl_any, pDisp, pDs0, pDs1, kvT, unSl_odl, pSortD, keyStrs_map, pRef, pXC, unSl_tab])))
-- USE PL
open LamX
def spLaw (K : PySem.W.Frag) (Pt : Addr) : Sp := fun vs H Q _ => ∃ (a : Addr) (ns : List Int), vs = [.ref a] ∧ H Pt = some (.tbl #[]) ∧ SqL K H a (ns.map V.int) ∧ ns.length ≤ 63 ∧ ∀ H', Q (.bl true) H'
abbrev qL : Str := (PyProof.Rows.envOfC "law" (defScope s_law) 0 0 (.ref 0)).qual ++ "<lambda>"
section
variable {P : Program} {w : World} {K : PySem.W.Frag} {mg : Str → Option Value} {base : Heap}
theorem ok_law (T : Txt P K mg) (TB : TabB base mg T.lc_law.c T.lc_law.P) : FnOk P w K mg base CX0 48 T.law.f T.law.fd ["_law_script"] (spLaw K T.lc_law.P) := by
  have G_law_open : FnOk P w K mg base CX0 (17 + 1) T.law_open.f T.law_open.fd ["_law_script"] (spOpen K) := ok_law_open T
  have G_law_pick : FnOk P w K mg base CX0 (17 + 1) T.law_pick.f T.law_pick.fd ["_law_box", "_law_many"] spPick := ok_law_pick T
  have G_law_limit : FnOk P w K mg base CX0 (16 + 3) T.law_limit.f T.law_limit.fd ["_law_box"] spLimitL := ok_law_limit T
  have G_law_names : FnOk P w K mg base CX0 (16 + 2) T.law_names.f T.law_names.fd ["_law_box", "_law_many"] (spP 2 qNames) := pok_law_names T
  have G_law_tree : FnOk P w K mg base CX0 (2 + 4 + 5) T.law_tree.f T.law_tree.fd ["_law_box", "_law_names_here", "_law_looks", "_law_joins"] (spTree 5) := ok_law_tree T (k := 2) 5
  have G_law_term : FnOk P w K mg base CX0 (2 + 7 + 12) T.law_term.f T.law_term.fd ["_law_tree_here"] (spTermL T 12) := ok_law_term T 12
  have G_Stream_init0 : FnR P w K mg base CX0 (8 + 8) T.Stream_init.f (fun vs H Q E => spStInit T (vs ++ [V.non]) H Q E) := ok_stream_init T
  have G_Stream_init : FnOk P w K mg base CX0 (8 + 8) T.Stream_init.f T.Stream_init.fd ["self", "name", "limit"] (spStInitK T) := ok_stream_initK T
  have B_Stream_init := T.kb_Stream_init
  have G_limit_to : ∀ _ : Unit, FnR P w K mg base CX0 (8 + 8) T.Stream_limit_to.f (spLimTo T) := fun _ => ok_limit_to T
  have GX_limit_to : ∀ _ : Unit, FnR P w K mg base (L2.CX P w) (8 + 8) T.Stream_limit_to.f (spLimToBad T) := fun _ => ok_limit_to_bad T
  have G_limit_get : FnR P w K mg base CX0 (8 + 1) T.Stream_limitGet.f (spLimGet T) := ok_limit_get T
  have G_law_made : FnOk P w K mg base CX0 (8 + 10) T.law_made.f T.law_made.fd ["_law_stream", "_law_way", "_law_moment"] (spMadeL T) := ok_law_made T
  have G_law_is_look : FnOk P w K mg base CX0 (2 + 18) T.law_is_look.f T.law_is_look.fd ["_law_look", "_law_due", "_law_moment"] (spP 3 (qIsLook T)) := pok_law_is_look T
  have G_law_answer : FnOk P w K mg base CX0 (2 + 2) T.law_answer.f T.law_answer.fd ["_law_thing", "_law_due"] spAnswerL := ok_law_answer T
  have G_law_equal : FnOk P w K mg base CX0 (15 + 5 + 1) T.law_equal.f T.law_equal.fd ["_law_one", "_law_other"] (spP 2 (qEqual 5)) := pok_law_equal T 5
  refine T.lc_law.F.ok (k := 47) sc_law (fun vs H Q E h => ?_) (fun A outer s H vs Q E hr h => ?_)
  · obtain ⟨a, ns, rfl, _⟩ := h
    rfl
  · obtain ⟨sa, sns, rfl, hP, hS, hl, q⟩ := h
    refine ⟨_, (pss_cons (ps_set (i := 1) sc_law.nd rfl (.inl rfl) (pe_call G_law_open (hr.mono (by omega)) (by rfl) T.law_open.g T.law_open.F.kp T.law_open.b .nil pass0 (pa_cons (pv 0) pa_nil)))
  (pss_cons (ps_set (i := 2) sc_law.nd rfl (.inl rfl) (pe_call G_law_names (hr.mono (by omega)) (by rfl) T.law_names.g T.law_names.F.kp T.law_names.b .nil pass0 (pa_cons (pv 1) (pa_cons pe_int pa_nil))))
  (pss_cons (ps_set (i := 3) sc_law.nd rfl (.inl rfl) (pe_lst (pa_cons (pe_call G_law_limit (hr.mono (by omega)) (by rfl) T.law_limit.g T.law_limit.F.kp T.law_limit.b .nil pass0 (pa_cons (pv 1) pa_nil)) (pa_cons pe_non pa_nil))))
  (pss_cons (ps_set (i := 4) sc_law.nd rfl (.inr rfl) (pe_lst (pa_cons (pe_makeK (n := 1) T.mk_Stream G_Stream_init (hr.mono (by omega)) (by rfl) T.g_Stream B_Stream_init pass0 (pa_cons (pe_ix ix_seq (pv 2) pe_int (fun _ _ => rfl)) pa_nil) (pk_cons (pe_ix ix_seq (pv 3) pe_int (fun _ _ => rfl)) pk_nil)) (pa_cons (StX.pe_makeR T.mk_Stream G_Stream_init0 (hr.mono (by omega)) (by rfl) T.g_Stream pass0 (pa_cons (pe_ix ix_seq (pv 2) pe_int (fun _ _ => rfl)) pa_nil)) pa_nil))))
  (pss_cons (ps_set (i := 5) sc_law.nd rfl (.inl rfl) (pe_call G_law_term (hr.mono (by omega)) (by rfl) T.law_term.g T.law_term.F.kp T.law_term.b .nil pass0 (pa_cons (pe_call G_law_tree (hr.mono (by omega)) (by rfl) T.law_tree.g T.law_tree.F.kp T.law_tree.b .nil pass0 (pa_cons (pv 1) (pa_cons (pv 2) (pa_cons pe_int (pa_cons pe_int pa_nil))))) pa_nil)))
  (pss_cons (ps_set (i := 6) sc_law.nd rfl (.inl rfl) (pe_lst pa_nil))
  (pss_cons (ps_for PassesOwn.never rfl (pi_range1 (by rfl) T.n_range (pa_cons pe_int pa_nil)) (pg_name (i := 7) sc_law.nd rfl (.inl rfl))
   (pss_cons (ps_set (i := 9) sc_law.nd rfl (.inr rfl) (pe_call G_law_pick (hr.mono (by omega)) (by rfl) T.law_pick.g T.law_pick.F.kp T.law_pick.b .nil pass0 (pa_cons (pv 1) (pa_cons pe_int pa_nil))))
  (pss_cons (ps_set (i := 10) sc_law.nd rfl (.inl rfl) (pe_call G_law_pick (hr.mono (by omega)) (by rfl) T.law_pick.g T.law_pick.F.kp T.law_pick.b .nil pass0 (pa_cons (pv 1) (pa_cons pe_int pa_nil))))
  (pss_cons (ps_if (pt_cmpR (op_eqG hr.units) (pv 10) pe_int (nomark _)) (pss_cons (ps_asg (pe_call G_law_limit (hr.mono (by omega)) (by rfl) T.law_limit.g T.law_limit.F.kp T.law_limit.b .nil pass0 (pa_cons (pv 1) pa_nil)) (pg_sub (pv 3) (pv 9) set_list))
  (pss_one (ps_if (pt_cmpR op_notN (pe_methV (pe_ix ix_seq (pv 4) (pv 9) (fun _ _ => rfl)) G_limit_to (hr.mono (by omega)) pass0 (pa_cons (pe_ix ix_seq (pv 3) (pv 9) (fun _ _ => rfl)) pa_nil)) pe_non (nomark _)) (pss_one (ps_ret pe_bl)) pss_nil))) (pss_one (ps_if (pt_cmpR (op_eqG hr.units) (pv 10) pe_int (nomark _)) (pss_cons (ps_set (i := 12) sc_law.nd rfl (.inr rfl) (pe_ix ix_seq (pe_lst (pa_cons (pe_op op_sub pe_int pe_int) (pa_cons (pe_op op_sub pe_int (pe_op op_pow pe_int pe_int)) (pa_cons pe_bl (pa_cons pe_bl (pa_cons pe_str (pa_cons (pe_tup (pa_cons pe_int pa_nil)) (pa_cons (pe_lst (pa_cons pe_int pa_nil)) pa_nil)))))))) (pe_call G_law_pick (hr.mono (by omega)) (by rfl) T.law_pick.g T.law_pick.F.kp T.law_pick.b .nil pass0 (pa_cons (pv 1) (pa_cons pe_int pa_nil))) (fun _ _ => rfl)))
  (pss_one (ps_if (pt_not (pt_val (pe_call G_law_equal (hr.mono (by omega)) (by rfl) T.law_equal.g T.law_equal.F.kp T.law_equal.b .nil pass0 (pa_cons (pe_lam (t := fun E => tMethV _ _ _ _ E (tOp (rIx K) (tVar 4) (tVar 9)) _) (k := 20) T.law_refusal.F T.law_refusal.b T.law_refusal.g sc_law_refusal (fun cdg => by exact gives_law_refusal T rfl rfl cdg) TB rfl (hr.mono (by omega)) rfl (fun A outer s H E f c' hr => (pe_methV (X := lamCx _ A outer s H E _ f c') (pe_ix ix_seq (pv 4) (pv 9) (fun _ _ => rfl)) GX_limit_to (hr.mono (by omega)) (passes_call (takes_of rfl rfl rfl rfl) (fun _ _ _ _ h => h)) (pa_cons (pv 12) pa_nil))) (lamS_by (sc := defScope s_law) (by decide +kernel))) (pa_cons (pe_tup (pa_cons pe_str (pa_cons (pv 12) pa_nil))) pa_nil))))) (pss_one (ps_ret pe_bl)) pss_nil))) (pss_cons (ps_set (i := 13) sc_law.nd rfl (.inl rfl) (pe_call G_law_pick (hr.mono (by omega)) (by rfl) T.law_pick.g T.law_pick.F.kp T.law_pick.b .nil pass0 (pa_cons (pv 1) (pa_cons pe_int pa_nil))))
  (pss_cons (ps_set (i := 14) sc_law.nd rfl (.inl rfl) (pe_call G_law_made (hr.mono (by omega)) (by rfl) T.law_made.g T.law_made.F.kp T.law_made.b .nil pass0 (pa_cons (pe_ix ix_seq (pv 4) (pv 9) (fun _ _ => rfl)) (pa_cons (pv 13) (pa_cons (pv 5) pa_nil)))))
  (pss_one (ps_expr (pe_bm PySem.F.plainAttrs_list PySem.F.slot_list_append PySem.F.type_list_append mt_append (pv 6) (pa_cons (pe_tup (pa_cons (pv 14) (pa_cons (pe_tup (pa_cons (pe_ix ix_seq (pv 2) (pv 9) (fun _ _ => rfl)) (pa_cons (pe_ix ix_seq (pe_lst (pa_cons pe_str (pa_cons pe_str (pa_cons pe_str (pa_cons pe_str pa_nil))))) (pv 13) (fun _ _ => rfl)) (pa_cons (pe_ix ix_seq (pv 3) (pv 9) (fun _ _ => rfl)) pa_nil)))) pa_nil))) pa_nil)))))))))
  (pss_one (ps_for PassesOwn.never rfl (pi_range1 (by rfl) T.n_range (pa_cons pe_int pa_nil)) (pg_name (i := 11) sc_law.nd rfl (.inl rfl))
   (pss_one (ps_if (PW.pt (pw_or (pt_not (pt_val (pe_call G_law_answer (hr.mono (by omega)) (by rfl) T.law_answer.g T.law_answer.F.kp T.law_answer.b .nil pass0 (pa_cons (pe_propR G_limit_get (hr.mono (by omega)) pass0 (pe_ix ix_seq (pv 4) (pv 11) (fun _ _ => rfl)) rfl) (pa_cons (pe_ix ix_seq (pv 3) (pv 11) (fun _ _ => rfl)) pa_nil))))) (pw_or1 (pt_cmpR (op_neG hr.units) (pe_fld (pe_ix ix_seq (pv 4) (pv 11) (fun _ _ => rfl)) rfl) (pe_ix ix_seq (pv 2) (pv 11) (fun _ _ => rfl)) (nomark _))))) (pss_one (ps_ret pe_bl)) pss_nil))))))))
  (pss_cons (ps_for PassesOwn.never rfl (pi_seq (pv 6)) (pg_name (i := 8) sc_law.nd rfl (.inl rfl))
   (pss_one (ps_if (pt_not (pt_val (pe_call G_law_is_look (hr.mono (by omega)) (by rfl) T.law_is_look.g T.law_is_look.F.kp T.law_is_look.b .nil pass0 (pa_cons (pe_ix ix_seq (pv 8) pe_int (fun _ _ => rfl)) (pa_cons (pe_ix ix_seq (pv 8) pe_int (fun _ _ => rfl)) (pa_cons (pv 5) pa_nil)))))) (pss_one (ps_ret pe_bl)) pss_nil)))
  (pss_one (ps_ret pe_bl)))))))))), ?_⟩
    refine law_beginT (n := 13) qL rfl hS hl hP q ?_
    subst_vars
    refine ⟨2, rfl, by omega, fun zs nz lz gz => ?_⟩
    subst_vars
    unfold pLimitL
    refine ⟨rfl, fun l0 hl0 => ?_⟩
    bv_omega
    obtain ⟨za, zb, rfl⟩ : ∃ za zb, zs = [za, zb] := by
      match zs, lz with
      | [za, zb], _ => exact ⟨za, zb, rfl⟩
    have hz0 : goodName za := gz za (by simp)
    have hz1 : goodName zb := gz zb (by simp)
    injections
    refine s_mkSL (T := T) ?_
    bv_omega
    refine ⟨za, rfl, hz0, l0, rfl, hl0, zb, rfl, hz1, fun a a0 a1 => ?_⟩
    subst_vars
    unfold pTreeL
    bv_omega
    refine ⟨[za, zb], rfl, Nat.le_of_ble_eq_true rfl, Nat.le_of_ble_eq_true rfl, gz, by decide, fun t ok => ?_⟩
    have d1 : t.depth ≤ 4 := ok.dp
    have p1 : t.parts ≤ 6 := ok.pt
    have k1 : t.looks = 1 := ok.lk
    have hw : t.wf := ok.wf
    unfold pTermL
    bv_omega
    refine ⟨t, rfl, by omega, ok.wf, ok.nm, ⟨by omega, by omega, by omega⟩, ?_⟩
    subst_vars
    injections
    bv_omega
    refine ⟨fun i s => ∃ (la lb : Option Int) (es : List Tv) (y7 y8 y9 y10 y11 y12 y13 y14 : Sl), limOk la ∧ limOk lb ∧ es.length ≤ i ∧ (∀ e ∈ es, ∃ z wy lim, e = .tup [tmT T (.look z t wy lim), .tup [.str z, .str wy, oT lim]]) ∧
      s = [.tab T.lc_law.P qL, .box, .val (.lst [.str za, .str zb]), .own [oT la, oT lb], .gx (semSL T.c_Stream a [a0, a1] [(za, la), (zb, lb)]), .val (tmT T t), .own es, y7, y8, y9, y10, y11, y12, y13, y14], ⟨l0, none, [], _, _, _, _, _, _, _, _, hl0, trivial, Nat.le_refl _, (fun _ h => nomatch h), rfl⟩, fun i x s hx hI => ?_, fun s hI => ?_⟩
    · obtain ⟨la, lb, es, y7, y8, y9, y10, y11, y12, y13, y14, hla, hlb, hle, hes, rfl⟩ := hI
      have hi : i < 60 := by have := (rgT_at hx).2; omega
      subst_vars
      intro n n0 n1
      subst_vars
      intro kd kd0 kd1
      obtain ⟨n, rfl⟩ : ∃ m : Nat, n = m := ⟨n.toNat, by omega⟩
      have n2 : n = 0 ∨ n = 1 := by omega
      injections
      refine s_mid (fun s => ∃ (la lb : Option Int) (es : List Tv) (y7 y8 y9 y10 y11 y12 y13 y14 : Sl), limOk la ∧ limOk lb ∧ es.length ≤ i + 1 ∧ (∀ e ∈ es, ∃ z wy lim, e = .tup [tmT T (.look z t wy lim), .tup [.str z, .str wy, oT lim]]) ∧
        s = [.tab T.lc_law.P qL, .box, .val (.lst [.str za, .str zb]), .own [oT la, oT lb], .gx (semSL T.c_Stream a [a0, a1] [(za, la), (zb, lb)]), .val (tmT T t), .own es, y7, y8, y9, y10, y11, y12, y13, y14]) ?_ fun s hs => ?_
      · injections
        bv_omega
        rcases (show kd = 0 ∨ kd = 1 ∨ 2 ≤ kd by omega) with rfl | rfl | hk
        · bv_omega
          injections
          rcases n2 with rfl | rfl
          · refine s_setL rfl ?_
            bv_omega
            unfold pLimitL
            refine ⟨rfl, fun lim hlim => ?_⟩
            bv_omega
            refine ⟨0, rfl, ?_⟩
            refine s_limIf (T := T) (n := 0) rfl rfl rfl ?_
            bv_omega
            refine ⟨_, rfl, lim, rfl, hlim, ?_⟩
            injections
            exact ⟨lim, lb, es, _, _, _, _, _, _, _, _, hlim, hlb, by omega, hes, rfl⟩
          · refine s_setL rfl ?_
            bv_omega
            unfold pLimitL
            refine ⟨rfl, fun lim hlim => ?_⟩
            bv_omega
            refine ⟨1, rfl, ?_⟩
            refine s_limIf (T := T) (n := 1) rfl rfl rfl ?_
            bv_omega
            refine ⟨_, rfl, lim, rfl, hlim, ?_⟩
            injections
            exact ⟨la, lim, es, _, _, _, _, _, _, _, _, hla, hlim, by omega, hes, rfl⟩
        · bv_omega
          subst_vars
          refine ⟨by unfold CPow; decide, fun v v0 v1 => ?_⟩
          have key : ∃ x, ([.int (-1), .int (0 - 10 ^ Int.toNat 30), .bl true, .bl false, .str "3", .tup [.int 1], .lst [.int 2]] : List Tv)[v.toNat]? = some x ∧ badLimT x = true ∧ x.sm ∧ x.dp ≤ 1 := by
            obtain ⟨m, rfl⟩ : ∃ m : Nat, v = m := ⟨v.toNat, by omega⟩
            rw [Int.toNat_natCast]
            have hm : m < 7 := by omega
            match m, hm with
            | 0, _ => exact ⟨_, rfl, by decide, trivial, by decide⟩
            | 1, _ => exact ⟨_, rfl, by decide, trivial, by decide⟩
            | 2, _ => exact ⟨_, rfl, rfl, trivial, by decide⟩
            | 3, _ => exact ⟨_, rfl, rfl, trivial, by decide⟩
            | 4, _ => exact ⟨_, rfl, rfl, trivial, by decide⟩
            | 5, _ => exact ⟨_, rfl, rfl, ⟨by decide, trivial, trivial⟩, by decide⟩
            | 6, _ => exact ⟨_, rfl, rfl, ⟨by decide, trivial, trivial⟩, by decide⟩
          obtain ⟨x, hx, hbx, hsm, hdp⟩ := key
          refine ⟨x, at_ix2 v0 hx, ?_⟩
          injections
          bv_omega
          refine ⟨rfl, ?_⟩
          unfold pxLim
          refine ⟨a, [a0, a1], [(za, la), (zb, lb)], n, x, rfl, rfl, by rcases n2 with rfl | rfl <;> exact Nat.le_of_ble_eq_true rfl, rfl, hbx, ?_⟩
          bv_omega
          refine ⟨(T.c_BadBound, "BadBound", some "value"), List.mem_singleton.mpr rfl, rfl, x, rfl, ?_⟩
          have sm1 : (Tv.tup [.str "BadBound", x]).sm := ⟨by show 2 ≤ 100000; decide, trivial, hsm, trivial⟩
          have dp1 : (Tv.tup [.str "BadBound", x]).dp ≤ 2 := by
            simp only [Tv.dp, dpL]
            omega
          bv_omega
          refine ⟨_, _, rfl, by omega, by omega, sm1, sm1, ?_⟩
          rw [teq_refl sm1]
          bv_omega
          injections
          exact ⟨la, lb, es, _, _, _, _, _, _, _, _, hla, hlb, by omega, hes, rfl⟩
        · bv_omega
          rw [if_neg (by omega)]
          injections
          bv_omega
          rw [if_neg (by omega)]
          subst_vars
          intro wy w0 w1
          obtain ⟨m, rfl⟩ : ∃ m : Nat, wy = m := ⟨wy.toNat, by omega⟩
          have hm : m < 4 := by omega
          have ewy : atI [Tv.str "at", .str "before", .str "since", .str "after"] (m : Int) = some (.str (wayN m)) := by
            match m, hm with
            | 0, _ => rfl
            | 1, _ => rfl
            | 2, _ => rfl
            | 3, _ => rfl
          injections
          refine s_setG 4 (.lst ([(za, la), (zb, lb)].map (stT T.c_Stream))) rfl semSL_as ?_
          bv_omega
          unfold pMadeL
          have fit : ∀ z l, (Tm.look z t (wayN m) l).fits := fun z l => ⟨by simp only [Tm.depth]; omega, by simp only [Tm.parts]; omega, by simp only [Tm.looks]; omega⟩
          rcases n2 with rfl | rfl
          · refine ⟨_, rfl, (za, la), m, t, rfl, hm, hz0, hla, fit _ _, _, rfl, rob_tm, ?_⟩
            refine s_append rfl (by omega) ?_
            bv_omega
            refine ⟨_, rfl, _, ewy, _, rfl, la, lb, _, _, _, _, _, _, _, _, _, hla, hlb, by rw [List.length_append]; exact Nat.add_le_add_right hle 1, fun e he => ?_, rfl⟩
            rcases List.mem_append.mp he with he | he
            · exact hes e he
            · exact ⟨za, wayN m, la, List.mem_singleton.mp he⟩
          · refine ⟨_, rfl, (zb, lb), m, t, rfl, hm, hz1, hlb, fit _ _, _, rfl, rob_tm, ?_⟩
            refine s_append rfl (by omega) ?_
            bv_omega
            refine ⟨_, rfl, _, ewy, _, rfl, la, lb, _, _, _, _, _, _, _, _, _, hla, hlb, by rw [List.length_append]; exact Nat.add_le_add_right hle 1, fun e he => ?_, rfl⟩
            rcases List.mem_append.mp he with he | he
            · exact hes e he
            · exact ⟨zb, wayN m, lb, List.mem_singleton.mp he⟩
      · obtain ⟨la, lb, es, y7, y8, y9, y10, y11, y12, y13, y14, hla, hlb, hle, hes, rfl⟩ := hs
        injections
        bv_omega
        refine ⟨fun _ s => ∃ (y11 : Sl), s = [.tab T.lc_law.P qL, .box, .val (.lst [.str za, .str zb]), .own [oT la, oT lb], .gx (semSL T.c_Stream a [a0, a1] [(za, la), (zb, lb)]), .val (tmT T t), .own es, y7, y8, y9, y10, y11, y12, y13, y14], ⟨_, rfl⟩, fun j x s hx hI => ?_, fun s hI => ?_⟩
        · obtain ⟨y11, rfl⟩ := hI
          obtain ⟨rfl, hj⟩ := rgT_at hx
          have hj2 : j = 0 ∨ j = 1 := by omega
          rcases hj2 with rfl | rfl
          · refine s_ifG 4 (.lst ([(za, la), (zb, lb)].map (stT T.c_Stream))) rfl semSL_as ?_
            bv_omega
            unfold pLimGet pFld pAnswerL
            bv_omega
            refine ⟨_, rfl, (za, la), rfl, _, rfl, la, rfl, _, rfl, _, _, rfl, fld_name T, _, rfl, ?_⟩
            bv_omega
            rw [if_neg (fun h => h trivial)]
            injections
            exact ⟨_, rfl⟩
          · refine s_ifG 4 (.lst ([(za, la), (zb, lb)].map (stT T.c_Stream))) rfl semSL_as ?_
            bv_omega
            unfold pLimGet pFld pAnswerL
            bv_omega
            refine ⟨_, rfl, (zb, lb), rfl, _, rfl, lb, rfl, _, rfl, _, _, rfl, fld_name T, _, rfl, ?_⟩
            bv_omega
            rw [if_neg (fun h => h trivial)]
            injections
            exact ⟨_, rfl⟩
        · obtain ⟨y11, rfl⟩ := hI
          exact ⟨la, lb, es, _, _, _, _, _, _, _, _, hla, hlb, hle, hes, rfl⟩
    · obtain ⟨la, lb, es, y7, y8, y9, y10, y11, y12, y13, y14, hla, hlb, hle, hes, rfl⟩ := hI
      injections
      refine s_fz 6 rfl ?_
      injections
      bv_omega
      refine ⟨fun i s => ∃ (y8 : Sl), s = [.tab T.lc_law.P qL, .box, .val (.lst [.str za, .str zb]), .own [oT la, oT lb], .gx (semSL T.c_Stream a [a0, a1] [(za, la), (zb, lb)]), .val (tmT T t), .val (.lst es), y7, y8, y9, y10, y11, y12, y13, y14], ⟨_, rfl⟩, fun i x s hx hI => ?_, fun s hI => ?_⟩
      · obtain ⟨y8, rfl⟩ := hI
        obtain ⟨z, wy, lim, rfl⟩ := hes x (List.mem_of_getElem? hx)
        injections
        bv_omega
        unfold qIsLook
        refine ⟨z, t, wy, lim, rfl, hw, by omega, ?_⟩
        bv_omega
        injections
        exact ⟨_, rfl⟩
      · obtain ⟨y8, rfl⟩ := hI
        injections
        bv_omega
end
end Pl
open PySem PySem.W PySem.Calls PyProof.Rows in
set_option maxRecDepth 100000 in
set_option maxHeartbeats 0 in
theorem PySem.Challenge.cw_pastlooks_k12_streams_with_limits_holds : PySem.Challenge.rw_pastlooks_k12_streams_with_limits.Holds := by
  w_on; o_law
  refine HandSHeadRun.head_any (r := OpenLaw.row PySem.Challenge.rw_pastlooks_k12_streams_with_limits) (q := view (OpenLaw.row PySem.Challenge.rw_pastlooks_k12_streams_with_limits).prog [71]) (H := Pl.hk) (ob := Pl.ob) (M := 60000) (loose := Pl.loose) (d := HandSHeadRun.topDef (OpenLaw.row PySem.Challenge.rw_pastlooks_k12_streams_with_limits).prog 71) (kwd := []) Pl.ob_eq
    (by kernel_rfl) (fun s => by kernel_rfl) Pl.run (by kernel_rfl) (by kernel_rfl) (by kernel_rfl) (by rfl) (by first | assumption | decide +kernel) (by decide +kernel) ⟨rfl, rfl, rfl, rfl, rfl, by decide +kernel⟩ ?hw ?hc
  case hw => w_witness2
  case hc =>
    refine LamX.walk_ofTsE (l := PySem.Challenge.rw_pastlooks_k12_streams_with_limits) (n := 63) (k := 48) (x := "_law_script") (CX := fun _ => L2.CX0) rfl (by decide) (by kernel_rfl) ⟨rfl, by decide, by decide⟩ ?F (fun _ _ _ _ _ z => z)
    intro w mg fa h Y G hmg0
    obtain ⟨K, K2, KX, KX2, c⟩ := Y
    have hmg : mg ("law" : PySem.Str) = some (.ref fa) := by
      have e : (HandSHeadRun.topDef (OpenLaw.row PySem.Challenge.rw_pastlooks_k12_streams_with_limits).prog 71).name = ("law" : PySem.Str) := by kernel_rfl
      rw [← e]
      exact hmg0
    obtain ⟨T, rfl, hb⟩ := Pl.facts KX G hmg c
    have ft_law := c.t (a := (("law", none) : Str × Option Str)) (by simp [Pl.tabs])
    rw [← T.lc_law.ec, ← T.lc_law.eP] at ft_law
    refine ⟨K, KX, T.law.fd, [(T.lc_law.c, T.lc_law.P)], Pl.spLaw K T.lc_law.P, ?_, ?_, ?_, hb, fun H a ns hl _ hT hS => ⟨a, ns, rfl, hT (T.lc_law.c, T.lc_law.P) (by simp), hS, hl, fun _ => rfl⟩, fun base _ _ TB => Pl.ok_law T (TB (T.lc_law.c, T.lc_law.P) (by simp))⟩
    · intro p hp
      simp only [List.mem_cons, List.not_mem_nil, or_false] at hp
      rcases hp with rfl
      · exact Pl.tbB_ok KX2 ft_law.2.2
    · intro p hp
      simp only [List.mem_cons, List.not_mem_nil, or_false] at hp
      rcases hp with rfl
      · exact ft_law.2.1
    · intro p hp
      simp only [List.mem_cons, List.not_mem_nil, or_false] at hp
      rcases hp with rfl
      · exact Pl.cdB_ok KX ft_law.1
