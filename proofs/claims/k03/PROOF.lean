import PyProof.Rows.All
import Wide.All
import OpenK.AllK
import Wide.FinOn
import KE.OsRunLaw
import KE.RegKSuper
import KE.RegKIsAll
import HandS.ForMost
import HandS.IsInst
import HandS.Nested
import HandS.ClsMeth
import HandS.Star
import KE.KSuper
import HandS.SlotsOwn
import KE.KOpsOwn
import HandS.MakeKwOnly
import HandS.Defaults
import HandS.SortKw
import KE.SortData
import KE.DataMinMax
import HandS.Evl
import HandS.Zip
import HandS.Walk
import HandS.Style
import HandS.Small
import HandS.Text
import PySem.Challenge.RW_pastlooks_k03_looks_mirrored
set_option Elab.async false
set_option linter.all false
set_option maxRecDepth 100000
set_option maxHeartbeats 4000000
set_option Elab.async false
set_option linter.all false
set_option maxRecDepth 100000
set_option maxHeartbeats 4000000
namespace Pl
open PySem L2
/-! ### heaps -/
theorem same_upd {H : Hp} {p : Addr} {o : HO} (h : H p = none) : Same H (upd H p o) := fun b x e => by
  rw [upd_ne (ne_of_none e h)]
  exact e
theorem same_mut {G H : Hp} {p : Addr} {o : HO} (s : Same G H) (h : G p = none) : Same G (upd H p o) := fun b x e => by
  rw [upd_ne (ne_of_none e h)]
  exact s b x e
theorem same_both {G H : Hp} {p : Addr} {o : HO} (s : Same G H) : Same (upd G p o) (upd H p o) := fun b x e => by
  unfold upd at *
  split
  · rename_i h
    rw [if_pos h] at e
    exact e
  · rename_i h
    rw [if_neg h] at e
    exact s b x e
theorem Same.rd {H H' : Hp} {a : Addr} {u : HO} (s : Same H H') (h : Rd H a u) : Rd H' a u := by
  rcases h with h | ⟨o, h⟩
  · exact .inl (s _ _ h)
  · exact .inr ⟨o, s _ _ h⟩
theorem Same.tup {K : PySem.W.Frag} {H H' : Hp} {a : Addr} {xs : List V} (s : Same H H') (h : SqT K H a xs) : SqT K H' a xs := by
  rcases h with (h | ⟨o, h⟩) | h
  · exact .inl (.inl (s _ _ h))
  · exact .inl (.inr ⟨o, s _ _ h⟩)
  · exact .inr h
theorem at_ix {xs : List V} {j : Int} {v : V} (h0 : 0 ≤ j) (h : xs[j.toNat]? = some v) : atI xs j = some v := by
  have e : j = ((j.toNat : Nat) : Int) := by omega
  rw [e]
  exact atI_nat h
theorem at_ix2 {α : Type} {xs : List α} {j : Int} {v : α} (h0 : 0 ≤ j) (h : xs[j.toNat]? = some v) : atI xs j = some v := by
  have e : j = ((j.toNat : Nat) : Int) := by omega
  rw [e]
  exact atI_nat h
theorem ix_in {n : Nat} {j : Int} (h0 : 0 ≤ j) (h1 : j < n) : ixN n j = some j.toNat := by
  unfold ixN
  rw [if_pos h0, if_pos h1]
theorem at_ints {cs : List Int} {j : Int} (h0 : 0 ≤ j) (h1 : j < cs.length) : ∃ x, atI (cs.map V.int) j = some (.int x) := by
  have h : j.toNat < cs.length := by omega
  exact ⟨cs[j.toNat], at_ix h0 (by rw [List.getElem?_map, List.getElem?_eq_getElem h]; rfl)⟩
theorem fm0 {a b : Int} (h : 0 < b) : 0 ≤ a.fmod b := by
  rw [Int.fmod_eq_emod_of_nonneg _ (Int.le_of_lt h)]
  exact Int.emod_nonneg _ (by omega)
theorem fm1 {a b : Int} (h : 0 < b) : a.fmod b < b := by
  rw [Int.fmod_eq_emod_of_nonneg _ (Int.le_of_lt h)]
  exact Int.emod_lt_of_pos _ h
theorem sz {n : Nat} (h : n ≤ 100000) : n ≤ sizeLine := Nat.le_trans h (by decide)
theorem szl {n : Nat} (h : n < 100000) : n < sizeLine := Nat.lt_of_lt_of_le h (by decide)
/-! ### the box from which a law draws -/
def BoxAt (b c : Addr) (H : Hp) : Prop := b ≠ c ∧ ∃ (cs : List Int) (k : Int), H b = some (.lst [.ref c, .int k]) ∧ H c = some (.lst (cs.map V.int)) ∧ 0 < cs.length ∧ cs.length ≤ 64
/-- G: what stays -/
structure Wd (b c : Addr) (G H : Hp) : Prop where
  box : BoxAt b c H
  gh : Same G H
  gb : G b = none
  gc : G c = none
/-- nothing that stood is changed; G is what is known and stays -/
structure Gr (G H G' H' : Hp) : Prop where
  gg : Same G G'
  gh : Same G' H'
  hh : Same H H'
  nw : ∀ a o, G' a = some o → G a = some o ∨ H a = none
theorem Gr.refl {G H : Hp} (s : Same G H) : Gr G H G H := ⟨Same.refl _, s, Same.refl _, fun _ _ h => .inl h⟩
theorem Gr.trans {G H G1 H1 G2 H2 : Hp} (a : Gr G H G1 H1) (b : Gr G1 H1 G2 H2) : Gr G H G2 H2 :=
  ⟨a.gg.trans b.gg, b.gh, a.hh.trans b.hh, fun x o h => by
    rcases b.nw x o h with h | h
    · exact a.nw x o h
    · exact .inr (a.hh.free h)⟩
theorem Gr.new {G H : Hp} {p : Addr} {o : HO} (s : Same G H) (h : H p = none) : Gr G H (upd G p o) (upd H p o) :=
  ⟨same_upd (s.free h), same_both s, same_upd h, fun a x e => by
    by_cases q : a = p
    · rw [q]; exact .inr h
    · rw [upd_ne q] at e; exact .inl e⟩
/-- a new thing that is not to be known -/
theorem Gr.drop {G H : Hp} {p : Addr} {o : HO} (s : Same G H) (h : H p = none) : Gr G H G (upd H p o) :=
  ⟨Same.refl _, same_mut s (s.free h), same_upd h, fun _ _ e => .inl e⟩
theorem Gr.none {G H G' H' : Hp} (g : Gr G H G' H') {a : Addr} {o : HO} (h : G a = none) (ha : H a = some o) : G' a = none := by
  cases e : G' a with
  | none => rfl
  | some u =>
    rcases g.nw a u e with q | q
    · rw [h] at q; cases q
    · rw [ha] at q; cases q
theorem BoxAt.same {b c : Addr} {H H' : Hp} (x : BoxAt b c H) (s : Same H H') : BoxAt b c H' := by
  obtain ⟨n, cs, k, h1, h2, h3⟩ := x
  exact ⟨n, cs, k, s _ _ h1, s _ _ h2, h3⟩
theorem BoxAt.b {b c : Addr} {H : Hp} (x : BoxAt b c H) : ∃ o, H b = some o := by
  obtain ⟨n, cs, k, h1, h2, h3⟩ := x
  exact ⟨_, h1⟩
theorem BoxAt.c {b c : Addr} {H : Hp} (x : BoxAt b c H) : ∃ o, H c = some o := by
  obtain ⟨n, cs, k, h1, h2, h3⟩ := x
  exact ⟨_, h2⟩
theorem Wd.gr {b c : Addr} {G H G' H' : Hp} (x : Wd b c G H) (g : Gr G H G' H') : Wd b c G' H' := by
  obtain ⟨_, h1⟩ := x.box.b
  obtain ⟨_, h2⟩ := x.box.c
  exact ⟨x.box.same g.hh, g.gh, g.none x.gb h1, g.none x.gc h2⟩
theorem Wd.gr0 {b c : Addr} {G H : Hp} (x : Wd b c G H) : Gr G H G H := Gr.refl x.gh
/-- a list that is not frozen may be written -/
theorem Wd.mut {b c p : Addr} {G H : Hp} {o : HO} (x : Wd b c G H) (h : G p = none) (hb : p ≠ b) (hc : p ≠ c) : Wd b c G (upd H p o) := by
  obtain ⟨n, cs, k, h1, h2, h3⟩ := x.box
  exact ⟨⟨n, cs, k, by rw [upd_ne (Ne.symm hb)]; exact h1, by rw [upd_ne (Ne.symm hc)]; exact h2, h3⟩, same_mut x.gh h, x.gb, x.gc⟩
/-! ### isinstance of built-in classes -/
theorem kb_int_int : kitB "int" "int" = some true := by decide +kernel
theorem kb_int_bool : kitB "int" "bool" = some false := by decide +kernel
theorem kb_int_tuple : kitB "int" "tuple" = some false := by decide +kernel
theorem kb_int_list : kitB "int" "list" = some false := by decide +kernel
theorem kb_int_str : kitB "int" "str" = some false := by decide +kernel
theorem kb_bool_int : kitB "bool" "int" = some true := by decide +kernel
theorem kb_bool_bool : kitB "bool" "bool" = some true := by decide +kernel
theorem kb_bool_tuple : kitB "bool" "tuple" = some false := by decide +kernel
theorem kb_bool_list : kitB "bool" "list" = some false := by decide +kernel
theorem kb_bool_str : kitB "bool" "str" = some false := by decide +kernel
theorem kb_tuple_int : kitB "tuple" "int" = some false := by decide +kernel
theorem kb_tuple_bool : kitB "tuple" "bool" = some false := by decide +kernel
theorem kb_tuple_tuple : kitB "tuple" "tuple" = some true := by decide +kernel
theorem kb_tuple_list : kitB "tuple" "list" = some false := by decide +kernel
theorem kb_tuple_str : kitB "tuple" "str" = some false := by decide +kernel
theorem kb_list_int : kitB "list" "int" = some false := by decide +kernel
theorem kb_list_bool : kitB "list" "bool" = some false := by decide +kernel
theorem kb_list_tuple : kitB "list" "tuple" = some false := by decide +kernel
theorem kb_list_list : kitB "list" "list" = some true := by decide +kernel
theorem kb_list_str : kitB "list" "str" = some false := by decide +kernel
theorem kb_str_int : kitB "str" "int" = some false := by decide +kernel
theorem kb_str_bool : kitB "str" "bool" = some false := by decide +kernel
theorem kb_str_tuple : kitB "str" "tuple" = some false := by decide +kernel
theorem kb_str_list : kitB "str" "list" = some false := by decide +kernel
theorem kb_str_str : kitB "str" "str" = some true := by decide +kernel
theorem kb_none_int : kitB "NoneType" "int" = some false := by decide +kernel
theorem kb_none_bool : kitB "NoneType" "bool" = some false := by decide +kernel
theorem kb_none_tuple : kitB "NoneType" "tuple" = some false := by decide +kernel
theorem kb_none_list : kitB "NoneType" "list" = some false := by decide +kernel
theorem kb_none_str : kitB "NoneType" "str" = some false := by decide +kernel
/-- the kinds of values that a law handles, by a built-in type's name -/
inductive Ty (H : Hp) : V → String → Prop
  | non : Ty H .non "NoneType"
  | bl (b : Bool) : Ty H (.bl b) "bool"
  | int (i : Int) : Ty H (.int i) "int"
  | str (x : Str) : Ty H (.str x) "str"
  | lst {a : Addr} {xs : List V} (h : H a = some (.lst xs)) : Ty H (.ref a) "list"
  | tup {a : Addr} {xs : List V} (h : H a = some (.tup xs)) : Ty H (.ref a) "tuple"
theorem Ty.x {K : PySem.W.Frag} {H : Hp} {v : V} {n : String} (t : Ty H v n) : TyX K H v (.type n) := by
  cases t with
  | non => exact .base .non
  | bl b => exact .base (.bl b)
  | int i => exact .base (.int i)
  | str x => exact .base (.str x)
  | lst h => exact .base (.lst h)
  | tup h => exact .base (.tup h)
theorem Ty.same {H H' : Hp} {v : V} {n : String} (s : Same H H') (t : Ty H v n) : Ty H' v n := by
  cases t with
  | non => exact .non
  | bl b => exact .bl b
  | int i => exact .int i
  | str x => exact .str x
  | lst h => exact .lst (s _ _ h)
  | tup h => exact .tup (s _ _ h)
/-- isinstance(x, n) of such a value -/
def tyB (t n : String) : Bool := (kitB t n).getD false
theorem Ty.kit {H : Hp} {v : V} {t : String} (h : Ty H v t) {n : String} (hn : n = "int" ∨ n = "bool" ∨ n = "tuple" ∨ n = "list" ∨ n = "str") : kitB t n = some (tyB t n) := by
  unfold tyB
  rcases hn with rfl | rfl | rfl | rfl | rfl <;> cases h <;> first
    | (rw [kb_int_int]; rfl) | (rw [kb_int_bool]; rfl) | (rw [kb_int_tuple]; rfl) | (rw [kb_int_list]; rfl) | (rw [kb_int_str]; rfl)
    | (rw [kb_bool_int]; rfl) | (rw [kb_bool_bool]; rfl) | (rw [kb_bool_tuple]; rfl) | (rw [kb_bool_list]; rfl) | (rw [kb_bool_str]; rfl)
    | (rw [kb_tuple_int]; rfl) | (rw [kb_tuple_bool]; rfl) | (rw [kb_tuple_tuple]; rfl) | (rw [kb_tuple_list]; rfl) | (rw [kb_tuple_str]; rfl)
    | (rw [kb_list_int]; rfl) | (rw [kb_list_bool]; rfl) | (rw [kb_list_tuple]; rfl) | (rw [kb_list_list]; rfl) | (rw [kb_list_str]; rfl)
    | (rw [kb_str_int]; rfl) | (rw [kb_str_bool]; rfl) | (rw [kb_str_tuple]; rfl) | (rw [kb_str_list]; rfl) | (rw [kb_str_str]; rfl)
    | (rw [kb_none_int]; rfl) | (rw [kb_none_bool]; rfl) | (rw [kb_none_tuple]; rfl) | (rw [kb_none_list]; rfl) | (rw [kb_none_str]; rfl)
theorem isI_int {K : PySem.W.Frag} {H : Hp} {v : V} {t : String} (h : Ty H v t) : PySem.W.kitOne K (.type t) (.type "int") = some (tyB t "int") := kit_ty (h.kit (.inl rfl))
theorem isI_bool {K : PySem.W.Frag} {H : Hp} {v : V} {t : String} (h : Ty H v t) : PySem.W.kitOne K (.type t) (.type "bool") = some (tyB t "bool") := kit_ty (h.kit (.inr (.inl rfl)))
theorem isI_tuple {K : PySem.W.Frag} {H : Hp} {v : V} {t : String} (h : Ty H v t) : PySem.W.kitOne K (.type t) (.type "tuple") = some (tyB t "tuple") := kit_ty (h.kit (.inr (.inr (.inl rfl))))
theorem isI_list {K : PySem.W.Frag} {H : Hp} {v : V} {t : String} (h : Ty H v t) : PySem.W.kitOne K (.type t) (.type "list") = some (tyB t "list") := kit_ty (h.kit (.inr (.inr (.inr (.inl rfl)))))
theorem isI_str {K : PySem.W.Frag} {H : Hp} {v : V} {t : String} (h : Ty H v t) : PySem.W.kitOne K (.type t) (.type "str") = some (tyB t "str") := kit_ty (h.kit (.inr (.inr (.inr (.inr rfl)))))
def isInt : V → Bool
  | .int _ => true
  | _ => false
theorem isInt_of {H : Hp} {v : V} {t : String} (h : Ty H v t) : (tyB t "int" && !tyB t "bool") = isInt v := by
  unfold tyB
  cases h
  · rw [kb_none_int]; rfl
  · rw [kb_bool_int, kb_bool_bool]; rfl
  · rw [kb_int_int, kb_int_bool]; rfl
  · rw [kb_str_int]; rfl
  · rw [kb_list_int]; rfl
  · rw [kb_tuple_int]; rfl
end Pl

set_option Elab.async false
set_option linter.all false
set_option maxRecDepth 100000
set_option maxHeartbeats 4000000
/-! Methods of own classes whose last statement is super().__init__(..). -/
namespace Pl
open PySem PySem.Spec PyProof.Rows L2 NdefX ClX
/-- what the written part has of a def that closes over its class D, and of the def g of the class behind D -/
structure SupK (P : Program) (K : PySem.W.Frag) (F : NF) (cc D g : Addr) (name : Str) : Prop where
  cl : F.cl = ([("__class__", cc)] : List (Str × Addr))
  cell : ∃ ccl ccd ccs, K.lookup cc = some ⟨ccl, ccd, .cell (some (.ref D)), ccs⟩
  cls : ∃ cd, PySem.W.clsIn K D = some cd
  code : ∃ ccl cdd vs ccs file tf, K.lookup F.c = some ⟨ccl, cdd, .fields vs, ccs⟩ ∧ vs[2]? = some (.str file tf) ∧ ((P.main.file : Str) == file) = true
  nsup : PySem.W.nsIn K mainGlobals "super" = some none
  any : PySem.W.nsIn K cStatics "thirdparty.any" = some none
  ty : PySem.W.typeIn K (.ref g) = some (.type "function")
  fi : PySem.W.fnIn K g = true
  top : (P.main.scope.names.lookup ("super" : Str)).isSome = false
  ks : F.scope.names.lookup ("super" : Str) = some .globalImplicit
  kc : F.scope.names.lookup ("__class__" : Str) = some .free
  at_ : (name == ("__class__" : Str)) = false
/-- .. and of the class C of the object -/
structure SupC (K : PySem.W.Frag) (C D g : Addr) (name : Str) : Prop where
  mro : PySem.W.mroIn K C (.ref D) = some true
  sup : PySem.W.ks_superIn K C D name = some (some (.ref g))
abbrev superE (name : Str) (es : List Expr) (p0 p1 apos pos : Pos) : Expr := .Call (.Attribute (.Call (.Name "super" p0) [] [] p1) name apos) es [] pos
theorem load_of {X : Cx} {i : Nat} {x : Str} {pins : List (Addr × Obj)} {σ : L2.St} {H : Hp} {s : Shared} {v : V} {E : Value → Shared → Prop} {Q : Value → Shared → Prop} (I : Inv X pins σ H s) (hN : X.N[i]? = some x) (hv : Vis X.env.scope x) (e : σ[i]? = some (some v)) (hcd : (x == ("__classdict__" : Str)) = false) (h : ∀ u, RelV v u → Q u s) :
    wpAny (model X.prog X.w) X.A (loadName X.env x) Q E s := by
  obtain ⟨m, hn, hl⟩ := I.loc
  obtain ⟨u, r, l⟩ := hl i x v hN e hv
  rcases l with ⟨k, hm⟩ | ⟨k, c, hc, hu⟩
  · exact wpAny_loadName_local I.ok.kind k hn hm (h u r)
  · rcases k with k | k
    · exact wpAny_loadName_cell I.ok.kind k hc hu (h u r)
    · exact wpAny_loadName_free I.ok.kind k hc hu (h u r) hcd
section
variable {X : Cx} {F : NF} {f cc D g x C dx L : Addr} {name : Str} {fd : FuncData} {ar : Arg} {oc : Value} {od : Option Addr} {osl : Array (Option Value)} {pins : List (Addr × Obj)} {σ : L2.St} {H : Hp} {s : Shared} {fs : List (Str × V)} {j : Nat} {body : List Stmt} {p0 p1 apos pos : Pos} {whole : Sem Value}
/-- super(): the record so -/
theorem super_base {Q : Value → Shared → Prop} {E : Value → Shared → Prop} (S : SupK X.prog X.K F cc D g name) (hE : X.env = PySem.W.envX F.qual F.scope L f (.ref F.c) F.cl) (hf : X.K.lookup f = some ⟨oc, od, .func fd, osl⟩) (hp : (fd.params.posonlyargs ++ fd.params.args).head? = some ar)
    (hms : X.mg "super" = none) (I : Inv X pins σ H s) (i0 : X.N[0]? = some ar.arg) (hv0 : F.scope.names.lookup ar.arg = some .local) (h0c : (ar.arg == ("__classdict__" : Str)) = false) (ic : X.N[j]? = some "__class__") (hj : σ[j]? = some (some (.ref D))) (hx : σ[0]? = some (some (.ref x))) (ho : H x = some (.ins C dx fs)) (sc : SupC X.K C D g name)
    (h : ∀ h', h'.get? s.heap.objs.size = some (PySem.W.ks_superObj D x C) → (∀ y o, s.heap.get? y = some o → h'.get? y = some o) → Q (.ref s.heap.objs.size) { s with heap := h' }) :
    _root_.PySem.wpAt (model X.prog X.w) X.A (.func body X.env) (attributeBase (.Call (.Name "super" p0) [] [] p1) name X.env whole) Q E s := by
  obtain ⟨ccl, cdd, vs, ccs, file, tf, hc1, hc2, hc3⟩ := S.code
  obtain ⟨cdD, hD⟩ := S.cls
  have KI := I.kIn
  have ksx : X.env.scope = F.scope := by rw [hE]
  have k1 : X.env.kindOf "super" = some .globalImplicit := by rw [hE]; exact S.ks
  have k2 : X.env.kindOf "__class__" = some .free := by rw [hE]; exact S.kc
  have k3 : X.env.func = some f := by rw [hE]
  have k4 : X.env.code = .ref F.c := by rw [hE]
  obtain ⟨oD, hD1, hD2⟩ : ∃ oD, s.heap.get? D = some oD ∧ oD.data = .cls cdD := by
    unfold PySem.W.clsIn at hD
    split at hD
    · rename_i c d cd' sl ho
      cases hD
      exact ⟨_, KI _ _ ho, rfl⟩
    · cases hD
  obtain ⟨mA, O, _⟩ := ins_get I.hok ho
  obtain ⟨odx, J, _⟩ := O.look
  refine ks_wpAt_super_base (env := X.env) k1 k2 S.at_ k3 (KI _ _ hf) rfl hp k4 (KI _ _ hc1) rfl hc2 hc3 S.top ?_
  obtain ⟨mb, h1, h2⟩ := I.mod.blt
  refine PySem.W.ks_loadName_global I.ok.kind k1 (Calls.loadGlobal_builtin (by rw [I.ok.glob]; exact I.mod.glob.keeps I.bk) hms (by rw [I.ok.blt]; exact h1.keeps I.bk) ((h2 "super" (by decide)).trans (by decide +kernel)) ⟨rfl, ?_⟩)
  refine load_of I ic (by rw [ksx]; exact .inr (.inr S.kc)) hj (by decide) fun u r => ?_
  obtain rfl : u = Value.ref D := r
  refine load_of I i0 (by rw [ksx]; exact .inl hv0) hx h0c fun u r => ?_
  obtain rfl : u = Value.ref x := r
  obtain ⟨hh, gg, dd, t, os⟩ := s
  refine ks_wpAny_isType_cls hD1 hD2 ⟨rfl, ?_⟩
  refine ks_wpAny_call_super hD1 hD2 J.at_ J.cls (fun c e => ?_) (PySem.W.looks_mroIn KI sc.mro) (fun h' e k => h h' e k)
  have := J.no
  unfold PySem.W.notCls at this
  rw [e] at this
  exact Bool.noConfusion this
/-- super().name(e, ..) -/
theorem super_run {CX : CXT} {k : Nat} {sp : Sp} {E : XK} {Q : VK} {e : Expr} {es : List Expr} {t : TA} {pl : Sem Bool} (S : SupK X.prog X.K F cc D g name) (hE : X.env = PySem.W.envX F.qual F.scope L f (.ref F.c) F.cl) (hf : X.K.lookup f = some ⟨oc, od, .func fd, osl⟩) (hp : (fd.params.posonlyargs ++ fd.params.args).head? = some ar)
    (hms : X.mg "super" = none) (I : Inv X pins σ H s) (i0 : X.N[0]? = some ar.arg) (hv0 : F.scope.names.lookup ar.arg = some .local) (h0c : (ar.arg == ("__classdict__" : Str)) = false) (ic : X.N[j]? = some ("__class__" : Str)) (hj : σ[j]? = some (some (.ref D))) (hx : σ[0]? = some (some (.ref x))) (ho : H x = some (.ins C dx fs)) (sc : SupC X.K C D g name)
    (G : FnR X.prog X.w X.K X.mg X.base CX k g sp) (hr : Room k X.A) (hxp : Passes CX X E) (ha : PA X (e :: es) t) (h : t σ H fun vs H1 => sp (.ref x :: vs) H1 Q E)
    (hst : starEach (e :: es) X.env = (false, eval e X.env) :: starEach es X.env) (hpl : (backTo pos (starEach es X.env)).any (·.1) = false)
    (ht : eval (superE name (e :: es) p0 p1 apos pos) X.env = (do
      let ov ← attributeBase (.Call (.Name "super" p0) [] [] p1) name X.env (eval (.Call (.Name "super" p0) [] [] p1) X.env)
      standAt apos.atName
      let (f, first) ← holding [ov] (getMethod ov name pl)
      callWith pos f first (backTo pos (starEach (e :: es) X.env)) [])) :
    _root_.PySem.wpAt (model X.prog X.w) X.A (.func body X.env) (eval (superE name (e :: es) p0 p1 apos pos) X.env) (EP X pins σ Q) X.xe s := by
  obtain ⟨hh, gg, dd, tt, os⟩ := s
  refine ks_wpAt_MethodCall (super_base S hE hf hp hms I i0 hv0 h0c ic hj hx ho sc fun h' e1 k1 => ?_) ht
  have I1 : Inv X pins σ H ⟨h', gg, dd, tt, os⟩ := I.kept (t' := tt) k1
  obtain ⟨mA, O, _⟩ := ins_get I1.hok ho
  obtain ⟨odx, J, _⟩ := O.look
  have hm := sc.sup
  have hm' := hm
  unfold PySem.W.ks_superIn at hm'
  obtain ⟨cd, hc⟩ : ∃ cd, PySem.W.clsIn X.K C = some cd := by
    cases hc : PySem.W.clsIn X.K C with
    | none => rw [hc] at hm'; cases hm'
    | some cd => exact ⟨cd, rfl⟩
  rw [hc] at hm'
  obtain ⟨of, hof, hofc⟩ : ∃ of, h'.get? g = some of ∧ of.cls = .type "function" := by
    have ht' : (X.K.lookup g).map (·.cls) = some (.type "function") := S.ty
    cases z : X.K.lookup g with
    | none => rw [z] at ht'; cases ht'
    | some of => rw [z] at ht'; exact ⟨of, I1.kIn _ _ z, Option.some.inj ht'⟩
  refine ks_wpAny_getMethod_super e1 (PySem.W.looks_opaque I1.kIn S.any) (l₀ := cd.mro) (fun A Q E s k q => wpAny_bind ((PySem.W.looks_clsIn I1.kIn hc) A _ E s k (wpAny_pure q))) rfl I1.kIn hm' hof hofc (PySem.W.ks_ne I1.kIn J hc) S.at_ ?_
  have I2 := met_new (g := g) (C := x) I1
  refine callwith_cm I2 (base_none I1 (Nat.le_refl _)) S.fi (thn (ha.run pos _ _ σ H _ I2 h) fun us s3 ⟨vs, H2, I3, rv, q2⟩ => ⟨⟨pin_at I3, I3.kIn⟩, run_cm G hr hxp I3 rv q2⟩) hst hpl
/-- super().name() -/
theorem super_run0 {CX : CXT} {k : Nat} {sp : Sp} {E : XK} {Q : VK} {pl : Sem Bool} (S : SupK X.prog X.K F cc D g name) (hE : X.env = PySem.W.envX F.qual F.scope L f (.ref F.c) F.cl) (hf : X.K.lookup f = some ⟨oc, od, .func fd, osl⟩) (hp : (fd.params.posonlyargs ++ fd.params.args).head? = some ar)
    (hms : X.mg "super" = none) (I : Inv X pins σ H s) (i0 : X.N[0]? = some ar.arg) (hv0 : F.scope.names.lookup ar.arg = some .local) (h0c : (ar.arg == ("__classdict__" : Str)) = false) (ic : X.N[j]? = some ("__class__" : Str)) (hj : σ[j]? = some (some (.ref D))) (hx : σ[0]? = some (some (.ref x))) (ho : H x = some (.ins C dx fs)) (sc : SupC X.K C D g name)
    (G : FnR X.prog X.w X.K X.mg X.base CX k g sp) (hr : Room k X.A) (hxp : Passes CX X E) (h : sp [.ref x] H Q E)
    (ht : eval (superE name [] p0 p1 apos pos) X.env = (do
      let ov ← attributeBase (.Call (.Name "super" p0) [] [] p1) name X.env (eval (.Call (.Name "super" p0) [] [] p1) X.env)
      standAt apos.atName
      let (f, first) ← holding [ov] (getMethod ov name pl)
      callWith pos f first (backTo pos (starEach [] X.env)) [])) :
    _root_.PySem.wpAt (model X.prog X.w) X.A (.func body X.env) (eval (superE name [] p0 p1 apos pos) X.env) (EP X pins σ Q) X.xe s := by
  obtain ⟨hh, gg, dd, tt, os⟩ := s
  refine ks_wpAt_MethodCall (super_base S hE hf hp hms I i0 hv0 h0c ic hj hx ho sc fun h' e1 k1 => ?_) ht
  have I1 : Inv X pins σ H ⟨h', gg, dd, tt, os⟩ := I.kept (t' := tt) k1
  obtain ⟨mA, O, _⟩ := ins_get I1.hok ho
  obtain ⟨odx, J, _⟩ := O.look
  have hm' := sc.sup
  unfold PySem.W.ks_superIn at hm'
  obtain ⟨cd, hc⟩ : ∃ cd, PySem.W.clsIn X.K C = some cd := by
    cases hc : PySem.W.clsIn X.K C with
    | none => rw [hc] at hm'; cases hm'
    | some cd => exact ⟨cd, rfl⟩
  rw [hc] at hm'
  obtain ⟨of, hof, hofc⟩ : ∃ of, h'.get? g = some of ∧ of.cls = .type "function" := by
    have ht' : (X.K.lookup g).map (·.cls) = some (.type "function") := S.ty
    cases z : X.K.lookup g with
    | none => rw [z] at ht'; cases ht'
    | some of => rw [z] at ht'; exact ⟨of, I1.kIn _ _ z, Option.some.inj ht'⟩
  refine ks_wpAny_getMethod_super e1 (PySem.W.looks_opaque I1.kIn S.any) (l₀ := cd.mro) (fun A Q E s k q => wpAny_bind ((PySem.W.looks_clsIn I1.kIn hc) A _ E s k (wpAny_pure q))) rfl I1.kIn hm' hof hofc (PySem.W.ks_ne I1.kIn J hc) S.at_ ?_
  have I2 := met_new (g := g) (C := x) I1
  exact PySem.W.callWith_M0 (first := []) ⟨pin_at I2, I2.kIn⟩ S.fi (run_cm G hr hxp I2 .nil h)
end
theorem execs_app {M : Model} {env : Env} {post : List Stmt} {Γ} {Q : Flow → Pos → Shared → Prop} {E : Value → Pos → Shared → Prop} : ∀ {pre : List Stmt} {p s}, Sem.wp M Γ (execs pre env) (fun f p s => match f with | .next => Sem.wp M Γ (execs post env) Q E p s | f => Q f p s) E p s → Sem.wp M Γ (execs (pre ++ post) env) Q E p s
  | [], p, s, h => by
    rw [execs_nil, Sem.wp_pure'] at h
    exact h
  | a :: pre, p, s, h => by
    rw [List.cons_append, execs_cons, Sem.wp_bind']
    rw [execs_cons, Sem.wp_bind'] at h
    refine Sem.wp_mono M Γ _ (fun f p' s' h' => ?_) (fun _ _ _ h' => h') _ _ h
    cases f
    case next => exact execs_app h'
    all_goals exact h'
section
variable {CX : CXT} {P : Program} {w : World} {K : PySem.W.Frag} {mg : Str → Option Value} {base : Heap} {k : Nat} {f cc D : Addr} {F : NF} {dV kV doc pm ct oc ccl : Value} {an od ccd : Option Addr} {osl ccs : Array (Option Value)} {N ps : List Str} {sp : Sp}
theorem cells_cc {h : Heap} {H : Hp} (hcc : h.get? cc = some ⟨ccl, ccd, .cell (some (.ref D)), ccs⟩) (hn : H cc = none) : CellsAt [(("__class__" : Str), cc)] [("__class__" : Str)] [some (.ref D)] h H := by
  refine ⟨rfl, fun y c e => ?_, fun x y c e1 e2 => ?_, fun i y e => ?_⟩
  · have : c = cc := by
      simp only [List.lookup] at e
      split at e
      · exact (Option.some.inj e).symm
      · cases e
    subst this
    exact ⟨hn, _, _, hcc, rfl⟩
  · have h1 : x = ("__class__" : Str) := by
      simp only [List.lookup] at e1
      split at e1
      · rename_i z; exact beq_iff_eq.mp z
      · cases e1
    have h2 : y = ("__class__" : Str) := by
      simp only [List.lookup] at e2
      split at e2
      · rename_i z; exact beq_iff_eq.mp z
      · cases e2
    rw [h1, h2]
  · match i with
    | 0 =>
      obtain rfl : ("__class__" : Str) = y := Option.some.inj e
      refine ⟨cc, by simp [List.lookup], fun v ev => ?_⟩
      obtain rfl : V.ref D = v := Option.some.inj (Option.some.inj ev)
      exact ⟨.ref D, rfl, _, hcc, rfl⟩
    | i + 1 => simp at e
/-- a def that closes over its class, its body pre ++ [last] where last is read at its place -/
theorem fnL_of {pre : List Stmt} {last : Stmt} (hcl : F.cl = [(("__class__" : Str), cc)]) (hbd : F.body = pre ++ [last])
    (lk : K.lookup f = some ⟨oc, od, .func (PySem.W.fnX F.name F.qual F.params F.body F.scope F.cl dV kV doc pm an (.ref F.c) ct), osl⟩) (hcd : PySem.W.codeIn K (.ref F.c) F.qual = true) (S : NScope N ps ["__class__"] F.scope) (hcc : K.lookup cc = some ⟨ccl, ccd, .cell (some (.ref D)), ccs⟩)
    (len : ∀ vs H Q E, sp vs H Q E → vs.length = ps.length)
    (hbody : ∀ (A : Around) (outer : List Env) (s : Shared) (H : Hp) (vs : List V) (Q : VK) (E : XK), Room k (A.deeper (envF F f s.heap.objs.size)) → sp vs H Q E →
      ∃ (t : TS) (LQ : L2.St → Hp → Prop), PSs (ncx CX P w K mg base N F f A outer s H E) pre t ∧ t { nx := LQ, rt := Q } (startF N vs [some (.ref D)]) H ∧
        ∀ σ' H' s', Inv (ncx CX P w K mg base N F f A outer s H E) [] σ' H' s' → LQ σ' H' →
          _root_.PySem.wpAt (model P w) (A.deeper (envF F f s.heap.objs.size)) (.func F.body (envF F f s.heap.objs.size)) (exec last (envF F f s.heap.objs.size)) (fun fl s2 => fl = .next ∧ ∃ σ2 H2, Inv (ncx CX P w K mg base N F f A outer s H E) [] σ2 H2 s2 ∧ Q .non H2)
            (ncx CX P w K mg base N F f A outer s H E).xe s') :
    FnOk P w K mg base CX (k + 1) f (PySem.W.fnX F.name F.qual F.params F.body F.scope F.cl dV kV doc pm an (.ref F.c) ct) ps sp := by
  refine ⟨len, fun A outer s H args us vs Q E hr e0 hb r hsp => ?_⟩
  have hl := len _ _ _ _ hsp
  have KX : K.In s.heap := e0.mod.kin.keeps fun b o e => (e0.bs b o e).1
  have lim : s.heap.NoLimit := e0.mod.nolimit.keeps fun b o e => (e0.bs b o e).1
  have hnc : H cc = none := (e0.bs _ _ (e0.mod.kin _ _ hcc)).2
  have C : CellsAt F.cl ["__class__"] [some (.ref D)] s.heap H := by
    rw [hcl]
    exact cells_cc (KX _ _ hcc) hnc
  refine ks_codeAny_call_defAt (body := F.body) (binds := ps.zip us) hr.depth (KX _ _ lk) rfl lim (PySem.W.codeRec_of KX hcd) rfl hb S.nocell (fun ⟨n, _⟩ hy => S.par n (List.of_mem_zip hy).1) (fun h₁ hns kp => ?_) S.co S.gen S.kind
  have I : Inv (ncx CX P w K mg base N F f A outer s H E) [] (startF N vs [some (.ref D)]) H { s with heap := h₁, toks := s.toks + (ps.zip us).length } := inv_startN S hr.hd e0 hl r C hns kp
  obtain ⟨t, LQ, ht, hq, hlast⟩ := hbody A outer s H vs Q E (hr.deeper _) hsp
  have fin : ∀ {σ' : L2.St} {H' : Hp} {v : V} {u : Value} {s' : Shared}, Inv (ncx CX P w K mg base N F f A outer s H E) [] σ' H' s' → L2.RelV v u → Q v H' → CE outer P w H s Q u s' :=
    fun {σ' H' v u s'} J rv q => ⟨v, H', J.os, J.bare, J.base, J.hok, rv, q⟩
  have h1 := ht.run [] _ (startF N vs [some (.ref D)]) H { nx := LQ, rt := Q } I hq
  show _root_.PySem.wpAt _ _ (.func F.body (envF F f s.heap.objs.size)) (execs F.body (envF F f s.heap.objs.size)) _ _ _
  intro Γ p hc hΓ
  have h2 := wpAt_of_wpAny (c := .func F.body (envF F f s.heap.objs.size)) h1 Γ p hc hΓ
  rw [show execs F.body (envF F f s.heap.objs.size) = execs (pre ++ [last]) (envF F f s.heap.objs.size) by rw [hbd]]
  refine execs_app (Sem.wp_mono _ Γ _ (fun fl p' s' hs => ?_) (fun e p' s' hs => ?_) _ _ h2)
  · cases fl with
    | next =>
      obtain ⟨σ', H', J, q⟩ := hs
      rw [execs_cons, Sem.wp_bind']
      refine Sem.wp_mono _ Γ _ (fun fl p' s' hs => ?_) (fun e p' s' hs => ?_) _ _ (hlast σ' H' s' J q Γ p' hc hΓ)
      · obtain ⟨rfl, σ2, H2, J2, q2⟩ := hs
        show Sem.wp _ _ (execs [] _) _ _ _ _
        rw [execs_nil, Sem.wp_pure']
        exact fin (v := V.non) (u := Value.none) J2 rfl q2
      · exact hs
    | ret u =>
      obtain ⟨v, σ', H', J, rv, q⟩ := hs
      exact fin J rv q
    | brk =>
      obtain ⟨_, _, _, q⟩ := hs
      exact False.elim q
    | cont =>
      obtain ⟨_, _, _, q⟩ := hs
      exact False.elim q
  · exact hs
/-- what stands ahead of super().name(..) -/
def SupQ (K : PySem.W.Frag) (D g : Addr) (name : Str) (j : Nat) (ta : TA) (spg : Sp) (Q : VK) (E : XK) : L2.St → Hp → Prop := fun σ H => ∃ x C dx fs, σ[0]? = some (some (.ref x)) ∧ σ[j]? = some (some (.ref D)) ∧ H x = some (.ins C dx fs) ∧ SupC K C D g name ∧ ta σ H fun vs H1 => spg (.ref x :: vs) H1 (fun _ H2 => Q .non H2) E
/-- THE RULE: a def of a class D whose body ends in super().name(e, ..) -/
theorem fnS_of {pre : List Stmt} {g : Addr} {name : Str} {e : Expr} {es : List Expr} {ar : Arg} {p0 p1 apos pos spos : Pos} {pl : Addr → Sem Bool} {spg : Sp} (SK : SupK P K F cc D g name) (hbd : F.body = pre ++ [.Expr (superE name (e :: es) p0 p1 apos pos) spos])
    (lk : K.lookup f = some ⟨oc, od, .func (PySem.W.fnX F.name F.qual F.params F.body F.scope F.cl dV kV doc pm an (.ref F.c) ct), osl⟩) (hcd : PySem.W.codeIn K (.ref F.c) F.qual = true) (S : NScope N ps ["__class__"] F.scope)
    (hp : (F.params.posonlyargs ++ F.params.args).head? = some ar) (i0 : N[0]? = some ar.arg) (hv0 : F.scope.names.lookup ar.arg = some .local) (h0c : (ar.arg == ("__classdict__" : Str)) = false) (ic : N[ps.length]? = some ("__class__" : Str)) (hms : mg "super" = none)
    (G : FnR P w K mg base CX k g spg) (hxp : ∀ A outer s H E, Passes CX (ncx CX P w K mg base N F f A outer s H E) E)
    (len : ∀ vs H Q E, sp vs H Q E → vs.length = ps.length)
    (hbody : ∀ (A : Around) (outer : List Env) (s : Shared) (H : Hp) (vs : List V) (Q : VK) (E : XK), Room k (A.deeper (envF F f s.heap.objs.size)) → sp vs H Q E →
      ∃ (t : TS) (ta : TA), PSs (ncx CX P w K mg base N F f A outer s H E) pre t ∧ PA (ncx CX P w K mg base N F f A outer s H E) (e :: es) ta ∧ t { nx := SupQ K D g name ps.length ta spg Q E, rt := Q } (startF N vs [some (.ref D)]) H)
    (hst : ∀ L, starEach (e :: es) (envF F f L) = (false, eval e (envF F f L)) :: starEach es (envF F f L) := by intro L; rfl) (hpl : ∀ L, (backTo pos (starEach es (envF F f L))).any (·.1) = false := by intro L; rfl)
    (ht : ∀ L, eval (superE name (e :: es) p0 p1 apos pos) (envF F f L) = (do
      let ov ← attributeBase (.Call (.Name "super" p0) [] [] p1) name (envF F f L) (eval (.Call (.Name "super" p0) [] [] p1) (envF F f L))
      standAt apos.atName
      let (fn, first) ← holding [ov] (getMethod ov name (pl L))
      callWith pos fn first (backTo pos (starEach (e :: es) (envF F f L))) []) := by intro L; rfl)
    (hi : ∀ L, interactive (envF F f L) = false := by intro L; rfl) (hs : ∀ L, swapsWith (superE name (e :: es) p0 p1 apos pos) none spos.line (envF F f L) = pure false := by intro L; rfl) :
    FnOk P w K mg base CX (k + 1) f (PySem.W.fnX F.name F.qual F.params F.body F.scope F.cl dV kV doc pm an (.ref F.c) ct) ps sp := by
  obtain ⟨ccl, ccd, ccs, hcc⟩ := SK.cell
  refine fnL_of SK.cl hbd lk hcd S hcc len fun A outer s H vs Q E hr hsp => ?_
  obtain ⟨t, ta, h1, h2, h3⟩ := hbody A outer s H vs Q E hr hsp
  refine ⟨t, SupQ K D g name ps.length ta spg Q E, h1, h3, fun σ' H' s' I q => ?_⟩
  obtain ⟨x, C, dx, fs, e0, ej, hx, sc, hq⟩ := q
  have z := super_run (X := ncx CX P w K mg base N F f A outer s H E) (body := F.body) (Q := fun _ H2 => Q .non H2) SK rfl lk hp hms I i0 hv0 h0c ic ej e0 hx sc G hr (hxp A outer s H E) h2 hq (hst _) (hpl _) (ht _)
  exact ks_wpAt_Expr_any (ks_wpAt_mono z (fun v s2 ⟨y, H2, I2, _, q2⟩ => ⟨rfl, σ', H2, I2, q2⟩) fun _ _ y => y) (hi _) (hs _)
/-- .. in super().name() -/
theorem fnS0_of {pre : List Stmt} {g : Addr} {name : Str} {ar : Arg} {p0 p1 apos pos spos : Pos} {pl : Addr → Sem Bool} {spg : Sp} (SK : SupK P K F cc D g name) (hbd : F.body = pre ++ [.Expr (superE name [] p0 p1 apos pos) spos])
    (lk : K.lookup f = some ⟨oc, od, .func (PySem.W.fnX F.name F.qual F.params F.body F.scope F.cl dV kV doc pm an (.ref F.c) ct), osl⟩) (hcd : PySem.W.codeIn K (.ref F.c) F.qual = true) (S : NScope N ps ["__class__"] F.scope)
    (hp : (F.params.posonlyargs ++ F.params.args).head? = some ar) (i0 : N[0]? = some ar.arg) (hv0 : F.scope.names.lookup ar.arg = some .local) (h0c : (ar.arg == ("__classdict__" : Str)) = false) (ic : N[ps.length]? = some ("__class__" : Str)) (hms : mg "super" = none)
    (G : FnR P w K mg base CX k g spg) (hxp : ∀ A outer s H E, Passes CX (ncx CX P w K mg base N F f A outer s H E) E)
    (len : ∀ vs H Q E, sp vs H Q E → vs.length = ps.length)
    (hbody : ∀ (A : Around) (outer : List Env) (s : Shared) (H : Hp) (vs : List V) (Q : VK) (E : XK), Room k (A.deeper (envF F f s.heap.objs.size)) → sp vs H Q E →
      ∃ (t : TS), PSs (ncx CX P w K mg base N F f A outer s H E) pre t ∧ t { nx := SupQ K D g name ps.length tNil spg Q E, rt := Q } (startF N vs [some (.ref D)]) H)
    (ht : ∀ L, eval (superE name [] p0 p1 apos pos) (envF F f L) = (do
      let ov ← attributeBase (.Call (.Name "super" p0) [] [] p1) name (envF F f L) (eval (.Call (.Name "super" p0) [] [] p1) (envF F f L))
      standAt apos.atName
      let (fn, first) ← holding [ov] (getMethod ov name (pl L))
      callWith pos fn first (backTo pos (starEach [] (envF F f L))) []) := by intro L; rfl)
    (hi : ∀ L, interactive (envF F f L) = false := by intro L; rfl) (hs : ∀ L, swapsWith (superE name [] p0 p1 apos pos) none spos.line (envF F f L) = pure false := by intro L; rfl) :
    FnOk P w K mg base CX (k + 1) f (PySem.W.fnX F.name F.qual F.params F.body F.scope F.cl dV kV doc pm an (.ref F.c) ct) ps sp := by
  obtain ⟨ccl, ccd, ccs, hcc⟩ := SK.cell
  refine fnL_of SK.cl hbd lk hcd S hcc len fun A outer s H vs Q E hr hsp => ?_
  obtain ⟨t, h1, h3⟩ := hbody A outer s H vs Q E hr hsp
  refine ⟨t, SupQ K D g name ps.length tNil spg Q E, h1, h3, fun σ' H' s' I q => ?_⟩
  obtain ⟨x, C, dx, fs, e0, ej, hx, sc, hq⟩ := q
  have z := super_run0 (X := ncx CX P w K mg base N F f A outer s H E) (body := F.body) (Q := fun _ H2 => Q .non H2) SK rfl lk hp hms I i0 hv0 h0c ic ej e0 hx sc G hr (hxp A outer s H E) hq (ht _)
  exact ks_wpAt_Expr_any (ks_wpAt_mono z (fun v s2 ⟨y, H2, I2, _, q2⟩ => ⟨rfl, σ', H2, I2, q2⟩) fun _ _ y => y) (hi _) (hs _)
end
end Pl

set_option Elab.async false
set_option linter.all false
set_option maxRecDepth 100000
set_option maxHeartbeats 4000000
/-! Operators and methods of own classes, the class not fixed. -/
namespace Pl
open PySem PySem.Spec PyProof.Rows L2
/-- o.m(..): o an instance of any class that finds m in one of the defs fl -/
def tMethV {ι : Type} (K : PySem.W.Frag) (fl : ι → Addr) (m : Str) (sp : ι → Sp) (E : XK) (ta : TE) (t : TA) : TE := fun σ H Q => ta σ H fun x H1 => ∃ a C dx fs i, x = .ref a ∧ H1 a = some (.ins C dx fs) ∧ fs.lookup m = none ∧ Cls K C ∧ Meth K C m (fl i) ∧ t σ H1 fun vs H2 => sp i (x :: vs) H2 Q E
section
variable {X : Cx} {CX : CXT} {k : Nat} {fl : List Addr} {sp : Sp} {E : XK} {m : Str} {p pos apos : Pos} {e o : Expr} {es : List Expr} {ta : TE} {t : TA}
theorem pe_methV {ι : Type} {fl : ι → Addr} {sp : ι → Sp} {pl : Sem Bool} (he : PE X o ta) (F : ∀ i, FnR X.prog X.w X.K X.mg X.base CX k (fl i) (sp i)) (hr : Room k X.A) (hx : Passes CX X E) (ha : PA X (e :: es) t)
    (hst : starEach (e :: es) X.env = (false, eval e X.env) :: starEach es X.env := by rfl) (hpl : (backTo pos (starEach es X.env)).any (·.1) = false := by rfl)
    (ht : eval (.Call (.Attribute o m apos) (e :: es) [] pos) X.env = (do
      let ov ← eval o X.env
      standAt apos.atName
      let (f, first) ← holding [ov] (getMethod ov m pl)
      callWith pos f first (backTo pos (starEach (e :: es) X.env)) (backToKw pos (keywordEach [] X.env))) := by rfl) :
    PE X (.Call (.Attribute o m apos) (e :: es) [] pos) (tMethV X.K fl m sp E ta t) := by
  refine ⟨fun pins s σ H Q I h => ?_⟩
  refine PySem.W.methodCall_KW (pl := pl) (thn (he.run pins s σ H _ I h) fun u s1 ⟨x, H1, I1, rx, a, C, dx, fs, i, ex, ea, l, c, hm, q⟩ => ?_) ht
  subst ex
  obtain rfl : u = Value.ref a := rx
  refine getmeth_ok I1 ea c hm l ?_
  refine PySem.W.callWith_K (first := [.ref a]) (h₀ := X.base) I.ok.mod.kin hm.kp (thn (ha.run pos pins s1 σ H1 _ I1 q) fun us s2 ⟨vs, H2, I2, r, q2⟩ => ⟨I2.kIn, ?_⟩) hst hpl
  exact wpAny_call (run_fnR (us := .ref a :: us) (vs := .ref a :: vs) (F i) hr hx I2 (.cons rfl r) q2)
theorem pe_methV0 {ι : Type} {fl : ι → Addr} {sp : ι → Sp} {pl : Sem Bool} (he : PE X o ta) (F : ∀ i, FnR X.prog X.w X.K X.mg X.base CX k (fl i) (sp i)) (hr : Room k X.A) (hx : Passes CX X E)
    (ht : eval (.Call (.Attribute o m apos) [] [] pos) X.env = (do
      let ov ← eval o X.env
      standAt apos.atName
      let (f, first) ← holding [ov] (getMethod ov m pl)
      callWith pos f first (backTo pos (starEach [] X.env)) (backToKw pos (keywordEach [] X.env))) := by rfl) :
    PE X (.Call (.Attribute o m apos) [] [] pos) (tMethV X.K fl m sp E ta tNil) := by
  refine ⟨fun pins s σ H Q I h => ?_⟩
  refine PySem.W.methodCall_KW (pl := pl) (thn (he.run pins s σ H _ I h) fun u s1 ⟨x, H1, I1, rx, a, C, dx, fs, i, ex, ea, l, c, hm, q⟩ => ?_) ht
  subst ex
  obtain rfl : u = Value.ref a := rx
  refine getmeth_ok I1 ea c hm l ?_
  exact PySem.W.callWith_K0 (first := [.ref a]) I1.kIn hm.kp (wpAny_call (run_fnR (us := [.ref a]) (vs := [.ref a]) (F i) hr hx I1 (.cons rfl .nil) q))
/-- what a class must have for an operator with a number to its right -/
structure BinI (K : PySem.W.Frag) (C f : Addr) (op : Operator) : Prop where
  first : PySem.W.selfFirst K C = true
  at_ : PySem.W.findIn K (.ref C) (PySem.dunder op.info.2) = some (some (.ref f))
  fn : PySem.W.isFn K (.ref f) = true
  r : PySem.W.findIn K (.ref C) (dunderR op.info.2) = some none
  i1 : (PySem.W.findIn K (.type "int") (PySem.dunder op.info.2)).isSome = true
  i2 : (PySem.W.findIn K (.type "int") (dunderR op.info.2)).isSome = true
  sub : PySem.W.subIn K (.type "int") (.ref C) = some false
theorem op_binI {op : Operator} {f : Addr} (F : FnR X.prog X.w X.K X.mg X.base CX k f sp) (hr : Room k X.A) (hx : Passes CX X E) :
    OpR X (binaryOp op) (fun x y H Q => ∃ a C dx fs i, x = .ref a ∧ y = .int i ∧ H a = some (.ins C dx fs) ∧ BinI X.K C f op ∧ sp [x, y] H Q E) := by
  intro pins s σ H x y v u Q I rx ry h
  obtain ⟨a, C, dx, fs, i, rfl, rfl, ha, B, q⟩ := h
  cases (show v = Value.ref a from rx)
  obtain ⟨t, eu⟩ := (show ∃ t, u = Value.int i t from ry)
  subst eu
  obtain ⟨mA, O, _⟩ := ins_get I.hok ha
  obtain ⟨odx, J, _⟩ := O.look
  obtain ⟨m, hF⟩ := I.fr
  obtain ⟨fo, h1⟩ := Option.isSome_iff_exists.mp B.i1
  obtain ⟨ro, h2⟩ := Option.isSome_iff_exists.mp B.i2
  refine PySem.W.ksp_binT (T := "int") hF I.ok.mod.kin J rfl B.first B.at_ B.fn B.r (.inl rfl) h1 h2 B.sub ?_
  refine wpAny_mono (wpAny_call (run_fnR (us := [.ref a, .int i t]) (vs := [.ref a, .int i]) F hr hx I (.cons rfl (.cons ⟨t, rfl⟩ .nil)) q)) (fun w s' z => ?_) fun _ _ x => x
  obtain ⟨z', H', I', rz, qz⟩ := z
  exact SlX.cmpback rz ⟨z', H', I', rz, qz⟩
/-- .. with an instance of the same class to its right -/
structure BinS (K : PySem.W.Frag) (C f : Addr) (op : Operator) : Prop where
  first : PySem.W.selfFirst K C = true
  at_ : PySem.W.findIn K (.ref C) (PySem.dunder op.info.2) = some (some (.ref f))
  fn : PySem.W.isFn K (.ref f) = true
theorem op_binS {op : Operator} {f : Addr} (F : FnR X.prog X.w X.K X.mg X.base CX k f sp) (hr : Room k X.A) (hx : Passes CX X E) :
    OpR X (binaryOp op) (fun x y H Q => ∃ a C dx fs b dy gs, x = .ref a ∧ y = .ref b ∧ H a = some (.ins C dx fs) ∧ H b = some (.ins C dy gs) ∧ BinS X.K C f op ∧ sp [x, y] H Q E) := by
  intro pins s σ H x y v u Q I rx ry h
  obtain ⟨a, C, dx, fs, b, dy, gs, rfl, rfl, ha, hb, B, q⟩ := h
  cases (show v = Value.ref a from rx)
  cases (show u = Value.ref b from ry)
  obtain ⟨mA, O, _⟩ := ins_get I.hok ha
  obtain ⟨odx, J, _⟩ := O.look
  obtain ⟨mB, O', _⟩ := ins_get I.hok hb
  obtain ⟨ody, J', _⟩ := O'.look
  obtain ⟨m, hF⟩ := I.fr
  refine PySem.W.binop_K hF I.ok.mod.kin J J'.type B.first B.at_ B.fn ?_
  refine wpAny_mono (wpAny_call (run_fnR (us := [.ref a, .ref b]) (vs := [.ref a, .ref b]) F hr hx I (.cons rfl (.cons rfl .nil)) q)) (fun w s' z => ?_) fun _ _ x => x
  obtain ⟨z', H', I', rz, qz⟩ := z
  exact SlX.cmpback rz ⟨z', H', I', rz, qz⟩
/-- .. of a comparison, an instance to its right -/
structure CmpO (K : PySem.W.Frag) (C f : Addr) (op : CmpOp) : Prop where
  at_ : PySem.W.findIn K (.ref C) (cmpInfo op).2.1 = some (some (.ref f))
  fn : PySem.W.isFn K (.ref f) = true
theorem op_cmpO {op : CmpOp} {f : Addr} (hop : ∀ a b, compareOp op a b = richCompare op a b) (F : FnR X.prog X.w X.K X.mg X.base CX k f sp) (hr : Room k X.A) (hx : Passes CX X E) :
    OpR X (compareOp op) (fun x y H Q => ∃ a C dx fs b C' dy gs, x = .ref a ∧ y = .ref b ∧ H a = some (.ins C dx fs) ∧ H b = some (.ins C' dy gs) ∧ CmpO X.K C f op ∧ PySem.W.notFirst X.K C (.ref C') = true ∧ sp [x, y] H Q E) := by
  intro pins s σ H x y v u Q I rx ry h
  obtain ⟨a, C, dx, fs, b, C', dy, gs, rfl, rfl, ha, hb, B, hn, q⟩ := h
  cases (show v = Value.ref a from rx)
  cases (show u = Value.ref b from ry)
  obtain ⟨mA, O, _⟩ := ins_get I.hok ha
  obtain ⟨odx, J, _⟩ := O.look
  obtain ⟨mB, O', _⟩ := ins_get I.hok hb
  obtain ⟨ody, J', _⟩ := O'.look
  obtain ⟨m, hF⟩ := I.fr
  rw [hop]
  refine PySem.W.cmp_K (op := op) (tb := .ref C') hr.units0 hF I.ok.mod.kin J J'.type hn B.at_ B.fn ?_
  refine wpAny_mono (wpAny_call (run_fnR (us := [.ref a, .ref b]) (vs := [.ref a, .ref b]) F hr hx I (.cons rfl (.cons rfl .nil)) q)) (fun w s' z => ?_) fun _ _ x => x
  obtain ⟨z', H', I', rz, qz⟩ := z
  exact SlX.cmpback rz ⟨z', H', I', rz, qz⟩
/-- f(e, ..), f an instance of any class whose __call__ is at g -/
def tCallV (X : Cx) (g : Addr) (sp : Sp) (E : XK) (tf : TE) (t : TA) : TE := fun σ H Q => tf σ H fun y H1 => ∃ a, y = V.ref a ∧ t σ H1 fun vs H2 => ∃ C dx fs, H2 a = some (.ins C dx fs) ∧ StX.CallO X.K C g ∧ sp (V.ref a :: vs) H2 Q E
theorem pe_callV {g : Addr} {fe : Expr} {tf : TE} (hf : PE X fe tf) (F : FnR X.prog X.w X.K X.mg X.base CX k g sp) (hr : Room k X.A) (hx : Passes CX X E) (ha : PA X (e :: es) t)
    (ht : eval (.Call fe (e :: es) [] pos) X.env = (do callWith pos (← eval fe X.env) [] (backTo pos (starEach (e :: es) X.env)) (backToKw pos (keywordEach [] X.env))) := by rfl)
    (he : starEach (e :: es) X.env = (false, eval e X.env) :: starEach es X.env := by rfl) (hpl : (backTo pos (starEach es X.env)).any (·.1) = false := by rfl) : PE X (.Call fe (e :: es) [] pos) (tCallV X g sp E tf t) := by
  refine ⟨fun pins s σ H Q I h => ?_⟩
  refine Call_ (thn (hf.run pins s σ H _ I h) fun u s1 ⟨y, H1, I1, ry, a, ey, q⟩ => ?_) ht
  subst ey
  obtain rfl : u = Value.ref a := ry
  refine StX.callO_with (thn (ha.run pos pins s1 σ H1 _ I1 q) fun us s2 ⟨vs, H2, I2, r, C, dx, fs, hi, c, q2⟩ => ?_) he hpl
  obtain ⟨ox, od, J, hd⟩ := StX.insC_at I2 (.inr ⟨dx, fs, hi⟩)
  exact ⟨⟨C, ox, od, J, hd⟩, StX.run_callO c F hr hx I2 (.inr ⟨dx, fs, hi⟩) r q2⟩
end
end Pl

set_option Elab.async false
set_option linter.all false
set_option maxRecDepth 100000
set_option maxHeartbeats 4000000
/-! What the text has of methods; defs that end in super().__init__(..), in short. -/
namespace Pl
open PySem PySem.Spec PyProof.Rows L2 NdefX ClX
theorem toR {P : Program} {w : World} {K : PySem.W.Frag} {mg : Str → Option Value} {base : Heap} {CX : CXT} {k : Nat} {f : Addr} {fd : FuncData} {ps : List Str} {sp : Sp} (F : FnOk P w K mg base CX k f fd ps sp) (b : Binds K fd ps []) : FnR P w K mg base CX k f sp := by
  intro A outer s H us vs Q E hr e0 r h
  have KX : K.In s.heap := e0.mod.kin.keeps fun b o e => (e0.bs b o e).1
  have hl : (us ++ []).length = ps.length := by rw [List.append_nil, ← r.length]; exact F.len _ _ _ _ h
  have hb := b s us KX hl
  rw [List.append_nil] at hb
  exact F.run A outer s H ⟨us, []⟩ us vs Q E hr e0 hb r h
/-- a method of the text -/
structure Md (K : PySem.W.Frag) (x qual : Str) (st : Stmt) (ps : List Str) where
  f : Addr
  fd : FuncData
  F : Fun K x qual st f fd
  b : Binds K fd ps []
/-- .. with a star parameter -/
structure MdF (K : PySem.W.Frag) (x qual : Str) (st : Stmt) where
  f : Addr
  fd : FuncData
  F : Fun K x qual st f fd
/-- .. with the default None for its last parameter -/
structure MdD (K : PySem.W.Frag) (x qual : Str) (st : Stmt) (ps : List Str) where
  f : Addr
  fd : FuncData
  ex : ∃ (oc : Value) (od : Option Addr) (dV kV doc pm : Value) (an : Option Addr) (cdv ct : Value) (osl : Array (Option Value)),
    fd = PySem.W.fnOf x qual (defArgs st) (defBody st) (defScope st) dV kV doc pm an cdv ct ∧ K.lookup f = some ⟨oc, od, .func fd, osl⟩ ∧ PySem.W.codeIn K cdv qual = true
  b : Binds K fd ps []
theorem MdD.ok {P : Program} {w : World} {K : PySem.W.Frag} {mg : Str → Option Value} {base : Heap} {CX : CXT} {x qual : Str} {st : Stmt} {N ps : List Str} {k : Nat} {sp : Sp} (M : MdD K x qual st ps) (S : FnScope N ps (defScope st)) (len : ∀ vs H Q E, sp vs H Q E → vs.length = ps.length)
    (hbody : ∀ (cdv : Value) (A : Around) (outer : List Env) (s : Shared) (H : Hp) (vs : List V) (Q : VK) (E : XK), Room k (A.deeper (envOfC qual (defScope st) s.heap.objs.size M.f cdv)) → sp vs H Q E →
      ∃ t, PSs (cxOf CX P w K mg base N qual (defScope st) M.f cdv A outer s H E) (defBody st) t ∧ t { nx := fun _ H' => Q .non H', rt := Q } (start N vs) H) : FnOk P w K mg base CX (k + 1) M.f M.fd ps sp := by
  obtain ⟨f, fd, ⟨oc, od, dV, kV, doc, pm, an, cdv, ct, osl, rfl, lk, hcd⟩, b⟩ := M
  exact fn_of lk hcd S len fun A outer s H vs Q E hr hsp => hbody cdv A outer s H vs Q E hr hsp
/-- .. that closes over its class at D and says super().__init__(..), which is found at g -/
structure MdS (P : Program) (K : PySem.W.Frag) (x qual : Str) (st : Stmt) (D g : Addr) where
  f : Addr
  cc : Addr
  c : Addr
  lk : ∃ (oc : Value) (od : Option Addr) (kV doc pm : Value) (an : Option Addr) (ct : Value) (osl : Array (Option Value)),
    K.lookup f = some ⟨oc, od, .func (PySem.W.fnX x qual (defArgs st) (defBody st) (defScope st) [(("__class__" : Str), cc)] .none kV doc pm an (.ref c) ct), osl⟩
  hcd : PySem.W.codeIn K (.ref c) qual = true
  kp : PySem.W.keepIn K (.ref f) = true
  sk : SupK P K ⟨x, qual, defArgs st, defBody st, defScope st, [(("__class__" : Str), cc)], c⟩ cc D g "__init__"
abbrev MdS.nf {P : Program} {K : PySem.W.Frag} {x qual : Str} {st : Stmt} {D g : Addr} (M : MdS P K x qual st D g) : NF := ⟨x, qual, defArgs st, defBody st, defScope st, [(("__class__" : Str), M.cc)], M.c⟩
section
variable {P : Program} {w : World} {K : PySem.W.Frag} {mg : Str → Option Value} {base : Heap} {k : Nat} {x qual : Str} {st : Stmt} {D g : Addr} {N ps : List Str} {sp spg : Sp}
theorem MdS.ok (M : MdS P K x qual st D g) {pre : List Stmt} {e : Expr} {es : List Expr} {ar : Arg} {p0 p1 apos pos spos : Pos} {pl : Addr → Sem Bool} (hbd : defBody st = pre ++ [.Expr (superE "__init__" (e :: es) p0 p1 apos pos) spos])
    (S : NScope N ps ["__class__"] (defScope st)) (hp : ((defArgs st).posonlyargs ++ (defArgs st).args).head? = some ar) (i0 : N[0]? = some ar.arg) (hv0 : (defScope st).names.lookup ar.arg = some .local) (h0c : (ar.arg == ("__classdict__" : Str)) = false) (ic : N[ps.length]? = some ("__class__" : Str)) (hms : mg "super" = none)
    (hb : ∀ (kV doc pm : Value) (an : Option Addr) (ct : Value) (cc c : Addr) (us : List Value), us.length = ps.length → bindArgs (PySem.W.fnX x qual (defArgs st) (defBody st) (defScope st) [(("__class__" : Str), cc)] .none kV doc pm an (.ref c) ct) ⟨us, []⟩ = pure (ps.zip us))
    (G : FnR P w K mg base CX0 k g spg) (len : ∀ vs H Q E, sp vs H Q E → vs.length = ps.length)
    (hbody : ∀ (A : Around) (outer : List Env) (s : Shared) (H : Hp) (vs : List V) (Q : VK) (E : XK), Room k (A.deeper (envF M.nf M.f s.heap.objs.size)) → sp vs H Q E →
      ∃ (t : TS) (ta : TA), PSs (ncx CX0 P w K mg base N M.nf M.f A outer s H E) pre t ∧ PA (ncx CX0 P w K mg base N M.nf M.f A outer s H E) (e :: es) ta ∧ t { nx := SupQ K D g "__init__" ps.length ta spg Q E, rt := Q } (startF N vs [some (.ref D)]) H)
    (hst : ∀ L, starEach (e :: es) (envF M.nf M.f L) = (false, eval e (envF M.nf M.f L)) :: starEach es (envF M.nf M.f L) := by intro L; rfl) (hpl : ∀ L, (backTo pos (starEach es (envF M.nf M.f L))).any (·.1) = false := by intro L; rfl)
    (ht : ∀ L, eval (superE "__init__" (e :: es) p0 p1 apos pos) (envF M.nf M.f L) = (do
      let ov ← attributeBase (.Call (.Name "super" p0) [] [] p1) "__init__" (envF M.nf M.f L) (eval (.Call (.Name "super" p0) [] [] p1) (envF M.nf M.f L))
      standAt apos.atName
      let (fn, first) ← holding [ov] (getMethod ov "__init__" (pl L))
      callWith pos fn first (backTo pos (starEach (e :: es) (envF M.nf M.f L))) []) := by intro L; rfl)
    (hi : ∀ L, interactive (envF M.nf M.f L) = false := by intro L; rfl) (hs : ∀ L, swapsWith (superE "__init__" (e :: es) p0 p1 apos pos) none spos.line (envF M.nf M.f L) = pure false := by intro L; rfl) :
    FnR P w K mg base CX0 (k + 1) M.f sp := by
  obtain ⟨oc, od, kV, doc, pm, an, ct, osl, lk⟩ := M.lk
  refine toR (fnS_of (F := M.nf) M.sk hbd lk M.hcd S hp i0 hv0 h0c ic hms G (fun A outer s H E => fun _ _ _ _ _ _ _ z => z.elim) len hbody hst hpl ht hi hs) (.all fun us hl => hb _ _ _ _ _ _ _ us hl)
theorem MdS.ok0 (M : MdS P K x qual st D g) {pre : List Stmt} {ar : Arg} {p0 p1 apos pos spos : Pos} {pl : Addr → Sem Bool} (hbd : defBody st = pre ++ [.Expr (superE "__init__" [] p0 p1 apos pos) spos])
    (S : NScope N ps ["__class__"] (defScope st)) (hp : ((defArgs st).posonlyargs ++ (defArgs st).args).head? = some ar) (i0 : N[0]? = some ar.arg) (hv0 : (defScope st).names.lookup ar.arg = some .local) (h0c : (ar.arg == ("__classdict__" : Str)) = false) (ic : N[ps.length]? = some ("__class__" : Str)) (hms : mg "super" = none)
    (hb : ∀ (kV doc pm : Value) (an : Option Addr) (ct : Value) (cc c : Addr) (us : List Value), us.length = ps.length → bindArgs (PySem.W.fnX x qual (defArgs st) (defBody st) (defScope st) [(("__class__" : Str), cc)] .none kV doc pm an (.ref c) ct) ⟨us, []⟩ = pure (ps.zip us))
    (G : FnR P w K mg base CX0 k g spg) (len : ∀ vs H Q E, sp vs H Q E → vs.length = ps.length)
    (hbody : ∀ (A : Around) (outer : List Env) (s : Shared) (H : Hp) (vs : List V) (Q : VK) (E : XK), Room k (A.deeper (envF M.nf M.f s.heap.objs.size)) → sp vs H Q E →
      ∃ (t : TS), PSs (ncx CX0 P w K mg base N M.nf M.f A outer s H E) pre t ∧ t { nx := SupQ K D g "__init__" ps.length tNil spg Q E, rt := Q } (startF N vs [some (.ref D)]) H)
    (ht : ∀ L, eval (superE "__init__" [] p0 p1 apos pos) (envF M.nf M.f L) = (do
      let ov ← attributeBase (.Call (.Name "super" p0) [] [] p1) "__init__" (envF M.nf M.f L) (eval (.Call (.Name "super" p0) [] [] p1) (envF M.nf M.f L))
      standAt apos.atName
      let (fn, first) ← holding [ov] (getMethod ov "__init__" (pl L))
      callWith pos fn first (backTo pos (starEach [] (envF M.nf M.f L))) []) := by intro L; rfl)
    (hi : ∀ L, interactive (envF M.nf M.f L) = false := by intro L; rfl) (hs : ∀ L, swapsWith (superE "__init__" [] p0 p1 apos pos) none spos.line (envF M.nf M.f L) = pure false := by intro L; rfl) :
    FnR P w K mg base CX0 (k + 1) M.f sp := by
  obtain ⟨oc, od, kV, doc, pm, an, ct, osl, lk⟩ := M.lk
  exact toR (fnS0_of (F := M.nf) M.sk hbd lk M.hcd S hp i0 hv0 h0c ic hms G (fun A outer s H E => fun _ _ _ _ _ _ _ z => z.elim) len hbody ht hi hs) (.all fun us hl => hb _ _ _ _ _ _ _ us hl)
end
/-- what isinstance wants of a class of instances -/
structure OCls (K : PySem.W.Frag) (C : Addr) : Prop where
  cl : Cls K C
  ca : PySem.W.findIn K (.ref C) "__class__" = some (some (.builtin "object.__class__"))
  cn : PySem.W.specialIn K (.builtin "object.__class__") "__get__" = some (some (.builtin "getset_descriptor.__get__"))
  ct : PySem.W.takesIn K (.builtin "object.__class__") = some true
  cm : PySem.W.mroIn K C (.type "object") = some true
theorem OCls.ty {K : PySem.W.Frag} {C a dx : Addr} {H : Hp} {fs : List (Str × V)} (c : OCls K C) (e : H a = some (.ins C dx fs)) : TyX K H (.ref a) (.ref C) := .base (.ins e c.cl c.ca c.cn c.ct c.cm)
end Pl

set_option Elab.async false
set_option linter.all false
set_option maxRecDepth 100000
set_option maxHeartbeats 4000000
/-! Two own classes around an operator; o[i] of an own class; a def with super().__init__(..) called with keywords. -/
namespace Pl
open PySem PySem.Spec PyProof.Rows L2 NdefX ClX
section
variable {X : Cx} {CX : CXT} {k : Nat} {sp : Sp} {E : XK} {pins : List (Addr × Obj)} {σ : L2.St} {H : Hp} {s : Shared}
theorem run_fnR1 {f : Addr} {Q : VK} {us : List Value} {vs : List V} (F : FnR X.prog X.w X.K X.mg X.base CX k f sp) (hr : Room (k + 1) X.A) (hx : Passes CX X E) (I : Inv X pins σ H s) (r : Vals vs us) (h : sp vs H Q E) :
    codeAny (model X.prog X.w) X.A.in1 (.call (.ref f) ⟨us, []⟩) (fun r s' => match r with | .ok (.ret v) => EP X pins σ Q v s' | .ok _ => False | .error e => X.xe e s') s := by
  refine codeAny_mono (F X.A.in1 X.stack s H us vs Q E hr.in1 I.env0.in1 r h) fun r s' hq => ?_
  cases r with
  | error e => exact hx pins σ H s e s' I hq
  | ok fl =>
    cases fl with
    | ret u => exact I.after hq
    | next => exact False.elim hq
    | brk => exact False.elim hq
    | cont => exact False.elim hq
/-- what a class must have for o[i] -/
structure GetO (K : PySem.W.Frag) (C f : Addr) : Prop where
  at_ : PySem.W.findIn K (.ref C) "__getitem__" = some (some (.ref f))
  fi : PySem.W.fnIn K f = true
  fn : PySem.W.isFn K (.ref f) = true
theorem sub_K2 {prog : Program} {w : World} {A : Around} {E : Value → Shared → Prop} {s : Shared} {K : PySem.W.Frag} {x C L f : Addr} {h₀ : Heap} {m : Str → Option Value} {ox : Obj} {od : Option Obj} {value slice : Expr} {i : Value} {Q : Value → Shared → Prop} (F : PyProof.Rows.Fr h₀ L s.heap m) (X₀ : K.In h₀) (I : PySem.W.InstAt s.heap x ox C od) (hs : PySem.W.findIn K (.ref C) "__getitem__" = some (some (.ref f))) (hf : PySem.W.fnIn K f = true) (hfn : PySem.W.isFn K (.ref f) = true)
    (h : wpAny (model prog w) A.in1 (call (.ref f) [.ref x, i]) Q E s)
    (hsl : subscripted slice true (.ref x) i = runValue (.builtin "lifetime.subscript" ⟨[.ref x, i], []⟩)) :
    wpAny (model prog w) A (subscriptTail value slice (.ref x) i) Q E s := PySem.W.sub_K F X₀ I hs hf hfn h hsl
def tGetO (X : Cx) (f : Addr) (sp : Sp) (E : XK) : R2 := fun x y H Q => ∃ a C dx fs, x = .ref a ∧ H a = some (.ins C dx fs) ∧ GetO X.K C f ∧ sp [x, y] H Q E
theorem pe_getO {f : Addr} {a b : Expr} {ta tb : TE} {pos : Pos} (F : FnR X.prog X.w X.K X.mg X.base CX k f sp) (hr : Room (k + 1) X.A) (hx : Passes CX X E) (ha : PE X a ta) (hb : PE X b tb)
    (hsl : ∀ x i, subscripted b true (.ref x) i = runValue (.builtin "lifetime.subscript" ⟨[.ref x, i], []⟩) := by intro x i; with_unfolding_all rfl) : PE X (.Subscript a b pos) (tOp (tGetO X f sp E) ta tb) := by
  refine ⟨fun pins s σ H Q I h => ?_⟩
  refine Subscript_ (binT ha hb I h fun v u s2 x y H2 I2 rx ry q => ?_)
  obtain ⟨p, C, dx, fs, rfl, hp, B, q⟩ := q
  cases (show v = Value.ref p from rx)
  obtain ⟨mA, O, _⟩ := ins_get I2.hok hp
  obtain ⟨odx, J, _⟩ := O.look
  obtain ⟨m, hF⟩ := I2.fr
  refine sub_K2 hF I2.ok.mod.kin J B.at_ B.fi B.fn ?_ (hsl _ _)
  exact wpAny_call (run_fnR1 (us := [.ref p, u]) (vs := [.ref p, y]) F hr hx I2 (.cons rfl (.cons ry .nil)) q)
/-- what two classes must have for an operator between their instances -/
structure BinC (K : PySem.W.Frag) (C f : Addr) (op : Operator) : Prop where
  first : PySem.W.selfFirst K C = true
  at_ : PySem.W.findIn K (.ref C) (PySem.dunder op.info.2) = some (some (.ref f))
  fn : PySem.W.isFn K (.ref f) = true
  r : PySem.W.findIn K (.ref C) (dunderR op.info.2) = some none
theorem ksp_binO {prog : Program} {w : World} {A : Around} {E : Value → Shared → Prop} {s : Shared} {K : PySem.W.Frag} {x y C C' L f g : Addr} {h₀ : Heap} {m : Str → Option Value} {ox oy : Obj} {od od' : Option Obj} {op : Operator} {Q : Value → Shared → Prop} (F : PyProof.Rows.Fr h₀ L s.heap m) (X₀ : K.In h₀) (I : PySem.W.InstAt s.heap x ox C od) (J : PySem.W.InstAt s.heap y oy C' od')
    (B : BinC K C f op) (B' : BinC K C' g op) (hsub : C = C' ∨ PySem.W.subIn K (.ref C') (.ref C) = some false)
    (h : wpAny (model prog w) A (call (.ref f) [.ref x, .ref y]) (PySem.W.CmpBack Q) E s) : wpAny (model prog w) A (binaryOp op (.ref x) (.ref y)) Q E s := by
  by_cases hCC : C = C'
  · subst hCC
    exact PySem.W.binop_K F X₀ I J.type B.first B.at_ B.fn h
  · have hsub := hsub.resolve_left hCC
    have X := X₀.keeps F.keep
    obtain ⟨cd, rest, hcd, hm⟩ := PySem.W.ksp_first B.first
    obtain ⟨cd', rest', hcd', hm'⟩ := PySem.W.ksp_first B'.first
    have hs := B.at_
    have hr := B.r
    have hs' := B'.at_
    have hr' := B'.r
    rcases hi : op.info with ⟨sym, nm'⟩
    rw [hi] at hs hr hs' hr'
    dsimp only at hs hr hs' hr'
    have one := PySem.W.ksp_try X I hs B.fn h
    obtain ⟨hh, gg, d, tt, os⟩ := s
    have L1 : PySem.W.Looks (model prog w) hh (typeOf (.ref x)) (.ref C) := I.type
    have L2 : PySem.W.Looks (model prog w) hh (typeOf (.ref y)) (.ref C') := J.type
    have L3 : PySem.W.Looks (model prog w) hh (fillsNumberSlot (.ref C) nm') true := PySem.W.fills_K X hcd hm hs
    have L4 : PySem.W.Looks (model prog w) hh (fillsNumberSlot (.ref C') nm') true := PySem.W.fills_K X hcd' hm' hs'
    have L5 : PySem.W.Looks (model prog w) hh (isSubtype (.ref C') (.ref C)) false := PySem.W.looks_subIn X hsub
    have L6 : PySem.W.Looks (model prog w) hh (numberSlotInPython (.ref C) nm') true := PySem.W.ksp_inPy X hs hr (.inl rfl)
    have L7 : PySem.W.Looks (model prog w) hh (numberSlotInPython (.ref C') nm') true := PySem.W.ksp_inPy X hs' hr' (.inl rfl)
    have hne : (Value.ref C == Value.ref C') = false := Bool.eq_false_iff.mpr fun q => by cases beq_iff_eq.mp q; exact hCC rfl
    simp only [binaryOp, hi]
    refine wpAny_holding (wpAny_bind ?_)
    unfold binaryOp1
    refine wpAny_bind (L1.at (wpAny_bind (L2.at (wpAny_bind (L3.at ?_)))))
    simp only [hne, Bool.false_eq_true, if_false]
    ksp_lk
    refine wpAny_mono one (fun r s' hr' => ?_) fun _ _ e => e
    obtain ⟨v, rfl, hq⟩ := hr'
    ksp_lk
    exact hq
theorem op_binO {op : Operator} {f g : Addr} (F : FnR X.prog X.w X.K X.mg X.base CX k f sp) (hr : Room k X.A) (hx : Passes CX X E) :
    OpR X (binaryOp op) (fun x y H Q => ∃ a C dx fs b C' dy gs, x = .ref a ∧ y = .ref b ∧ H a = some (.ins C dx fs) ∧ H b = some (.ins C' dy gs) ∧ BinC X.K C f op ∧ BinC X.K C' f op ∧ (C = C' ∨ PySem.W.subIn X.K (.ref C') (.ref C) = some false) ∧ sp [x, y] H Q E) := by
  intro pins s σ H x y v u Q I rx ry h
  obtain ⟨a, C, dx, fs, b, C', dy, gs, rfl, rfl, ha, hb, B, B', hsub, q⟩ := h
  cases (show v = Value.ref a from rx)
  cases (show u = Value.ref b from ry)
  obtain ⟨mA, O, _⟩ := ins_get I.hok ha
  obtain ⟨odx, J, _⟩ := O.look
  obtain ⟨mB, O', _⟩ := ins_get I.hok hb
  obtain ⟨ody, J', _⟩ := O'.look
  obtain ⟨m, hF⟩ := I.fr
  refine ksp_binO hF I.ok.mod.kin J J' B B' hsub ?_
  refine wpAny_mono (wpAny_call (run_fnR (us := [.ref a, .ref b]) (vs := [.ref a, .ref b]) F hr hx I (.cons rfl (.cons rfl .nil)) q)) (fun w s' z => ?_) fun _ _ x => x
  obtain ⟨z', H', I', rz, qz⟩ := z
  exact SlX.cmpback rz ⟨z', H', I', rz, qz⟩
end
section
variable {P : Program} {w : World} {K : PySem.W.Frag} {mg : Str → Option Value} {base : Heap} {k : Nat} {x qual : Str} {st : Stmt} {D g : Addr} {N ps : List Str} {sp spg : Sp}
/-- a def with super().__init__(..) at its end whose last parameters are keywords -/
theorem MdS.okK (M : MdS P K x qual st D g) {pre : List Stmt} {e : Expr} {es : List Expr} {ar : Arg} {p0 p1 apos pos spos : Pos} {pl : Addr → Sem Bool} (n : Nat) (ks : List Str) (hbd : defBody st = pre ++ [.Expr (superE "__init__" (e :: es) p0 p1 apos pos) spos])
    (S : NScope N ps ["__class__"] (defScope st)) (hp : ((defArgs st).posonlyargs ++ (defArgs st).args).head? = some ar) (i0 : N[0]? = some ar.arg) (hv0 : (defScope st).names.lookup ar.arg = some .local) (h0c : (ar.arg == ("__classdict__" : Str)) = false) (ic : N[ps.length]? = some ("__class__" : Str)) (hms : mg "super" = none)
    (hb : ∀ (kV doc pm : Value) (an : Option Addr) (ct : Value) (cc c : Addr) (us ws : List Value), us.length = n → ws.length = ks.length → bindArgs (PySem.W.fnX x qual (defArgs st) (defBody st) (defScope st) [(("__class__" : Str), cc)] .none kV doc pm an (.ref c) ct) ⟨us, ks.zip ws⟩ = pure (ps.zip (us ++ ws)))
    (G : FnR P w K mg base CX0 k g spg) (len : ∀ vs H Q E, sp vs H Q E → vs.length = ps.length)
    (hbody : ∀ (A : Around) (outer : List Env) (s : Shared) (H : Hp) (vs : List V) (Q : VK) (E : XK), Room k (A.deeper (envF M.nf M.f s.heap.objs.size)) → sp vs H Q E →
      ∃ (t : TS) (ta : TA), PSs (ncx CX0 P w K mg base N M.nf M.f A outer s H E) pre t ∧ PA (ncx CX0 P w K mg base N M.nf M.f A outer s H E) (e :: es) ta ∧ t { nx := SupQ K D g "__init__" ps.length ta spg Q E, rt := Q } (startF N vs [some (.ref D)]) H)
    (hst : ∀ L, starEach (e :: es) (envF M.nf M.f L) = (false, eval e (envF M.nf M.f L)) :: starEach es (envF M.nf M.f L) := by intro L; rfl) (hpl : ∀ L, (backTo pos (starEach es (envF M.nf M.f L))).any (·.1) = false := by intro L; rfl)
    (ht : ∀ L, eval (superE "__init__" (e :: es) p0 p1 apos pos) (envF M.nf M.f L) = (do
      let ov ← attributeBase (.Call (.Name "super" p0) [] [] p1) "__init__" (envF M.nf M.f L) (eval (.Call (.Name "super" p0) [] [] p1) (envF M.nf M.f L))
      standAt apos.atName
      let (fn, first) ← holding [ov] (getMethod ov "__init__" (pl L))
      callWith pos fn first (backTo pos (starEach (e :: es) (envF M.nf M.f L))) []) := by intro L; rfl)
    (hi : ∀ L, interactive (envF M.nf M.f L) = false := by intro L; rfl) (hs : ∀ L, swapsWith (superE "__init__" (e :: es) p0 p1 apos pos) none spos.line (envF M.nf M.f L) = pure false := by intro L; rfl) :
    ∃ fd, FnOk P w K mg base CX0 (k + 1) M.f fd ps sp ∧ KBn K fd ps n ks (fun us ws => us ++ ws) (fun vs zs => vs ++ zs) := by
  obtain ⟨oc, od, kV, doc, pm, an, ct, osl, lk⟩ := M.lk
  refine ⟨_, fnS_of (F := M.nf) M.sk hbd lk M.hcd S hp i0 hv0 h0c ic hms G (fun A outer s H E => fun _ _ _ _ _ _ _ z => z.elim) len hbody hst hpl ht hi hs, ?_⟩
  exact ⟨fun s us ws _ l1 l2 => .of_eq (hb _ _ _ _ _ _ _ us ws l1 l2), fun r1 r2 => r1.append r2⟩
end
end Pl

namespace Pl
open PySem L2
def topS (i : Nat) : Stmt := PySem.Challenge.pw_pastlooks_k03_looks_mirrored.main.body.getD i (.Pass ⟨0, 0, 0, 0⟩)
abbrev s_is_integer : Stmt := topS 13
abbrev N_is_integer : List Str := ["value"]
theorem sc_is_integer : FnScope N_is_integer ["value"] (defScope s_is_integer) := ⟨rfl, rfl, rfl, by decide +kernel, rfl, by decide +kernel, by decide +kernel⟩
abbrev s_is_from_zero : Stmt := topS 14
abbrev N_is_from_zero : List Str := ["value"]
theorem sc_is_from_zero : FnScope N_is_from_zero ["value"] (defScope s_is_from_zero) := ⟨rfl, rfl, rfl, by decide +kernel, rfl, by decide +kernel, by decide +kernel⟩
abbrev s_is_name : Stmt := topS 15
abbrev N_is_name : List Str := ["name", "letter"]
theorem sc_is_name : FnScope N_is_name ["name"] (defScope s_is_name) := ⟨rfl, rfl, rfl, by decide +kernel, rfl, by decide +kernel, by decide +kernel⟩
abbrev s_check_name : Stmt := topS 16
abbrev N_check_name : List Str := ["name"]
theorem sc_check_name : FnScope N_check_name ["name"] (defScope s_check_name) := ⟨rfl, rfl, rfl, by decide +kernel, rfl, by decide +kernel, by decide +kernel⟩
abbrev s_check_moment : Stmt := topS 17
abbrev N_check_moment : List Str := ["value"]
theorem sc_check_moment : FnScope N_check_moment ["value"] (defScope s_check_moment) := ⟨rfl, rfl, rfl, by decide +kernel, rfl, by decide +kernel, by decide +kernel⟩
abbrev s_check_bound : Stmt := topS 18
abbrev N_check_bound : List Str := ["value"]
theorem sc_check_bound : FnScope N_check_bound ["value"] (defScope s_check_bound) := ⟨rfl, rfl, rfl, by decide +kernel, rfl, by decide +kernel, by decide +kernel⟩
abbrev s_check_limit : Stmt := topS 19
abbrev N_check_limit : List Str := ["value"]
theorem sc_check_limit : FnScope N_check_limit ["value"] (defScope s_check_limit) := ⟨rfl, rfl, rfl, by decide +kernel, rfl, by decide +kernel, by decide +kernel⟩
abbrev s_check_rows : Stmt := topS 20
abbrev N_check_rows : List Str := ["name", "moments", "moment"]
theorem sc_check_rows : FnScope N_check_rows ["name", "moments"] (defScope s_check_rows) := ⟨rfl, rfl, rfl, by decide +kernel, rfl, by decide +kernel, by decide +kernel⟩
abbrev s_limited : Stmt := topS 23
abbrev N_limited : List Str := ["pairs"]
theorem sc_limited : FnScope N_limited ["pairs"] (defScope s_limited) := ⟨rfl, rfl, rfl, by decide +kernel, rfl, by decide +kernel, by decide +kernel⟩
abbrev s_checked_pairs : Stmt := topS 24
abbrev N_checked_pairs : List Str := ["rows", "pairs", "name", "moments", "moment"]
theorem sc_checked_pairs : FnScope N_checked_pairs ["rows"] (defScope s_checked_pairs) := ⟨rfl, rfl, rfl, by decide +kernel, rfl, by decide +kernel, by decide +kernel⟩
abbrev s_World_init : Stmt := inClass (topS 27) 0
abbrev N_World_init : List Str := ["self", "rows"]
theorem sc_World_init : FnScope N_World_init ["self", "rows"] (defScope s_World_init) := ⟨rfl, rfl, rfl, by decide +kernel, rfl, by decide +kernel, by decide +kernel⟩
abbrev s_World_getitem : Stmt := inClass (topS 27) 2
abbrev N_World_getitem : List Str := ["self", "name", "stream", "moment"]
theorem sc_World_getitem : FnScope N_World_getitem ["self", "name"] (defScope s_World_getitem) := ⟨rfl, rfl, rfl, by decide +kernel, rfl, by decide +kernel, by decide +kernel⟩
abbrev s_check_world : Stmt := topS 28
abbrev N_check_world : List Str := ["value"]
theorem sc_check_world : FnScope N_check_world ["value"] (defScope s_check_world) := ⟨rfl, rfl, rfl, by decide +kernel, rfl, by decide +kernel, by decide +kernel⟩
abbrev s_Term_init : Stmt := inClass (topS 34) 0
abbrev N_Term_init : List Str := ["self", "children", "chooses", "child"]
theorem sc_Term_init : FnScope N_Term_init ["self", "children"] (defScope s_Term_init) := ⟨rfl, rfl, rfl, by decide +kernel, rfl, by decide +kernel, by decide +kernel⟩
abbrev s_Term_add : Stmt := inClass (topS 34) 1
abbrev N_Term_add : List Str := ["self", "amount"]
theorem sc_Term_add : FnScope N_Term_add ["self", "amount"] (defScope s_Term_add) := ⟨rfl, rfl, rfl, by decide +kernel, rfl, by decide +kernel, by decide +kernel⟩
abbrev s_Term_sub : Stmt := inClass (topS 34) 2
abbrev N_Term_sub : List Str := ["self", "amount"]
theorem sc_Term_sub : FnScope N_Term_sub ["self", "amount"] (defScope s_Term_sub) := ⟨rfl, rfl, rfl, by decide +kernel, rfl, by decide +kernel, by decide +kernel⟩
abbrev s_Term_eq : Stmt := inClass (topS 34) 4
abbrev N_Term_eq : List Str := ["self", "other"]
theorem sc_Term_eq : FnScope N_Term_eq ["self", "other"] (defScope s_Term_eq) := ⟨rfl, rfl, rfl, by decide +kernel, rfl, by decide +kernel, by decide +kernel⟩
abbrev s_Term_call : Stmt := inClass (topS 34) 5
abbrev N_Term_call : List Str := ["self", "world", "now"]
theorem sc_Term_call : FnScope N_Term_call ["self", "world", "now"] (defScope s_Term_call) := ⟨rfl, rfl, rfl, by decide +kernel, rfl, by decide +kernel, by decide +kernel⟩
abbrev s_Term_form : Stmt := inClass (topS 34) 15
abbrev N_Term_form : List Str := ["self"]
theorem sc_Term_form : FnScope N_Term_form ["self"] (defScope s_Term_form) := ⟨rfl, rfl, rfl, by decide +kernel, rfl, by decide +kernel, by decide +kernel⟩
abbrev s_Term_answer_in : Stmt := inClass (topS 34) 16
abbrev N_Term_answer_in : List Str := ["self", "world", "now"]
theorem sc_Term_answer_in : FnScope N_Term_answer_in ["self", "world", "now"] (defScope s_Term_answer_in) := ⟨rfl, rfl, rfl, by decide +kernel, rfl, by decide +kernel, by decide +kernel⟩
abbrev s_Now_init : Stmt := inClass (topS 35) 0
abbrev N_Now_init : List Str := ["self", "__class__"]
theorem sc_Now_init : NdefX.NScope N_Now_init ["self"] ["__class__"] (defScope s_Now_init) := NdefX.nscope_by (by decide +kernel)
abbrev s_Shift_init : Stmt := inClass (topS 36) 0
abbrev N_Shift_init : List Str := ["self", "moment", "amount", "__class__"]
theorem sc_Shift_init : NdefX.NScope N_Shift_init ["self", "moment", "amount"] ["__class__"] (defScope s_Shift_init) := NdefX.nscope_by (by decide +kernel)
abbrev s_Shift_form : Stmt := inClass (topS 36) 3
abbrev N_Shift_form : List Str := ["self"]
theorem sc_Shift_form : FnScope N_Shift_form ["self"] (defScope s_Shift_form) := ⟨rfl, rfl, rfl, by decide +kernel, rfl, by decide +kernel, by decide +kernel⟩
abbrev s_Shift_answer_in : Stmt := inClass (topS 36) 4
abbrev N_Shift_answer_in : List Str := ["self", "world", "now", "answer"]
theorem sc_Shift_answer_in : FnScope N_Shift_answer_in ["self", "world", "now"] (defScope s_Shift_answer_in) := ⟨rfl, rfl, rfl, by decide +kernel, rfl, by decide +kernel, by decide +kernel⟩
abbrev s_Look_init : Stmt := inClass (topS 37) 0
abbrev N_Look_init : List Str := ["self", "stream", "moment", "way", "within", "__class__"]
theorem sc_Look_init : NdefX.NScope N_Look_init ["self", "stream", "moment", "way", "within"] ["__class__"] (defScope s_Look_init) := NdefX.nscope_by (by decide +kernel)
abbrev s_Look_form : Stmt := inClass (topS 37) 4
abbrev N_Look_form : List Str := ["self"]
theorem sc_Look_form : FnScope N_Look_form ["self"] (defScope s_Look_form) := ⟨rfl, rfl, rfl, by decide +kernel, rfl, by decide +kernel, by decide +kernel⟩
abbrev s_Look_answer_in : Stmt := inClass (topS 37) 5
abbrev N_Look_answer_in : List Str := ["self", "world", "now", "moment"]
theorem sc_Look_answer_in : FnScope N_Look_answer_in ["self", "world", "now"] (defScope s_Look_answer_in) := ⟨rfl, rfl, rfl, by decide +kernel, rfl, by decide +kernel, by decide +kernel⟩
abbrev s_Either_form : Stmt := inClass (topS 39) 1
abbrev N_Either_form : List Str := ["self"]
theorem sc_Either_form : FnScope N_Either_form ["self"] (defScope s_Either_form) := ⟨rfl, rfl, rfl, by decide +kernel, rfl, by decide +kernel, by decide +kernel⟩
abbrev s_Either_answer_in : Stmt := inClass (topS 39) 2
abbrev N_Either_answer_in : List Str := ["self", "world", "now", "answer"]
theorem sc_Either_answer_in : FnScope N_Either_answer_in ["self", "world", "now"] (defScope s_Either_answer_in) := ⟨rfl, rfl, rfl, by decide +kernel, rfl, by decide +kernel, by decide +kernel⟩
abbrev s_Later_form : Stmt := inClass (topS 40) 1
abbrev N_Later_form : List Str := ["self"]
theorem sc_Later_form : FnScope N_Later_form ["self"] (defScope s_Later_form) := ⟨rfl, rfl, rfl, by decide +kernel, rfl, by decide +kernel, by decide +kernel⟩
abbrev s_Later_answer_in : Stmt := inClass (topS 40) 2
abbrev N_Later_answer_in : List Str := ["self", "world", "now", "answer", "other"]
theorem sc_Later_answer_in : FnScope N_Later_answer_in ["self", "world", "now"] (defScope s_Later_answer_in) := ⟨rfl, rfl, rfl, by decide +kernel, rfl, by decide +kernel, by decide +kernel⟩
abbrev s_Earlier_form : Stmt := inClass (topS 41) 1
abbrev N_Earlier_form : List Str := ["self"]
theorem sc_Earlier_form : FnScope N_Earlier_form ["self"] (defScope s_Earlier_form) := ⟨rfl, rfl, rfl, by decide +kernel, rfl, by decide +kernel, by decide +kernel⟩
abbrev s_Earlier_answer_in : Stmt := inClass (topS 41) 2
abbrev N_Earlier_answer_in : List Str := ["self", "world", "now", "answer", "other"]
theorem sc_Earlier_answer_in : FnScope N_Earlier_answer_in ["self", "world", "now"] (defScope s_Earlier_answer_in) := ⟨rfl, rfl, rfl, by decide +kernel, rfl, by decide +kernel, by decide +kernel⟩
abbrev s_shifted : Stmt := topS 42
abbrev N_shifted : List Str := ["term", "amount"]
theorem sc_shifted : FnScope N_shifted ["term", "amount"] (defScope s_shifted) := ⟨rfl, rfl, rfl, by decide +kernel, rfl, by decide +kernel, by decide +kernel⟩
abbrev s_fits : Stmt := topS 43
abbrev N_fits : List Str := ["row", "moment", "way"]
theorem sc_fits : FnScope N_fits ["row", "moment", "way"] (defScope s_fits) := ⟨rfl, rfl, rfl, by decide +kernel, rfl, by decide +kernel, by decide +kernel⟩
abbrev s_looked_up : Stmt := topS 44
abbrev N_looked_up : List Str := ["moments", "moment", "way", "within", "found", "row"]
theorem sc_looked_up : FnScope N_looked_up ["moments", "moment", "way", "within"] (defScope s_looked_up) := ⟨rfl, rfl, rfl, by decide +kernel, rfl, by decide +kernel, by decide +kernel⟩
abbrev s_check_term : Stmt := topS 45
abbrev N_check_term : List Str := ["value"]
theorem sc_check_term : FnScope N_check_term ["value"] (defScope s_check_term) := ⟨rfl, rfl, rfl, by decide +kernel, rfl, by decide +kernel, by decide +kernel⟩
abbrev s_told : Stmt := topS 46
abbrev N_told : List Str := ["term", "world", "now"]
theorem sc_told : FnScope N_told ["term", "world", "now"] (defScope s_told) := ⟨rfl, rfl, rfl, by decide +kernel, rfl, by decide +kernel, by decide +kernel⟩
abbrev s_law_open : Stmt := topS 48
abbrev N_law_open : List Str := ["_law_script", "_law_cells"]
theorem sc_law_open : FnScope N_law_open ["_law_script"] (defScope s_law_open) := ⟨rfl, rfl, rfl, by decide +kernel, rfl, by decide +kernel, by decide +kernel⟩
abbrev s_law_pick : Stmt := topS 49
abbrev N_law_pick : List Str := ["_law_box", "_law_many", "_law_cells", "_law_k", "_law_at", "_law_cell", "_law_number_here"]
theorem sc_law_pick : FnScope N_law_pick ["_law_box", "_law_many"] (defScope s_law_pick) := ⟨rfl, rfl, rfl, by decide +kernel, rfl, by decide +kernel, by decide +kernel⟩
abbrev s_law_number : Stmt := topS 50
abbrev N_law_number : List Str := ["_law_box", "_law_kind"]
theorem sc_law_number : FnScope N_law_number ["_law_box"] (defScope s_law_number) := ⟨rfl, rfl, rfl, by decide +kernel, rfl, by decide +kernel, by decide +kernel⟩
abbrev s_law_limit : Stmt := topS 51
abbrev N_law_limit : List Str := ["_law_box", "_law_kind"]
theorem sc_law_limit : FnScope N_law_limit ["_law_box"] (defScope s_law_limit) := ⟨rfl, rfl, rfl, by decide +kernel, rfl, by decide +kernel, by decide +kernel⟩
abbrev s_law_names : Stmt := topS 52
abbrev N_law_names : List Str := ["_law_box", "_law_many", "_law_letters", "_law_names_here", "_law_k", "_law_name", "_law_j", "_law_word"]
theorem sc_law_names : FnScope N_law_names ["_law_box", "_law_many"] (defScope s_law_names) := ⟨rfl, rfl, rfl, by decide +kernel, rfl, by decide +kernel, by decide +kernel⟩
abbrev s_law_moments : Stmt := topS 53
abbrev N_law_moments : List Str := ["_law_box", "_law_most", "_law_found", "_law_moment", "_law_k"]
theorem sc_law_moments : FnScope N_law_moments ["_law_box", "_law_most"] (defScope s_law_moments) := ⟨rfl, rfl, rfl, by decide +kernel, rfl, by decide +kernel, by decide +kernel⟩
abbrev s_law_is_integer : Stmt := topS 54
abbrev N_law_is_integer : List Str := ["_law_thing"]
theorem sc_law_is_integer : FnScope N_law_is_integer ["_law_thing"] (defScope s_law_is_integer) := ⟨rfl, rfl, rfl, by decide +kernel, rfl, by decide +kernel, by decide +kernel⟩
abbrev s_law_answer : Stmt := topS 55
abbrev N_law_answer : List Str := ["_law_thing", "_law_due"]
theorem sc_law_answer : FnScope N_law_answer ["_law_thing", "_law_due"] (defScope s_law_answer) := ⟨rfl, rfl, rfl, by decide +kernel, rfl, by decide +kernel, by decide +kernel⟩
abbrev s_law_negated : Stmt := topS 56
abbrev N_law_negated : List Str := ["_law_moments_here", "_law_moment"]
theorem sc_law_negated : FnScope N_law_negated ["_law_moments_here"] (defScope s_law_negated) := ⟨rfl, rfl, rfl, by decide +kernel, rfl, by decide +kernel, by decide +kernel⟩
abbrev s_law : Stmt := topS 57
abbrev N_law : List Str := ["_law_script", "_law_box", "_law_names_here", "_law_moments_here", "_law_limit_here", "_law_now", "_law_world", "_law_turned", "_law_ways", "_law_wide", "_law_row", "_law_due"]
theorem sc_law : FnScope N_law ["_law_script"] (defScope s_law) := ⟨rfl, rfl, rfl, by decide +kernel, rfl, by decide +kernel, by decide +kernel⟩
structure Df (K : PySem.W.Frag) (mg : Str → Option Value) (x : Str) (st : Stmt) (ps : List Str) where
  f : Addr
  fd : FuncData
  F : Fun K x x st f fd
  b : Binds K fd ps []
  g : mg x = some (.ref f)
abbrev fileS : Str := PySem.Challenge.pw_pastlooks_k03_looks_mirrored.main.file
structure Txt (P : Program) (K : PySem.W.Frag) (mg : Str → Option Value) where
  c_World : Addr
  g_World : mg "World" = some (.ref c_World)
  c_Term : Addr
  g_Term : mg "Term" = some (.ref c_Term)
  c_Now : Addr
  g_Now : mg "Now" = some (.ref c_Now)
  c_Shift : Addr
  g_Shift : mg "Shift" = some (.ref c_Shift)
  c_Look : Addr
  g_Look : mg "Look" = some (.ref c_Look)
  c_Either : Addr
  g_Either : mg "Either" = some (.ref c_Either)
  c_Later : Addr
  g_Later : mg "Later" = some (.ref c_Later)
  c_Earlier : Addr
  g_Earlier : mg "Earlier" = some (.ref c_Earlier)
  a_WAYS : Addr
  k_WAYS : mg "WAYS" = some (.ref a_WAYS)
  t_WAYS : ∀ H : Hp, SqT K H a_WAYS [.str "at", .str "before", .str "since", .str "after"]
  u_DEEPEST : Tok
  k_DEEPEST : mg "DEEPEST" = some (.int 12 u_DEEPEST)
  u_LETTERS : Tok
  k_LETTERS : mg "LETTERS" = some (.str "abcdefghijklmnopqrstuvwxyz" u_LETTERS)
  u_MOST_LOOKS : Tok
  k_MOST_LOOKS : mg "MOST_LOOKS" = some (.int 12 u_MOST_LOOKS)
  u_MOST_PARTS : Tok
  k_MOST_PARTS : mg "MOST_PARTS" = some (.int 40 u_MOST_PARTS)
  u_MOST_ROWS : Tok
  k_MOST_ROWS : mg "MOST_ROWS" = some (.int 300 u_MOST_ROWS)
  is_integer : Df K mg "is_integer" s_is_integer ["value"]
  is_from_zero : Df K mg "is_from_zero" s_is_from_zero ["value"]
  is_name : Df K mg "is_name" s_is_name ["name"]
  check_name : Df K mg "check_name" s_check_name ["name"]
  check_moment : Df K mg "check_moment" s_check_moment ["value"]
  check_bound : Df K mg "check_bound" s_check_bound ["value"]
  check_limit : Df K mg "check_limit" s_check_limit ["value"]
  check_rows : Df K mg "check_rows" s_check_rows ["name", "moments"]
  limited : Df K mg "limited" s_limited ["pairs"]
  checked_pairs : Df K mg "checked_pairs" s_checked_pairs ["rows"]
  check_world : Df K mg "check_world" s_check_world ["value"]
  shifted : Df K mg "shifted" s_shifted ["term", "amount"]
  fits : Df K mg "fits" s_fits ["row", "moment", "way"]
  looked_up : Df K mg "looked_up" s_looked_up ["moments", "moment", "way", "within"]
  check_term : Df K mg "check_term" s_check_term ["value"]
  told : Df K mg "told" s_told ["term", "world", "now"]
  law_open : Df K mg "_law_open" s_law_open ["_law_script"]
  law_pick : Df K mg "_law_pick" s_law_pick ["_law_box", "_law_many"]
  law_number : Df K mg "_law_number" s_law_number ["_law_box"]
  law_limit : Df K mg "_law_limit" s_law_limit ["_law_box"]
  law_names : Df K mg "_law_names" s_law_names ["_law_box", "_law_many"]
  law_moments : Df K mg "_law_moments" s_law_moments ["_law_box", "_law_most"]
  law_is_integer : Df K mg "_law_is_integer" s_law_is_integer ["_law_thing"]
  law_answer : Df K mg "_law_answer" s_law_answer ["_law_thing", "_law_due"]
  law_negated : Df K mg "_law_negated" s_law_negated ["_law_moments_here"]
  law : Df K mg "law" s_law ["_law_script"]
  World_init : MdD K "__init__" "World.__init__" s_World_init ["self", "rows"]
  World_getitem : Md K "__getitem__" "World.__getitem__" s_World_getitem ["self", "name"]
  Term_init : MdF K "__init__" "Term.__init__" s_Term_init
  Term_add : Md K "__add__" "Term.__add__" s_Term_add ["self", "amount"]
  Term_sub : Md K "__sub__" "Term.__sub__" s_Term_sub ["self", "amount"]
  Term_eq : Md K "__eq__" "Term.__eq__" s_Term_eq ["self", "other"]
  Term_call : Md K "__call__" "Term.__call__" s_Term_call ["self", "world", "now"]
  Term_form : Md K "form" "Term.form" s_Term_form ["self"]
  Term_answer_in : Md K "answer_in" "Term.answer_in" s_Term_answer_in ["self", "world", "now"]
  Now_init : MdS P K "__init__" "Now.__init__" s_Now_init c_Now Term_init.f
  Shift_init : MdS P K "__init__" "Shift.__init__" s_Shift_init c_Shift Term_init.f
  Shift_form : Md K "form" "Shift.form" s_Shift_form ["self"]
  Shift_answer_in : Md K "answer_in" "Shift.answer_in" s_Shift_answer_in ["self", "world", "now"]
  Look_init : MdS P K "__init__" "Look.__init__" s_Look_init c_Look Term_init.f
  Look_form : Md K "form" "Look.form" s_Look_form ["self"]
  Look_answer_in : Md K "answer_in" "Look.answer_in" s_Look_answer_in ["self", "world", "now"]
  Either_form : Md K "form" "Either.form" s_Either_form ["self"]
  Either_answer_in : Md K "answer_in" "Either.answer_in" s_Either_answer_in ["self", "world", "now"]
  Later_form : Md K "form" "Later.form" s_Later_form ["self"]
  Later_answer_in : Md K "answer_in" "Later.answer_in" s_Later_answer_in ["self", "world", "now"]
  Earlier_form : Md K "form" "Earlier.form" s_Earlier_form ["self"]
  Earlier_answer_in : Md K "answer_in" "Earlier.answer_in" s_Earlier_answer_in ["self", "world", "now"]
  o_Earlier : OCls K c_Earlier
  o_Either : OCls K c_Either
  o_Later : OCls K c_Later
  o_Look : OCls K c_Look
  o_Now : OCls K c_Now
  o_Shift : OCls K c_Shift
  o_World : OCls K c_World
  mk_Look : Mk K c_Look Look_init.f
  mk_Now : Mk K c_Now Now_init.f
  mk_Shift : Mk K c_Shift Shift_init.f
  mk_World : Mk K c_World World_init.f
  m_Earlier_answer_in : Meth K c_Earlier "answer_in" Earlier_answer_in.f
  m_Earlier_form : Meth K c_Earlier "form" Earlier_form.f
  m_Either_answer_in : Meth K c_Either "answer_in" Either_answer_in.f
  m_Either_form : Meth K c_Either "form" Either_form.f
  m_Later_answer_in : Meth K c_Later "answer_in" Later_answer_in.f
  m_Later_form : Meth K c_Later "form" Later_form.f
  m_Look_answer_in : Meth K c_Look "answer_in" Look_answer_in.f
  m_Look_form : Meth K c_Look "form" Look_form.f
  m_Now_answer_in : Meth K c_Now "answer_in" Term_answer_in.f
  m_Now_form : Meth K c_Now "form" Term_form.f
  m_Shift_answer_in : Meth K c_Shift "answer_in" Shift_answer_in.f
  m_Shift_form : Meth K c_Shift "form" Shift_form.f
  n_Earlier_choices : NoAttr K c_Earlier "choices"
  n_Earlier_depth : NoAttr K c_Earlier "depth"
  n_Earlier_first : NoAttr K c_Earlier "first"
  n_Earlier_looks : NoAttr K c_Earlier "looks"
  n_Earlier_parts : NoAttr K c_Earlier "parts"
  n_Earlier_second : NoAttr K c_Earlier "second"
  n_Either_choices : NoAttr K c_Either "choices"
  n_Either_depth : NoAttr K c_Either "depth"
  n_Either_first : NoAttr K c_Either "first"
  n_Either_looks : NoAttr K c_Either "looks"
  n_Either_parts : NoAttr K c_Either "parts"
  n_Either_second : NoAttr K c_Either "second"
  n_Later_choices : NoAttr K c_Later "choices"
  n_Later_depth : NoAttr K c_Later "depth"
  n_Later_first : NoAttr K c_Later "first"
  n_Later_looks : NoAttr K c_Later "looks"
  n_Later_parts : NoAttr K c_Later "parts"
  n_Later_second : NoAttr K c_Later "second"
  n_Look_choices : NoAttr K c_Look "choices"
  n_Look_depth : NoAttr K c_Look "depth"
  n_Look_looks : NoAttr K c_Look "looks"
  n_Look_moment : NoAttr K c_Look "moment"
  n_Look_parts : NoAttr K c_Look "parts"
  n_Look_stream : NoAttr K c_Look "stream"
  n_Look_way : NoAttr K c_Look "way"
  n_Look_within : NoAttr K c_Look "within"
  n_Now_choices : NoAttr K c_Now "choices"
  n_Now_depth : NoAttr K c_Now "depth"
  n_Now_looks : NoAttr K c_Now "looks"
  n_Now_parts : NoAttr K c_Now "parts"
  n_Shift_amount : NoAttr K c_Shift "amount"
  n_Shift_choices : NoAttr K c_Shift "choices"
  n_Shift_depth : NoAttr K c_Shift "depth"
  n_Shift_looks : NoAttr K c_Shift "looks"
  n_Shift_moment : NoAttr K c_Shift "moment"
  n_Shift_parts : NoAttr K c_Shift "parts"
  n_World_pairs : NoAttr K c_World "pairs"
  s_Look_Look : SupC K c_Look c_Look Term_init.f "__init__"
  s_Now_Now : SupC K c_Now c_Now Term_init.f "__init__"
  s_Shift_Shift : SupC K c_Shift c_Shift Term_init.f "__init__"
  b_Now_Add : BinI K c_Now Term_add.f .Add
  gi_World : GetO K c_World World_getitem.f
  k1_Earlier_Look : PySem.W.kitOne K (.ref c_Earlier) (.ref c_Look) = some false
  k1_Earlier_Shift : PySem.W.kitOne K (.ref c_Earlier) (.ref c_Shift) = some false
  k1_Earlier_Term : PySem.W.kitOne K (.ref c_Earlier) (.ref c_Term) = some true
  k1_Either_Look : PySem.W.kitOne K (.ref c_Either) (.ref c_Look) = some false
  k1_Either_Shift : PySem.W.kitOne K (.ref c_Either) (.ref c_Shift) = some false
  k1_Either_Term : PySem.W.kitOne K (.ref c_Either) (.ref c_Term) = some true
  k1_Later_Look : PySem.W.kitOne K (.ref c_Later) (.ref c_Look) = some false
  k1_Later_Shift : PySem.W.kitOne K (.ref c_Later) (.ref c_Shift) = some false
  k1_Later_Term : PySem.W.kitOne K (.ref c_Later) (.ref c_Term) = some true
  k1_Look_Look : PySem.W.kitOne K (.ref c_Look) (.ref c_Look) = some true
  k1_Look_Shift : PySem.W.kitOne K (.ref c_Look) (.ref c_Shift) = some false
  k1_Look_Term : PySem.W.kitOne K (.ref c_Look) (.ref c_Term) = some true
  k1_Now_Look : PySem.W.kitOne K (.ref c_Now) (.ref c_Look) = some false
  k1_Now_Shift : PySem.W.kitOne K (.ref c_Now) (.ref c_Shift) = some false
  k1_Now_Term : PySem.W.kitOne K (.ref c_Now) (.ref c_Term) = some true
  k1_Shift_Look : PySem.W.kitOne K (.ref c_Shift) (.ref c_Look) = some false
  k1_Shift_Shift : PySem.W.kitOne K (.ref c_Shift) (.ref c_Shift) = some true
  k1_Shift_Term : PySem.W.kitOne K (.ref c_Shift) (.ref c_Term) = some true
  k1_World_World : PySem.W.kitOne K (.ref c_World) (.ref c_World) = some true
  ka_Earlier_Look_Later_Earlier : PySem.W.kitAny K (.ref c_Earlier) [.ref c_Look, .ref c_Later, .ref c_Earlier] = some true
  ka_Either_Look_Later_Earlier : PySem.W.kitAny K (.ref c_Either) [.ref c_Look, .ref c_Later, .ref c_Earlier] = some false
  ka_Later_Look_Later_Earlier : PySem.W.kitAny K (.ref c_Later) [.ref c_Look, .ref c_Later, .ref c_Earlier] = some true
  ka_Look_Look_Later_Earlier : PySem.W.kitAny K (.ref c_Look) [.ref c_Look, .ref c_Later, .ref c_Earlier] = some true
  ka_Now_Look_Later_Earlier : PySem.W.kitAny K (.ref c_Now) [.ref c_Look, .ref c_Later, .ref c_Earlier] = some false
  ka_Shift_Look_Later_Earlier : PySem.W.kitAny K (.ref c_Shift) [.ref c_Look, .ref c_Later, .ref c_Earlier] = some false
  call_Earlier : StX.CallO K c_Earlier Term_call.f
  call_Either : StX.CallO K c_Either Term_call.f
  call_Later : StX.CallO K c_Later Term_call.f
  call_Look : StX.CallO K c_Look Term_call.f
  call_Now : StX.CallO K c_Now Term_call.f
  call_Shift : StX.CallO K c_Shift Term_call.f
  n_isinstance : mg "isinstance" = none
  n_bool : mg "bool" = none
  n_int : mg "int" = none
  n_len : mg "len" = none
  n_str : mg "str" = none
  n_set : mg "set" = none
  n_list : mg "list" = none
  n_sorted : mg "sorted" = none
  n_sum : mg "sum" = none
  n_max : mg "max" = none
  n_super : mg "super" = none
  n_min : mg "min" = none
  n_abs : mg "abs" = none
  n_range : mg "range" = none
set_option maxHeartbeats 40000000 in
theorem all_mk {l : PySem.W.OpenLaw} {w : World} {K : PySem.W.Frag} {h : Heap} {mg : Str → Option Value} {fa : Addr} (X : K.In h) (G : h.Ns mainGlobals mg) (hfa : mg "law" = some (.ref fa)) (hfile : ((l.prog.main.file : Str) == fileS) = true) (htop : (l.prog.main.scope.names.lookup ("super" : Str)).isSome = false) 
    {c_World : Addr}
    {c_Term : Addr}
    {c_Now : Addr}
    {c_Shift : Addr}
    {c_Look : Addr}
    {c_Either : Addr}
    {c_Later : Addr}
    {c_Earlier : Addr}
    {a_WAYS : Addr} {u_WAYS0 u_WAYS1 u_WAYS2 u_WAYS3 : Tok} {od_WAYS : Option Addr} {nn_WAYS : Nat} {sl_WAYS : Array (Option Value)}
    {u_DEEPEST : Tok}
    {u_LETTERS : Tok}
    {u_MOST_LOOKS : Tok}
    {u_MOST_PARTS : Tok}
    {u_MOST_ROWS : Tok}
    {f0 : Addr}
    {od0 an0 : Option Addr} {sl0 : Array (Option Value)} {oc0 kV0 dc0 pm0 cd0 ct0 : Value}
    {f1 : Addr}
    {od1 an1 : Option Addr} {sl1 : Array (Option Value)} {oc1 kV1 dc1 pm1 cd1 ct1 : Value}
    {f2 : Addr}
    {od2 an2 : Option Addr} {sl2 : Array (Option Value)} {oc2 kV2 dc2 pm2 cd2 ct2 : Value}
    {f3 : Addr}
    {od3 an3 : Option Addr} {sl3 : Array (Option Value)} {oc3 kV3 dc3 pm3 cd3 ct3 : Value}
    {f4 : Addr}
    {od4 an4 : Option Addr} {sl4 : Array (Option Value)} {oc4 kV4 dc4 pm4 cd4 ct4 : Value}
    {f5 : Addr}
    {od5 an5 : Option Addr} {sl5 : Array (Option Value)} {oc5 kV5 dc5 pm5 cd5 ct5 : Value}
    {f6 : Addr}
    {od6 an6 : Option Addr} {sl6 : Array (Option Value)} {oc6 kV6 dc6 pm6 cd6 ct6 : Value}
    {f7 : Addr}
    {od7 an7 : Option Addr} {sl7 : Array (Option Value)} {oc7 kV7 dc7 pm7 cd7 ct7 : Value}
    {f8 : Addr}
    {od8 an8 : Option Addr} {sl8 : Array (Option Value)} {oc8 kV8 dc8 pm8 cd8 ct8 : Value}
    {f9 : Addr}
    {od9 an9 : Option Addr} {sl9 : Array (Option Value)} {oc9 kV9 dc9 pm9 cd9 ct9 : Value}
    {f10 : Addr}
    {od10 an10 : Option Addr} {sl10 : Array (Option Value)} {oc10 kV10 dc10 pm10 cd10 ct10 : Value}
    {f11 : Addr}
    {od11 an11 : Option Addr} {sl11 : Array (Option Value)} {oc11 kV11 dc11 pm11 cd11 ct11 : Value}
    {f12 : Addr}
    {od12 an12 : Option Addr} {sl12 : Array (Option Value)} {oc12 kV12 dc12 pm12 cd12 ct12 : Value}
    {f13 : Addr}
    {od13 an13 : Option Addr} {sl13 : Array (Option Value)} {oc13 kV13 dc13 pm13 cd13 ct13 : Value}
    {f14 : Addr}
    {od14 an14 : Option Addr} {sl14 : Array (Option Value)} {oc14 kV14 dc14 pm14 cd14 ct14 : Value}
    {f15 : Addr}
    {od15 an15 : Option Addr} {sl15 : Array (Option Value)} {oc15 kV15 dc15 pm15 cd15 ct15 : Value}
    {f16 : Addr}
    {od16 an16 : Option Addr} {sl16 : Array (Option Value)} {oc16 kV16 dc16 pm16 cd16 ct16 : Value}
    {f17 : Addr}
    {od17 an17 : Option Addr} {sl17 : Array (Option Value)} {oc17 kV17 dc17 pm17 cd17 ct17 : Value}
    {f18 : Addr}
    {od18 an18 : Option Addr} {sl18 : Array (Option Value)} {oc18 kV18 dc18 pm18 cd18 ct18 : Value}
    {f19 : Addr}
    {od19 an19 : Option Addr} {sl19 : Array (Option Value)} {oc19 kV19 dc19 pm19 cd19 ct19 : Value}
    {f20 : Addr}
    {od20 an20 : Option Addr} {sl20 : Array (Option Value)} {oc20 kV20 dc20 pm20 cd20 ct20 : Value}
    {f21 : Addr}
    {od21 an21 : Option Addr} {sl21 : Array (Option Value)} {oc21 kV21 dc21 pm21 cd21 ct21 : Value}
    {f22 : Addr}
    {od22 an22 : Option Addr} {sl22 : Array (Option Value)} {oc22 kV22 dc22 pm22 cd22 ct22 : Value}
    {f23 : Addr}
    {od23 an23 : Option Addr} {sl23 : Array (Option Value)} {oc23 kV23 dc23 pm23 cd23 ct23 : Value}
    {f24 : Addr}
    {od24 an24 : Option Addr} {sl24 : Array (Option Value)} {oc24 kV24 dc24 pm24 cd24 ct24 : Value}
    {f25 : Addr}
    {od25 an25 : Option Addr} {sl25 : Array (Option Value)} {oc25 kV25 dc25 pm25 cd25 ct25 : Value}
    {f26 : Addr}
    {T26 : Addr} {Td26 : Option Addr} {Tn26 : Nat} {Tc26 : Value} {Ts26 : Array (Option Value)}
    {od26 an26 : Option Addr} {sl26 : Array (Option Value)} {oc26 kV26 dc26 pm26 cd26 ct26 : Value}
    {f27 : Addr}
    {od27 an27 : Option Addr} {sl27 : Array (Option Value)} {oc27 kV27 dc27 pm27 cd27 ct27 : Value}
    {f28 : Addr}
    {od28 an28 : Option Addr} {sl28 : Array (Option Value)} {oc28 kV28 dc28 pm28 cd28 ct28 : Value}
    {f29 : Addr}
    {od29 an29 : Option Addr} {sl29 : Array (Option Value)} {oc29 kV29 dc29 pm29 cd29 ct29 : Value}
    {f30 : Addr}
    {od30 an30 : Option Addr} {sl30 : Array (Option Value)} {oc30 kV30 dc30 pm30 cd30 ct30 : Value}
    {f31 : Addr}
    {od31 an31 : Option Addr} {sl31 : Array (Option Value)} {oc31 kV31 dc31 pm31 cd31 ct31 : Value}
    {f32 : Addr}
    {od32 an32 : Option Addr} {sl32 : Array (Option Value)} {oc32 kV32 dc32 pm32 cd32 ct32 : Value}
    {f33 : Addr}
    {od33 an33 : Option Addr} {sl33 : Array (Option Value)} {oc33 kV33 dc33 pm33 cd33 ct33 : Value}
    {f34 : Addr}
    {od34 an34 : Option Addr} {sl34 : Array (Option Value)} {oc34 kV34 dc34 pm34 cd34 ct34 : Value}
    {f35 : Addr}
    {od35 an35 cx35 cy35 : Option Addr} {sl35 cu35 cw35 : Array (Option Value)} {oc35 kV35 dc35 pm35 ct35 ca35 cb35 : Value} {cc35 cd35 : Addr} {vs35 : Array Value} {tf35 : Tok} {DD35 : ClassData}
    {f36 : Addr}
    {od36 an36 cx36 cy36 : Option Addr} {sl36 cu36 cw36 : Array (Option Value)} {oc36 kV36 dc36 pm36 ct36 ca36 cb36 : Value} {cc36 cd36 : Addr} {vs36 : Array Value} {tf36 : Tok} {DD36 : ClassData}
    {f37 : Addr}
    {od37 an37 : Option Addr} {sl37 : Array (Option Value)} {oc37 kV37 dc37 pm37 cd37 ct37 : Value}
    {f38 : Addr}
    {od38 an38 : Option Addr} {sl38 : Array (Option Value)} {oc38 kV38 dc38 pm38 cd38 ct38 : Value}
    {f39 : Addr}
    {od39 an39 cx39 cy39 : Option Addr} {sl39 cu39 cw39 : Array (Option Value)} {oc39 kV39 dc39 pm39 ct39 ca39 cb39 : Value} {cc39 cd39 : Addr} {vs39 : Array Value} {tf39 : Tok} {DD39 : ClassData}
    {f40 : Addr}
    {od40 an40 : Option Addr} {sl40 : Array (Option Value)} {oc40 kV40 dc40 pm40 cd40 ct40 : Value}
    {f41 : Addr}
    {od41 an41 : Option Addr} {sl41 : Array (Option Value)} {oc41 kV41 dc41 pm41 cd41 ct41 : Value}
    {f42 : Addr}
    {od42 an42 : Option Addr} {sl42 : Array (Option Value)} {oc42 kV42 dc42 pm42 cd42 ct42 : Value}
    {f43 : Addr}
    {od43 an43 : Option Addr} {sl43 : Array (Option Value)} {oc43 kV43 dc43 pm43 cd43 ct43 : Value}
    {f44 : Addr}
    {od44 an44 : Option Addr} {sl44 : Array (Option Value)} {oc44 kV44 dc44 pm44 cd44 ct44 : Value}
    {f45 : Addr}
    {od45 an45 : Option Addr} {sl45 : Array (Option Value)} {oc45 kV45 dc45 pm45 cd45 ct45 : Value}
    {f46 : Addr}
    {od46 an46 : Option Addr} {sl46 : Array (Option Value)} {oc46 kV46 dc46 pm46 cd46 ct46 : Value}
    {f47 : Addr}
    {od47 an47 : Option Addr} {sl47 : Array (Option Value)} {oc47 kV47 dc47 pm47 cd47 ct47 : Value}
    {fo361 ro361 : Option Value}
    (h0 : PySem.W.nsIn K mainGlobals "World" = some (some (.ref c_World)))
    (h1 : PySem.W.nsIn K mainGlobals "Term" = some (some (.ref c_Term)))
    (h2 : PySem.W.nsIn K mainGlobals "Now" = some (some (.ref c_Now)))
    (h3 : PySem.W.nsIn K mainGlobals "Shift" = some (some (.ref c_Shift)))
    (h4 : PySem.W.nsIn K mainGlobals "Look" = some (some (.ref c_Look)))
    (h5 : PySem.W.nsIn K mainGlobals "Either" = some (some (.ref c_Either)))
    (h6 : PySem.W.nsIn K mainGlobals "Later" = some (some (.ref c_Later)))
    (h7 : PySem.W.nsIn K mainGlobals "Earlier" = some (some (.ref c_Earlier)))
    (h8 : PySem.W.nsIn K mainGlobals "WAYS" = some (some (.ref a_WAYS)))
    (h9 : K.lookup a_WAYS = some ⟨.type "tuple", od_WAYS, .seq [.str "at" u_WAYS0, .str "before" u_WAYS1, .str "since" u_WAYS2, .str "after" u_WAYS3].toArray nn_WAYS, sl_WAYS⟩)
    (h10 : PySem.W.nsIn K mainGlobals "DEEPEST" = some (some (.int 12 u_DEEPEST)))
    (h11 : PySem.W.nsIn K mainGlobals "LETTERS" = some (some (.str "abcdefghijklmnopqrstuvwxyz" u_LETTERS)))
    (h12 : PySem.W.nsIn K mainGlobals "MOST_LOOKS" = some (some (.int 12 u_MOST_LOOKS)))
    (h13 : PySem.W.nsIn K mainGlobals "MOST_PARTS" = some (some (.int 40 u_MOST_PARTS)))
    (h14 : PySem.W.nsIn K mainGlobals "MOST_ROWS" = some (some (.int 300 u_MOST_ROWS)))
    (h15 : PySem.W.nsIn K mainGlobals "is_integer" = some (some (.ref f0)))
    (h16 : K.lookup f0 = some ⟨oc0, od0, .func (PySem.W.fnOf "is_integer" "is_integer" (defArgs s_is_integer) (defBody s_is_integer) (defScope s_is_integer) .none kV0 dc0 pm0 an0 cd0 ct0), sl0⟩)
    (h17 : PySem.W.codeIn K cd0 "is_integer" = true)
    (h18 : PySem.W.keepIn K (.ref f0) = true)
    (h19 : PySem.W.nsIn K mainGlobals "is_from_zero" = some (some (.ref f1)))
    (h20 : K.lookup f1 = some ⟨oc1, od1, .func (PySem.W.fnOf "is_from_zero" "is_from_zero" (defArgs s_is_from_zero) (defBody s_is_from_zero) (defScope s_is_from_zero) .none kV1 dc1 pm1 an1 cd1 ct1), sl1⟩)
    (h21 : PySem.W.codeIn K cd1 "is_from_zero" = true)
    (h22 : PySem.W.keepIn K (.ref f1) = true)
    (h23 : PySem.W.nsIn K mainGlobals "is_name" = some (some (.ref f2)))
    (h24 : K.lookup f2 = some ⟨oc2, od2, .func (PySem.W.fnOf "is_name" "is_name" (defArgs s_is_name) (defBody s_is_name) (defScope s_is_name) .none kV2 dc2 pm2 an2 cd2 ct2), sl2⟩)
    (h25 : PySem.W.codeIn K cd2 "is_name" = true)
    (h26 : PySem.W.keepIn K (.ref f2) = true)
    (h27 : PySem.W.nsIn K mainGlobals "check_name" = some (some (.ref f3)))
    (h28 : K.lookup f3 = some ⟨oc3, od3, .func (PySem.W.fnOf "check_name" "check_name" (defArgs s_check_name) (defBody s_check_name) (defScope s_check_name) .none kV3 dc3 pm3 an3 cd3 ct3), sl3⟩)
    (h29 : PySem.W.codeIn K cd3 "check_name" = true)
    (h30 : PySem.W.keepIn K (.ref f3) = true)
    (h31 : PySem.W.nsIn K mainGlobals "check_moment" = some (some (.ref f4)))
    (h32 : K.lookup f4 = some ⟨oc4, od4, .func (PySem.W.fnOf "check_moment" "check_moment" (defArgs s_check_moment) (defBody s_check_moment) (defScope s_check_moment) .none kV4 dc4 pm4 an4 cd4 ct4), sl4⟩)
    (h33 : PySem.W.codeIn K cd4 "check_moment" = true)
    (h34 : PySem.W.keepIn K (.ref f4) = true)
    (h35 : PySem.W.nsIn K mainGlobals "check_bound" = some (some (.ref f5)))
    (h36 : K.lookup f5 = some ⟨oc5, od5, .func (PySem.W.fnOf "check_bound" "check_bound" (defArgs s_check_bound) (defBody s_check_bound) (defScope s_check_bound) .none kV5 dc5 pm5 an5 cd5 ct5), sl5⟩)
    (h37 : PySem.W.codeIn K cd5 "check_bound" = true)
    (h38 : PySem.W.keepIn K (.ref f5) = true)
    (h39 : PySem.W.nsIn K mainGlobals "check_limit" = some (some (.ref f6)))
    (h40 : K.lookup f6 = some ⟨oc6, od6, .func (PySem.W.fnOf "check_limit" "check_limit" (defArgs s_check_limit) (defBody s_check_limit) (defScope s_check_limit) .none kV6 dc6 pm6 an6 cd6 ct6), sl6⟩)
    (h41 : PySem.W.codeIn K cd6 "check_limit" = true)
    (h42 : PySem.W.keepIn K (.ref f6) = true)
    (h43 : PySem.W.nsIn K mainGlobals "check_rows" = some (some (.ref f7)))
    (h44 : K.lookup f7 = some ⟨oc7, od7, .func (PySem.W.fnOf "check_rows" "check_rows" (defArgs s_check_rows) (defBody s_check_rows) (defScope s_check_rows) .none kV7 dc7 pm7 an7 cd7 ct7), sl7⟩)
    (h45 : PySem.W.codeIn K cd7 "check_rows" = true)
    (h46 : PySem.W.keepIn K (.ref f7) = true)
    (h47 : PySem.W.nsIn K mainGlobals "limited" = some (some (.ref f8)))
    (h48 : K.lookup f8 = some ⟨oc8, od8, .func (PySem.W.fnOf "limited" "limited" (defArgs s_limited) (defBody s_limited) (defScope s_limited) .none kV8 dc8 pm8 an8 cd8 ct8), sl8⟩)
    (h49 : PySem.W.codeIn K cd8 "limited" = true)
    (h50 : PySem.W.keepIn K (.ref f8) = true)
    (h51 : PySem.W.nsIn K mainGlobals "checked_pairs" = some (some (.ref f9)))
    (h52 : K.lookup f9 = some ⟨oc9, od9, .func (PySem.W.fnOf "checked_pairs" "checked_pairs" (defArgs s_checked_pairs) (defBody s_checked_pairs) (defScope s_checked_pairs) .none kV9 dc9 pm9 an9 cd9 ct9), sl9⟩)
    (h53 : PySem.W.codeIn K cd9 "checked_pairs" = true)
    (h54 : PySem.W.keepIn K (.ref f9) = true)
    (h55 : PySem.W.nsIn K mainGlobals "check_world" = some (some (.ref f10)))
    (h56 : K.lookup f10 = some ⟨oc10, od10, .func (PySem.W.fnOf "check_world" "check_world" (defArgs s_check_world) (defBody s_check_world) (defScope s_check_world) .none kV10 dc10 pm10 an10 cd10 ct10), sl10⟩)
    (h57 : PySem.W.codeIn K cd10 "check_world" = true)
    (h58 : PySem.W.keepIn K (.ref f10) = true)
    (h59 : PySem.W.nsIn K mainGlobals "shifted" = some (some (.ref f11)))
    (h60 : K.lookup f11 = some ⟨oc11, od11, .func (PySem.W.fnOf "shifted" "shifted" (defArgs s_shifted) (defBody s_shifted) (defScope s_shifted) .none kV11 dc11 pm11 an11 cd11 ct11), sl11⟩)
    (h61 : PySem.W.codeIn K cd11 "shifted" = true)
    (h62 : PySem.W.keepIn K (.ref f11) = true)
    (h63 : PySem.W.nsIn K mainGlobals "fits" = some (some (.ref f12)))
    (h64 : K.lookup f12 = some ⟨oc12, od12, .func (PySem.W.fnOf "fits" "fits" (defArgs s_fits) (defBody s_fits) (defScope s_fits) .none kV12 dc12 pm12 an12 cd12 ct12), sl12⟩)
    (h65 : PySem.W.codeIn K cd12 "fits" = true)
    (h66 : PySem.W.keepIn K (.ref f12) = true)
    (h67 : PySem.W.nsIn K mainGlobals "looked_up" = some (some (.ref f13)))
    (h68 : K.lookup f13 = some ⟨oc13, od13, .func (PySem.W.fnOf "looked_up" "looked_up" (defArgs s_looked_up) (defBody s_looked_up) (defScope s_looked_up) .none kV13 dc13 pm13 an13 cd13 ct13), sl13⟩)
    (h69 : PySem.W.codeIn K cd13 "looked_up" = true)
    (h70 : PySem.W.keepIn K (.ref f13) = true)
    (h71 : PySem.W.nsIn K mainGlobals "check_term" = some (some (.ref f14)))
    (h72 : K.lookup f14 = some ⟨oc14, od14, .func (PySem.W.fnOf "check_term" "check_term" (defArgs s_check_term) (defBody s_check_term) (defScope s_check_term) .none kV14 dc14 pm14 an14 cd14 ct14), sl14⟩)
    (h73 : PySem.W.codeIn K cd14 "check_term" = true)
    (h74 : PySem.W.keepIn K (.ref f14) = true)
    (h75 : PySem.W.nsIn K mainGlobals "told" = some (some (.ref f15)))
    (h76 : K.lookup f15 = some ⟨oc15, od15, .func (PySem.W.fnOf "told" "told" (defArgs s_told) (defBody s_told) (defScope s_told) .none kV15 dc15 pm15 an15 cd15 ct15), sl15⟩)
    (h77 : PySem.W.codeIn K cd15 "told" = true)
    (h78 : PySem.W.keepIn K (.ref f15) = true)
    (h79 : PySem.W.nsIn K mainGlobals "_law_open" = some (some (.ref f16)))
    (h80 : K.lookup f16 = some ⟨oc16, od16, .func (PySem.W.fnOf "_law_open" "_law_open" (defArgs s_law_open) (defBody s_law_open) (defScope s_law_open) .none kV16 dc16 pm16 an16 cd16 ct16), sl16⟩)
    (h81 : PySem.W.codeIn K cd16 "_law_open" = true)
    (h82 : PySem.W.keepIn K (.ref f16) = true)
    (h83 : PySem.W.nsIn K mainGlobals "_law_pick" = some (some (.ref f17)))
    (h84 : K.lookup f17 = some ⟨oc17, od17, .func (PySem.W.fnOf "_law_pick" "_law_pick" (defArgs s_law_pick) (defBody s_law_pick) (defScope s_law_pick) .none kV17 dc17 pm17 an17 cd17 ct17), sl17⟩)
    (h85 : PySem.W.codeIn K cd17 "_law_pick" = true)
    (h86 : PySem.W.keepIn K (.ref f17) = true)
    (h87 : PySem.W.nsIn K mainGlobals "_law_number" = some (some (.ref f18)))
    (h88 : K.lookup f18 = some ⟨oc18, od18, .func (PySem.W.fnOf "_law_number" "_law_number" (defArgs s_law_number) (defBody s_law_number) (defScope s_law_number) .none kV18 dc18 pm18 an18 cd18 ct18), sl18⟩)
    (h89 : PySem.W.codeIn K cd18 "_law_number" = true)
    (h90 : PySem.W.keepIn K (.ref f18) = true)
    (h91 : PySem.W.nsIn K mainGlobals "_law_limit" = some (some (.ref f19)))
    (h92 : K.lookup f19 = some ⟨oc19, od19, .func (PySem.W.fnOf "_law_limit" "_law_limit" (defArgs s_law_limit) (defBody s_law_limit) (defScope s_law_limit) .none kV19 dc19 pm19 an19 cd19 ct19), sl19⟩)
    (h93 : PySem.W.codeIn K cd19 "_law_limit" = true)
    (h94 : PySem.W.keepIn K (.ref f19) = true)
    (h95 : PySem.W.nsIn K mainGlobals "_law_names" = some (some (.ref f20)))
    (h96 : K.lookup f20 = some ⟨oc20, od20, .func (PySem.W.fnOf "_law_names" "_law_names" (defArgs s_law_names) (defBody s_law_names) (defScope s_law_names) .none kV20 dc20 pm20 an20 cd20 ct20), sl20⟩)
    (h97 : PySem.W.codeIn K cd20 "_law_names" = true)
    (h98 : PySem.W.keepIn K (.ref f20) = true)
    (h99 : PySem.W.nsIn K mainGlobals "_law_moments" = some (some (.ref f21)))
    (h100 : K.lookup f21 = some ⟨oc21, od21, .func (PySem.W.fnOf "_law_moments" "_law_moments" (defArgs s_law_moments) (defBody s_law_moments) (defScope s_law_moments) .none kV21 dc21 pm21 an21 cd21 ct21), sl21⟩)
    (h101 : PySem.W.codeIn K cd21 "_law_moments" = true)
    (h102 : PySem.W.keepIn K (.ref f21) = true)
    (h103 : PySem.W.nsIn K mainGlobals "_law_is_integer" = some (some (.ref f22)))
    (h104 : K.lookup f22 = some ⟨oc22, od22, .func (PySem.W.fnOf "_law_is_integer" "_law_is_integer" (defArgs s_law_is_integer) (defBody s_law_is_integer) (defScope s_law_is_integer) .none kV22 dc22 pm22 an22 cd22 ct22), sl22⟩)
    (h105 : PySem.W.codeIn K cd22 "_law_is_integer" = true)
    (h106 : PySem.W.keepIn K (.ref f22) = true)
    (h107 : PySem.W.nsIn K mainGlobals "_law_answer" = some (some (.ref f23)))
    (h108 : K.lookup f23 = some ⟨oc23, od23, .func (PySem.W.fnOf "_law_answer" "_law_answer" (defArgs s_law_answer) (defBody s_law_answer) (defScope s_law_answer) .none kV23 dc23 pm23 an23 cd23 ct23), sl23⟩)
    (h109 : PySem.W.codeIn K cd23 "_law_answer" = true)
    (h110 : PySem.W.keepIn K (.ref f23) = true)
    (h111 : PySem.W.nsIn K mainGlobals "_law_negated" = some (some (.ref f24)))
    (h112 : K.lookup f24 = some ⟨oc24, od24, .func (PySem.W.fnOf "_law_negated" "_law_negated" (defArgs s_law_negated) (defBody s_law_negated) (defScope s_law_negated) .none kV24 dc24 pm24 an24 cd24 ct24), sl24⟩)
    (h113 : PySem.W.codeIn K cd24 "_law_negated" = true)
    (h114 : PySem.W.keepIn K (.ref f24) = true)
    (h115 : PySem.W.nsIn K mainGlobals "law" = some (some (.ref f25)))
    (h116 : K.lookup f25 = some ⟨oc25, od25, .func (PySem.W.fnOf "law" "law" (defArgs s_law) (defBody s_law) (defScope s_law) .none kV25 dc25 pm25 an25 cd25 ct25), sl25⟩)
    (h117 : PySem.W.codeIn K cd25 "law" = true)
    (h118 : PySem.W.keepIn K (.ref f25) = true)
    (h119 : PySem.W.findIn K (.ref c_World) "__init__" = some (some (.ref f26)))
    (h120 : K.lookup f26 = some ⟨oc26, od26, .func (PySem.W.fnOf "__init__" "World.__init__" (defArgs s_World_init) (defBody s_World_init) (defScope s_World_init) (.ref T26) kV26 dc26 pm26 an26 cd26 ct26), sl26⟩)
    (h121 : PySem.W.codeIn K cd26 "World.__init__" = true)
    (h122 : PySem.W.keepIn K (.ref f26) = true)
    (h123 : K.lookup T26 = some ⟨Tc26, Td26, .seq [Value.none].toArray Tn26, Ts26⟩)
    (h124 : PySem.W.findIn K (.ref c_World) "__getitem__" = some (some (.ref f27)))
    (h125 : K.lookup f27 = some ⟨oc27, od27, .func (PySem.W.fnOf "__getitem__" "World.__getitem__" (defArgs s_World_getitem) (defBody s_World_getitem) (defScope s_World_getitem) .none kV27 dc27 pm27 an27 cd27 ct27), sl27⟩)
    (h126 : PySem.W.codeIn K cd27 "World.__getitem__" = true)
    (h127 : PySem.W.keepIn K (.ref f27) = true)
    (h128 : PySem.W.findIn K (.ref c_Term) "__init__" = some (some (.ref f28)))
    (h129 : K.lookup f28 = some ⟨oc28, od28, .func (PySem.W.fnOf "__init__" "Term.__init__" (defArgs s_Term_init) (defBody s_Term_init) (defScope s_Term_init) .none kV28 dc28 pm28 an28 cd28 ct28), sl28⟩)
    (h130 : PySem.W.codeIn K cd28 "Term.__init__" = true)
    (h131 : PySem.W.keepIn K (.ref f28) = true)
    (h132 : PySem.W.findIn K (.ref c_Term) "__add__" = some (some (.ref f29)))
    (h133 : K.lookup f29 = some ⟨oc29, od29, .func (PySem.W.fnOf "__add__" "Term.__add__" (defArgs s_Term_add) (defBody s_Term_add) (defScope s_Term_add) .none kV29 dc29 pm29 an29 cd29 ct29), sl29⟩)
    (h134 : PySem.W.codeIn K cd29 "Term.__add__" = true)
    (h135 : PySem.W.keepIn K (.ref f29) = true)
    (h136 : PySem.W.findIn K (.ref c_Term) "__sub__" = some (some (.ref f30)))
    (h137 : K.lookup f30 = some ⟨oc30, od30, .func (PySem.W.fnOf "__sub__" "Term.__sub__" (defArgs s_Term_sub) (defBody s_Term_sub) (defScope s_Term_sub) .none kV30 dc30 pm30 an30 cd30 ct30), sl30⟩)
    (h138 : PySem.W.codeIn K cd30 "Term.__sub__" = true)
    (h139 : PySem.W.keepIn K (.ref f30) = true)
    (h140 : PySem.W.findIn K (.ref c_Term) "__eq__" = some (some (.ref f31)))
    (h141 : K.lookup f31 = some ⟨oc31, od31, .func (PySem.W.fnOf "__eq__" "Term.__eq__" (defArgs s_Term_eq) (defBody s_Term_eq) (defScope s_Term_eq) .none kV31 dc31 pm31 an31 cd31 ct31), sl31⟩)
    (h142 : PySem.W.codeIn K cd31 "Term.__eq__" = true)
    (h143 : PySem.W.keepIn K (.ref f31) = true)
    (h144 : PySem.W.findIn K (.ref c_Term) "__call__" = some (some (.ref f32)))
    (h145 : K.lookup f32 = some ⟨oc32, od32, .func (PySem.W.fnOf "__call__" "Term.__call__" (defArgs s_Term_call) (defBody s_Term_call) (defScope s_Term_call) .none kV32 dc32 pm32 an32 cd32 ct32), sl32⟩)
    (h146 : PySem.W.codeIn K cd32 "Term.__call__" = true)
    (h147 : PySem.W.keepIn K (.ref f32) = true)
    (h148 : PySem.W.findIn K (.ref c_Term) "form" = some (some (.ref f33)))
    (h149 : K.lookup f33 = some ⟨oc33, od33, .func (PySem.W.fnOf "form" "Term.form" (defArgs s_Term_form) (defBody s_Term_form) (defScope s_Term_form) .none kV33 dc33 pm33 an33 cd33 ct33), sl33⟩)
    (h150 : PySem.W.codeIn K cd33 "Term.form" = true)
    (h151 : PySem.W.keepIn K (.ref f33) = true)
    (h152 : PySem.W.findIn K (.ref c_Term) "answer_in" = some (some (.ref f34)))
    (h153 : K.lookup f34 = some ⟨oc34, od34, .func (PySem.W.fnOf "answer_in" "Term.answer_in" (defArgs s_Term_answer_in) (defBody s_Term_answer_in) (defScope s_Term_answer_in) .none kV34 dc34 pm34 an34 cd34 ct34), sl34⟩)
    (h154 : PySem.W.codeIn K cd34 "Term.answer_in" = true)
    (h155 : PySem.W.keepIn K (.ref f34) = true)
    (h156 : PySem.W.findIn K (.ref c_Now) "__init__" = some (some (.ref f35)))
    (h157 : K.lookup f35 = some ⟨oc35, od35, .func (PySem.W.fnX "__init__" "Now.__init__" (defArgs s_Now_init) (defBody s_Now_init) (defScope s_Now_init) [(("__class__" : Str), cc35)] .none kV35 dc35 pm35 an35 (.ref cd35) ct35), sl35⟩)
    (h158 : PySem.W.codeIn K (.ref cd35) "Now.__init__" = true)
    (h159 : PySem.W.keepIn K (.ref f35) = true)
    (h160 : K.lookup cc35 = some ⟨ca35, cx35, .cell (some (.ref c_Now)), cu35⟩)
    (h161 : PySem.W.clsIn K c_Now = some DD35)
    (h162 : K.lookup cd35 = some ⟨cb35, cy35, .fields vs35, cw35⟩)
    (h163 : vs35[2]? = some (.str fileS tf35))
    (h164 : PySem.W.nsIn K mainGlobals "super" = some none)
    (h165 : PySem.W.nsIn K cStatics "thirdparty.any" = some none)
    (h166 : PySem.W.typeIn K (.ref f28) = some (.type "function"))
    (h167 : PySem.W.fnIn K f28 = true)
    (h168 : PySem.W.findIn K (.ref c_Shift) "__init__" = some (some (.ref f36)))
    (h169 : K.lookup f36 = some ⟨oc36, od36, .func (PySem.W.fnX "__init__" "Shift.__init__" (defArgs s_Shift_init) (defBody s_Shift_init) (defScope s_Shift_init) [(("__class__" : Str), cc36)] .none kV36 dc36 pm36 an36 (.ref cd36) ct36), sl36⟩)
    (h170 : PySem.W.codeIn K (.ref cd36) "Shift.__init__" = true)
    (h171 : PySem.W.keepIn K (.ref f36) = true)
    (h172 : K.lookup cc36 = some ⟨ca36, cx36, .cell (some (.ref c_Shift)), cu36⟩)
    (h173 : PySem.W.clsIn K c_Shift = some DD36)
    (h174 : K.lookup cd36 = some ⟨cb36, cy36, .fields vs36, cw36⟩)
    (h175 : vs36[2]? = some (.str fileS tf36))
    (h176 : PySem.W.nsIn K mainGlobals "super" = some none)
    (h177 : PySem.W.nsIn K cStatics "thirdparty.any" = some none)
    (h178 : PySem.W.typeIn K (.ref f28) = some (.type "function"))
    (h179 : PySem.W.fnIn K f28 = true)
    (h180 : PySem.W.findIn K (.ref c_Shift) "form" = some (some (.ref f37)))
    (h181 : K.lookup f37 = some ⟨oc37, od37, .func (PySem.W.fnOf "form" "Shift.form" (defArgs s_Shift_form) (defBody s_Shift_form) (defScope s_Shift_form) .none kV37 dc37 pm37 an37 cd37 ct37), sl37⟩)
    (h182 : PySem.W.codeIn K cd37 "Shift.form" = true)
    (h183 : PySem.W.keepIn K (.ref f37) = true)
    (h184 : PySem.W.findIn K (.ref c_Shift) "answer_in" = some (some (.ref f38)))
    (h185 : K.lookup f38 = some ⟨oc38, od38, .func (PySem.W.fnOf "answer_in" "Shift.answer_in" (defArgs s_Shift_answer_in) (defBody s_Shift_answer_in) (defScope s_Shift_answer_in) .none kV38 dc38 pm38 an38 cd38 ct38), sl38⟩)
    (h186 : PySem.W.codeIn K cd38 "Shift.answer_in" = true)
    (h187 : PySem.W.keepIn K (.ref f38) = true)
    (h188 : PySem.W.findIn K (.ref c_Look) "__init__" = some (some (.ref f39)))
    (h189 : K.lookup f39 = some ⟨oc39, od39, .func (PySem.W.fnX "__init__" "Look.__init__" (defArgs s_Look_init) (defBody s_Look_init) (defScope s_Look_init) [(("__class__" : Str), cc39)] .none kV39 dc39 pm39 an39 (.ref cd39) ct39), sl39⟩)
    (h190 : PySem.W.codeIn K (.ref cd39) "Look.__init__" = true)
    (h191 : PySem.W.keepIn K (.ref f39) = true)
    (h192 : K.lookup cc39 = some ⟨ca39, cx39, .cell (some (.ref c_Look)), cu39⟩)
    (h193 : PySem.W.clsIn K c_Look = some DD39)
    (h194 : K.lookup cd39 = some ⟨cb39, cy39, .fields vs39, cw39⟩)
    (h195 : vs39[2]? = some (.str fileS tf39))
    (h196 : PySem.W.nsIn K mainGlobals "super" = some none)
    (h197 : PySem.W.nsIn K cStatics "thirdparty.any" = some none)
    (h198 : PySem.W.typeIn K (.ref f28) = some (.type "function"))
    (h199 : PySem.W.fnIn K f28 = true)
    (h200 : PySem.W.findIn K (.ref c_Look) "form" = some (some (.ref f40)))
    (h201 : K.lookup f40 = some ⟨oc40, od40, .func (PySem.W.fnOf "form" "Look.form" (defArgs s_Look_form) (defBody s_Look_form) (defScope s_Look_form) .none kV40 dc40 pm40 an40 cd40 ct40), sl40⟩)
    (h202 : PySem.W.codeIn K cd40 "Look.form" = true)
    (h203 : PySem.W.keepIn K (.ref f40) = true)
    (h204 : PySem.W.findIn K (.ref c_Look) "answer_in" = some (some (.ref f41)))
    (h205 : K.lookup f41 = some ⟨oc41, od41, .func (PySem.W.fnOf "answer_in" "Look.answer_in" (defArgs s_Look_answer_in) (defBody s_Look_answer_in) (defScope s_Look_answer_in) .none kV41 dc41 pm41 an41 cd41 ct41), sl41⟩)
    (h206 : PySem.W.codeIn K cd41 "Look.answer_in" = true)
    (h207 : PySem.W.keepIn K (.ref f41) = true)
    (h208 : PySem.W.findIn K (.ref c_Either) "form" = some (some (.ref f42)))
    (h209 : K.lookup f42 = some ⟨oc42, od42, .func (PySem.W.fnOf "form" "Either.form" (defArgs s_Either_form) (defBody s_Either_form) (defScope s_Either_form) .none kV42 dc42 pm42 an42 cd42 ct42), sl42⟩)
    (h210 : PySem.W.codeIn K cd42 "Either.form" = true)
    (h211 : PySem.W.keepIn K (.ref f42) = true)
    (h212 : PySem.W.findIn K (.ref c_Either) "answer_in" = some (some (.ref f43)))
    (h213 : K.lookup f43 = some ⟨oc43, od43, .func (PySem.W.fnOf "answer_in" "Either.answer_in" (defArgs s_Either_answer_in) (defBody s_Either_answer_in) (defScope s_Either_answer_in) .none kV43 dc43 pm43 an43 cd43 ct43), sl43⟩)
    (h214 : PySem.W.codeIn K cd43 "Either.answer_in" = true)
    (h215 : PySem.W.keepIn K (.ref f43) = true)
    (h216 : PySem.W.findIn K (.ref c_Later) "form" = some (some (.ref f44)))
    (h217 : K.lookup f44 = some ⟨oc44, od44, .func (PySem.W.fnOf "form" "Later.form" (defArgs s_Later_form) (defBody s_Later_form) (defScope s_Later_form) .none kV44 dc44 pm44 an44 cd44 ct44), sl44⟩)
    (h218 : PySem.W.codeIn K cd44 "Later.form" = true)
    (h219 : PySem.W.keepIn K (.ref f44) = true)
    (h220 : PySem.W.findIn K (.ref c_Later) "answer_in" = some (some (.ref f45)))
    (h221 : K.lookup f45 = some ⟨oc45, od45, .func (PySem.W.fnOf "answer_in" "Later.answer_in" (defArgs s_Later_answer_in) (defBody s_Later_answer_in) (defScope s_Later_answer_in) .none kV45 dc45 pm45 an45 cd45 ct45), sl45⟩)
    (h222 : PySem.W.codeIn K cd45 "Later.answer_in" = true)
    (h223 : PySem.W.keepIn K (.ref f45) = true)
    (h224 : PySem.W.findIn K (.ref c_Earlier) "form" = some (some (.ref f46)))
    (h225 : K.lookup f46 = some ⟨oc46, od46, .func (PySem.W.fnOf "form" "Earlier.form" (defArgs s_Earlier_form) (defBody s_Earlier_form) (defScope s_Earlier_form) .none kV46 dc46 pm46 an46 cd46 ct46), sl46⟩)
    (h226 : PySem.W.codeIn K cd46 "Earlier.form" = true)
    (h227 : PySem.W.keepIn K (.ref f46) = true)
    (h228 : PySem.W.findIn K (.ref c_Earlier) "answer_in" = some (some (.ref f47)))
    (h229 : K.lookup f47 = some ⟨oc47, od47, .func (PySem.W.fnOf "answer_in" "Earlier.answer_in" (defArgs s_Earlier_answer_in) (defBody s_Earlier_answer_in) (defScope s_Earlier_answer_in) .none kV47 dc47 pm47 an47 cd47 ct47), sl47⟩)
    (h230 : PySem.W.codeIn K cd47 "Earlier.answer_in" = true)
    (h231 : PySem.W.keepIn K (.ref f47) = true)
    (h232 : PySem.W.specialIn K (.builtin "object.__class__") "__get__" = some (some (.builtin "getset_descriptor.__get__")))
    (h233 : PySem.W.takesIn K (.builtin "object.__class__") = some true)
    (h234 : PySem.W.plainGet K c_Earlier Str.empty = true)
    (h235 : PySem.W.hasDictIn K c_Earlier = true)
    (h236 : PySem.W.plainOver K c_Earlier = true)
    (h237 : PySem.W.findIn K (.ref c_Earlier) "__setattr__" = some (some (.builtin "object.__setattr__")))
    (h238 : PySem.W.findIn K (.ref c_Earlier) "__class__" = some (some (.builtin "object.__class__")))
    (h239 : PySem.W.mroIn K c_Earlier (.type "object") = some true)
    (h240 : PySem.W.plainGet K c_Either Str.empty = true)
    (h241 : PySem.W.hasDictIn K c_Either = true)
    (h242 : PySem.W.plainOver K c_Either = true)
    (h243 : PySem.W.findIn K (.ref c_Either) "__setattr__" = some (some (.builtin "object.__setattr__")))
    (h244 : PySem.W.findIn K (.ref c_Either) "__class__" = some (some (.builtin "object.__class__")))
    (h245 : PySem.W.mroIn K c_Either (.type "object") = some true)
    (h246 : PySem.W.plainGet K c_Later Str.empty = true)
    (h247 : PySem.W.hasDictIn K c_Later = true)
    (h248 : PySem.W.plainOver K c_Later = true)
    (h249 : PySem.W.findIn K (.ref c_Later) "__setattr__" = some (some (.builtin "object.__setattr__")))
    (h250 : PySem.W.findIn K (.ref c_Later) "__class__" = some (some (.builtin "object.__class__")))
    (h251 : PySem.W.mroIn K c_Later (.type "object") = some true)
    (h252 : PySem.W.plainGet K c_Look Str.empty = true)
    (h253 : PySem.W.hasDictIn K c_Look = true)
    (h254 : PySem.W.plainOver K c_Look = true)
    (h255 : PySem.W.findIn K (.ref c_Look) "__setattr__" = some (some (.builtin "object.__setattr__")))
    (h256 : PySem.W.findIn K (.ref c_Look) "__class__" = some (some (.builtin "object.__class__")))
    (h257 : PySem.W.mroIn K c_Look (.type "object") = some true)
    (h258 : PySem.W.plainGet K c_Now Str.empty = true)
    (h259 : PySem.W.hasDictIn K c_Now = true)
    (h260 : PySem.W.plainOver K c_Now = true)
    (h261 : PySem.W.findIn K (.ref c_Now) "__setattr__" = some (some (.builtin "object.__setattr__")))
    (h262 : PySem.W.findIn K (.ref c_Now) "__class__" = some (some (.builtin "object.__class__")))
    (h263 : PySem.W.mroIn K c_Now (.type "object") = some true)
    (h264 : PySem.W.plainGet K c_Shift Str.empty = true)
    (h265 : PySem.W.hasDictIn K c_Shift = true)
    (h266 : PySem.W.plainOver K c_Shift = true)
    (h267 : PySem.W.findIn K (.ref c_Shift) "__setattr__" = some (some (.builtin "object.__setattr__")))
    (h268 : PySem.W.findIn K (.ref c_Shift) "__class__" = some (some (.builtin "object.__class__")))
    (h269 : PySem.W.mroIn K c_Shift (.type "object") = some true)
    (h270 : PySem.W.plainGet K c_World Str.empty = true)
    (h271 : PySem.W.hasDictIn K c_World = true)
    (h272 : PySem.W.plainOver K c_World = true)
    (h273 : PySem.W.findIn K (.ref c_World) "__setattr__" = some (some (.builtin "object.__setattr__")))
    (h274 : PySem.W.findIn K (.ref c_World) "__class__" = some (some (.builtin "object.__class__")))
    (h275 : PySem.W.mroIn K c_World (.type "object") = some true)
    (h276 : PySem.W.makesIn K c_Look = true)
    (h277 : PySem.W.isFn K (.ref f39) = true)
    (h278 : PySem.W.keepIn K (.ref c_Look) = true)
    (h279 : PySem.W.makesIn K c_Now = true)
    (h280 : PySem.W.isFn K (.ref f35) = true)
    (h281 : PySem.W.keepIn K (.ref c_Now) = true)
    (h282 : PySem.W.makesIn K c_Shift = true)
    (h283 : PySem.W.isFn K (.ref f36) = true)
    (h284 : PySem.W.keepIn K (.ref c_Shift) = true)
    (h285 : PySem.W.makesIn K c_World = true)
    (h286 : PySem.W.isFn K (.ref f26) = true)
    (h287 : PySem.W.keepIn K (.ref c_World) = true)
    (h288 : PySem.W.isFn K (.ref f47) = true)
    (h289 : PySem.W.keepIn K (.ref f47) = true)
    (h290 : PySem.W.isFn K (.ref f46) = true)
    (h291 : PySem.W.keepIn K (.ref f46) = true)
    (h292 : PySem.W.isFn K (.ref f43) = true)
    (h293 : PySem.W.keepIn K (.ref f43) = true)
    (h294 : PySem.W.isFn K (.ref f42) = true)
    (h295 : PySem.W.keepIn K (.ref f42) = true)
    (h296 : PySem.W.isFn K (.ref f45) = true)
    (h297 : PySem.W.keepIn K (.ref f45) = true)
    (h298 : PySem.W.isFn K (.ref f44) = true)
    (h299 : PySem.W.keepIn K (.ref f44) = true)
    (h300 : PySem.W.isFn K (.ref f41) = true)
    (h301 : PySem.W.keepIn K (.ref f41) = true)
    (h302 : PySem.W.isFn K (.ref f40) = true)
    (h303 : PySem.W.keepIn K (.ref f40) = true)
    (h304 : PySem.W.findIn K (.ref c_Now) "answer_in" = some (some (.ref f34)))
    (h305 : PySem.W.isFn K (.ref f34) = true)
    (h306 : PySem.W.keepIn K (.ref f34) = true)
    (h307 : PySem.W.findIn K (.ref c_Now) "form" = some (some (.ref f33)))
    (h308 : PySem.W.isFn K (.ref f33) = true)
    (h309 : PySem.W.keepIn K (.ref f33) = true)
    (h310 : PySem.W.isFn K (.ref f38) = true)
    (h311 : PySem.W.keepIn K (.ref f38) = true)
    (h312 : PySem.W.isFn K (.ref f37) = true)
    (h313 : PySem.W.keepIn K (.ref f37) = true)
    (h314 : PySem.W.findIn K (.ref c_Earlier) "choices" = some none)
    (h315 : PySem.W.findIn K (.ref c_Earlier) "depth" = some none)
    (h316 : PySem.W.findIn K (.ref c_Earlier) "first" = some none)
    (h317 : PySem.W.findIn K (.ref c_Earlier) "looks" = some none)
    (h318 : PySem.W.findIn K (.ref c_Earlier) "parts" = some none)
    (h319 : PySem.W.findIn K (.ref c_Earlier) "second" = some none)
    (h320 : PySem.W.findIn K (.ref c_Either) "choices" = some none)
    (h321 : PySem.W.findIn K (.ref c_Either) "depth" = some none)
    (h322 : PySem.W.findIn K (.ref c_Either) "first" = some none)
    (h323 : PySem.W.findIn K (.ref c_Either) "looks" = some none)
    (h324 : PySem.W.findIn K (.ref c_Either) "parts" = some none)
    (h325 : PySem.W.findIn K (.ref c_Either) "second" = some none)
    (h326 : PySem.W.findIn K (.ref c_Later) "choices" = some none)
    (h327 : PySem.W.findIn K (.ref c_Later) "depth" = some none)
    (h328 : PySem.W.findIn K (.ref c_Later) "first" = some none)
    (h329 : PySem.W.findIn K (.ref c_Later) "looks" = some none)
    (h330 : PySem.W.findIn K (.ref c_Later) "parts" = some none)
    (h331 : PySem.W.findIn K (.ref c_Later) "second" = some none)
    (h332 : PySem.W.findIn K (.ref c_Look) "choices" = some none)
    (h333 : PySem.W.findIn K (.ref c_Look) "depth" = some none)
    (h334 : PySem.W.findIn K (.ref c_Look) "looks" = some none)
    (h335 : PySem.W.findIn K (.ref c_Look) "moment" = some none)
    (h336 : PySem.W.findIn K (.ref c_Look) "parts" = some none)
    (h337 : PySem.W.findIn K (.ref c_Look) "stream" = some none)
    (h338 : PySem.W.findIn K (.ref c_Look) "way" = some none)
    (h339 : PySem.W.findIn K (.ref c_Look) "within" = some none)
    (h340 : PySem.W.findIn K (.ref c_Now) "choices" = some none)
    (h341 : PySem.W.findIn K (.ref c_Now) "depth" = some none)
    (h342 : PySem.W.findIn K (.ref c_Now) "looks" = some none)
    (h343 : PySem.W.findIn K (.ref c_Now) "parts" = some none)
    (h344 : PySem.W.findIn K (.ref c_Shift) "amount" = some none)
    (h345 : PySem.W.findIn K (.ref c_Shift) "choices" = some none)
    (h346 : PySem.W.findIn K (.ref c_Shift) "depth" = some none)
    (h347 : PySem.W.findIn K (.ref c_Shift) "looks" = some none)
    (h348 : PySem.W.findIn K (.ref c_Shift) "moment" = some none)
    (h349 : PySem.W.findIn K (.ref c_Shift) "parts" = some none)
    (h350 : PySem.W.findIn K (.ref c_World) "pairs" = some none)
    (h351 : PySem.W.mroIn K c_Look (.ref c_Look) = some true)
    (h352 : PySem.W.ks_superIn K c_Look c_Look "__init__" = some (some (.ref f28)))
    (h353 : PySem.W.mroIn K c_Now (.ref c_Now) = some true)
    (h354 : PySem.W.ks_superIn K c_Now c_Now "__init__" = some (some (.ref f28)))
    (h355 : PySem.W.mroIn K c_Shift (.ref c_Shift) = some true)
    (h356 : PySem.W.ks_superIn K c_Shift c_Shift "__init__" = some (some (.ref f28)))
    (h357 : PySem.W.selfFirst K c_Now = true)
    (h358 : PySem.W.findIn K (.ref c_Now) "__add__" = some (some (.ref f29)))
    (h359 : PySem.W.isFn K (.ref f29) = true)
    (h360 : PySem.W.findIn K (.ref c_Now) "__radd__" = some none)
    (h361 : PySem.W.findIn K (.type "int") "__add__" = some fo361)
    (h362 : PySem.W.findIn K (.type "int") "__radd__" = some ro361)
    (h363 : PySem.W.subIn K (.type "int") (.ref c_Now) = some false)
    (h364 : PySem.W.fnIn K f27 = true)
    (h365 : PySem.W.isFn K (.ref f27) = true)
    (h366 : PySem.W.kitOne K (.ref c_Earlier) (.ref c_Look) = some false)
    (h367 : PySem.W.kitOne K (.ref c_Earlier) (.ref c_Shift) = some false)
    (h368 : PySem.W.kitOne K (.ref c_Earlier) (.ref c_Term) = some true)
    (h369 : PySem.W.kitOne K (.ref c_Either) (.ref c_Look) = some false)
    (h370 : PySem.W.kitOne K (.ref c_Either) (.ref c_Shift) = some false)
    (h371 : PySem.W.kitOne K (.ref c_Either) (.ref c_Term) = some true)
    (h372 : PySem.W.kitOne K (.ref c_Later) (.ref c_Look) = some false)
    (h373 : PySem.W.kitOne K (.ref c_Later) (.ref c_Shift) = some false)
    (h374 : PySem.W.kitOne K (.ref c_Later) (.ref c_Term) = some true)
    (h375 : PySem.W.kitOne K (.ref c_Look) (.ref c_Look) = some true)
    (h376 : PySem.W.kitOne K (.ref c_Look) (.ref c_Shift) = some false)
    (h377 : PySem.W.kitOne K (.ref c_Look) (.ref c_Term) = some true)
    (h378 : PySem.W.kitOne K (.ref c_Now) (.ref c_Look) = some false)
    (h379 : PySem.W.kitOne K (.ref c_Now) (.ref c_Shift) = some false)
    (h380 : PySem.W.kitOne K (.ref c_Now) (.ref c_Term) = some true)
    (h381 : PySem.W.kitOne K (.ref c_Shift) (.ref c_Look) = some false)
    (h382 : PySem.W.kitOne K (.ref c_Shift) (.ref c_Shift) = some true)
    (h383 : PySem.W.kitOne K (.ref c_Shift) (.ref c_Term) = some true)
    (h384 : PySem.W.kitOne K (.ref c_World) (.ref c_World) = some true)
    (h385 : PySem.W.kitAny K (.ref c_Earlier) [.ref c_Look, .ref c_Later, .ref c_Earlier] = some true)
    (h386 : PySem.W.kitAny K (.ref c_Either) [.ref c_Look, .ref c_Later, .ref c_Earlier] = some false)
    (h387 : PySem.W.kitAny K (.ref c_Later) [.ref c_Look, .ref c_Later, .ref c_Earlier] = some true)
    (h388 : PySem.W.kitAny K (.ref c_Look) [.ref c_Look, .ref c_Later, .ref c_Earlier] = some true)
    (h389 : PySem.W.kitAny K (.ref c_Now) [.ref c_Look, .ref c_Later, .ref c_Earlier] = some false)
    (h390 : PySem.W.kitAny K (.ref c_Shift) [.ref c_Look, .ref c_Later, .ref c_Earlier] = some false)
    (h391 : PySem.W.findIn K (.ref c_Earlier) "__call__" = some (some (.ref f32)))
    (h392 : PySem.W.isFn K (.ref f32) = true)
    (h393 : PySem.W.fnIn K f32 = true)
    (h394 : PySem.W.findIn K (.ref c_Either) "__call__" = some (some (.ref f32)))
    (h395 : PySem.W.isFn K (.ref f32) = true)
    (h396 : PySem.W.fnIn K f32 = true)
    (h397 : PySem.W.findIn K (.ref c_Later) "__call__" = some (some (.ref f32)))
    (h398 : PySem.W.isFn K (.ref f32) = true)
    (h399 : PySem.W.fnIn K f32 = true)
    (h400 : PySem.W.findIn K (.ref c_Look) "__call__" = some (some (.ref f32)))
    (h401 : PySem.W.isFn K (.ref f32) = true)
    (h402 : PySem.W.fnIn K f32 = true)
    (h403 : PySem.W.findIn K (.ref c_Now) "__call__" = some (some (.ref f32)))
    (h404 : PySem.W.isFn K (.ref f32) = true)
    (h405 : PySem.W.fnIn K f32 = true)
    (h406 : PySem.W.findIn K (.ref c_Shift) "__call__" = some (some (.ref f32)))
    (h407 : PySem.W.isFn K (.ref f32) = true)
    (h408 : PySem.W.fnIn K f32 = true)
    (h409 : PySem.W.nsIn K mainGlobals "isinstance" = some none)
    (h410 : PySem.W.nsIn K mainGlobals "bool" = some none)
    (h411 : PySem.W.nsIn K mainGlobals "int" = some none)
    (h412 : PySem.W.nsIn K mainGlobals "len" = some none)
    (h413 : PySem.W.nsIn K mainGlobals "str" = some none)
    (h414 : PySem.W.nsIn K mainGlobals "set" = some none)
    (h415 : PySem.W.nsIn K mainGlobals "list" = some none)
    (h416 : PySem.W.nsIn K mainGlobals "sorted" = some none)
    (h417 : PySem.W.nsIn K mainGlobals "sum" = some none)
    (h418 : PySem.W.nsIn K mainGlobals "max" = some none)
    (h419 : PySem.W.nsIn K mainGlobals "super" = some none)
    (h420 : PySem.W.nsIn K mainGlobals "min" = some none)
    (h421 : PySem.W.nsIn K mainGlobals "abs" = some none)
    (h422 : PySem.W.nsIn K mainGlobals "range" = some none) :
    ∃ T : Txt l.prog K mg, T.law.f = fa ∧ ∀ (s : Shared) (v : Value), BindsTo s T.law.fd ⟨[v], []⟩ [("_law_script", v)] := by
  have e := hfa.symm.trans (PySem.W.mg_of X G h115)
  cases e
  have F0 := fun_mk (st := s_is_integer) h16 h17 h18
  have b0 := F0.binds (ps := ["value"]) fun _ _ _ _ _ _ us hl => match us, hl with | [_], _ => rfl
  have F1 := fun_mk (st := s_is_from_zero) h20 h21 h22
  have b1 := F1.binds (ps := ["value"]) fun _ _ _ _ _ _ us hl => match us, hl with | [_], _ => rfl
  have F2 := fun_mk (st := s_is_name) h24 h25 h26
  have b2 := F2.binds (ps := ["name"]) fun _ _ _ _ _ _ us hl => match us, hl with | [_], _ => rfl
  have F3 := fun_mk (st := s_check_name) h28 h29 h30
  have b3 := F3.binds (ps := ["name"]) fun _ _ _ _ _ _ us hl => match us, hl with | [_], _ => rfl
  have F4 := fun_mk (st := s_check_moment) h32 h33 h34
  have b4 := F4.binds (ps := ["value"]) fun _ _ _ _ _ _ us hl => match us, hl with | [_], _ => rfl
  have F5 := fun_mk (st := s_check_bound) h36 h37 h38
  have b5 := F5.binds (ps := ["value"]) fun _ _ _ _ _ _ us hl => match us, hl with | [_], _ => rfl
  have F6 := fun_mk (st := s_check_limit) h40 h41 h42
  have b6 := F6.binds (ps := ["value"]) fun _ _ _ _ _ _ us hl => match us, hl with | [_], _ => rfl
  have F7 := fun_mk (st := s_check_rows) h44 h45 h46
  have b7 := F7.binds (ps := ["name", "moments"]) fun _ _ _ _ _ _ us hl => match us, hl with | [_, _], _ => rfl
  have F8 := fun_mk (st := s_limited) h48 h49 h50
  have b8 := F8.binds (ps := ["pairs"]) fun _ _ _ _ _ _ us hl => match us, hl with | [_], _ => rfl
  have F9 := fun_mk (st := s_checked_pairs) h52 h53 h54
  have b9 := F9.binds (ps := ["rows"]) fun _ _ _ _ _ _ us hl => match us, hl with | [_], _ => rfl
  have F10 := fun_mk (st := s_check_world) h56 h57 h58
  have b10 := F10.binds (ps := ["value"]) fun _ _ _ _ _ _ us hl => match us, hl with | [_], _ => rfl
  have F11 := fun_mk (st := s_shifted) h60 h61 h62
  have b11 := F11.binds (ps := ["term", "amount"]) fun _ _ _ _ _ _ us hl => match us, hl with | [_, _], _ => rfl
  have F12 := fun_mk (st := s_fits) h64 h65 h66
  have b12 := F12.binds (ps := ["row", "moment", "way"]) fun _ _ _ _ _ _ us hl => match us, hl with | [_, _, _], _ => rfl
  have F13 := fun_mk (st := s_looked_up) h68 h69 h70
  have b13 := F13.binds (ps := ["moments", "moment", "way", "within"]) fun _ _ _ _ _ _ us hl => match us, hl with | [_, _, _, _], _ => rfl
  have F14 := fun_mk (st := s_check_term) h72 h73 h74
  have b14 := F14.binds (ps := ["value"]) fun _ _ _ _ _ _ us hl => match us, hl with | [_], _ => rfl
  have F15 := fun_mk (st := s_told) h76 h77 h78
  have b15 := F15.binds (ps := ["term", "world", "now"]) fun _ _ _ _ _ _ us hl => match us, hl with | [_, _, _], _ => rfl
  have F16 := fun_mk (st := s_law_open) h80 h81 h82
  have b16 := F16.binds (ps := ["_law_script"]) fun _ _ _ _ _ _ us hl => match us, hl with | [_], _ => rfl
  have F17 := fun_mk (st := s_law_pick) h84 h85 h86
  have b17 := F17.binds (ps := ["_law_box", "_law_many"]) fun _ _ _ _ _ _ us hl => match us, hl with | [_, _], _ => rfl
  have F18 := fun_mk (st := s_law_number) h88 h89 h90
  have b18 := F18.binds (ps := ["_law_box"]) fun _ _ _ _ _ _ us hl => match us, hl with | [_], _ => rfl
  have F19 := fun_mk (st := s_law_limit) h92 h93 h94
  have b19 := F19.binds (ps := ["_law_box"]) fun _ _ _ _ _ _ us hl => match us, hl with | [_], _ => rfl
  have F20 := fun_mk (st := s_law_names) h96 h97 h98
  have b20 := F20.binds (ps := ["_law_box", "_law_many"]) fun _ _ _ _ _ _ us hl => match us, hl with | [_, _], _ => rfl
  have F21 := fun_mk (st := s_law_moments) h100 h101 h102
  have b21 := F21.binds (ps := ["_law_box", "_law_most"]) fun _ _ _ _ _ _ us hl => match us, hl with | [_, _], _ => rfl
  have F22 := fun_mk (st := s_law_is_integer) h104 h105 h106
  have b22 := F22.binds (ps := ["_law_thing"]) fun _ _ _ _ _ _ us hl => match us, hl with | [_], _ => rfl
  have F23 := fun_mk (st := s_law_answer) h108 h109 h110
  have b23 := F23.binds (ps := ["_law_thing", "_law_due"]) fun _ _ _ _ _ _ us hl => match us, hl with | [_, _], _ => rfl
  have F24 := fun_mk (st := s_law_negated) h112 h113 h114
  have b24 := F24.binds (ps := ["_law_moments_here"]) fun _ _ _ _ _ _ us hl => match us, hl with | [_], _ => rfl
  have F25 := fun_mk (st := s_law) h116 h117 h118
  have b25 := F25.binds (ps := ["_law_script"]) fun _ _ _ _ _ _ us hl => match us, hl with | [_], _ => rfl
  have FD26 : FunD K "__init__" "World.__init__" (defArgs s_World_init) (defBody s_World_init) (defScope s_World_init) [.non] [] f26 _ := ⟨⟨_, _, _, _, _, _, _, _, _, _, rfl, h120, h121, .inr ⟨by simp, T26, _, [.none], _, rfl, h123, rfl, .cons rfl .nil⟩, .inl rfl⟩, h122⟩
  obtain ⟨ds26, rd26, bd26⟩ := FD26.binds1 (ps := ["self", "rows"]) 2 1 (by simp) rfl (fun _ _ _ _ _ _ _ us its h1 h2 => match us, its, h1, h2 with | [_, _], [_], _, _ => ⟨_, rfl, rfl⟩)
  cases rd26
  have F27 := fun_mk (st := s_World_getitem) h125 h126 h127
  have b27 := F27.binds (ps := ["self", "name"]) fun _ _ _ _ _ _ us hl => match us, hl with | [_, _], _ => rfl
  have F29 := fun_mk (st := s_Term_add) h133 h134 h135
  have b29 := F29.binds (ps := ["self", "amount"]) fun _ _ _ _ _ _ us hl => match us, hl with | [_, _], _ => rfl
  have F30 := fun_mk (st := s_Term_sub) h137 h138 h139
  have b30 := F30.binds (ps := ["self", "amount"]) fun _ _ _ _ _ _ us hl => match us, hl with | [_, _], _ => rfl
  have F31 := fun_mk (st := s_Term_eq) h141 h142 h143
  have b31 := F31.binds (ps := ["self", "other"]) fun _ _ _ _ _ _ us hl => match us, hl with | [_, _], _ => rfl
  have F32 := fun_mk (st := s_Term_call) h145 h146 h147
  have b32 := F32.binds (ps := ["self", "world", "now"]) fun _ _ _ _ _ _ us hl => match us, hl with | [_, _, _], _ => rfl
  have F33 := fun_mk (st := s_Term_form) h149 h150 h151
  have b33 := F33.binds (ps := ["self"]) fun _ _ _ _ _ _ us hl => match us, hl with | [_], _ => rfl
  have F34 := fun_mk (st := s_Term_answer_in) h153 h154 h155
  have b34 := F34.binds (ps := ["self", "world", "now"]) fun _ _ _ _ _ _ us hl => match us, hl with | [_, _, _], _ => rfl
  have F37 := fun_mk (st := s_Shift_form) h181 h182 h183
  have b37 := F37.binds (ps := ["self"]) fun _ _ _ _ _ _ us hl => match us, hl with | [_], _ => rfl
  have F38 := fun_mk (st := s_Shift_answer_in) h185 h186 h187
  have b38 := F38.binds (ps := ["self", "world", "now"]) fun _ _ _ _ _ _ us hl => match us, hl with | [_, _, _], _ => rfl
  have F40 := fun_mk (st := s_Look_form) h201 h202 h203
  have b40 := F40.binds (ps := ["self"]) fun _ _ _ _ _ _ us hl => match us, hl with | [_], _ => rfl
  have F41 := fun_mk (st := s_Look_answer_in) h205 h206 h207
  have b41 := F41.binds (ps := ["self", "world", "now"]) fun _ _ _ _ _ _ us hl => match us, hl with | [_, _, _], _ => rfl
  have F42 := fun_mk (st := s_Either_form) h209 h210 h211
  have b42 := F42.binds (ps := ["self"]) fun _ _ _ _ _ _ us hl => match us, hl with | [_], _ => rfl
  have F43 := fun_mk (st := s_Either_answer_in) h213 h214 h215
  have b43 := F43.binds (ps := ["self", "world", "now"]) fun _ _ _ _ _ _ us hl => match us, hl with | [_, _, _], _ => rfl
  have F44 := fun_mk (st := s_Later_form) h217 h218 h219
  have b44 := F44.binds (ps := ["self"]) fun _ _ _ _ _ _ us hl => match us, hl with | [_], _ => rfl
  have F45 := fun_mk (st := s_Later_answer_in) h221 h222 h223
  have b45 := F45.binds (ps := ["self", "world", "now"]) fun _ _ _ _ _ _ us hl => match us, hl with | [_, _, _], _ => rfl
  have F46 := fun_mk (st := s_Earlier_form) h225 h226 h227
  have b46 := F46.binds (ps := ["self"]) fun _ _ _ _ _ _ us hl => match us, hl with | [_], _ => rfl
  have F47 := fun_mk (st := s_Earlier_answer_in) h229 h230 h231
  have b47 := F47.binds (ps := ["self", "world", "now"]) fun _ _ _ _ _ _ us hl => match us, hl with | [_, _, _], _ => rfl
  exact ⟨⟨c_World, PySem.W.mg_of X G h0, c_Term, PySem.W.mg_of X G h1, c_Now, PySem.W.mg_of X G h2, c_Shift, PySem.W.mg_of X G h3, c_Look, PySem.W.mg_of X G h4, c_Either, PySem.W.mg_of X G h5, c_Later, PySem.W.mg_of X G h6, c_Earlier, PySem.W.mg_of X G h7, a_WAYS, PySem.W.mg_of X G h8, fun H => .inr ⟨_, _, _, h9, rfl, rfl, (by show _ ≤ sizeLine; exact Nat.le_trans (m := 100) (by simp) (by decide)), (.cons ⟨_, rfl⟩ (.cons ⟨_, rfl⟩ (.cons ⟨_, rfl⟩ (.cons ⟨_, rfl⟩ .nil))))⟩, u_DEEPEST, PySem.W.mg_of X G h10, u_LETTERS, PySem.W.mg_of X G h11, u_MOST_LOOKS, PySem.W.mg_of X G h12, u_MOST_PARTS, PySem.W.mg_of X G h13, u_MOST_ROWS, PySem.W.mg_of X G h14, ⟨_, _, F0, b0, PySem.W.mg_of X G h15⟩, ⟨_, _, F1, b1, PySem.W.mg_of X G h19⟩, ⟨_, _, F2, b2, PySem.W.mg_of X G h23⟩, ⟨_, _, F3, b3, PySem.W.mg_of X G h27⟩, ⟨_, _, F4, b4, PySem.W.mg_of X G h31⟩, ⟨_, _, F5, b5, PySem.W.mg_of X G h35⟩, ⟨_, _, F6, b6, PySem.W.mg_of X G h39⟩, ⟨_, _, F7, b7, PySem.W.mg_of X G h43⟩, ⟨_, _, F8, b8, PySem.W.mg_of X G h47⟩, ⟨_, _, F9, b9, PySem.W.mg_of X G h51⟩, ⟨_, _, F10, b10, PySem.W.mg_of X G h55⟩, ⟨_, _, F11, b11, PySem.W.mg_of X G h59⟩, ⟨_, _, F12, b12, PySem.W.mg_of X G h63⟩, ⟨_, _, F13, b13, PySem.W.mg_of X G h67⟩, ⟨_, _, F14, b14, PySem.W.mg_of X G h71⟩, ⟨_, _, F15, b15, PySem.W.mg_of X G h75⟩, ⟨_, _, F16, b16, PySem.W.mg_of X G h79⟩, ⟨_, _, F17, b17, PySem.W.mg_of X G h83⟩, ⟨_, _, F18, b18, PySem.W.mg_of X G h87⟩, ⟨_, _, F19, b19, PySem.W.mg_of X G h91⟩, ⟨_, _, F20, b20, PySem.W.mg_of X G h95⟩, ⟨_, _, F21, b21, PySem.W.mg_of X G h99⟩, ⟨_, _, F22, b22, PySem.W.mg_of X G h103⟩, ⟨_, _, F23, b23, PySem.W.mg_of X G h107⟩, ⟨_, _, F24, b24, PySem.W.mg_of X G h111⟩, ⟨_, _, F25, b25, PySem.W.mg_of X G h115⟩, ⟨f26, _, ⟨_, _, _, _, _, _, _, _, _, _, rfl, h120, h121⟩, bd26⟩, ⟨f27, _, F27, b27⟩, ⟨f28, _, fun_mk (st := s_Term_init) h129 h130 h131⟩, ⟨f29, _, F29, b29⟩, ⟨f30, _, F30, b30⟩, ⟨f31, _, F31, b31⟩, ⟨f32, _, F32, b32⟩, ⟨f33, _, F33, b33⟩, ⟨f34, _, F34, b34⟩, ⟨f35, cc35, cd35, ⟨_, _, _, _, _, _, _, _, h157⟩, h158, h159, ⟨rfl, ⟨_, _, _, h160⟩, ⟨_, h161⟩, ⟨_, _, _, _, _, _, h162, h163, hfile⟩, h164, h165, h166, h167, htop, (by show (defScope s_Now_init).names.lookup ("super" : Str) = _; decide +kernel), (by show (defScope s_Now_init).names.lookup ("__class__" : Str) = _; decide +kernel), by decide⟩⟩, ⟨f36, cc36, cd36, ⟨_, _, _, _, _, _, _, _, h169⟩, h170, h171, ⟨rfl, ⟨_, _, _, h172⟩, ⟨_, h173⟩, ⟨_, _, _, _, _, _, h174, h175, hfile⟩, h176, h177, h178, h179, htop, (by show (defScope s_Shift_init).names.lookup ("super" : Str) = _; decide +kernel), (by show (defScope s_Shift_init).names.lookup ("__class__" : Str) = _; decide +kernel), by decide⟩⟩, ⟨f37, _, F37, b37⟩, ⟨f38, _, F38, b38⟩, ⟨f39, cc39, cd39, ⟨_, _, _, _, _, _, _, _, h189⟩, h190, h191, ⟨rfl, ⟨_, _, _, h192⟩, ⟨_, h193⟩, ⟨_, _, _, _, _, _, h194, h195, hfile⟩, h196, h197, h198, h199, htop, (by show (defScope s_Look_init).names.lookup ("super" : Str) = _; decide +kernel), (by show (defScope s_Look_init).names.lookup ("__class__" : Str) = _; decide +kernel), by decide⟩⟩, ⟨f40, _, F40, b40⟩, ⟨f41, _, F41, b41⟩, ⟨f42, _, F42, b42⟩, ⟨f43, _, F43, b43⟩, ⟨f44, _, F44, b44⟩, ⟨f45, _, F45, b45⟩, ⟨f46, _, F46, b46⟩, ⟨f47, _, F47, b47⟩, ⟨⟨h234, h235, h236, h237⟩, h238, h232, h233, h239⟩, ⟨⟨h240, h241, h242, h243⟩, h244, h232, h233, h245⟩, ⟨⟨h246, h247, h248, h249⟩, h250, h232, h233, h251⟩, ⟨⟨h252, h253, h254, h255⟩, h256, h232, h233, h257⟩, ⟨⟨h258, h259, h260, h261⟩, h262, h232, h233, h263⟩, ⟨⟨h264, h265, h266, h267⟩, h268, h232, h233, h269⟩, ⟨⟨h270, h271, h272, h273⟩, h274, h232, h233, h275⟩, ⟨h276, h188, h277, h278⟩, ⟨h279, h156, h280, h281⟩, ⟨h282, h168, h283, h284⟩, ⟨h285, h119, h286, h287⟩, ⟨h228, h288, h289⟩, ⟨h224, h290, h291⟩, ⟨h212, h292, h293⟩, ⟨h208, h294, h295⟩, ⟨h220, h296, h297⟩, ⟨h216, h298, h299⟩, ⟨h204, h300, h301⟩, ⟨h200, h302, h303⟩, ⟨h304, h305, h306⟩, ⟨h307, h308, h309⟩, ⟨h184, h310, h311⟩, ⟨h180, h312, h313⟩, h314, h315, h316, h317, h318, h319, h320, h321, h322, h323, h324, h325, h326, h327, h328, h329, h330, h331, h332, h333, h334, h335, h336, h337, h338, h339, h340, h341, h342, h343, h344, h345, h346, h347, h348, h349, h350, ⟨h351, h352⟩, ⟨h353, h354⟩, ⟨h355, h356⟩, ⟨h357, h358, h359, h360, (Option.isSome_iff_exists.mpr ⟨_, h361⟩), (Option.isSome_iff_exists.mpr ⟨_, h362⟩), h363⟩, ⟨h124, h364, h365⟩, h366, h367, h368, h369, h370, h371, h372, h373, h374, h375, h376, h377, h378, h379, h380, h381, h382, h383, h384, h385, h386, h387, h388, h389, h390, ⟨h391, h392, h393⟩, ⟨h394, h395, h396⟩, ⟨h397, h398, h399⟩, ⟨h400, h401, h402⟩, ⟨h403, h404, h405⟩, ⟨h406, h407, h408⟩, PySem.W.mg_none_of X G h409, PySem.W.mg_none_of X G h410, PySem.W.mg_none_of X G h411, PySem.W.mg_none_of X G h412, PySem.W.mg_none_of X G h413, PySem.W.mg_none_of X G h414, PySem.W.mg_none_of X G h415, PySem.W.mg_none_of X G h416, PySem.W.mg_none_of X G h417, PySem.W.mg_none_of X G h418, PySem.W.mg_none_of X G h419, PySem.W.mg_none_of X G h420, PySem.W.mg_none_of X G h421, PySem.W.mg_none_of X G h422⟩, rfl, fun s v => .of_eq rfl⟩
end Pl

set_option Elab.async false
set_option linter.all false
set_option maxRecDepth 100000
set_option maxHeartbeats 4000000
/-! sorted over data, max with a default, C() -/
namespace Pl
open PySem PySem.Spec PyProof.Rows L2
section
variable {X : Cx}
/-- xs reads as data, item by item -/
def RdAll (K : PySem.W.Frag) (H : Hp) {β : Type} (enc : β → PyData) (vs : List V) (bs : List β) : Prop := vs.length = bs.length ∧ ∀ (i : Nat) (v : V) (b : β), vs[i]? = some v → bs[i]? = some b → Dp K H v (enc b)
theorem each_of {R : Value → β → Prop} : ∀ {us : List Value} {bs : List β}, us.length = bs.length → (∀ (i : Nat) u b, us[i]? = some u → bs[i]? = some b → R u b) → PySem.W.EachIs R us bs
  | [], [], _, _ => .nil
  | u :: us, b :: bs, hl, h => .cons (h 0 u b rfl rfl) (each_of (Nat.succ.inj hl) fun i u b h1 h2 => h (i + 1) u b h1 h2)
theorem each_at {R : Value → β → Prop} : ∀ {us : List Value} {bs : List β}, PySem.W.EachIs R us bs → ∀ (i : Nat) u b, us[i]? = some u → bs[i]? = some b → R u b
  | _, _, .cons r _, 0, u, b, h1, h2 => by
    cases h1
    cases h2
    exact r
  | _, _, .cons _ t, i + 1, u, b, h1, h2 => each_at t i u b h1 h2
  | _, _, .nil, _, u, b, h1, _ => by simp at h1
theorem vals_of : ∀ {vs : List V} {us : List Value}, PySem.W.EachIs (fun u v => RelV v u) us vs → Vals vs us
  | _, _, .nil => .nil
  | _, _, .cons r t => .cons r (vals_of t)
theorem each_fst {β : Type} : ∀ {us : List Value} {ps : List (V × β)}, PySem.W.EachIs (fun u (p : V × β) => RelV p.1 u) us ps → Vals (ps.map (·.1)) us
  | _, _, .nil => .nil
  | _, _, .cons r t => .cons r (each_fst t)
/-- sorted(xs): xs a list that reads as alike data -/
def rSortD (K : PySem.W.Frag) {β : Type} (enc : β → PyData) : List V → Hp → VK → Prop := fun xs H Q => ∃ (a : Addr) (ps : List (V × β)), xs = [V.ref a] ∧ SqL K H a (ps.map (·.1)) ∧ ps.length ≤ 100000 ∧ (∀ p ∈ ps, Dp K H p.1 (enc p.2)) ∧
  PySem.W.AllAlike ((ps.map (·.2)).map enc) ∧ PySem.W.Sortable ((ps.map (·.2)).map enc) ∧ (∀ p ∈ ps, (enc p.2).depth ≤ 10) ∧ ∀ q, H q = none → Q (.ref q) (upd H q (.lst ((ps.mergeSort (PySem.W.dataLe false fun p => enc p.2)).map (·.1))))
theorem cr_sortD {β : Type} {enc : β → PyData} (hu : X.A.units + 64 < cLine) : CallR X (.builtin "sorted") (rSortD X.K enc) := by
  intro pins s σ H xs us Q I r h
  obtain ⟨a, ps, rfl, hs, hl, hd, hal, hsr, hdp, q⟩ := h
  obtain ⟨its, rv, hli, _⟩ := I.list hs
  rw [Vals.ref1 r]
  have hle : its.length = ps.length := by rw [← rv.length, List.length_map]
  have rel : ∀ (i : Nat) u p, its[i]? = some u → ps[i]? = some p → RelV p.1 u := fun i u p h1 h2 => by
    obtain ⟨u', hu', r'⟩ := rv.get (i := i) (x := p.1) (by rw [List.getElem?_map, h2]; rfl)
    rw [h1] at hu'
    cases hu'
    exact r'
  have e1 : PySem.W.EachIs (fun u (p : V × β) => RelV p.1 u) its ps := each_of hle rel
  have e2 : PySem.W.EachIs (fun u (p : V × β) => ∃ as, Reads s.heap u (enc p.2) as) its ps := each_of hle fun i u p h1 h2 => Dp.reads I _ _ _ (hd p (List.mem_of_getElem? h2)) (rel i u p h1 h2)
  have em : (ps.map (·.2)).map enc = ps.map fun p => enc p.2 := by rw [List.map_map]; rfl
  refine PySem.W.sorted_data (bs := ps) (enc := fun p => enc p.2) hli.isList e1 e2 (by rw [← em]; exact hal) (by rw [← em]; exact hsr) (Nat.le_trans hl (by decide)) (fun p hp => by have := hdp p hp; show X.A.units + 2 + (enc p.2).depth < cLine; omega) fun out ho eo => ?_
  obtain ⟨c, hc⟩ := sortedAll_at s.heap its out.toArray
  have fr : H (s.heap.objs.size + 1) = none := I.hok.fresh (Nat.le_succ _)
  refine ⟨.ref (s.heap.objs.size + 1), _, I.laid (t' := s.toks) (fun _ _ => sortedAll_old) (Nat.le_succ _) ?_, rfl, q _ fr⟩
  have hv := each_fst eo
  refine ⟨?_, out, c, hv, hc⟩
  rw [List.length_map, List.length_mergeSort]
  exact Nat.le_trans hl (by decide)
def mxD (d : Int) : List Int → Int
  | [] => d
  | n :: r => r.foldl max n
/-- max(xs, default=d): a list of numbers -/
def rMaxDef (K : PySem.W.Frag) : List V → List V → Hp → VK → Prop := fun xs zs H Q => ∃ (a : Addr) (ns : List Int) (d : Int), xs = [V.ref a] ∧ zs = [V.int d] ∧ SqL K H a (ns.map V.int) ∧ Q (.int (mxD d ns)) H
theorem dp_ints {K : PySem.W.Frag} {H : Hp} : ∀ ns : List Int, DpAll K H (ns.map V.int) (ns.map PyData.int)
  | [] => .nil
  | n :: ns => .cons (.int n) (dp_ints ns)
theorem crk_maxDef (hc : X.calm = true) (hu : X.A.units + 64 < cLine) : CallRK X (.builtin "max") [("default" : Str)] (rMaxDef X.K) := by
  intro pins s σ H xs zs us ws Q I r1 r2 h
  obtain ⟨a, ns, d, rfl, rfl, hs, q⟩ := h
  obtain ⟨its, rv, hli, _⟩ := I.list hs
  rw [Vals.ref1 r1]
  obtain ⟨w, rfl, rw'⟩ := r2.one
  obtain ⟨t, rfl⟩ := (show ∃ t, w = Value.int d t from rw')
  obtain ⟨as, hr⟩ := Dp.readsAll I _ _ _ (dp_ints ns) rv
  have hdp := PySem.W.depth_ints ns
  refine PySem.W.max_list_default (A := X.A) (xs := ns.map PyData.int) (vs := its.toArray) (I.ok.hd hc) hli.isList hr ?_ ?_ ?_ ?_
  · refine ⟨fun x hx y hy => ?_, fun x hx => ?_⟩
    · obtain ⟨i, _, rfl⟩ := List.mem_map.mp hx
      obtain ⟨j, _, rfl⟩ := List.mem_map.mp hy
      rfl
    · obtain ⟨i, _, rfl⟩ := List.mem_map.mp hx
      intro z
      cases z
  · rw [hdp]
    omega
  · intro e h' tk hk
    have e' : ns = [] := List.map_eq_nil_iff.mp e
    subst e'
    exact ⟨.int d, H, I.kept hk, ⟨_, rfl⟩, q⟩
  · intro y ys i v h' tk bs e hv hr' hk
    cases ns with
    | nil => cases e
    | cons n r =>
      cases e
      rw [PySem.W.maxD_ints] at hr'
      cases hr'
      exact ⟨.int _, H, I.kept hk, ⟨_, rfl⟩, q⟩
/-- C() by a positional promise -/
theorem pe_makeR0 {CX : CXT} {k : Nat} {f C : Addr} {sp : Sp} {E : XK} {x : Str} {p pos : Pos} (M : Mk X.K C f) (F : FnR X.prog X.w X.K X.mg X.base CX k f sp) (hr : Room (k + 1) X.A) (hg : Gl X x) (hm : X.mg x = some (.ref C)) (hx : Passes CX X E) (hdb : (x == ("__debug__" : Str)) = false := by decide) :
    PE X (.Call (.Name x p) [] [] pos) (StX.tMakeR C sp E tNil) := by
  refine ⟨fun pins s σ H Q I h => ?_⟩
  refine wpAny_Call_Name_kw (ld_glob I hg hm ?_ hdb)
  exact PySem.W.callWith_K0 I.kIn M.kp (StX.run_makeR (us := []) M F hr hx I .nil h)
end
end Pl

set_option Elab.async false
set_option linter.all false
set_option maxRecDepth 100000
set_option maxHeartbeats 4000000
/-! Looks and rows in plain words; comprehensions that only read. -/
namespace Pl
open PySem L2
/-! ### looks -/
def fitsB (row m : Int) (way : Str) : Bool := if way = "at" then decide (row ≤ m) else if way = "before" then decide (row < m) else if way = "since" then decide (row ≥ m) else decide (row > m)
def isBack (way : Str) : Bool := decide (way = "at") || decide (way = "before")
def tooFar (row m : Int) : Option Int → Bool
  | none => false
  | some l => decide ((if row - m < 0 then -(row - m) else row - m) > l)
def lookedUp (ms : List Int) (m : Int) (way : Str) (lim : Option Int) : Option Int :=
  match ms.filter (fitsB · m way) with
  | [] => none
  | r :: rs => if tooFar (if isBack way then (r :: rs).getLast (by simp) else r) m lim then none else some (if isBack way then (r :: rs).getLast (by simp) else r)
/-- the row that a look takes -/
structure Best (ms : List Int) (m : Int) (way : Str) (x : Int) : Prop where
  mem : x ∈ ms
  fit : fitsB x m way = true
  top : ∀ y ∈ ms, fitsB y m way = true → if isBack way then y ≤ x else x ≤ y
theorem Best.uniq {ms ms' : List Int} {m : Int} {way : Str} {x y : Int} (h : Best ms m way x) (g : Best ms' m way y) (e : ∀ z, z ∈ ms ↔ z ∈ ms') : x = y := by
  have h1 := h.top y ((e y).mpr g.mem) g.fit
  have h2 := g.top x ((e x).mp h.mem) h.fit
  split at h1
  · rename_i q; rw [if_pos q] at h2; omega
  · rename_i q; rw [if_neg q] at h2; omega
theorem sorted_last {l : List Int} (h : l.Pairwise (· ≤ ·)) (hn : l ≠ []) : ∀ y ∈ l, y ≤ l.getLast hn := by
  induction l with
  | nil => exact absurd rfl hn
  | cons a l ih =>
    cases l with
    | nil =>
      intro y hy
      simp at hy
      subst hy
      exact Int.le_refl _
    | cons b l =>
      rw [List.getLast_cons (by simp)]
      intro y hy
      rw [List.pairwise_cons] at h
      rcases List.mem_cons.mp hy with rfl | hy
      · exact h.1 _ (List.getLast_mem _)
      · exact ih h.2 (by simp) y hy
theorem lookedUp_cases {ms : List Int} (hs : ms.Pairwise (· ≤ ·)) (m : Int) (way : Str) (lim : Option Int) :
    ((∀ y ∈ ms, fitsB y m way = false) ∧ lookedUp ms m way lim = none) ∨ ∃ x, Best ms m way x ∧ lookedUp ms m way lim = if tooFar x m lim then none else some x := by
  unfold lookedUp
  have hf : (ms.filter (fitsB · m way)).Pairwise (· ≤ ·) := hs.filter _
  have hm : ∀ y, y ∈ ms.filter (fitsB · m way) ↔ y ∈ ms ∧ fitsB y m way = true := fun y => List.mem_filter
  generalize ms.filter (fitsB · m way) = l at hf hm
  cases l with
  | nil =>
    refine .inl ⟨fun y hy => ?_, rfl⟩
    cases e : fitsB y m way with
    | false => rfl
    | true => exact absurd ((hm y).mpr ⟨hy, e⟩) (by simp)
  | cons r rs =>
    refine .inr ⟨if isBack way then (r :: rs).getLast (by simp) else r, ?_, rfl⟩
    by_cases hb : isBack way = true
    · rw [if_pos hb]
      have h1 := (hm _).mp (List.getLast_mem (l := r :: rs) (by simp))
      refine ⟨h1.1, h1.2, fun y hy hyf => ?_⟩
      rw [if_pos hb]
      exact sorted_last hf (by simp) y ((hm y).mpr ⟨hy, hyf⟩)
    · rw [if_neg hb]
      have h1 := (hm r).mp (by simp)
      refine ⟨h1.1, h1.2, fun y hy hyf => ?_⟩
      rw [if_neg hb]
      rcases List.mem_cons.mp ((hm y).mpr ⟨hy, hyf⟩) with e | e
      · rw [e]; exact Int.le_refl _
      · exact (List.pairwise_cons.mp hf).1 y e
theorem lookedUp_congr {l l' : List Int} (h : l.Pairwise (· ≤ ·)) (h' : l'.Pairwise (· ≤ ·)) (e : ∀ z, z ∈ l ↔ z ∈ l') (m : Int) (way : Str) (lim : Option Int) : lookedUp l m way lim = lookedUp l' m way lim := by
  rcases lookedUp_cases h m way lim with ⟨a1, a2⟩ | ⟨x, bx, ex⟩
  · rcases lookedUp_cases h' m way lim with ⟨b1, b2⟩ | ⟨y, by_, ey⟩
    · rw [a2, b2]
    · have := a1 y ((e y).mpr by_.mem)
      rw [by_.fit] at this
      cases this
  · rcases lookedUp_cases h' m way lim with ⟨b1, b2⟩ | ⟨y, by_, ey⟩
    · have := b1 x ((e x).mp bx.mem)
      rw [bx.fit] at this
      cases this
    · rw [ex, ey, bx.uniq by_ e]
theorem fits_back {y m : Int} {way : Str} (h : fitsB y m way = true) (hb : isBack way = true) : y ≤ m := by
  unfold fitsB at h
  unfold isBack at hb
  split at h
  · exact of_decide_eq_true h
  · split at h
    · have := of_decide_eq_true h; omega
    · rename_i h1 h2; simp [h1, h2] at hb
theorem fits_fore {y m : Int} {way : Str} (h : fitsB y m way = true) (hb : ¬ isBack way = true) : m ≤ y := by
  unfold fitsB at h
  unfold isBack at hb
  split at h
  · rename_i h1; simp [h1] at hb
  · split at h
    · rename_i h1; simp [h1] at hb
    · split at h
      · have := of_decide_eq_true h; omega
      · have := of_decide_eq_true h; omega
/-! ### rows -/
def rowsOf (ps : List (Str × Int)) (s : Str) : List Int := (ps.filter fun p => decide (p.1 = s)).map (·.2)
def encP : Str × Int → PyData := fun p => .tuple [.str p.1, .int p.2]
def sortP (ps : List (Str × Int)) : List (Str × Int) := ps.mergeSort (PySem.W.dataLe false encP)
def leP (p q : Str × Int) : Prop := p.1.cps.toList < q.1.cps.toList ∨ (p.1 = q.1 ∧ p.2 ≤ q.2)
theorem str_ext {a b : Str} (h : a.cps.toList = b.cps.toList) : a = b := by
  cases a; cases b
  simp only at h
  rw [Array.toList_inj] at h
  rw [h]
theorem dataLt_si (x x' : Str) (y y' : Int) : PySem.W.dataLt (.tuple [.str x, .int y]) (.tuple [.str x', .int y']) = decide (x.cps.toList < x'.cps.toList ∨ (x = x' ∧ y < y')) := by
  rw [PySem.W.dataLt_pair (by simp [PySem.W.alike]) (by simp [PySem.W.alike]), PySem.W.dataLt_int, PySem.W.dataLt_str]
  simp only [PyData.eqv, beq_iff_eq]
  by_cases h1 : x = x'
  · subst h1
    by_cases h2 : y = y' <;> simp [h2, List.lt_irrefl]
  · simp [h1]
theorem dataLe_si (p q : Str × Int) : PySem.W.dataLe false encP p q = true ↔ leP p q := by
  show (!PySem.W.dataLt (.tuple [.str q.1, .int q.2]) (.tuple [.str p.1, .int p.2])) = true ↔ _
  rw [dataLt_si]
  simp only [Bool.not_eq_true', decide_eq_false_iff_not]
  unfold leP
  constructor
  · intro h
    by_cases e : p.1 = q.1
    · exact .inr ⟨e, by
        have : ¬ (q.1 = p.1 ∧ q.2 < p.2) := fun z => h (.inr z)
        have : ¬ q.2 < p.2 := fun z => this ⟨e.symm, z⟩
        omega⟩
    · refine .inl ?_
      have h1 : ¬ q.1.cps.toList < p.1.cps.toList := fun z => h (.inl z)
      have h2 : p.1.cps.toList ≤ q.1.cps.toList := List.not_lt.mp h1
      rcases List.le_iff_lt_or_eq.mp h2 with z | z
      · exact z
      · exact absurd (str_ext z) e
  · rintro (h | ⟨h1, h2⟩) (g | ⟨g1, g2⟩)
    · exact List.lt_irrefl _ (List.lt_trans h g)
    · rw [g1] at h; exact List.lt_irrefl _ h
    · rw [h1] at g; exact List.lt_irrefl _ g
    · omega
theorem leP_trans {p q r : Str × Int} (h : leP p q) (g : leP q r) : leP p r := by
  rcases h with h | ⟨h1, h2⟩
  · rcases g with g | ⟨g1, g2⟩
    · exact .inl (List.lt_trans h g)
    · rw [g1] at h; exact .inl h
  · rcases g with g | ⟨g1, g2⟩
    · rw [← h1] at g; exact .inl g
    · exact .inr ⟨h1.trans g1, by omega⟩
theorem leP_total (p q : Str × Int) : leP p q ∨ leP q p := by
  by_cases e : p.1 = q.1
  · rcases Int.le_total p.2 q.2 with h | h
    · exact .inl (.inr ⟨e, h⟩)
    · exact .inr (.inr ⟨e.symm, h⟩)
  · by_cases h : p.1.cps.toList < q.1.cps.toList
    · exact .inl (.inl h)
    · have h2 : q.1.cps.toList ≤ p.1.cps.toList := List.not_lt.mp h
      rcases List.le_iff_lt_or_eq.mp h2 with z | z
      · exact .inr (.inl z)
      · exact absurd (str_ext z).symm e
theorem sortP_perm (ps : List (Str × Int)) : (sortP ps).Perm ps := List.mergeSort_perm _ _
theorem sortP_pw (ps : List (Str × Int)) : (sortP ps).Pairwise leP := by
  have h := List.pairwise_mergeSort (le := PySem.W.dataLe false encP) (fun a b c h1 h2 => (dataLe_si a c).mpr (leP_trans ((dataLe_si a b).mp h1) ((dataLe_si b c).mp h2))) (fun a b => by
    rw [Bool.or_eq_true]
    rcases leP_total a b with h | h
    · exact .inl ((dataLe_si a b).mpr h)
    · exact .inr ((dataLe_si b a).mpr h)) ps
  exact h.imp fun h => (dataLe_si _ _).mp h
theorem sortP_len (ps : List (Str × Int)) : (sortP ps).length = ps.length := (sortP_perm ps).length_eq
theorem rowsOf_sorted {ps : List (Str × Int)} (h : ps.Pairwise leP) (s : Str) : (rowsOf ps s).Pairwise (· ≤ ·) := by
  unfold rowsOf
  rw [List.pairwise_map]
  refine (List.Pairwise.and_mem.mp (h.filter _)).imp ?_
  rintro a b ⟨ha, hb, hab⟩
  have e1 : a.1 = s := of_decide_eq_true (List.mem_filter.mp ha).2
  have e2 : b.1 = s := of_decide_eq_true (List.mem_filter.mp hb).2
  rcases hab with h | h
  · rw [e1, e2] at h
    exact absurd h (List.lt_irrefl _)
  · exact h.2
theorem rowsOf_perm {ps qs : List (Str × Int)} (h : ps.Perm qs) (s : Str) : (rowsOf ps s).Perm (rowsOf qs s) := (h.filter _).map _
theorem mem_rowsOf {ps : List (Str × Int)} {s : Str} {x : Int} : x ∈ rowsOf ps s ↔ (s, x) ∈ ps := by
  unfold rowsOf
  rw [List.mem_map]
  constructor
  · rintro ⟨⟨a, b⟩, h, rfl⟩
    obtain ⟨h1, h2⟩ := List.mem_filter.mp h
    have : a = s := of_decide_eq_true h2
    subst this
    exact h1
  · intro h
    exact ⟨(s, x), List.mem_filter.mpr ⟨h, decide_eq_true rfl⟩, rfl⟩
/-! ### names, ways, limits, rows as the heap has them -/
abbrev letters : Str := "abcdefghijklmnopqrstuvwxyz"
def goodName (z : Str) : Prop := 1 ≤ z.length ∧ z.length ≤ 12 ∧ ∀ c ∈ z.cps.toList, c ∈ letters.cps.toList
abbrev ways : List Str := ["at", "before", "since", "after"]
def limOk : Option Int → Prop
  | none => True
  | some l => 0 ≤ l
/-- rows: names and lists of numbers -/
abbrev Rws := List (Str × List Int)
def EntAt (H : Hp) (kv : Key × V) (r : Str × List Int) : Prop := kv.1 = .inr r.1 ∧ ∃ a, kv.2 = .ref a ∧ H a = some (.lst (r.2.map V.int))
def EntsAt (H : Hp) (kvs : List (Key × V)) (rs : Rws) : Prop := kvs.length = rs.length ∧ ∀ (i : Nat) kv r, kvs[i]? = some kv → rs[i]? = some r → EntAt H kv r
theorem EntsAt.same {H H' : Hp} {kvs : List (Key × V)} {rs : Rws} (s : Same H H') (h : EntsAt H kvs rs) : EntsAt H' kvs rs := ⟨h.1, fun i kv r h1 h2 => by
  obtain ⟨e, a, e2, ha⟩ := h.2 i kv r h1 h2
  exact ⟨e, a, e2, s _ _ ha⟩⟩
def goodRows (rs : Rws) : Prop := (∀ r ∈ rs, goodName r.1 ∧ r.2.Nodup ∧ r.2.length ≤ 300) ∧ (rs.map fun r => r.2.length).sum ≤ 300
/-- the pairs of a row -/
def prsOf (r : Str × List Int) : List (Str × Int) := r.2.map fun m => (r.1, m)
def PrsAt (H : Hp) (vs : List V) (ps : List (Str × Int)) : Prop := vs.length = ps.length ∧ ∀ (i : Nat) p, ps[i]? = some p → ∃ t, vs[i]? = some (.ref t) ∧ H t = some (.tup [.str p.1, .int p.2])
theorem PrsAt.same {H H' : Hp} {vs : List V} {ps : List (Str × Int)} (s : Same H H') (h : PrsAt H vs ps) : PrsAt H' vs ps := ⟨h.1, fun i p e => by
  obtain ⟨t, e1, e2⟩ := h.2 i p e
  exact ⟨t, e1, s _ _ e2⟩⟩
theorem PrsAt.app {H : Hp} {vs us : List V} {ps qs : List (Str × Int)} (h : PrsAt H vs ps) (g : PrsAt H us qs) : PrsAt H (vs ++ us) (ps ++ qs) := by
  refine ⟨by rw [List.length_append, List.length_append, h.1, g.1], fun i p e => ?_⟩
  rw [List.getElem?_append] at e ⊢
  by_cases hl : i < ps.length
  · rw [if_pos hl] at e
    rw [if_pos (by rw [h.1]; exact hl)]
    exact h.2 i p e
  · rw [if_neg hl] at e
    rw [if_neg (by rw [h.1]; exact hl), h.1]
    exact g.2 _ p e
theorem PrsAt.put {H : Hp} {vs xs : List V} {ps : List (Str × Int)} {D : Addr} {o : HO} (hD : H D = some (.lst xs)) (h : PrsAt H vs ps) : PrsAt (upd H D o) vs ps := ⟨h.1, fun i p e => by
  obtain ⟨t, e1, e2⟩ := h.2 i p e
  refine ⟨t, e1, ?_⟩
  rw [upd_ne (fun z => by rw [z, hD] at e2; cases e2)]
  exact e2⟩
/-- the rows of a name -/
def getR (rs : Rws) (z : Str) : List Int := match rs.find? (fun r => decide (r.1 = z)) with
  | none => []
  | some r => r.2
def wRows (rs : Rws) : List (Str × Int) := sortP (rs.flatMap prsOf)
theorem mem_prs {rs : Rws} {z : Str} {x : Int} : (z, x) ∈ rs.flatMap prsOf ↔ ∃ r ∈ rs, r.1 = z ∧ x ∈ r.2 := by
  rw [List.mem_flatMap]
  constructor
  · rintro ⟨r, h1, h2⟩
    obtain ⟨y, h3, h4⟩ := List.mem_map.mp h2
    cases h4
    exact ⟨r, h1, rfl, h3⟩
  · rintro ⟨r, h1, rfl, h3⟩
    exact ⟨r, h1, List.mem_map.mpr ⟨x, h3, rfl⟩⟩
theorem mem_getR {rs : Rws} (hn : (rs.map (·.1)).Nodup) {z : Str} {x : Int} : x ∈ getR rs z ↔ ∃ r ∈ rs, r.1 = z ∧ x ∈ r.2 := by
  unfold getR
  constructor
  · intro h
    cases e : rs.find? (fun r => decide (r.1 = z)) with
    | none => rw [e] at h; cases h
    | some r =>
      rw [e] at h
      exact ⟨r, List.mem_of_find?_eq_some e, of_decide_eq_true (List.find?_some (p := fun r : Str × List Int => decide (r.1 = z)) e), h⟩
  · rintro ⟨r, h1, h2, h3⟩
    cases e : rs.find? (fun r => decide (r.1 = z)) with
    | none =>
      have := List.find?_eq_none.mp e r h1
      simp [h2] at this
    | some q =>
      have hq := List.mem_of_find?_eq_some e
      have eq : q.1 = z := of_decide_eq_true (List.find?_some (p := fun r : Str × List Int => decide (r.1 = z)) e)
      have : q = r := by
        obtain ⟨i, hi⟩ := List.mem_iff_getElem?.mp hq
        obtain ⟨j, hj⟩ := List.mem_iff_getElem?.mp h1
        have a1 : (rs.map (·.1))[i]? = some z := by rw [List.getElem?_map, hi, ← eq]; rfl
        have a2 : (rs.map (·.1))[j]? = some z := by rw [List.getElem?_map, hj, ← h2]; rfl
        have hl1 := List.getElem?_eq_some_iff.mp a1
        have hl2 := List.getElem?_eq_some_iff.mp a2
        have : i = j := by
          rcases Nat.lt_trichotomy i j with h | h | h
          · exact absurd (hl1.2.trans hl2.2.symm) (List.pairwise_iff_getElem.mp hn i j hl1.1 hl2.1 h)
          · exact h
          · exact absurd (hl2.2.trans hl1.2.symm) (List.pairwise_iff_getElem.mp hn j i hl2.1 hl1.1 h)
        subst this
        rw [hi] at hj
        exact Option.some.inj hj
      rw [this]
      exact h3
theorem mem_world {rs : Rws} (hn : (rs.map (·.1)).Nodup) (z : Str) (x : Int) : x ∈ rowsOf (wRows rs) z ↔ x ∈ getR rs z := by
  rw [mem_rowsOf, mem_getR hn, ← mem_prs]
  exact (sortP_perm _).mem_iff
theorem world_sorted (rs : Rws) (z : Str) : (rowsOf (wRows rs) z).Pairwise (· ≤ ·) := rowsOf_sorted (sortP_pw _) z
theorem wRows_len (rs : Rws) : (wRows rs).length = (rs.map fun r => r.2.length).sum := by
  unfold wRows
  rw [sortP_len]
  induction rs with
  | nil => rfl
  | cons x rs ih =>
    simp only [List.flatMap_cons, List.length_append, List.map_cons, List.sum_cons, ih]
    simp [prsOf]
theorem prs_sort {H : Hp} {us : List V} {ps : List (Str × Int)} (h : PrsAt H us ps) : PrsAt H (((us.zip ps).mergeSort (PySem.W.dataLe false fun p => encP p.2)).map (·.1)) (sortP ps) := by
  have e2 : (us.zip ps).map (·.2) = ps := List.map_snd_zip (by rw [h.1]; exact Nat.le_refl _)
  have e3 : sortP ps = ((us.zip ps).mergeSort (PySem.W.dataLe false fun p => encP p.2)).map (·.2) := by
    have z := List.map_mergeSort (r := PySem.W.dataLe false fun p : V × (Str × Int) => encP p.2) (s := PySem.W.dataLe false encP) (f := fun p : V × (Str × Int) => p.2) (l := us.zip ps) (fun a _ b _ => rfl)
    rw [z, e2]
    rfl
  rw [e3]
  refine ⟨by rw [List.length_map, List.length_map], fun i p e => ?_⟩
  rw [List.getElem?_map] at e ⊢
  cases hz : ((us.zip ps).mergeSort (PySem.W.dataLe false fun p => encP p.2))[i]? with
  | none => rw [hz] at e; cases e
  | some z =>
    rw [hz] at e
    obtain ⟨v, q⟩ := z
    have eq : q = p := Option.some.inj e
    subst eq
    have hm := List.mem_mergeSort.mp (List.mem_of_getElem? hz)
    obtain ⟨j, hj⟩ := List.mem_iff_getElem?.mp hm
    rw [List.getElem?_zip_eq_some] at hj
    obtain ⟨t, t1, t2⟩ := h.2 j q hj.2
    rw [hj.1] at t1
    exact ⟨t, t1, t2⟩
/-! ### what stands beside the box -/
def mn (S : List Addr) (H : Hp) : Hp := fun a => if a ∈ S then none else H a
theorem mn_at {S : List Addr} {H : Hp} {a : Addr} (h : a ∉ S) : mn S H a = H a := if_neg h
theorem mn_in {S : List Addr} {H : Hp} {a : Addr} (h : a ∈ S) : mn S H a = none := if_pos h
theorem mn_same {S : List Addr} {H : Hp} : Same (mn S H) H := fun a o e => by
  unfold mn at e
  split at e
  · cases e
  · exact e
theorem same_mn {S : List Addr} {G H : Hp} (s : Same G H) (h : ∀ a ∈ S, G a = none) : Same G (mn S H) := fun a o e => by
  rw [mn_at (fun z => by rw [h a z] at e; cases e)]
  exact s a o e
/-- S: lists -/
def Lsts (S : List Addr) (H : Hp) : Prop := ∀ a ∈ S, ∃ xs, H a = some (.lst xs)
theorem mn_nl {S : List Addr} {H : Hp} {a : Addr} {o : HO} (hS : Lsts S H) (h : H a = some o) (ho : ∀ xs, o ≠ .lst xs) : mn S H a = some o := by
  rw [mn_at (fun z => by obtain ⟨xs, e⟩ := hS a z; rw [h] at e; exact ho xs (Option.some.inj e))]
  exact h
theorem PrsAt.mn {S : List Addr} {H : Hp} (hS : Lsts S H) {vs : List V} {ps : List (Str × Int)} (h : PrsAt H vs ps) : PrsAt (mn S H) vs ps := ⟨h.1, fun i p e => by
  obtain ⟨t, e1, e2⟩ := h.2 i p e
  exact ⟨t, e1, mn_nl hS e2 (fun _ z => nomatch z)⟩⟩
theorem Wd.lsts {b c : Addr} {G H : Hp} (W : Wd b c G H) : Lsts [b, c] H := fun a ha => by
  obtain ⟨_, cs, k, b1, b2, _⟩ := W.box
  simp only [List.mem_cons, List.not_mem_nil, or_false] at ha
  rcases ha with rfl | rfl
  · exact ⟨_, b1⟩
  · exact ⟨_, b2⟩
theorem Wd.sm {b c : Addr} {G H H' : Hp} (W : Wd b c G H) (s : Same H H') : Wd b c G H' := ⟨W.box.same s, W.gh.trans s, W.gb, W.gc⟩
/-- all but the box is taken among what stays -/
theorem Wd.all {b c : Addr} {G H : Hp} (W : Wd b c G H) : Wd b c (mn [b, c] H) H := ⟨W.box, mn_same, mn_in (by simp), mn_in (by simp)⟩
theorem Wd.allS {b c : Addr} {G H : Hp} (W : Wd b c G H) : Same G (mn [b, c] H) := same_mn W.gh fun a ha => by
  simp only [List.mem_cons, List.not_mem_nil, or_false] at ha
  rcases ha with rfl | rfl
  · exact W.gb
  · exact W.gc
theorem Wd.weak {b c : Addr} {G G' H : Hp} (x : Wd b c G' H) (s : Same G G') : Wd b c G H := ⟨x.box, s.trans x.gh, s.free x.gb, s.free x.gc⟩
/-- what stands at p is taken among what stays -/
theorem Wd.keep {b c p : Addr} {G H : Hp} {o : HO} (x : Wd b c G H) (h : H p = some o) (hb : p ≠ b) (hc : p ≠ c) : Wd b c (upd G p o) H :=
  ⟨x.box, fun a u e => by
    by_cases q : a = p
    · subst q; rw [upd_same] at e; cases e; exact h
    · rw [upd_ne q] at e; exact x.gh a u e, by rw [upd_ne (Ne.symm hb)]; exact x.gb, by rw [upd_ne (Ne.symm hc)]; exact x.gc⟩
theorem Wd.nb {b c p : Addr} {G H : Hp} (x : Wd b c G H) (h : H p = none) : p ≠ b ∧ p ≠ c := by
  obtain ⟨_, h1⟩ := x.box.b
  obtain ⟨_, h2⟩ := x.box.c
  exact ⟨fun e => (by rw [e, h1] at h; cases h), fun e => (by rw [e, h2] at h; cases h)⟩
/-! ### comprehensions that only read and make -/
theorem lc_pure {K : PySem.W.Frag} {a : Addr} {xs : List V} {g : TG} {tt : TT} {te : TE} {vs : List Nat} {σ : St} {H1 : Hp} {D : Addr} {Qd : Hp → Prop} (F : V → Option V) (hS : SqL K H1 a xs) (hD : H1 D = none) (hz : xs.length ≤ 100000)
    (hs : ∀ x H (N : V → Hp → Prop) (N' : Hp → Prop), x ∈ xs → Same H1 H → (∀ y H', Same H H' → F x = some y → N y H') → (∀ H', Same H H' → F x = none → N' H') → g x (wipe σ vs) H fun σ2 H2 => wipe σ2 vs = wipe σ vs ∧ tt σ2 H2 fun b H3 => if b = true then te σ2 H3 N else N' H3)
    (hd : ∀ H', Same H1 H' → H' D = some (.lst (xs.filterMap F)) → Qd H') :
    ∃ W : Nat → Nat → Hp → Prop, (∃ m, W 0 m (upd H1 D (.lst []))) ∧ ∀ i m H, W i m H →
      ((Itl K a).stop i H ∧ Qd H) ∨ ((Itl K a).go i H ∧ ∃ Nx : Hp → Prop, (∀ H', Nx H' → ∃ m', m' < m ∧ W (i + 1) m' H') ∧ ∀ x H', (Itl K a).yld i H x H' → g x (wipe σ vs) H' fun σ2 H2 => wipe σ2 vs = wipe σ vs ∧ tt σ2 H2 fun b H3 =>
        if b = true then te σ2 H3 fun y H4 => ∃ acc, H4 D = some (.lst acc) ∧ acc.length < sizeLine ∧ Nx (upd H4 D (.lst (acc ++ [y]))) else Nx H3) := by
  refine lc_list (K := K) (a := a) (xs := xs) (fun i H' => Same H1 H' ∧ H' D = some (.lst ((xs.take i).filterMap F))) ⟨same_upd hD, upd_same⟩ (fun i H' _ pp => pp.1.seq hS) (fun i x H' hx pp => ?_) (fun H' pp => ?_)
  · obtain ⟨s1, hd1⟩ := pp
    have ht : xs.take (i + 1) = xs.take i ++ [x] := by rw [List.take_add_one, hx]; rfl
    refine hs x H' _ _ (List.mem_of_getElem? hx) s1 (fun y H4 s4 ey => ⟨_, s4 _ _ hd1, ?_, ?_, ?_⟩) (fun H4 s4 ey => ⟨s1.trans s4, ?_⟩)
    · have h1 := List.length_filterMap_le F (xs.take i)
      rw [List.length_take] at h1
      have h2 := (List.getElem?_eq_some_iff.mp hx).1
      exact szl (by omega)
    · exact same_mut (s1.trans s4) hD
    · rw [upd_same, ht, List.filterMap_append]
      simp [List.filterMap, ey]
    · rw [s4 _ _ hd1, ht, List.filterMap_append]
      simp [List.filterMap, ey]
  · rw [List.take_of_length_le (Nat.le_refl _)] at pp
    exact hd H' pp.1 pp.2
end Pl

namespace Pl
open PySem L2
/-! ### tests whose answer is known -/
theorem iT {c : Bool} {A B : Prop} (h : c = true) (x : A) : if c = true then A else B := by rw [if_pos h]; exact x
theorem iF {c : Bool} {A B : Prop} (h : c = false) (x : B) : if c = true then A else B := by rw [if_neg (by rw [h]; exact Bool.false_ne_true)]; exact x
theorem yes_if {σ : St} {H : Hp} {A B : Hp → Prop} (h : A H) : tYes σ H (fun b H3 => if b = true then A H3 else B H3) := by
  show if true = true then A H else B H
  rw [if_pos rfl]
  exact h
def oV : Option Int → V
  | none => .non
  | some x => .int x
def H0 : Hp := fun _ => none
theorem same0 (H : Hp) : Same H0 H := fun _ _ h => nomatch h
theorem Wd.begin {b c : Addr} {H : Hp} (x : BoxAt b c H) : Wd b c H0 H := ⟨x, same0 H, rfl, rfl⟩
section
variable {P : Program} {w : World} {K : PySem.W.Frag} {mg : Str → Option Value} {base : Heap}
def spIsInteger : Sp := fun vs H Q _ => ∃ (v : V) (t : String), vs = [v] ∧ Ty H v t ∧ Q (.bl (isInt v)) H
theorem ok_is_integer (T : Txt P K mg) {k : Nat} : FnOk P w K mg base CX0 (k + 1) T.is_integer.f T.is_integer.fd ["value"] spIsInteger := by
  refine T.is_integer.F.ok sc_is_integer (fun vs H Q E h => ?_) (fun cdv A outer s H vs Q E hr h => ?_)
  · obtain ⟨v, t, rfl, _⟩ := h
    rfl
  · obtain ⟨v, t, rfl, ty, q⟩ := h
    refine ⟨_, (pss_one (ps_ret (pe_and (pe_callB call_isi (by rfl) T.n_isinstance (by decide +kernel) (pa_cons (pv 0) (pa_cons (pe_bltn (v := .ty "int") (by rfl) T.n_int (by decide +kernel) rfl) pa_nil))) (pe_one (pe_not (pe_callB call_isi (by rfl) T.n_isinstance (by decide +kernel) (pa_cons (pv 0) (pa_cons (pe_bltn (v := .ty "bool") (by rfl) T.n_bool (by decide +kernel) rfl) pa_nil)))))))), ?_⟩
    refine ⟨v, rfl, _, _, _, _, _, rfl, .ty "int", ty.x, isI_int ty, _, rfl, ?_⟩
    rw [← isInt_of ty] at q
    cases h1 : tyB t "int" with
    | false =>
      rw [h1] at q
      exact iF rfl q
    | true =>
      rw [h1] at q
      refine iT rfl ⟨v, rfl, _, _, _, _, _, rfl, .ty "bool", ty.x, isI_bool ty, _, rfl, ?_⟩
      rw [Bool.true_and] at q
      exact q
/-- check_moment of a number -/
def spCkMoment : Sp := fun vs H Q _ => ∃ i : Int, vs = [.int i] ∧ Q .non H
theorem ok_check_moment (T : Txt P K mg) {k : Nat} : FnOk P w K mg base CX0 (k + 2) T.check_moment.f T.check_moment.fd ["value"] spCkMoment := by
  have G_is_integer : FnOk P w K mg base CX0 (k + 1) T.is_integer.f T.is_integer.fd ["value"] spIsInteger := ok_is_integer T
  refine T.check_moment.F.ok sc_check_moment (fun vs H Q E h => ?_) (fun cdv A outer s H vs Q E hr h => ?_)
  · obtain ⟨i, rfl, _⟩ := h
    rfl
  · obtain ⟨i, rfl, q⟩ := h
    refine ⟨_, (pss_one (ps_if (pt_not (pt_val (pe_call G_is_integer (hr.mono (by omega)) (by rfl) T.is_integer.g T.is_integer.F.kp T.is_integer.b .nil pass0 (pa_cons (pv 0) pa_nil)))) (pss_one ps_never) pss_nil)), ?_⟩
    refine ⟨.int i, rfl, .int i, "int", rfl, .int i, _, rfl, ?_⟩
    exact iF rfl q
end
end Pl

namespace Pl
open PySem L2
/-! ### terms and their sizes -/
inductive Tm
  | now
  | shift (m : Tm) (n : Int)
  | look (s : Str) (m : Tm) (way : Str) (lim : Option Int)
  | either (a b : Tm)
  | later (a b : Tm)
  | earlier (a b : Tm)
def Tm.depth : Tm → Nat
  | .now => 1
  | .shift m _ => 1 + m.depth
  | .look _ m _ _ => 1 + m.depth
  | .either a b => 1 + max a.depth b.depth
  | .later a b => 1 + max a.depth b.depth
  | .earlier a b => 1 + max a.depth b.depth
def Tm.parts : Tm → Nat
  | .now => 1
  | .shift m _ => 1 + m.parts
  | .look _ m _ _ => 1 + m.parts
  | .either a b => 1 + (a.parts + b.parts)
  | .later a b => 1 + (a.parts + b.parts)
  | .earlier a b => 1 + (a.parts + b.parts)
def Tm.looks : Tm → Nat
  | .now => 0
  | .shift m _ => m.looks
  | .look _ m _ _ => m.looks + 1
  | .either a b => a.looks + b.looks
  | .later a b => a.looks + b.looks
  | .earlier a b => a.looks + b.looks
def Tm.choices : Tm → Nat
  | .now => 0
  | .shift m _ => m.choices
  | .look _ m _ _ => m.choices + 1
  | .either a b => a.choices + b.choices
  | .later a b => a.choices + b.choices + 1
  | .earlier a b => a.choices + b.choices + 1
def Tm.fits (t : Tm) : Prop := t.depth ≤ 12 ∧ t.parts ≤ 40 ∧ t.looks ≤ 12
/-- the fields of a term's object -/
def szF (t : Tm) : List (Str × V) := [("depth", .int t.depth), ("parts", .int t.parts), ("looks", .int t.looks), ("choices", .int t.choices)]
/-- the classes' places -/
structure CA where
  now : Addr
  shift : Addr
  look : Addr
  either : Addr
  later : Addr
  earlier : Addr
def shF (b : Addr) (n : Int) : List (Str × V) := [("moment", .ref b), ("amount", .int n)]
def loF (s : Str) (b : Addr) (wy : Str) (lim : Option Int) : List (Str × V) := [("stream", .str s), ("moment", .ref b), ("way", .str wy), ("within", oV lim)]
def paF (b d : Addr) : List (Str × V) := [("first", .ref b), ("second", .ref d)]
def TmAt (c : CA) (H : Hp) : Tm → Addr → Prop
  | .now, a => ∃ dx, H a = some (.ins c.now dx (szF .now))
  | .shift m n, a => ∃ dx b, H a = some (.ins c.shift dx (shF b n ++ szF (.shift m n))) ∧ TmAt c H m b
  | .look s m wy lim, a => ∃ dx b, H a = some (.ins c.look dx (loF s b wy lim ++ szF (.look s m wy lim))) ∧ TmAt c H m b
  | .either x y, a => ∃ dx b d, H a = some (.ins c.either dx (paF b d ++ szF (.either x y))) ∧ TmAt c H x b ∧ TmAt c H y d
  | .later x y, a => ∃ dx b d, H a = some (.ins c.later dx (paF b d ++ szF (.later x y))) ∧ TmAt c H x b ∧ TmAt c H y d
  | .earlier x y, a => ∃ dx b d, H a = some (.ins c.earlier dx (paF b d ++ szF (.earlier x y))) ∧ TmAt c H x b ∧ TmAt c H y d
theorem TmAt.same {c : CA} {H H' : Hp} (s : Same H H') : ∀ {t : Tm} {a : Addr}, TmAt c H t a → TmAt c H' t a
  | .now, _, ⟨dx, h⟩ => ⟨dx, s _ _ h⟩
  | .shift _ _, _, ⟨dx, b, h, h1⟩ => ⟨dx, b, s _ _ h, h1.same s⟩
  | .look _ _ _ _, _, ⟨dx, b, h, h1⟩ => ⟨dx, b, s _ _ h, h1.same s⟩
  | .either _ _, _, ⟨dx, b, d, h, h1, h2⟩ => ⟨dx, b, d, s _ _ h, h1.same s, h2.same s⟩
  | .later _ _, _, ⟨dx, b, d, h, h1, h2⟩ => ⟨dx, b, d, s _ _ h, h1.same s, h2.same s⟩
  | .earlier _ _, _, ⟨dx, b, d, h, h1, h2⟩ => ⟨dx, b, d, s _ _ h, h1.same s, h2.same s⟩

/-- the object of a term, its class and sizes -/
def Tm.cls (c : CA) : Tm → Addr
  | .now => c.now
  | .shift _ _ => c.shift
  | .look _ _ _ _ => c.look
  | .either _ _ => c.either
  | .later _ _ => c.later
  | .earlier _ _ => c.earlier
theorem TmAt.obj {c : CA} {H : Hp} {t : Tm} {a : Addr} (h : TmAt c H t a) : ∃ dx fs, H a = some (.ins (t.cls c) dx fs) ∧ fs.lookup ("depth" : Str) = some (.int t.depth) ∧ fs.lookup ("parts" : Str) = some (.int t.parts) ∧ fs.lookup ("looks" : Str) = some (.int t.looks) ∧ fs.lookup ("choices" : Str) = some (.int t.choices) ∧
    fs.lookup ("form" : Str) = none ∧ fs.lookup ("answer_in" : Str) = none := by
  cases t with
  | now => obtain ⟨dx, h⟩ := h; exact ⟨dx, _, h, rfl, rfl, rfl, rfl, rfl, rfl⟩
  | shift m n => obtain ⟨dx, b, h, _⟩ := h; exact ⟨dx, _, h, rfl, rfl, rfl, rfl, rfl, rfl⟩
  | look s m wy lim => obtain ⟨dx, b, h, _⟩ := h; exact ⟨dx, _, h, rfl, rfl, rfl, rfl, rfl, rfl⟩
  | either x y => obtain ⟨dx, b, d, h, _⟩ := h; exact ⟨dx, _, h, rfl, rfl, rfl, rfl, rfl, rfl⟩
  | later x y => obtain ⟨dx, b, d, h, _⟩ := h; exact ⟨dx, _, h, rfl, rfl, rfl, rfl, rfl, rfl⟩
  | earlier x y => obtain ⟨dx, b, d, h, _⟩ := h; exact ⟨dx, _, h, rfl, rfl, rfl, rfl, rfl, rfl⟩
def Tm.kids : Tm → List Tm
  | .now => []
  | .shift m _ => [m]
  | .look _ m _ _ => [m]
  | .either a b => [a, b]
  | .later a b => [a, b]
  | .earlier a b => [a, b]
def Tm.isLook : Tm → Bool
  | .look _ _ _ _ => true
  | _ => false
def Tm.chooses : Tm → Bool
  | .look _ _ _ _ => true
  | .later _ _ => true
  | .earlier _ _ => true
  | _ => false
theorem Tm.depth_kids (t : Tm) : (t.depth : Int) = 1 + mxD 0 (t.kids.map fun k => (k.depth : Int)) := by
  cases t <;> simp only [Tm.depth, Tm.kids, List.map, mxD, List.foldl] <;> omega
theorem Tm.parts_kids (t : Tm) : (t.parts : Int) = 1 + (t.kids.map fun k => (k.parts : Int)).sum := by
  cases t <;> simp only [Tm.parts, Tm.kids, List.map, List.sum_cons, List.sum_nil] <;> omega
theorem Tm.looks_kids (t : Tm) : (t.looks : Int) = (t.kids.map fun k => (k.looks : Int)).sum + (if t.isLook then 1 else 0) := by
  cases t <;> simp [Tm.looks, Tm.kids, Tm.isLook, List.map, List.sum_cons, List.sum_nil]
theorem Tm.choices_kids (t : Tm) : (t.choices : Int) = (t.kids.map fun k => (k.choices : Int)).sum + (if t.chooses then 1 else 0) := by
  cases t <;> simp [Tm.choices, Tm.kids, Tm.chooses, List.map, List.sum_cons, List.sum_nil]
/-- terms stand at places -/
def KidsAt (c : CA) (H : Hp) : List Tm → List Addr → Prop
  | [], [] => True
  | t :: ts, a :: as => TmAt c H t a ∧ KidsAt c H ts as
  | _, _ => False
theorem KidsAt.same {c : CA} {H H' : Hp} (s : Same H H') : ∀ {ts : List Tm} {as : List Addr}, KidsAt c H ts as → KidsAt c H' ts as
  | [], [], _ => trivial
  | _ :: _, _ :: _, ⟨h1, h2⟩ => ⟨h1.same s, KidsAt.same s h2⟩
theorem KidsAt.len {c : CA} {H : Hp} : ∀ {ts : List Tm} {as : List Addr}, KidsAt c H ts as → as.length = ts.length
  | [], [], _ => rfl
  | _ :: _, _ :: _, ⟨_, h2⟩ => congrArg Nat.succ h2.len
theorem KidsAt.at {c : CA} {H : Hp} : ∀ {ts : List Tm} {as : List Addr}, KidsAt c H ts as → ∀ (i : Nat) (a : Addr), as[i]? = some a → ∃ t, ts[i]? = some t ∧ TmAt c H t a
  | _ :: _, _ :: _, ⟨h1, _⟩, 0, a, e => by cases e; exact ⟨_, rfl, h1⟩
  | _ :: _, _ :: _, ⟨_, h2⟩, i + 1, a, e => KidsAt.at h2 i a e
  | [], [], _, _, _, e => by simp at e
end Pl

namespace Pl
open PySem L2
/-! ### what the text has of the terms' classes -/
section
variable {P : Program} {w : World} {K : PySem.W.Frag} {mg : Str → Option Value} {base : Heap}
def Txt.ca (T : Txt P K mg) : CA := ⟨T.c_Now, T.c_Shift, T.c_Look, T.c_Either, T.c_Later, T.c_Earlier⟩
structure KCls (T : Txt P K mg) (t : Tm) : Prop where
  o : OCls K (t.cls T.ca)
  nd : NoAttr K (t.cls T.ca) "depth"
  np : NoAttr K (t.cls T.ca) "parts"
  nl : NoAttr K (t.cls T.ca) "looks"
  nc : NoAttr K (t.cls T.ca) "choices"
  kt : PySem.W.kitOne K (.ref (t.cls T.ca)) (.ref T.c_Term) = some true
  kl : PySem.W.kitOne K (.ref (t.cls T.ca)) (.ref T.c_Look) = some t.isLook
  ka : PySem.W.kitAny K (.ref (t.cls T.ca)) [.ref T.c_Look, .ref T.c_Later, .ref T.c_Earlier] = some t.chooses
theorem Txt.kc (T : Txt P K mg) (t : Tm) : KCls T t := by
  cases t with
  | now => exact ⟨T.o_Now, T.n_Now_depth, T.n_Now_parts, T.n_Now_looks, T.n_Now_choices, T.k1_Now_Term, T.k1_Now_Look, T.ka_Now_Look_Later_Earlier⟩
  | shift => exact ⟨T.o_Shift, T.n_Shift_depth, T.n_Shift_parts, T.n_Shift_looks, T.n_Shift_choices, T.k1_Shift_Term, T.k1_Shift_Look, T.ka_Shift_Look_Later_Earlier⟩
  | look => exact ⟨T.o_Look, T.n_Look_depth, T.n_Look_parts, T.n_Look_looks, T.n_Look_choices, T.k1_Look_Term, T.k1_Look_Look, T.ka_Look_Look_Later_Earlier⟩
  | either => exact ⟨T.o_Either, T.n_Either_depth, T.n_Either_parts, T.n_Either_looks, T.n_Either_choices, T.k1_Either_Term, T.k1_Either_Look, T.ka_Either_Look_Later_Earlier⟩
  | later => exact ⟨T.o_Later, T.n_Later_depth, T.n_Later_parts, T.n_Later_looks, T.n_Later_choices, T.k1_Later_Term, T.k1_Later_Look, T.ka_Later_Look_Later_Earlier⟩
  | earlier => exact ⟨T.o_Earlier, T.n_Earlier_depth, T.n_Earlier_parts, T.n_Earlier_looks, T.n_Earlier_choices, T.k1_Earlier_Term, T.k1_Earlier_Look, T.ka_Earlier_Look_Later_Earlier⟩
/-- all but x is as it was -/
def But (x : Addr) (H H' : Hp) : Prop := ∀ b o, b ≠ x → H b = some o → H' b = some o
/-- [child.f for child in children]: a list of the children's sizes -/
theorem lc_kids (T : Txt P K mg) {s0 s1 s2 s3 : Option V} {H1 : Hp} {D p : Addr} {as : List Addr} {ts : List Tm} {f : Str} {g : Tm → Nat} {Qd : Hp → Prop} (hD : H1 D = none) (hp : H1 p = some (.tup (as.map V.ref))) (hk : KidsAt T.ca H1 ts as) (hl : as.length ≤ 2)
    (hf : ∀ t : Tm, NoAttr K (t.cls T.ca) f) (hg : ∀ {H : Hp} {t : Tm} {a : Addr}, TmAt T.ca H t a → ∃ dx fs, H a = some (.ins (t.cls T.ca) dx fs) ∧ fs.lookup f = some (.int (g t)))
    (q : ∀ H', Same H1 H' → H' D = some (.lst ((ts.map fun t => (g t : Int)).map V.int)) → Qd H') :
    ∃ W : Nat → Nat → Hp → Prop, (∃ m, W 0 m (upd H1 D (.lst []))) ∧ ∀ i m H, W i m H →
      ((Itt K p).stop i H ∧ Qd H) ∨ ((Itt K p).go i H ∧ ∃ Nx : Hp → Prop, (∀ H', Nx H' → ∃ m', m' < m ∧ W (i + 1) m' H') ∧ ∀ x H', (Itt K p).yld i H x H' → gName 3 x (wipe [s0, s1, s2, s3] [3]) H' fun σ2 H2 => wipe σ2 [3] = wipe [s0, s1, s2, s3] [3] ∧ tYes σ2 H2 fun b H3 =>
        if b = true then tFld K (tVar 3) f σ2 H3 fun y H4 => ∃ acc, H4 D = some (.lst acc) ∧ acc.length < sizeLine ∧ Nx (upd H4 D (.lst (acc ++ [y]))) else Nx H3) := by
  have hlen := hk.len
  refine lc_tup (K := K) (a := p) (xs := as.map V.ref) (fun i H' => Same H1 H' ∧ H' D = some (.lst (((ts.take i).map fun t => (g t : Int)).map V.int))) ⟨same_upd hD, upd_same⟩ (fun i H' _ pp => SqT.of (pp.1 _ _ hp)) (fun i x H' hx pp => ?_) (fun H' pp => ?_)
  · obtain ⟨s1, hd⟩ := pp
    obtain ⟨a, ha, rfl⟩ : ∃ a, as[i]? = some a ∧ x = .ref a := by
      rw [List.getElem?_map] at hx
      cases e : as[i]? with
      | none => rw [e] at hx; cases hx
      | some a => rw [e] at hx; exact ⟨a, rfl, (Option.some.inj hx).symm⟩
    obtain ⟨t, ht, hta⟩ := hk.at i a ha
    obtain ⟨dx, fs, ho, hfs⟩ := hg (hta.same s1)
    refine ⟨rfl, yes_if ⟨.ref a, rfl, a, _, dx, fs, _, rfl, ho, (T.kc t).o.cl, hf t, hfs, _, hd, ?_, ?_, ?_⟩⟩
    · rw [List.length_map, List.length_map, List.length_take]
      have := (List.getElem?_eq_some_iff.mp ht).1
      exact szl (by omega)
    · exact same_mut s1 hD
    · rw [upd_same, List.take_add_one, ht, List.map_append, List.map_append]
      rfl
  · rw [List.length_map, hlen, List.take_of_length_le (Nat.le_refl _)] at pp
    exact q H' pp.1 pp.2
end
end Pl

namespace Pl
open PySem L2
section
variable {P : Program} {w : World} {K : PySem.W.Frag} {mg : Str → Option Value} {base : Heap}
def szP (t : Tm) (fs : List (Str × V)) : List (Str × V) := putF "choices" (.int t.choices) (putF "looks" (.int t.looks) (putF "parts" (.int t.parts) (putF "depth" (.int t.depth) fs)))
/-- Term.__init__(self, *children): x gets its sizes -/
def spTI0 (T : Txt P K mg) : Sp := fun vs H Q _ => ∃ (G : Hp) (t : Tm) (x p dx : Addr) (fs : List (Str × V)) (as : List Addr), vs = [.ref x, .ref p] ∧ Same G H ∧ G x = none ∧ G p = some (.tup (as.map V.ref)) ∧ KidsAt T.ca G t.kids as ∧ H x = some (.ins (t.cls T.ca) dx fs) ∧ fs.length ≤ 10 ∧ t.fits ∧
  ∀ H', Same G H' → But x H H' → H' x = some (.ins (t.cls T.ca) dx (szP t fs)) → Q .non H'
def spTInit (T : Txt P K mg) : Sp := fun vs H Q _ => ∃ (G : Hp) (t : Tm) (x dx : Addr) (fs : List (Str × V)) (as : List Addr), vs = .ref x :: as.map V.ref ∧ Same G H ∧ G x = none ∧ KidsAt T.ca G t.kids as ∧ H x = some (.ins (t.cls T.ca) dx fs) ∧ fs.length ≤ 10 ∧ t.fits ∧
  ∀ H', Same G H' → But x H H' → H' x = some (.ins (t.cls T.ca) dx (szP t fs)) → Q .non H'
theorem But.refl (x : Addr) (H : Hp) : But x H H := fun _ _ _ h => h
theorem But.trans {x : Addr} {H H1 H2 : Hp} (a : But x H H1) (b : But x H1 H2) : But x H H2 := fun c o n h => b c o n (a c o n h)
theorem But.of {x : Addr} {H H1 : Hp} (s : Same H H1) : But x H H1 := fun b o _ h => s b o h
theorem But.put {x : Addr} {H H1 : Hp} {o : HO} (s : But x H H1) : But x H (upd H1 x o) := fun b u n h => by rw [upd_ne n]; exact s b u n h
theorem kids2 (t : Tm) : t.kids.length ≤ 2 := by cases t <;> simp [Tm.kids]
theorem length_putF_le (f : Str) (y : V) (fs : List (Str × V)) : (putF f y fs).length ≤ fs.length + 1 := by
  have := length_putF f y fs
  omega
theorem ok_term_init (T : Txt P K mg) {k : Nat} : FnR P w K mg base CX0 (k + 1) T.Term_init.f (spTInit T) := by
  obtain ⟨oc, od, kV, doc, pm, an, cdv, ct, osl, efd, lk, hcd⟩ := T.Term_init.F.ex
  rw [efd] at lk
  have F := StX.fn_star (P := P) (w := w) (mg := mg) (base := base) (CX := CX0) (k := k) (ps := ["self"]) (pv := "children") (sp := spTI0 T) lk hcd sc_Term_init StX.cxUp_none (StX.bind_star1 (B := fun l => bindArgs (PySem.W.fnOf "__init__" "Term.__init__" (defArgs s_Term_init) (defBody s_Term_init) (defScope s_Term_init) Value.none kV doc pm an cdv ct) ⟨l, []⟩) (fun a => rfl) (fun a r rs => rfl)) (fun A outer s H vs Q E hr h => by
    obtain ⟨G, t, x, p, dx, fs, as, rfl, sG, xG, pG, hk, hx, hl, hfit, q⟩ := h
    have kc := T.kc t
    have hle := hk.len
    have hl2 : as.length ≤ 2 := by rw [hle]; exact kids2 t
    refine ⟨_, (pss_cons (ps_fld (pv 0) (pe_op op_add pe_int (pe_callBK (crk_maxDef rfl hr.units) (by rfl) T.n_max (by decide +kernel) (pa_cons (pe_lc (own := [("child", 3)]) (g := gName 3) (tt := tYes) (te := (tFld K (tVar 3) "depth")) rfl sc_Term_init.nd (pi_tup (pv 1)) (blkOk_by (own := [("child", 3)]) (N := N_Term_init) (sc := defScope s_Term_init) (by decide +kernel)) (fun _ _ _ _ _ => (pg_name (i := 3) sc_Term_init.nd rfl (.inl rfl))) (fun _ _ _ _ _ => pts_nil) (fun _ _ _ _ _ => (pe_fld (pv 3) rfl))) pa_nil) (pk_cons pe_int pk_nil))) rfl)
  (pss_cons (ps_fld (pv 0) (pe_op op_add pe_int (pe_callB (cr_sum rfl) (by rfl) T.n_sum (by decide +kernel) (pa_cons (pe_lc (own := [("child", 3)]) (g := gName 3) (tt := tYes) (te := (tFld K (tVar 3) "parts")) rfl sc_Term_init.nd (pi_tup (pv 1)) (blkOk_by (own := [("child", 3)]) (N := N_Term_init) (sc := defScope s_Term_init) (by decide +kernel)) (fun _ _ _ _ _ => (pg_name (i := 3) sc_Term_init.nd rfl (.inl rfl))) (fun _ _ _ _ _ => pts_nil) (fun _ _ _ _ _ => (pe_fld (pv 3) rfl))) pa_nil))) rfl)
  (pss_cons (ps_fld (pv 0) (pe_op op_add (pe_callB (cr_sum rfl) (by rfl) T.n_sum (by decide +kernel) (pa_cons (pe_lc (own := [("child", 3)]) (g := gName 3) (tt := tYes) (te := (tFld K (tVar 3) "looks")) rfl sc_Term_init.nd (pi_tup (pv 1)) (blkOk_by (own := [("child", 3)]) (N := N_Term_init) (sc := defScope s_Term_init) (by decide +kernel)) (fun _ _ _ _ _ => (pg_name (i := 3) sc_Term_init.nd rfl (.inl rfl))) (fun _ _ _ _ _ => pts_nil) (fun _ _ _ _ _ => (pe_fld (pv 3) rfl))) pa_nil)) (pe_callTy call_int1 (by rfl) T.n_int (by decide +kernel) (pa_cons (pe_callB call_isi (by rfl) T.n_isinstance (by decide +kernel) (pa_cons (pv 0) (pa_cons (pe_glob (v := .ref T.c_Look) (by rfl) T.g_Look rfl) pa_nil))) pa_nil))) rfl)
  (pss_cons (ps_set (i := 2) sc_Term_init.nd rfl (.inl rfl) (pe_callB call_isiT (by rfl) T.n_isinstance (by decide +kernel) (pa_cons (pv 0) (pa_cons (pe_tup (pa_cons (pe_glob (v := .ref T.c_Look) (by rfl) T.g_Look rfl) (pa_cons (pe_glob (v := .ref T.c_Later) (by rfl) T.g_Later rfl) (pa_cons (pe_glob (v := .ref T.c_Earlier) (by rfl) T.g_Earlier rfl) pa_nil)))) pa_nil))))
  (pss_cons (ps_fld (pv 0) (pe_op op_add (pe_callB (cr_sum rfl) (by rfl) T.n_sum (by decide +kernel) (pa_cons (pe_lc (own := [("child", 3)]) (g := gName 3) (tt := tYes) (te := (tFld K (tVar 3) "choices")) rfl sc_Term_init.nd (pi_tup (pv 1)) (blkOk_by (own := [("child", 3)]) (N := N_Term_init) (sc := defScope s_Term_init) (by decide +kernel)) (fun _ _ _ _ _ => (pg_name (i := 3) sc_Term_init.nd rfl (.inl rfl))) (fun _ _ _ _ _ => pts_nil) (fun _ _ _ _ _ => (pe_fld (pv 3) rfl))) pa_nil)) (pe_callTy call_int1 (by rfl) T.n_int (by decide +kernel) (pa_cons (pv 2) pa_nil))) rfl)
  (pss_one (ps_if (PW.pt (pw_or (pt_cmpR op_gt (pe_fld (pv 0) rfl) (pe_glob (v := .int 12) (by rfl) T.k_DEEPEST ⟨_, rfl⟩) (nomark _)) (pw_or (pt_cmpR op_gt (pe_fld (pv 0) rfl) (pe_glob (v := .int 40) (by rfl) T.k_MOST_PARTS ⟨_, rfl⟩) (nomark _)) (pw_or1 (pt_cmpR op_gt (pe_fld (pv 0) rfl) (pe_glob (v := .int 12) (by rfl) T.k_MOST_LOOKS ⟨_, rfl⟩) (nomark _)))))) (pss_one ps_never) pss_nil))))))), ?_⟩
    refine ⟨.ref p, rfl, p, rfl, ⟨_, SqT.of (sG _ _ pG)⟩, fun D1 hD1 => ?_⟩
    refine lc_kids T (f := "depth") (g := Tm.depth) hD1 (sG _ _ pG) (hk.same sG) hl2 (fun t => (T.kc t).nd) (fun ht => by obtain ⟨dx, fs, h1, h2, _⟩ := ht.obj; exact ⟨dx, fs, h1, h2⟩) (fun H1 s1 d1 => ?_)
    refine ⟨D1, _, 0, rfl, rfl, SqL.of d1, _, _, rfl, rfl, .ref x, rfl, x, _, dx, fs, rfl, s1 _ _ hx, kc.o.cl, kc.nd, by omega, ?_⟩
    -- parts
    have e1 : (1 + mxD 0 (t.kids.map fun t => (t.depth : Int))) = (t.depth : Int) := (Tm.depth_kids t).symm
    have hx1 := upd_same (H := H1) (a := x) (o := HO.ins (t.cls T.ca) dx (putF "depth" (.int t.depth) fs))
    have sG1 : Same G (upd H1 x (.ins (t.cls T.ca) dx (putF "depth" (.int t.depth) fs))) := same_mut (sG.trans s1) xG
    have b1 : But x H (upd H1 x (.ins (t.cls T.ca) dx (putF "depth" (.int t.depth) fs))) := (But.of s1).put
    dsimp only
    rw [e1]
    have l1 := length_putF_le "depth" (.int t.depth) fs
    generalize upd H1 x (.ins (t.cls T.ca) dx (putF "depth" (.int t.depth) fs)) = H2 at hx1 sG1 b1 ⊢
    refine ⟨.ref p, rfl, p, rfl, ⟨_, SqT.of (sG1 _ _ pG)⟩, fun D2 hD2 => ?_⟩
    refine lc_kids T (f := "parts") (g := Tm.parts) hD2 (sG1 _ _ pG) (hk.same sG1) hl2 (fun t => (T.kc t).np) (fun ht => by obtain ⟨dx, fs, h1, _, h2, _⟩ := ht.obj; exact ⟨dx, fs, h1, h2⟩) (fun H3 s3 d3 => ?_)
    refine ⟨D2, _, rfl, SqL.of d3, _, _, rfl, rfl, .ref x, rfl, x, _, dx, _, rfl, s3 _ _ hx1, kc.o.cl, kc.np, by omega, ?_⟩
    have e2 : (1 + (t.kids.map fun t => (t.parts : Int)).sum) = (t.parts : Int) := (Tm.parts_kids t).symm
    dsimp only
    rw [e2]
    have hx2 := upd_same (H := H3) (a := x) (o := HO.ins (t.cls T.ca) dx (putF "parts" (.int t.parts) (putF "depth" (.int t.depth) fs)))
    have sG2 : Same G (upd H3 x (.ins (t.cls T.ca) dx (putF "parts" (.int t.parts) (putF "depth" (.int t.depth) fs)))) := same_mut (sG1.trans s3) xG
    have b2 : But x H (upd H3 x (.ins (t.cls T.ca) dx (putF "parts" (.int t.parts) (putF "depth" (.int t.depth) fs)))) := (b1.trans (But.of s3)).put
    have l2 := length_putF_le "parts" (.int t.parts) (putF "depth" (.int t.depth) fs)
    generalize upd H3 x (.ins (t.cls T.ca) dx (putF "parts" (.int t.parts) (putF "depth" (.int t.depth) fs))) = H4 at hx2 sG2 b2 ⊢
    -- looks
    refine ⟨.ref p, rfl, p, rfl, ⟨_, SqT.of (sG2 _ _ pG)⟩, fun D3 hD3 => ?_⟩
    refine lc_kids T (f := "looks") (g := Tm.looks) hD3 (sG2 _ _ pG) (hk.same sG2) hl2 (fun t => (T.kc t).nl) (fun ht => by obtain ⟨dx, fs, h1, _, _, h2, _⟩ := ht.obj; exact ⟨dx, fs, h1, h2⟩) (fun H5 s5 d5 => ?_)
    refine ⟨D3, _, rfl, SqL.of d5, .ref x, rfl, _, _, _, _, _, rfl, .own _, kc.o.ty (s5 _ _ hx2), kc.kl, .inr ⟨_, rfl, _, _, rfl, rfl, .ref x, rfl, x, _, dx, _, rfl, s5 _ _ hx2, kc.o.cl, kc.nl, by omega, ?_⟩⟩
    have e3 : ((t.kids.map fun t => (t.looks : Int)).sum + (if t.isLook then 1 else 0)) = (t.looks : Int) := (Tm.looks_kids t).symm
    dsimp only
    rw [e3]
    have hx3 := upd_same (H := H5) (a := x) (o := HO.ins (t.cls T.ca) dx (putF "looks" (.int t.looks) (putF "parts" (.int t.parts) (putF "depth" (.int t.depth) fs))))
    have sG3 : Same G (upd H5 x (.ins (t.cls T.ca) dx (putF "looks" (.int t.looks) (putF "parts" (.int t.parts) (putF "depth" (.int t.depth) fs))))) := same_mut (sG2.trans s5) xG
    have b3 : But x H (upd H5 x (.ins (t.cls T.ca) dx (putF "looks" (.int t.looks) (putF "parts" (.int t.parts) (putF "depth" (.int t.depth) fs))))) := (b2.trans (But.of s5)).put
    have l3 := length_putF_le "looks" (.int t.looks) (putF "parts" (.int t.parts) (putF "depth" (.int t.depth) fs))
    generalize upd H5 x (.ins (t.cls T.ca) dx (putF "looks" (.int t.looks) (putF "parts" (.int t.parts) (putF "depth" (.int t.depth) fs)))) = H6 at hx3 sG3 b3 ⊢
    -- chooses
    refine ⟨.ref x, rfl, sz (by show 3 ≤ 100000; decide), fun r hr0 => ?_⟩
    have s6 : Same H6 (upd H6 r (.tup [.ref T.c_Look, .ref T.c_Later, .ref T.c_Earlier])) := same_upd hr0
    refine ⟨_, r, _, _, _, _, rfl, upd_same, .cons (.own _) (.cons (.own _) (.cons (.own _) .nil)), kc.o.ty (s6 _ _ hx3), kc.ka, ?_⟩
    have hx4 := s6 _ _ hx3
    have sG4 := sG3.trans s6
    have b4 := b3.trans (But.of s6)
    generalize upd H6 r (.tup [.ref T.c_Look, .ref T.c_Later, .ref T.c_Earlier]) = H7 at hx4 sG4 b4 ⊢
    refine ⟨.ref p, rfl, p, rfl, ⟨_, SqT.of (sG4 _ _ pG)⟩, fun D4 hD4 => ?_⟩
    refine lc_kids T (f := "choices") (g := Tm.choices) hD4 (sG4 _ _ pG) (hk.same sG4) hl2 (fun t => (T.kc t).nc) (fun ht => by obtain ⟨dx, fs, h1, _, _, _, h2, _⟩ := ht.obj; exact ⟨dx, fs, h1, h2⟩) (fun H8 s8 d8 => ?_)
    refine ⟨D4, _, rfl, SqL.of d8, .bl t.chooses, rfl, .inr ⟨_, rfl, _, _, rfl, rfl, .ref x, rfl, x, _, dx, _, rfl, s8 _ _ hx4, kc.o.cl, kc.nc, by omega, ?_⟩⟩
    have e4 : ((t.kids.map fun t => (t.choices : Int)).sum + (if t.chooses then 1 else 0)) = (t.choices : Int) := (Tm.choices_kids t).symm
    dsimp only
    rw [e4]
    have hx5 := upd_same (H := H8) (a := x) (o := HO.ins (t.cls T.ca) dx (szP t fs))
    have sG5 : Same G (upd H8 x (.ins (t.cls T.ca) dx (szP t fs))) := same_mut (sG4.trans s8) xG
    have b5 : But x H (upd H8 x (.ins (t.cls T.ca) dx (szP t fs))) := (b4.trans (But.of s8)).put
    show _
    change _
    obtain ⟨f1, f2, f3⟩ := hfit
    have k1 : (szP t fs).lookup ("depth" : Str) = some (.int t.depth) := by
      unfold szP
      rw [lookup_putF, if_neg (by decide +kernel), lookup_putF, if_neg (by decide +kernel), lookup_putF, if_neg (by decide +kernel), lookup_putF, if_pos rfl]
    have k2 : (szP t fs).lookup ("parts" : Str) = some (.int t.parts) := by
      unfold szP
      rw [lookup_putF, if_neg (by decide +kernel), lookup_putF, if_neg (by decide +kernel), lookup_putF, if_pos rfl]
    have k3 : (szP t fs).lookup ("looks" : Str) = some (.int t.looks) := by
      unfold szP
      rw [lookup_putF, if_neg (by decide +kernel), lookup_putF, if_pos rfl]
    refine ⟨.ref x, rfl, x, _, dx, _, _, rfl, hx5, kc.o.cl, kc.nd, k1, _, _, rfl, rfl, _, rfl, iF (decide_eq_false (by omega)) ?_⟩
    refine ⟨.ref x, rfl, x, _, dx, _, _, rfl, hx5, kc.o.cl, kc.np, k2, _, _, rfl, rfl, _, rfl, iF (decide_eq_false (by omega)) ?_⟩
    refine ⟨.ref x, rfl, x, _, dx, _, _, rfl, hx5, kc.o.cl, kc.nl, k3, _, _, rfl, rfl, _, rfl, iF (decide_eq_false (by omega)) ?_⟩
    exact q _ sG5 b5 hx5)
  refine F.imp fun vs H Q E h => ?_
  obtain ⟨G, t, x, dx, fs, as, rfl, sG, xG, hk, hx, hl, hfit, q⟩ := h
  refine ⟨[.ref x], as.map V.ref, rfl, rfl, ?_, fun p hp => ?_⟩
  · rw [List.length_map, hk.len]
    exact Nat.le_trans (kids2 t) (by decide)
  · refine ⟨upd G p (.tup (as.map V.ref)), t, x, p, dx, fs, as, rfl, same_both sG, ?_, upd_same, hk.same (same_upd (sG.free hp)), ?_, hl, hfit, fun H' s' b' h' => ?_⟩
    · rw [upd_ne (ne_of_none hx hp)]
      exact xG
    · rw [upd_ne (ne_of_none hx hp)]
      exact hx
    · exact q H' ((same_upd (sG.free hp)).trans s') (fun b o n e => b' b o n (by rw [upd_ne (ne_of_none e hp)]; exact e)) h'
end
end Pl

namespace Pl
open PySem L2
section
variable {P : Program} {w : World} {K : PySem.W.Frag} {mg : Str → Option Value} {base : Heap}
/-- Now.__init__(self) -/
def spNowInit (T : Txt P K mg) : Sp := fun vs H Q _ => ∃ (G : Hp) (x dx : Addr), vs = [.ref x] ∧ Same G H ∧ G x = none ∧ H x = some (.ins T.c_Now dx []) ∧ ∀ H', Same G H' → TmAt T.ca H' .now x → Q .non H'
theorem ok_now_init (T : Txt P K mg) {k : Nat} : FnR P w K mg base CX0 (k + 2) T.Now_init.f (spNowInit T) := by
  refine T.Now_init.ok0 (pre := []) rfl sc_Now_init rfl rfl (by decide +kernel) (by decide) rfl T.n_super (fun _ _ _ _ _ _ _ us hl => match us, hl with | [_], _ => rfl) (ok_term_init T (k := k)) (fun vs H Q E h => ?_) (fun A outer s H vs Q E hr h => ?_)
  · obtain ⟨G, x, dx, rfl, _⟩ := h
    rfl
  · obtain ⟨G, x, dx, rfl, sG, xG, hx, q⟩ := h
    refine ⟨_, pss_nil, ?_⟩
    refine ⟨x, _, dx, [], rfl, rfl, hx, T.s_Now_Now, G, .now, x, dx, [], [], rfl, sG, xG, trivial, hx, by decide, ⟨by decide, by decide, by decide⟩, fun H' s' b' h' => q H' s' ⟨dx, h'⟩⟩
/-- Shift.__init__(self, moment, amount) -/
def spShiftInit (T : Txt P K mg) : Sp := fun vs H Q _ => ∃ (G : Hp) (m : Tm) (n : Int) (x a dx : Addr), vs = [.ref x, .ref a, .int n] ∧ Same G H ∧ G x = none ∧ TmAt T.ca G m a ∧ (Tm.shift m n).fits ∧ H x = some (.ins T.c_Shift dx []) ∧ ∀ H', Same G H' → TmAt T.ca H' (.shift m n) x → Q .non H'
theorem ok_shift_init (T : Txt P K mg) {k : Nat} : FnR P w K mg base CX0 (k + 2) T.Shift_init.f (spShiftInit T) := by
  refine T.Shift_init.ok (pre := (defBody s_Shift_init).take 2) rfl sc_Shift_init rfl rfl (by decide +kernel) (by decide) rfl T.n_super (fun _ _ _ _ _ _ _ us hl => match us, hl with | [_, _, _], _ => rfl) (ok_term_init T (k := k)) (fun vs H Q E h => ?_) (fun A outer s H vs Q E hr h => ?_)
  · obtain ⟨G, m, n, x, a, dx, rfl, _⟩ := h
    rfl
  · obtain ⟨G, m, n, x, a, dx, rfl, sG, xG, hm, hfit, hx, q⟩ := h
    refine ⟨_, _, (pss_cons (ps_fld (pv 0) (pv 1) rfl)
  (pss_one (ps_fld (pv 0) (pv 2) rfl))), (pa_cons (pv 1) pa_nil), ?_⟩
    refine ⟨.ref a, rfl, .ref x, rfl, x, _, dx, [], rfl, hx, T.o_Shift.cl, T.n_Shift_moment, by decide, ?_⟩
    refine ⟨.int n, rfl, .ref x, rfl, x, _, dx, _, rfl, upd_same, T.o_Shift.cl, T.n_Shift_amount, (by show 1 < 1000; decide), ?_⟩
    rw [upd_upd]
    have sG1 : Same G (upd H x (.ins T.c_Shift dx (putF "amount" (.int n) (putF "moment" (.ref a) [])))) := same_mut sG xG
    refine ⟨x, _, dx, _, rfl, rfl, upd_same, T.s_Shift_Shift, .ref a, rfl, G, .shift m n, x, dx, shF a n, [a], rfl, sG1, xG, ⟨hm, trivial⟩, upd_same, (by show 2 ≤ 10; decide), hfit, fun H' s' b' h' => q H' s' ⟨dx, a, h', hm.same s'⟩⟩
end
end Pl

namespace Pl
open PySem L2
/-! ### what a term's form reads as -/
inductive Kd
  | now | shift | look | either | later | earlier
def Tm.kind : Tm → Kd
  | .now => .now
  | .shift _ _ => .shift
  | .look _ _ _ _ => .look
  | .either _ _ => .either
  | .later _ _ => .later
  | .earlier _ _ => .earlier
def oD : Option Int → PyData
  | none => .none
  | some i => .int i
def Tm.data : Tm → PyData
  | .now => .tuple [.str "now"]
  | .shift m n => .tuple [.str "shift", .int n, m.data]
  | .look s m wy lim => .tuple [.str wy, .str s, oD lim, m.data]
  | .either a b => .tuple [.str "either", a.data, b.data]
  | .later a b => .tuple [.str "later", a.data, b.data]
  | .earlier a b => .tuple [.str "earlier", a.data, b.data]
mutual
theorem Dp.same {K : PySem.W.Frag} {H H' : Hp} (s : Same H H') : ∀ (d : PyData) (v : V), Dp K H v d → Dp K H' v d
  | .none, _, h => by cases h; exact .non
  | .bool b, _, h => by cases h; exact .bl b
  | .int i, _, h => by cases h; exact .int i
  | .str x, _, h => by cases h; exact .str x
  | .list ds, _, h => by
    cases h with
    | lst hs ha => exact .lst (s.seq hs) (DpAll.same s ds _ ha)
  | .tuple ds, _, h => by
    cases h with
    | tup hs ha => exact .tup (Same.tup s hs) (DpAll.same s ds _ ha)
  | .dict _, _, h => by cases h
theorem DpAll.same {K : PySem.W.Frag} {H H' : Hp} (s : Same H H') : ∀ (ds : List PyData) (vs : List V), DpAll K H vs ds → DpAll K H' vs ds
  | [], _, h => by cases h; exact .nil
  | d :: ds, _, h => by
    cases h with
    | cons h1 h2 => exact .cons (Dp.same s d _ h1) (DpAll.same s ds _ h2)
end
theorem dp_oV {K : PySem.W.Frag} {H : Hp} (o : Option Int) : Dp K H (oV o) (oD o) := by
  cases o
  · exact .non
  · exact .int _
section
variable {P : Program} {w : World} {K : PySem.W.Frag} {mg : Str → Option Value} {base : Heap}
def Txt.formF (T : Txt P K mg) : Kd → Addr
  | .now => T.Term_form.f
  | .shift => T.Shift_form.f
  | .look => T.Look_form.f
  | .either => T.Either_form.f
  | .later => T.Later_form.f
  | .earlier => T.Earlier_form.f
theorem Txt.formM (T : Txt P K mg) (t : Tm) : Meth K (t.cls T.ca) "form" (T.formF t.kind) := by
  cases t
  · exact T.m_Now_form
  · exact T.m_Shift_form
  · exact T.m_Look_form
  · exact T.m_Either_form
  · exact T.m_Later_form
  · exact T.m_Earlier_form
def spForm (T : Txt P K mg) (n : Nat) (kd : Kd) : Sp := fun vs H Q _ => ∃ (t : Tm) (a : Addr), vs = [.ref a] ∧ t.kind = kd ∧ t.depth ≤ n ∧ TmAt T.ca H t a ∧ ∀ r H', Same H H' → Dp K H' (.ref r) t.data → Q (.ref r) H'
/-- o.form() -/
theorem rd_form (T : Txt P K mg) {n : Nat} {σ : St} {H : Hp} {Q : VK} {ta : TE} {t : Tm} {a : Addr} (hd : t.depth ≤ n) (hta : TmAt T.ca H t a) (q : ∀ r H', Same H H' → Dp K H' (.ref r) t.data → Q (.ref r) H') :
    ∃ a' C dx fs i, V.ref a = .ref a' ∧ H a' = some (.ins C dx fs) ∧ fs.lookup ("form" : Str) = none ∧ Cls K C ∧ Meth K C "form" (T.formF i) ∧ tNil σ H fun vs H2 => spForm T n i (.ref a :: vs) H2 Q E0 := by
  obtain ⟨dx, fs, h1, _, _, _, _, h2, _⟩ := hta.obj
  exact ⟨a, _, dx, fs, t.kind, rfl, h1, h2, (T.kc t).o.cl, T.formM t, t, a, rfl, rfl, hd, hta, q⟩
theorem depth_pos (t : Tm) : 0 < t.depth := by cases t <;> simp only [Tm.depth] <;> omega
theorem ok_form (T : Txt P K mg) {k : Nat} : ∀ (n : Nat) (kd : Kd), FnR P w K mg base CX0 (k + n) (T.formF kd) (spForm T n kd)
  | 0, kd => fun A outer s H us vs Q E hr e0 r h => by
    obtain ⟨t, a, _, _, hd, _⟩ := h
    have := depth_pos t
    omega
  | n + 1, kd => by
    have G_form : ∀ kd, FnR P w K mg base CX0 (k + n) (T.formF kd) (spForm T n kd) := fun kd => ok_form T n kd
    cases kd with
    | now =>
      refine toR (T.Term_form.F.ok (k := k + n) sc_Term_form (fun vs H Q E h => ?_) (fun cdv A outer s H vs Q E hr h => ?_)) T.Term_form.b
      · obtain ⟨t, a, rfl, _⟩ := h
        rfl
      · obtain ⟨t, a, rfl, hk, hd, hta, q⟩ := h
        cases t with
        | now =>
          refine ⟨_, (pss_one (ps_ret (pe_tup (pa_cons pe_str pa_nil)))), ?_⟩
          refine ⟨sz (by show 1 ≤ 100000; decide), fun p hp => ?_⟩
          exact q p _ (same_upd hp) (.tup (SqT.of upd_same) (.cons (.str _) .nil))
        | _ => cases hk
    | shift =>
      refine toR (T.Shift_form.F.ok (k := k + n) sc_Shift_form (fun vs H Q E h => ?_) (fun cdv A outer s H vs Q E hr h => ?_)) T.Shift_form.b
      · obtain ⟨t, a, rfl, _⟩ := h
        rfl
      · obtain ⟨t, a, rfl, hk, hd, hta, q⟩ := h
        cases t with
        | shift m i =>
          obtain ⟨dx, b, ha, hm⟩ := hta
          have hd' : m.depth ≤ n := by simp only [Tm.depth] at hd; omega
          refine ⟨_, (pss_one (ps_ret (pe_tup (pa_cons pe_str (pa_cons (pe_fld (pv 0) rfl) (pa_cons (pe_methV0 (pe_fld (pv 0) rfl) G_form (hr.mono (by omega)) pass0) pa_nil)))))), ?_⟩
          refine ⟨.ref a, rfl, a, _, dx, _, _, rfl, ha, T.o_Shift.cl, T.n_Shift_amount, rfl, .ref a, rfl, a, _, dx, _, _, rfl, ha, T.o_Shift.cl, T.n_Shift_moment, rfl, ?_⟩
          refine rd_form T (ta := tVar 0) hd' hm fun r H' s' hr' => ?_
          refine ⟨sz (by show 3 ≤ 100000; decide), fun p hp => ?_⟩
          exact q p _ (s'.trans (same_upd hp)) (.tup (SqT.of upd_same) (.cons (.str _) (.cons (.int _) (.cons (Dp.same (same_upd hp) _ _ hr') .nil))))
        | _ => cases hk
    | look =>
      refine toR (T.Look_form.F.ok (k := k + n) sc_Look_form (fun vs H Q E h => ?_) (fun cdv A outer s H vs Q E hr h => ?_)) T.Look_form.b
      · obtain ⟨t, a, rfl, _⟩ := h
        rfl
      · obtain ⟨t, a, rfl, hk, hd, hta, q⟩ := h
        cases t with
        | look st m wy lim =>
          obtain ⟨dx, b, ha, hm⟩ := hta
          have hd' : m.depth ≤ n := by simp only [Tm.depth] at hd; omega
          refine ⟨_, (pss_one (ps_ret (pe_tup (pa_cons (pe_fld (pv 0) rfl) (pa_cons (pe_fld (pv 0) rfl) (pa_cons (pe_fld (pv 0) rfl) (pa_cons (pe_methV0 (pe_fld (pv 0) rfl) G_form (hr.mono (by omega)) pass0) pa_nil))))))), ?_⟩
          refine ⟨.ref a, rfl, a, _, dx, _, _, rfl, ha, T.o_Look.cl, T.n_Look_way, rfl, .ref a, rfl, a, _, dx, _, _, rfl, ha, T.o_Look.cl, T.n_Look_stream, rfl, .ref a, rfl, a, _, dx, _, _, rfl, ha, T.o_Look.cl, T.n_Look_within, rfl, .ref a, rfl, a, _, dx, _, _, rfl, ha, T.o_Look.cl, T.n_Look_moment, rfl, ?_⟩
          refine rd_form T (ta := tVar 0) hd' hm fun r H' s' hr' => ?_
          refine ⟨sz (by show 4 ≤ 100000; decide), fun p hp => ?_⟩
          exact q p _ (s'.trans (same_upd hp)) (.tup (SqT.of upd_same) (.cons (.str _) (.cons (.str _) (.cons (dp_oV _) (.cons (Dp.same (same_upd hp) _ _ hr') .nil)))))
        | _ => cases hk
    | either =>
      refine toR (T.Either_form.F.ok (k := k + n) sc_Either_form (fun vs H Q E h => ?_) (fun cdv A outer s H vs Q E hr h => ?_)) T.Either_form.b
      · obtain ⟨t, a, rfl, _⟩ := h
        rfl
      · obtain ⟨t, a, rfl, hk, hd, hta, q⟩ := h
        cases t with
        | either x y =>
          obtain ⟨dx, b, d, ha, hx, hy⟩ := hta
          have hd1 : x.depth ≤ n := by simp only [Tm.depth] at hd; omega
          have hd2 : y.depth ≤ n := by simp only [Tm.depth] at hd; omega
          refine ⟨_, (pss_one (ps_ret (pe_tup (pa_cons pe_str (pa_cons (pe_methV0 (pe_fld (pv 0) rfl) G_form (hr.mono (by omega)) pass0) (pa_cons (pe_methV0 (pe_fld (pv 0) rfl) G_form (hr.mono (by omega)) pass0) pa_nil)))))), ?_⟩
          refine ⟨.ref a, rfl, a, _, dx, _, _, rfl, ha, T.o_Either.cl, T.n_Either_first, rfl, ?_⟩
          refine rd_form T (ta := tVar 0) hd1 hx fun r1 H1 s1 hr1 => ?_
          refine ⟨.ref a, rfl, a, _, dx, _, _, rfl, s1 _ _ ha, T.o_Either.cl, T.n_Either_second, rfl, ?_⟩
          refine rd_form T (ta := tVar 0) hd2 (hy.same s1) fun r2 H2 s2 hr2 => ?_
          refine ⟨sz (by show 3 ≤ 100000; decide), fun p hp => ?_⟩
          exact q p _ ((s1.trans s2).trans (same_upd hp)) (.tup (SqT.of upd_same) (.cons (.str _) (.cons (Dp.same (s2.trans (same_upd hp)) _ _ hr1) (.cons (Dp.same (same_upd hp) _ _ hr2) .nil))))
        | _ => cases hk
    | later =>
      refine toR (T.Later_form.F.ok (k := k + n) sc_Later_form (fun vs H Q E h => ?_) (fun cdv A outer s H vs Q E hr h => ?_)) T.Later_form.b
      · obtain ⟨t, a, rfl, _⟩ := h
        rfl
      · obtain ⟨t, a, rfl, hk, hd, hta, q⟩ := h
        cases t with
        | later x y =>
          obtain ⟨dx, b, d, ha, hx, hy⟩ := hta
          have hd1 : x.depth ≤ n := by simp only [Tm.depth] at hd; omega
          have hd2 : y.depth ≤ n := by simp only [Tm.depth] at hd; omega
          refine ⟨_, (pss_one (ps_ret (pe_tup (pa_cons pe_str (pa_cons (pe_methV0 (pe_fld (pv 0) rfl) G_form (hr.mono (by omega)) pass0) (pa_cons (pe_methV0 (pe_fld (pv 0) rfl) G_form (hr.mono (by omega)) pass0) pa_nil)))))), ?_⟩
          refine ⟨.ref a, rfl, a, _, dx, _, _, rfl, ha, T.o_Later.cl, T.n_Later_first, rfl, ?_⟩
          refine rd_form T (ta := tVar 0) hd1 hx fun r1 H1 s1 hr1 => ?_
          refine ⟨.ref a, rfl, a, _, dx, _, _, rfl, s1 _ _ ha, T.o_Later.cl, T.n_Later_second, rfl, ?_⟩
          refine rd_form T (ta := tVar 0) hd2 (hy.same s1) fun r2 H2 s2 hr2 => ?_
          refine ⟨sz (by show 3 ≤ 100000; decide), fun p hp => ?_⟩
          exact q p _ ((s1.trans s2).trans (same_upd hp)) (.tup (SqT.of upd_same) (.cons (.str _) (.cons (Dp.same (s2.trans (same_upd hp)) _ _ hr1) (.cons (Dp.same (same_upd hp) _ _ hr2) .nil))))
        | _ => cases hk
    | earlier =>
      refine toR (T.Earlier_form.F.ok (k := k + n) sc_Earlier_form (fun vs H Q E h => ?_) (fun cdv A outer s H vs Q E hr h => ?_)) T.Earlier_form.b
      · obtain ⟨t, a, rfl, _⟩ := h
        rfl
      · obtain ⟨t, a, rfl, hk, hd, hta, q⟩ := h
        cases t with
        | earlier x y =>
          obtain ⟨dx, b, d, ha, hx, hy⟩ := hta
          have hd1 : x.depth ≤ n := by simp only [Tm.depth] at hd; omega
          have hd2 : y.depth ≤ n := by simp only [Tm.depth] at hd; omega
          refine ⟨_, (pss_one (ps_ret (pe_tup (pa_cons pe_str (pa_cons (pe_methV0 (pe_fld (pv 0) rfl) G_form (hr.mono (by omega)) pass0) (pa_cons (pe_methV0 (pe_fld (pv 0) rfl) G_form (hr.mono (by omega)) pass0) pa_nil)))))), ?_⟩
          refine ⟨.ref a, rfl, a, _, dx, _, _, rfl, ha, T.o_Earlier.cl, T.n_Earlier_first, rfl, ?_⟩
          refine rd_form T (ta := tVar 0) hd1 hx fun r1 H1 s1 hr1 => ?_
          refine ⟨.ref a, rfl, a, _, dx, _, _, rfl, s1 _ _ ha, T.o_Earlier.cl, T.n_Earlier_second, rfl, ?_⟩
          refine rd_form T (ta := tVar 0) hd2 (hy.same s1) fun r2 H2 s2 hr2 => ?_
          refine ⟨sz (by show 3 ≤ 100000; decide), fun p hp => ?_⟩
          exact q p _ ((s1.trans s2).trans (same_upd hp)) (.tup (SqT.of upd_same) (.cons (.str _) (.cons (Dp.same (s2.trans (same_upd hp)) _ _ hr1) (.cons (Dp.same (same_upd hp) _ _ hr2) .nil))))
        | _ => cases hk
end
end Pl

namespace Pl
open PySem L2
/-- the term plus an amount -/
def Tm.plus : Tm → Int → Tm
  | .shift m n, k => if k = 0 then .shift m n else if k + n = 0 then m else .shift m (k + n)
  | t, k => if k = 0 then t else .shift t k
def Tm.sok : Tm → Prop
  | .now => True
  | .shift m _ => m.sok
  | .look s m wy _ => PyData.strOk s = true ∧ PyData.strOk wy = true ∧ m.sok
  | .either a b => a.sok ∧ b.sok
  | .later a b => a.sok ∧ b.sok
  | .earlier a b => a.sok ∧ b.sok
theorem oD_ok (o : Option Int) : (oD o).canLay0 = true ∧ (oD o).depth = 0 := by cases o <;> simp [oD, PyData.canLay0, PyData.depth]
theorem Tm.canLay : ∀ (t : Tm), t.sok → t.data.canLay0 = true
  | .now, _ => by simp only [Tm.data, PyData.canLay0, PyData.canLayAll0]; decide +kernel
  | .shift m n, h => by
    have := Tm.canLay m h
    simp only [Tm.data, PyData.canLay0, PyData.canLayAll0, this, Bool.and_true, Bool.true_and]
    decide +kernel
  | .look s m wy lim, ⟨h1, h2, h3⟩ => by
    have := Tm.canLay m h3
    simp only [Tm.data, PyData.canLay0, PyData.canLayAll0, this, h1, h2, (oD_ok lim).1, Bool.and_true, Bool.true_and]
  | .either a b, ⟨h1, h2⟩ => by
    have e1 := Tm.canLay a h1
    have e2 := Tm.canLay b h2
    simp only [Tm.data, PyData.canLay0, PyData.canLayAll0, e1, e2, Bool.and_true, Bool.true_and]
    decide +kernel
  | .later a b, ⟨h1, h2⟩ => by
    have e1 := Tm.canLay a h1
    have e2 := Tm.canLay b h2
    simp only [Tm.data, PyData.canLay0, PyData.canLayAll0, e1, e2, Bool.and_true, Bool.true_and]
    decide +kernel
  | .earlier a b, ⟨h1, h2⟩ => by
    have e1 := Tm.canLay a h1
    have e2 := Tm.canLay b h2
    simp only [Tm.data, PyData.canLay0, PyData.canLayAll0, e1, e2, Bool.and_true, Bool.true_and]
    decide +kernel
theorem Tm.dataDepth : ∀ (t : Tm), t.data.depth = t.depth
  | .now => by simp [Tm.data, PyData.depth, PyData.depthAll, Tm.depth]
  | .shift m n => by
    have := Tm.dataDepth m
    simp only [Tm.data, PyData.depth, PyData.depthAll, Tm.depth, this]
    omega
  | .look s m wy lim => by
    have := Tm.dataDepth m
    simp only [Tm.data, PyData.depth, PyData.depthAll, Tm.depth, this, (oD_ok lim).2]
    omega
  | .either a b => by
    have e1 := Tm.dataDepth a
    have e2 := Tm.dataDepth b
    simp only [Tm.data, PyData.depth, PyData.depthAll, Tm.depth, e1, e2]
    omega
  | .later a b => by
    have e1 := Tm.dataDepth a
    have e2 := Tm.dataDepth b
    simp only [Tm.data, PyData.depth, PyData.depthAll, Tm.depth, e1, e2]
    omega
  | .earlier a b => by
    have e1 := Tm.dataDepth a
    have e2 := Tm.dataDepth b
    simp only [Tm.data, PyData.depth, PyData.depthAll, Tm.depth, e1, e2]
    omega
theorem Tm.shaped {t : Tm} (h : t.sok) (hd : t.depth ≤ 12) : SeqAt.shaped t.data = true := by
  unfold SeqAt.shaped
  rw [t.canLay h, t.dataDepth]
  simp only [Bool.true_and, decide_eq_true_eq]
  omega
section
variable {P : Program} {w : World} {K : PySem.W.Frag} {mg : Str → Option Value} {base : Heap}
theorem Txt.ks (T : Txt P K mg) (t : Tm) : PySem.W.kitOne K (.ref (t.cls T.ca)) (.ref T.c_Shift) = some (match t with | .shift _ _ => true | _ => false) := by
  cases t
  · exact T.k1_Now_Shift
  · exact T.k1_Shift_Shift
  · exact T.k1_Look_Shift
  · exact T.k1_Either_Shift
  · exact T.k1_Later_Shift
  · exact T.k1_Earlier_Shift
theorem TmAt.ty {T : Txt P K mg} {H : Hp} {t : Tm} {a : Addr} (h : TmAt T.ca H t a) : TyX K H (.ref a) (.ref (t.cls T.ca)) := by
  obtain ⟨dx, fs, h1, _⟩ := h.obj
  exact (T.kc t).o.ty h1
/-- Term.__eq__ -/
def spTEq (T : Txt P K mg) : Sp := fun vs H Q _ => ∃ (t u : Tm) (a b : Addr), vs = [.ref a, .ref b] ∧ TmAt T.ca H t a ∧ TmAt T.ca H u b ∧ t.sok ∧ u.sok ∧ t.depth ≤ 12 ∧ u.depth ≤ 12 ∧ ∀ H', Same H H' → Q (.bl (PyData.eqv t.data u.data)) H'
theorem ok_term_eq (T : Txt P K mg) {k : Nat} : FnR P w K mg base CX0 (k + 13) T.Term_eq.f (spTEq T) := by
  have G_form : ∀ kd, FnR P w K mg base CX0 (k + 12) (T.formF kd) (spForm T 12 kd) := fun kd => ok_form T 12 kd
  refine toR (T.Term_eq.F.ok (k := k + 12) sc_Term_eq (fun vs H Q E h => ?_) (fun cdv A outer s H vs Q E hr h => ?_)) T.Term_eq.b
  · obtain ⟨t, u, a, b, rfl, _⟩ := h
    rfl
  · obtain ⟨t, u, a, b, rfl, ht, hu, st, su, dt, du, q⟩ := h
    refine ⟨_, (pss_one (ps_ret (pe_and (pe_callB call_isi (by rfl) T.n_isinstance (by decide +kernel) (pa_cons (pv 1) (pa_cons (pe_glob (v := .ref T.c_Term) (by rfl) T.g_Term rfl) pa_nil))) (pe_one (pe_cmpR (op_eqD hr.units) (pe_methV0 (pv 0) G_form (hr.mono (by omega)) pass0) (pe_methV0 (pv 1) G_form (hr.mono (by omega)) pass0) (nomark _)))))), ?_⟩
    refine ⟨.ref b, rfl, _, _, _, _, _, rfl, .own _, hu.ty, (T.kc u).kt, _, rfl, iT rfl ⟨.ref a, rfl, ?_⟩⟩
    refine rd_form T (ta := tVar 0) dt ht fun r1 H1 s1 hr1 => ?_
    refine ⟨.ref b, rfl, ?_⟩
    refine rd_form T (ta := tVar 1) du (hu.same s1) fun r2 H2 s2 hr2 => ?_
    exact ⟨_, _, Dp.same s2 _ _ hr1, hr2, Tm.shaped st dt, Tm.shaped su du, q H2 (s1.trans s2)⟩
/-- shifted(term, amount) -/
def spShifted (T : Txt P K mg) : Sp := fun vs H Q _ => ∃ (t : Tm) (a : Addr) (k : Int), vs = [.ref a, .int k] ∧ TmAt T.ca H t a ∧ (t.plus k).fits ∧ ∀ r H', Same H H' → TmAt T.ca H' (t.plus k) r → Q (.ref r) H'
theorem ok_shifted (T : Txt P K mg) {k : Nat} : FnOk P w K mg base CX0 (k + 4) T.shifted.f T.shifted.fd ["term", "amount"] (spShifted T) := by
  have G_Shift_init : FnR P w K mg base CX0 (k + 2) T.Shift_init.f (spShiftInit T) := ok_shift_init T
  refine T.shifted.F.ok (k := k + 3) sc_shifted (fun vs H Q E h => ?_) (fun cdv A outer s H vs Q E hr h => ?_)
  · obtain ⟨t, a, k, rfl, _⟩ := h
    rfl
  · obtain ⟨t, a, n, rfl, ht, hf, q⟩ := h
    refine ⟨_, (pss_cons (ps_if (PW.pt (pw_and (pt_val (pe_callB call_isi (by rfl) T.n_isinstance (by decide +kernel) (pa_cons (pv 0) (pa_cons (pe_glob (v := .ref T.c_Shift) (by rfl) T.g_Shift rfl) pa_nil)))) (pw_and1 (pt_cmpR op_ne (pv 1) pe_int (nomark _))))) (pss_cons (ps_set (i := 1) sc_shifted.nd rfl (.inl rfl) (pe_op op_add (pv 1) (pe_fld (pv 0) rfl)))
  (pss_one (ps_set (i := 0) sc_shifted.nd rfl (.inl rfl) (pe_fld (pv 0) rfl)))) pss_nil)
  (pss_cons (ps_if (pt_cmpR op_eq (pv 1) pe_int (nomark _)) (pss_one (ps_ret (pv 0))) pss_nil)
  (pss_one (ps_ret (StX.pe_makeR T.mk_Shift G_Shift_init (hr.mono (by omega)) (by rfl) T.g_Shift pass0 (pa_cons (pv 0) (pa_cons (pv 1) pa_nil))))))), ?_⟩
    have mk : ∀ (m : Tm) (b : Addr) (n : Int) (H : Hp) (Q : VK), TmAt T.ca H m b → (Tm.shift m n).fits → (∀ r H', Same H H' → TmAt T.ca H' (.shift m n) r → Q (.ref r) H') → ∀ x dx, H x = none → H dx = none → dx ≠ x →
        spShiftInit T [.ref x, .ref b, .int n] (upd (upd H dx (.own x)) x (.ins T.c_Shift dx [])) (fun v H2 => v = .non ∧ Q (.ref x) H2) E0 := fun m b n H Q hm hf q x dx hx hdx hne => by
      have s1 : Same H (upd (upd H dx (.own x)) x (.ins T.c_Shift dx [])) := fun c o e => by
        rw [upd_ne (ne_of_none e hx), upd_ne (ne_of_none e hdx)]
        exact e
      exact ⟨H, m, n, x, b, dx, rfl, s1, hx, hm, hf, upd_same, fun H' s' h' => ⟨rfl, q x H' s' h'⟩⟩
    by_cases hs : ∃ m i, t = .shift m i
    · obtain ⟨m, i, rfl⟩ := hs
      obtain ⟨dx, b, ha, hm⟩ := id ht
      refine ⟨.ref a, rfl, _, _, _, _, _, rfl, .own _, ht.ty, T.k1_Shift_Shift, _, rfl, iT rfl ⟨.int n, rfl, rfl, _, rfl, ?_⟩⟩
      by_cases n0 : n = 0
      · subst n0
        refine iF rfl ?_
        refine ⟨.int 0, rfl, rfl, _, rfl, iT rfl ⟨.ref a, rfl, ?_⟩⟩
        exact q a H (Same.refl H) ht
      · refine iT (by simp [n0]) ?_
        refine ⟨.int n, rfl, .ref a, rfl, a, _, dx, _, _, rfl, ha, T.o_Shift.cl, T.n_Shift_amount, rfl, _, _, rfl, rfl, .ref a, rfl, a, _, dx, _, _, rfl, ha, T.o_Shift.cl, T.n_Shift_moment, rfl, ?_⟩
        refine ⟨.int (n + i), rfl, rfl, _, rfl, ?_⟩
        by_cases e : n + i = 0
        · have ep : (Tm.shift m i).plus n = m := by simp only [Tm.plus]; rw [if_neg n0, if_pos e]
          rw [ep] at q
          exact iT (decide_eq_true (by rw [e])) ⟨.ref b, rfl, q b H (Same.refl H) hm⟩
        · have ep : (Tm.shift m i).plus n = .shift m (n + i) := by simp only [Tm.plus]; rw [if_neg n0, if_neg e]
          rw [ep] at q hf
          exact iF (decide_eq_false (fun h => e (V.int.inj h))) ⟨.ref b, rfl, .int (n + i), rfl, mk m b (n + i) H Q hm hf q⟩
    · have ek : PySem.W.kitOne K (.ref (t.cls T.ca)) (.ref T.c_Shift) = some false := by
        have := T.ks t
        cases t with
        | shift m i => exact absurd ⟨m, i, rfl⟩ hs
        | _ => exact this
      refine ⟨.ref a, rfl, _, _, _, _, _, rfl, .own _, ht.ty, ek, _, rfl, iF rfl ?_⟩
      refine ⟨.int n, rfl, rfl, _, rfl, ?_⟩
      have ep : t.plus n = if n = 0 then t else .shift t n := by
        cases t with
        | shift m i => exact absurd ⟨m, i, rfl⟩ hs
        | _ => rfl
      rw [ep] at q hf
      by_cases n0 : n = 0
      · rw [if_pos n0] at q
        exact iT (decide_eq_true (by rw [n0])) ⟨.ref a, rfl, q a H (Same.refl H) ht⟩
      · rw [if_neg n0] at q hf
        exact iF (decide_eq_false (fun h => n0 (V.int.inj h))) ⟨.ref a, rfl, .int n, rfl, mk t a n H Q ht hf q⟩
/-- Term.__add__, Term.__sub__ -/
def spTAdd (T : Txt P K mg) (sg : Int) : Sp := fun vs H Q _ => ∃ (t : Tm) (a : Addr) (k : Int), vs = [.ref a, .int k] ∧ TmAt T.ca H t a ∧ (t.plus (sg * k)).fits ∧ ∀ r H', Same H H' → TmAt T.ca H' (t.plus (sg * k)) r → Q (.ref r) H'
theorem ok_term_add (T : Txt P K mg) {k : Nat} : FnR P w K mg base CX0 (k + 5) T.Term_add.f (spTAdd T 1) := by
  have G_check_moment : FnOk P w K mg base CX0 (k + 2) T.check_moment.f T.check_moment.fd ["value"] spCkMoment := ok_check_moment T
  have G_shifted : FnOk P w K mg base CX0 (k + 4) T.shifted.f T.shifted.fd ["term", "amount"] (spShifted T) := ok_shifted T
  refine toR (T.Term_add.F.ok (k := k + 4) sc_Term_add (fun vs H Q E h => ?_) (fun cdv A outer s H vs Q E hr h => ?_)) T.Term_add.b
  · obtain ⟨t, a, k, rfl, _⟩ := h
    rfl
  · obtain ⟨t, a, n, rfl, ht, hf, q⟩ := h
    rw [Int.one_mul] at hf q
    refine ⟨_, (pss_cons (ps_expr (pe_call G_check_moment (hr.mono (by omega)) (by rfl) T.check_moment.g T.check_moment.F.kp T.check_moment.b .nil pass0 (pa_cons (pv 1) pa_nil)))
  (pss_one (ps_ret (pe_call G_shifted (hr.mono (by omega)) (by rfl) T.shifted.g T.shifted.F.kp T.shifted.b .nil pass0 (pa_cons (pv 0) (pa_cons (pv 1) pa_nil)))))), ?_⟩
    exact ⟨.int n, rfl, n, rfl, .ref a, rfl, .int n, rfl, t, a, n, rfl, ht, hf, q⟩
theorem ok_term_sub (T : Txt P K mg) {k : Nat} : FnR P w K mg base CX0 (k + 5) T.Term_sub.f (spTAdd T (-1)) := by
  have G_check_moment : FnOk P w K mg base CX0 (k + 2) T.check_moment.f T.check_moment.fd ["value"] spCkMoment := ok_check_moment T
  have G_shifted : FnOk P w K mg base CX0 (k + 4) T.shifted.f T.shifted.fd ["term", "amount"] (spShifted T) := ok_shifted T
  refine toR (T.Term_sub.F.ok (k := k + 4) sc_Term_sub (fun vs H Q E h => ?_) (fun cdv A outer s H vs Q E hr h => ?_)) T.Term_sub.b
  · obtain ⟨t, a, k, rfl, _⟩ := h
    rfl
  · obtain ⟨t, a, n, rfl, ht, hf, q⟩ := h
    rw [show -1 * n = -n by omega] at hf q
    refine ⟨_, (pss_cons (ps_expr (pe_call G_check_moment (hr.mono (by omega)) (by rfl) T.check_moment.g T.check_moment.F.kp T.check_moment.b .nil pass0 (pa_cons (pv 1) pa_nil)))
  (pss_one (ps_ret (pe_call G_shifted (hr.mono (by omega)) (by rfl) T.shifted.g T.shifted.F.kp T.shifted.b .nil pass0 (pa_cons (pv 0) (pa_cons (pe_un un_neg (pv 1)) pa_nil)))))), ?_⟩
    exact ⟨.int n, rfl, n, rfl, .ref a, rfl, .int n, rfl, n, rfl, t, a, -n, rfl, ht, hf, q⟩
/-- check_term of a term -/
def spCkTerm (T : Txt P K mg) : Sp := fun vs H Q _ => ∃ (t : Tm) (a : Addr), vs = [.ref a] ∧ TmAt T.ca H t a ∧ Q .non H
theorem ok_check_term (T : Txt P K mg) {k : Nat} : FnOk P w K mg base CX0 (k + 1) T.check_term.f T.check_term.fd ["value"] (spCkTerm T) := by
  refine T.check_term.F.ok (k := k) sc_check_term (fun vs H Q E h => ?_) (fun cdv A outer s H vs Q E hr h => ?_)
  · obtain ⟨t, a, rfl, _⟩ := h
    rfl
  · obtain ⟨t, a, rfl, ht, q⟩ := h
    refine ⟨_, (pss_one (ps_if (pt_not (pt_val (pe_callB call_isi (by rfl) T.n_isinstance (by decide +kernel) (pa_cons (pv 0) (pa_cons (pe_glob (v := .ref T.c_Term) (by rfl) T.g_Term rfl) pa_nil))))) (pss_one ps_never) pss_nil)), ?_⟩
    exact ⟨.ref a, rfl, _, _, _, _, _, rfl, .own _, ht.ty, (T.kc t).kt, _, rfl, iF rfl q⟩
/-- a world's object -/
def WoIs (T : Txt P K mg) (H : Hp) (a : Addr) : Prop := ∃ dx fs, H a = some (.ins T.c_World dx fs)
/-- a world at a, its list of pairs at l, its rows ps -/
def WoA (T : Txt P K mg) (H : Hp) (a l : Addr) (ps : List (Str × Int)) : Prop := ∃ dx vs, H a = some (.ins T.c_World dx [("pairs", .ref l)]) ∧ H l = some (.lst vs) ∧ PrsAt H vs ps
theorem WoA.same {T : Txt P K mg} {H H' : Hp} {a l : Addr} {ps : List (Str × Int)} (s : Same H H') (h : WoA T H a l ps) : WoA T H' a l ps := by
  obtain ⟨dx, vs, h1, h2, h3⟩ := h
  exact ⟨dx, vs, s _ _ h1, s _ _ h2, h3.same s⟩
theorem WoA.is {T : Txt P K mg} {H : Hp} {a l : Addr} {ps : List (Str × Int)} (h : WoA T H a l ps) : WoIs T H a := by
  obtain ⟨dx, vs, h1, _⟩ := h
  exact ⟨dx, _, h1⟩
theorem WoA.mn {T : Txt P K mg} {S : List Addr} {H : Hp} {a l : Addr} {ps : List (Str × Int)} (hS : Lsts S H) (hl : l ∉ S) (h : WoA T H a l ps) : WoA T (mn S H) a l ps := by
  obtain ⟨dx, vs, h1, h2, h3⟩ := h
  exact ⟨dx, vs, mn_nl hS h1 (fun _ z => nomatch z), by rw [mn_at hl]; exact h2, h3.mn hS⟩
theorem TmAt.mn {c : CA} {S : List Addr} {H : Hp} (hS : Lsts S H) : ∀ {t : Tm} {a : Addr}, TmAt c H t a → TmAt c (mn S H) t a := by
  have key : ∀ {a C dx : Addr} {fs : List (Str × V)}, H a = some (.ins C dx fs) → Pl.mn S H a = some (.ins C dx fs) := fun {a C dx fs} h => mn_nl hS h (fun _ z => nomatch z)
  intro t
  induction t with
  | now => intro a ⟨dx, h⟩; exact ⟨dx, key h⟩
  | shift m n ih => intro a ⟨dx, b, h, h1⟩; exact ⟨dx, b, key h, ih h1⟩
  | look s m wy lim ih => intro a ⟨dx, b, h, h1⟩; exact ⟨dx, b, key h, ih h1⟩
  | either x y i1 i2 => intro a ⟨dx, b, d, h, h1, h2⟩; exact ⟨dx, b, d, key h, i1 h1, i2 h2⟩
  | later x y i1 i2 => intro a ⟨dx, b, d, h, h1, h2⟩; exact ⟨dx, b, d, key h, i1 h1, i2 h2⟩
  | earlier x y i1 i2 => intro a ⟨dx, b, d, h, h1, h2⟩; exact ⟨dx, b, d, key h, i1 h1, i2 h2⟩
def spCkWorld (T : Txt P K mg) : Sp := fun vs H Q _ => ∃ (a : Addr), vs = [.ref a] ∧ WoIs T H a ∧ Q .non H
theorem ok_check_world (T : Txt P K mg) {k : Nat} : FnOk P w K mg base CX0 (k + 1) T.check_world.f T.check_world.fd ["value"] (spCkWorld T) := by
  refine T.check_world.F.ok (k := k) sc_check_world (fun vs H Q E h => ?_) (fun cdv A outer s H vs Q E hr h => ?_)
  · obtain ⟨a, rfl, _⟩ := h
    rfl
  · obtain ⟨a, rfl, ⟨dx, fs, ha⟩, q⟩ := h
    refine ⟨_, (pss_one (ps_if (pt_not (pt_val (pe_callB call_isi (by rfl) T.n_isinstance (by decide +kernel) (pa_cons (pv 0) (pa_cons (pe_glob (v := .ref T.c_World) (by rfl) T.g_World rfl) pa_nil))))) (pss_one ps_never) pss_nil)), ?_⟩
    exact ⟨.ref a, rfl, _, _, _, _, _, rfl, .own _, T.o_World.ty ha, T.k1_World_World, _, rfl, iF rfl q⟩
end
end Pl

namespace Pl
open PySem L2
section
variable {P : Program} {w : World} {K : PySem.W.Frag} {mg : Str → Option Value} {base : Heap}
def spIsName : Sp := fun vs H Q _ => ∃ z : Str, vs = [.str z] ∧ goodName z ∧ ∀ H', Same H H' → Q (.bl true) H'
theorem ok_is_name (T : Txt P K mg) {k : Nat} : FnOk P w K mg base CX0 (k + 1) T.is_name.f T.is_name.fd ["name"] spIsName := by
  refine T.is_name.F.ok (k := k) sc_is_name (fun vs H Q E h => ?_) (fun cdv A outer s H vs Q E hr h => ?_)
  · obtain ⟨z, rfl, _⟩ := h
    rfl
  · obtain ⟨z, rfl, ⟨g1, g2, g3⟩, q⟩ := h
    refine ⟨_, (pss_cons (ps_if (PW.pt (pw_or (pt_not (pt_val (pe_callB call_isi (by rfl) T.n_isinstance (by decide +kernel) (pa_cons (pv 0) (pa_cons (pe_bltn (v := .ty "str") (by rfl) T.n_str (by decide +kernel) rfl) pa_nil))))) (pw_or1 (pt_not (pt_chain op_le op_le pe_int (pe_callB call_len_str (by rfl) T.n_len PySem.boot_len (pa_cons (pv 0) pa_nil)) pe_int))))) (pss_one (ps_ret pe_bl)) pss_nil)
  (pss_one (ps_ret (pe_cmpR op_eq (pe_callB call_len_seq (by rfl) T.n_len PySem.boot_len (pa_cons (pe_lc (own := [("letter", 1)]) (g := gName 1) (tt := (tTest (tOp _ (tVar 1) (tC _)))) (te := (tVar 1)) rfl sc_is_name.nd (pi_str (pv 0)) (blkOk_by (own := [("letter", 1)]) (N := N_is_name) (sc := defScope s_is_name) (by decide +kernel)) (fun _ _ _ _ _ => (pg_name (i := 1) sc_is_name.nd rfl (.inl rfl))) (fun _ _ _ _ _ => (pts_one (pt_cmpR op_notIn_sign (pv 1) (pe_glob (v := .str "abcdefghijklmnopqrstuvwxyz") (by rfl) T.k_LETTERS ⟨_, rfl⟩) (by with_unfolding_all rfl)))) (fun _ _ _ _ _ => (pv 1))) pa_nil)) pe_int (nomark _))))), ?_⟩
    have ty : Ty H (.str z) "str" := .str z
    have hz : z.length ≤ sizeLine := Nat.le_trans g2 (by decide)
    refine ⟨.str z, rfl, _, _, _, _, _, rfl, .ty "str", ty.x, isI_str ty, _, rfl, iF (by unfold tyB; rw [kb_str_str]; rfl) ?_⟩
    refine ⟨.str z, rfl, z, rfl, hz, ?_⟩
    refine ⟨_, _, rfl, rfl, _, rfl, iT (decide_eq_true (by omega)) ⟨_, _, rfl, rfl, _, rfl, iF (by rw [decide_eq_true (by omega : ((z.length : Nat) : Int) ≤ 12)]; rfl) ?_⟩⟩
    refine ⟨.str z, rfl, z, rfl, fun D hD => ?_⟩
    refine lc_it (walk_str (z := z)) (fun i H' => Same H H' ∧ H' D = some (.lst [])) ⟨same_upd hD, upd_same⟩ (fun _ _ _ _ => trivial) (fun i x H1 H2 hi pp y => ?_) (fun H' pp => ?_)
    · obtain ⟨rfl, c, hc, rfl⟩ := y
      refine ⟨rfl, ?_⟩
      refine ⟨.str ⟨#[c]⟩, rfl, c, _, rfl, rfl, _, rfl, ?_⟩
      have hin : c ∈ letters.cps.toList := g3 c (by
        have := Array.mem_of_getElem? hc
        exact Array.mem_toList_iff.mpr this)
      exact iF (by rw [decide_eq_true hin]; rfl) pp
    · exact ⟨D, _, rfl, .inl (SqL.of pp.2), rfl, q H' pp.1⟩
def spCkName : Sp := fun vs H Q _ => ∃ z : Str, vs = [.str z] ∧ goodName z ∧ ∀ H', Same H H' → Q .non H'
theorem ok_check_name (T : Txt P K mg) {k : Nat} : FnOk P w K mg base CX0 (k + 2) T.check_name.f T.check_name.fd ["name"] spCkName := by
  have G_is_name : FnOk P w K mg base CX0 (k + 1) T.is_name.f T.is_name.fd ["name"] spIsName := ok_is_name T
  refine T.check_name.F.ok (k := k + 1) sc_check_name (fun vs H Q E h => ?_) (fun cdv A outer s H vs Q E hr h => ?_)
  · obtain ⟨z, rfl, _⟩ := h
    rfl
  · obtain ⟨z, rfl, g, q⟩ := h
    refine ⟨_, (pss_one (ps_if (pt_not (pt_val (pe_call G_is_name (hr.mono (by omega)) (by rfl) T.is_name.g T.is_name.F.kp T.is_name.b .nil pass0 (pa_cons (pv 0) pa_nil)))) (pss_one ps_never) pss_nil)), ?_⟩
    exact ⟨.str z, rfl, z, rfl, g, fun H' s' => ⟨_, rfl, iF rfl (q H' s')⟩⟩
/-- check_rows of a list of distinct numbers -/
def spCkRows : Sp := fun vs H Q _ => ∃ (v : V) (a : Addr) (ns : List Int), vs = [v, .ref a] ∧ H a = some (.lst (ns.map V.int)) ∧ ns.Nodup ∧ ns.length ≤ 300 ∧ Q .non H
theorem ok_check_rows (T : Txt P K mg) {k : Nat} : FnOk P w K mg base CX0 (k + 2) T.check_rows.f T.check_rows.fd ["name", "moments"] spCkRows := by
  have G_is_integer : FnOk P w K mg base CX0 (k + 1) T.is_integer.f T.is_integer.fd ["value"] spIsInteger := ok_is_integer T
  refine T.check_rows.F.ok (k := k + 1) sc_check_rows (fun vs H Q E h => ?_) (fun cdv A outer s H vs Q E hr h => ?_)
  · obtain ⟨v, a, ns, rfl, _⟩ := h
    rfl
  · obtain ⟨v, a, ns, rfl, ha, hnd, hl, q⟩ := h
    refine ⟨_, (pss_cons (ps_if (pt_not (pt_val (pe_callB call_isi (by rfl) T.n_isinstance (by decide +kernel) (pa_cons (pv 1) (pa_cons (pe_bltn (v := .ty "list") (by rfl) T.n_list (by decide +kernel) rfl) pa_nil))))) (pss_one ps_never) pss_nil)
  (pss_cons (ps_for PassesOwn.never rfl (pi_list (pv 1)) (pg_name (i := 2) sc_check_rows.nd rfl (.inl rfl))
   (pss_one (ps_if (pt_not (pt_val (pe_call G_is_integer (hr.mono (by omega)) (by rfl) T.is_integer.g T.is_integer.F.kp T.is_integer.b .nil pass0 (pa_cons (pv 2) pa_nil)))) (pss_one ps_never) pss_nil)))
  (pss_one (ps_if (pt_cmpR op_lt (RZ.pe_lenSetI (by rfl) T.n_len (by rfl) T.n_set (pv 1)) (pe_callB call_len_seq (by rfl) T.n_len PySem.boot_len (pa_cons (pv 1) pa_nil)) (nomark _)) (pss_one ps_never) pss_nil)))), ?_⟩
    have ty : Ty H (.ref a) "list" := .lst ha
    refine ⟨.ref a, rfl, _, _, _, _, _, rfl, .ty "list", ty.x, isI_list ty, _, rfl, iF (by unfold tyB; rw [kb_list_list]; rfl) ?_⟩
    refine ⟨.ref a, rfl, a, rfl, ⟨_, SqL.of ha⟩, ?_⟩
    refine for_list (K := K) (a := a) (xs := ns.map V.int) (fun i σ H' => H' = H ∧ ∃ u, σ = [some v, some (.ref a), u]) ⟨rfl, _, rfl⟩ (fun i σ H' _ pp => by rw [pp.1]; exact SqL.of ha) (fun i x σ H' hx pp => ?_) (fun σ H' pp => ?_)
    · obtain ⟨rfl, u, rfl⟩ := pp
      obtain ⟨j, rfl⟩ : ∃ j, x = V.int j := by
        rw [List.getElem?_map] at hx
        cases e : ns[i]? with
        | none => rw [e] at hx; cases hx
        | some j => rw [e] at hx; exact ⟨j, (Option.some.inj hx).symm⟩
      exact ⟨.int j, rfl, .int j, "int", rfl, .int j, _, rfl, iF rfl ⟨rfl, _, rfl⟩⟩
    · obtain ⟨rfl, u, rfl⟩ := pp
      refine ⟨.ref a, rfl, a, ns, rfl, SqL.of ha, hnd, by omega, .ref a, rfl, a, _, rfl, .inl (SqL.of ha), _, _, rfl, rfl, _, rfl, ?_⟩
      exact iF (decide_eq_false (by rw [List.length_map]; omega)) q
/-- limited(pairs) -/
def spLimited : Sp := fun vs H Q _ => ∃ (a : Addr) (xs : List V), vs = [.ref a] ∧ H a = some (.lst xs) ∧ xs.length ≤ 300 ∧ Q (.ref a) H
theorem ok_limited (T : Txt P K mg) {k : Nat} : FnOk P w K mg base CX0 (k + 1) T.limited.f T.limited.fd ["pairs"] spLimited := by
  refine T.limited.F.ok (k := k) sc_limited (fun vs H Q E h => ?_) (fun cdv A outer s H vs Q E hr h => ?_)
  · obtain ⟨a, xs, rfl, _⟩ := h
    rfl
  · obtain ⟨a, xs, rfl, ha, hl, q⟩ := h
    refine ⟨_, (pss_cons (ps_if (pt_cmpR op_gt (pe_callB call_len_seq (by rfl) T.n_len PySem.boot_len (pa_cons (pv 0) pa_nil)) (pe_glob (v := .int 300) (by rfl) T.k_MOST_ROWS ⟨_, rfl⟩) (nomark _)) (pss_one ps_never) pss_nil)
  (pss_one (ps_ret (pv 0)))), ?_⟩
    refine ⟨.ref a, rfl, a, _, rfl, .inl (SqL.of ha), _, _, rfl, rfl, _, rfl, iF (decide_eq_false (by omega)) ?_⟩
    exact ⟨.ref a, rfl, q⟩
end
end Pl

namespace Pl
open PySem L2
section
variable {P : Program} {w : World} {K : PySem.W.Frag} {mg : Str → Option Value} {base : Heap}
theorem prs_len {rs : Rws} (i : Nat) (r : Str × List Int) (h : rs[i]? = some r) : ((rs.take i).flatMap prsOf).length + (prsOf r).length ≤ (rs.map fun r => r.2.length).sum := by
  induction rs generalizing i with
  | nil => simp at h
  | cons x rs ih =>
    cases i with
    | zero =>
      have e : x = r := Option.some.inj h
      subst e
      simp [prsOf]
    | succ i =>
      have := ih i h
      simp only [List.take_succ_cons, List.flatMap_cons, List.length_append, List.map_cons, List.sum_cons]
      have e : (prsOf x).length = x.2.length := by simp [prsOf]
      omega
theorem prs_all (rs : Rws) : (rs.flatMap prsOf).length = (rs.map fun r => r.2.length).sum := by
  induction rs with
  | nil => rfl
  | cons x rs ih =>
    simp only [List.flatMap_cons, List.length_append, List.map_cons, List.sum_cons, ih]
    simp [prsOf]
/-- checked_pairs: the sorted pairs -/
def spChPairs : Sp := fun vs H Q _ => ∃ (d : Addr) (kvs : List (Key × V)) (rs : Rws), vs = [.ref d] ∧ H d = some (.dK kvs) ∧ EntsAt H kvs rs ∧ goodRows rs ∧
  ∀ (r : Addr) (H' : Hp) (us : List V), Same H H' → H r = none → H' r = some (.lst us) → PrsAt H' us (wRows rs) → Q (.ref r) H'
theorem ok_checked_pairs (T : Txt P K mg) {k : Nat} : FnOk P w K mg base CX0 (k + 3) T.checked_pairs.f T.checked_pairs.fd ["rows"] spChPairs := by
  have G_check_name : FnOk P w K mg base CX0 (k + 2) T.check_name.f T.check_name.fd ["name"] spCkName := ok_check_name T
  have G_check_rows : FnOk P w K mg base CX0 (k + 2) T.check_rows.f T.check_rows.fd ["name", "moments"] spCkRows := ok_check_rows T
  have G_limited : FnOk P w K mg base CX0 (k + 1) T.limited.f T.limited.fd ["pairs"] spLimited := ok_limited T
  refine T.checked_pairs.F.ok (k := k + 2) sc_checked_pairs (fun vs H Q E h => ?_) (fun cdv A outer s H vs Q E hr h => ?_)
  · obtain ⟨d, kvs, rs, rfl, _⟩ := h
    rfl
  · obtain ⟨d, kvs, rs, rfl, hd, he, hg, q⟩ := h
    refine ⟨_, (pss_cons (ps_set (i := 1) sc_checked_pairs.nd rfl (.inl rfl) (pe_lst pa_nil))
  (pss_cons (ps_lock (ps_for PassesOwn.never rfl (pi_items (pv 0)) (pg_tup rfl (pgs_cons (pg_name (i := 2) sc_checked_pairs.nd rfl (.inr rfl)) (pgs_cons (pg_name (i := 3) sc_checked_pairs.nd rfl (.inl rfl)) pgs_nil)))
   (pss_cons (ps_expr (pe_call G_check_name (hr.mono (by omega)) (by rfl) T.check_name.g T.check_name.F.kp T.check_name.b .nil pass0 (pa_cons (pv 2) pa_nil)))
  (pss_cons (ps_expr (pe_call G_check_rows (hr.mono (by omega)) (by rfl) T.check_rows.g T.check_rows.F.kp T.check_rows.b .nil pass0 (pa_cons (pv 2) (pa_cons (pv 3) pa_nil))))
  (pss_one (ps_aug (i := 1) sc_checked_pairs.nd rfl (.inl rfl) (pe_lc (own := [("moment", 4)]) (g := gName 4) (tt := tYes) (te := (tTup (tCons (tVar 2) (tCons (tVar 4) tNil)))) rfl sc_checked_pairs.nd (pi_list (pv 3)) (blkOk_by (own := [("moment", 4)]) (N := N_checked_pairs) (sc := defScope s_checked_pairs) (by decide +kernel)) (fun _ _ _ _ _ => (pg_name (i := 4) sc_checked_pairs.nd rfl (.inl rfl))) (fun _ _ _ _ _ => pts_nil) (fun _ _ _ _ _ => (pe_tup (pa_cons (pv 2) (pa_cons (pv 4) pa_nil))))) iop_ext))))))
  (pss_one (ps_ret (pe_call G_limited (hr.mono (by omega)) (by rfl) T.limited.g T.limited.F.kp T.limited.b .nil pass0 (pa_cons (pe_callB (cr_sortD (enc := fun p : Str × Int => .tuple [.str p.1, .int p.2]) hr.units) (by rfl) T.n_sorted (by decide +kernel) (pa_cons (pv 1) pa_nil)) pa_nil)))))), ?_⟩
    refine ⟨sz (by show 0 ≤ 100000; decide), fun l hl => ?_⟩
    have hd1 : upd H l (.lst []) d = some (.dK kvs) := by rw [upd_ne (ne_of_none hd hl)]; exact hd
    refine ⟨d, _, hd1, trivial, fun od => ?_⟩
    refine ⟨.ref d, rfl, d, od, kvs, rfl, upd_same, ?_⟩
    refine for_it (walk_items (d := d) (o := od) (kvs := kvs)) (fun i σ H' => ∃ (us : List V) (y2 y3 y4 : Option V), σ = [some (.ref d), some (.ref l), y2, y3, y4] ∧ (∀ b o, b ≠ d → H b = some o → H' b = some o) ∧ H' d = some (.frz od (.dK kvs)) ∧
      H' l = some (.lst us) ∧ PrsAt H' us ((rs.take i).flatMap prsOf)) ?_ (fun i σ H' _ pp => ?_) (fun i x σ H1 H2 hi pp y => ?_) (fun σ H' pp => ?_)
    · exact ⟨[], none, none, none, rfl, fun b o nb e => by rw [upd_ne nb, upd_ne (ne_of_none e hl)]; exact e, upd_same, by rw [upd_ne (ne_of_none hd hl).symm, upd_same], rfl, fun i p e => by simp at e⟩
    · obtain ⟨us, y2, y3, y4, _, _, h3, _⟩ := pp
      exact h3
    · obtain ⟨us, y2, y3, y4, rfl, hb, hdf, hlu, hpr⟩ := pp
      obtain ⟨t, xk, yv, rfl, hT, rfl, e1, e2⟩ := y
      obtain ⟨kv, hkv⟩ : ∃ kv, kvs[i]? = some kv := ⟨_, List.getElem?_eq_getElem hi⟩
      obtain ⟨r, hr0⟩ : ∃ r, rs[i]? = some r := ⟨_, List.getElem?_eq_getElem (by rw [← he.1]; exact hi)⟩
      obtain ⟨k1, a, k2, ha⟩ := he.2 i kv r hkv hr0
      dsimp only at e1 e2
      rw [hkv] at e1 e2
      have e1' : kV kv.1 = xk := Option.some.inj e1
      have e2' : kv.2 = yv := Option.some.inj e2
      rw [k1] at e1'
      rw [k2] at e2'
      subst e1' e2'
      obtain ⟨g1, g2, g3⟩ := hg.1 r (List.mem_of_getElem? hr0)
      have nad : a ≠ d := fun z => by rw [z, hd] at ha; cases ha
      have ha1 : H1 a = some (.lst (r.2.map V.int)) := hb a _ nad ha
      have s2 : Same H1 (upd H1 t (.tup [kV (.inr r.1), .ref a])) := same_upd hT
      refine ⟨t, _, rfl, SqT.of upd_same, rfl, _, _, rfl, _, _, rfl, rfl, ?_⟩
      refine ⟨.str r.1, rfl, r.1, rfl, g1, fun H3 s3 => ?_⟩
      have s23 := s2.trans s3
      refine ⟨.str r.1, rfl, .ref a, rfl, .str r.1, a, r.2, rfl, s23 _ _ ha1, g2, g3, ?_⟩
      refine ⟨.ref l, rfl, .ref a, rfl, a, rfl, ⟨_, SqL.of (s23 _ _ ha1)⟩, fun D hD => ?_⟩
      have hD1 : H1 D = none := s23.free hD
      refine lc_list (K := K) (a := a) (xs := r.2.map V.int) (fun j H' => Same H3 H' ∧ ∃ vs, H' D = some (.lst vs) ∧ PrsAt H' vs ((prsOf r).take j)) ⟨same_upd hD, [], upd_same, rfl, fun i p e => by simp at e⟩ (fun j H' _ pp => SqL.of (pp.1 _ _ (s23 _ _ ha1))) (fun j x H' hx pp => ?_) (fun H' pp => ?_)
      · obtain ⟨s4, vs, hv, hp4⟩ := pp
        obtain ⟨m, hm, rfl⟩ : ∃ m, r.2[j]? = some m ∧ x = V.int m := by
          rw [List.getElem?_map] at hx
          cases e : r.2[j]? with
          | none => rw [e] at hx; cases hx
          | some m => rw [e] at hx; exact ⟨m, rfl, (Option.some.inj hx).symm⟩
        have hj : j < r.2.length := (List.getElem?_eq_some_iff.mp hm).1
        refine ⟨rfl, yes_if ⟨.str r.1, rfl, .int m, rfl, sz (by show 2 ≤ 100000; decide), fun p hp => ?_⟩⟩
        have npD : D ≠ p := ne_of_none hv hp
        have hv5 : upd H' p (.tup [.str r.1, .int m]) D = some (.lst vs) := by rw [upd_ne npD]; exact hv
        have hlen : vs.length ≤ 300 := by
          have := hp4.1
          rw [List.length_take] at this
          have e : (prsOf r).length = r.2.length := by simp [prsOf]
          omega
        refine ⟨vs, hv5, szl (by omega), same_mut (s4.trans (same_upd hp)) hD, vs ++ [.ref p], upd_same, ?_⟩
        have hpm : (prsOf r)[j]? = some (r.1, m) := by
          unfold prsOf
          rw [List.getElem?_map, hm]
          rfl
        rw [List.take_add_one, hpm]
        refine PrsAt.put hv5 ((hp4.same (same_upd hp)).app ⟨rfl, fun i q e => ?_⟩)
        cases i with
        | zero =>
          cases e
          exact ⟨p, rfl, upd_same⟩
        | succ i => simp at e
      · obtain ⟨s4, vs, hv, hp4⟩ := pp
        have e : (prsOf r).length = r.2.length := by simp [prsOf]
        rw [List.length_map, List.take_of_length_le (by omega)] at hp4
        have s14 := s23.trans s4
        have hl4 := s14 _ _ hlu
        have hlen := prs_len i r hr0
        have nlD : l ≠ D := fun z => by rw [z] at hlu; rw [hD1] at hlu; cases hlu
        refine ⟨l, D, us, vs, rfl, rfl, hl4, hv, sz (by rw [hpr.1, hp4.1]; have := hg.2; omega), ?_⟩
        refine ⟨us ++ vs, _, _, _, rfl, fun b o nb eb => ?_, ?_, upd_same, ?_⟩
        · rw [upd_ne (ne_of_none eb hl)]
          exact s14 _ _ (hb b o nb eb)
        · rw [upd_ne (ne_of_none hd hl)]
          exact s14 _ _ hdf
        · rw [List.take_add_one, hr0]
          rw [show (rs.take i ++ (some r).toList) = rs.take i ++ [r] from rfl, List.flatMap_append, List.flatMap_cons, List.flatMap_nil, List.append_nil]
          exact PrsAt.put hl4 ((hpr.same s14).app hp4)
    · obtain ⟨us, y2, y3, y4, rfl, hb, hdf, hlu, hpr⟩ := pp
      rw [he.1, List.take_of_length_le (Nat.le_refl _)] at hpr
      refine ⟨hdf, ?_⟩
      have hl5 : upd H' d (.dK kvs) l = some (.lst us) := by rw [upd_ne (ne_of_none hd hl).symm]; exact hlu
      have sH : Same H (upd H' d (.dK kvs)) := fun b o e => by
        by_cases nb : b = d
        · subst nb
          rw [upd_same, ← hd, e]
        · rw [upd_ne nb]
          exact hb b o nb e
      have hpr5 : PrsAt (upd H' d (.dK kvs)) us (rs.flatMap prsOf) := ⟨hpr.1, fun i p e => by
        obtain ⟨t, t1, t2⟩ := hpr.2 i p e
        refine ⟨t, t1, ?_⟩
        rw [upd_ne (fun z => by rw [z, hdf] at t2; cases t2)]
        exact t2⟩
      have hlen : us.length ≤ 300 := by rw [hpr.1, prs_all]; exact hg.2
      generalize upd H' d (.dK kvs) = H5 at hl5 sH hpr5 ⊢
      have hz1 : (us.zip (rs.flatMap prsOf)).map (·.1) = us := List.map_fst_zip (by rw [hpr5.1]; exact Nat.le_refl _)
      refine ⟨.ref l, rfl, l, us.zip (rs.flatMap prsOf), rfl, by rw [hz1]; exact SqL.of hl5, by rw [List.length_zip]; omega, fun p hp => ?_, PySem.W.AllAlike.of fun b b' => rfl, PySem.W.Sortable.tuples fun b => ⟨_, _, rfl⟩, fun p hp => ?_, fun z hz => ?_⟩
      · obtain ⟨i, hi⟩ := List.mem_iff_getElem?.mp hp
        obtain ⟨v, q'⟩ := p
        rw [List.getElem?_zip_eq_some] at hi
        obtain ⟨t, t1, t2⟩ := hpr5.2 i q' hi.2
        rw [hi.1] at t1
        cases t1
        exact .tup (SqT.of t2) (.cons (.str _) (.cons (.int _) .nil))
      · show PyData.depth (.tuple [.str p.2.1, .int p.2.2]) ≤ 10
        simp [PyData.depth, PyData.depthAll]
      · refine ⟨z, _, rfl, upd_same, ?_, q z _ _ (sH.trans (same_upd hz)) (sH.free hz) upd_same ((prs_sort hpr5).same (same_upd hz))⟩
        rw [List.length_map, List.length_mergeSort, List.length_zip]
        omega
end
end Pl

namespace Pl
open PySem L2
section
variable {P : Program} {w : World} {K : PySem.W.Frag} {mg : Str → Option Value} {base : Heap}
def spOpen (K : PySem.W.Frag) : Sp := fun vs H Q _ => ∃ (a : Addr) (ns : List Int), vs = [.ref a] ∧ SqL K H a (ns.map V.int) ∧ ns.length ≤ 63 ∧
  ∀ (b c : Addr) (H' : Hp), H b = none → H c = none → Same H H' → BoxAt b c H' → Q (.ref b) H'
theorem cut63 (ns : List Int) (h : ns.length ≤ 63) : cutV (ns.map V.int) none (some 63) = ns.map V.int := by
  unfold cutV
  rw [HT.sIx_none, show HT.sIx (ns.map V.int).length (ns.map V.int).length (some 63) = min 63 (ns.map V.int).length from HT.sIx_nat _ _ 63]
  rw [List.drop_zero, List.length_map, Nat.sub_zero]
  exact List.take_of_length_le (by rw [List.length_map]; omega)
theorem ok_law_open (T : Txt P K mg) {k : Nat} : FnOk P w K mg base CX0 (k + 1) T.law_open.f T.law_open.fd ["_law_script"] (spOpen K) := by
  refine T.law_open.F.ok sc_law_open (fun vs H Q E h => ?_) (fun cdv A outer s H vs Q E hr h => ?_)
  · obtain ⟨a, ns, rfl, _⟩ := h
    rfl
  · obtain ⟨a, ns, rfl, hS, hl, q⟩ := h
    refine ⟨_, (pss_cons (ps_set (i := 1) sc_law_open.nd rfl (.inl rfl) (pe_callTy call_list_of (by rfl) T.n_list (by decide +kernel) (pa_cons (pe_slice sl_list (pv 0) po_none (po_some pe_int)) pa_nil)))
  (pss_cons (ps_if (pt_cmpR op_eq (pe_callB call_len_seq (by rfl) T.n_len PySem.boot_len (pa_cons (pv 1) pa_nil)) pe_int (nomark _)) (pss_one (ps_expr (pe_bm PySem.F.plainAttrs_list PySem.F.slot_list_append PySem.F.type_list_append mt_append (pv 1) (pa_cons pe_int pa_nil)))) pss_nil)
  (pss_one (ps_ret (pe_lst (pa_cons (pv 1) (pa_cons pe_int pa_nil))))))), ?_⟩
    refine ⟨.ref a, rfl, 63, rfl, a, _, rfl, hS, fun p hp => ?_⟩
    rw [cut63 ns hl]
    refine ⟨p, _, rfl, .inl (SqL.of upd_same), fun c hc => ?_⟩
    have ncp : c ≠ p := fun e => by
      rw [e, upd_same] at hc
      cases hc
    have hc0 : H c = none := by rw [upd_ne ncp] at hc; exact hc
    have s1 : Same H (upd (upd H p (.lst (ns.map V.int))) c (.lst (ns.map V.int))) := (same_upd hp).trans (same_upd hc)
    refine ⟨.ref c, rfl, c, _, rfl, .inl (SqL.of upd_same), rfl, _, rfl, ite2 (fun e => ?_) (fun e => ?_)⟩
    · have e0 : ((ns.map V.int).length : Int) = 0 := V.int.inj (of_decide_eq_true e)
      have e1 : ns = [] := by
        cases ns with
        | nil => rfl
        | cons x r =>
          rw [List.length_map, List.length_cons] at e0
          omega
      subst e1
      refine ⟨.ref c, rfl, .inl ⟨rfl, _, SqL.of upd_same⟩, c, _, _, rfl, rfl, upd_same, szl (by show 0 < 100000; decide), ?_⟩
      rw [upd_upd]
      have s2 : Same H (upd (upd H p (.lst [])) c (.lst [.int 0])) := (same_upd hp).trans (same_upd hc)
      refine ⟨.ref c, rfl, sz (by show 2 ≤ 100000; decide), fun b hb => ?_⟩
      have nbc : b ≠ c := fun e => by
        rw [e, upd_same] at hb
        cases hb
      exact q b c _ (s2.free hb) hc0 (s2.trans (same_upd hb)) ⟨nbc, [0], 0, upd_same, by rw [upd_ne (Ne.symm nbc), upd_same]; rfl, by decide, by decide⟩
    · have h0 : 0 < ns.length := by
        cases ns with
        | nil => exact absurd (decide_eq_true rfl) e
        | cons x r => exact Nat.succ_pos _
      refine ⟨.ref c, rfl, sz (by show 2 ≤ 100000; decide), fun b hb => ?_⟩
      have nbc : b ≠ c := fun e => by
        rw [e, upd_same] at hb
        cases hb
      exact q b c _ (s1.free hb) hc0 (s1.trans (same_upd hb)) ⟨nbc, ns, 0, upd_same, by rw [upd_ne (Ne.symm nbc), upd_same], h0, by omega⟩
theorem nzA : (2147483647 : Int) ≠ 0 := by decide
theorem nzB : (2147483399 : Int) ≠ 0 := by decide
def spPick : Sp := fun vs H Q _ => ∃ (b c : Addr) (G : Hp) (m : Int), vs = [.ref b, .int m] ∧ Wd b c G H ∧ 0 < m ∧ m < 1073741824 ∧
  ∀ (i : Int) (H' : Hp), Wd b c G H' → 0 ≤ i → i < m → Q (.int i) H'
theorem box_cells {b c : Addr} {G H : Hp} {cs cs' : List Int} {k : Int} (nbc : b ≠ c) (x : Wd b c G H) (h : 0 < cs.length) (h' : cs.length ≤ 64) : Wd b c G (upd (upd H b (.lst [.ref c, .int k])) c (.lst (cs.map V.int))) :=
  ⟨⟨nbc, cs, k, by rw [upd_ne nbc, upd_same], upd_same, h, h'⟩, same_mut (same_mut x.gh x.gb) x.gc, x.gb, x.gc⟩
theorem ok_law_pick (T : Txt P K mg) {k : Nat} : FnOk P w K mg base CX0 (k + 1) T.law_pick.f T.law_pick.fd ["_law_box", "_law_many"] spPick := by
  refine T.law_pick.F.ok sc_law_pick (fun vs H Q E h => ?_) (fun cdv A outer s H vs Q E hr h => ?_)
  · obtain ⟨b, c, G, m, rfl, _⟩ := h
    rfl
  · obtain ⟨b, c, G, m, rfl, W, m0, m1, q⟩ := h
    obtain ⟨nbc, cs, k, hb, hc, l0, l1⟩ := W.box
    refine ⟨_, (pss_cons (ps_set (i := 2) sc_law_pick.nd rfl (.inl rfl) (pe_ix ix_list (pv 0) pe_int (fun _ _ => rfl)))
  (pss_cons (ps_set (i := 3) sc_law_pick.nd rfl (.inl rfl) (pe_ix ix_list (pv 0) pe_int (fun _ _ => rfl)))
  (pss_cons (ps_asg (pe_op op_add (pv 3) pe_int) (pg_sub (pv 0) pe_int set_list))
  (pss_cons (ps_set (i := 4) sc_law_pick.nd rfl (.inl rfl) (pe_op op_modN (pv 3) (pe_callB call_len_seq (by rfl) T.n_len PySem.boot_len (pa_cons (pv 2) pa_nil))))
  (pss_cons (ps_set (i := 5) sc_law_pick.nd rfl (.inl rfl) (pe_ix ix_list (pv 2) (pv 4) (fun _ _ => rfl)))
  (pss_cons (ps_if (pt_cmpR op_ge (pv 5) (pe_op op_pow pe_int pe_int) (nomark _)) (pss_cons (ps_asg (pe_op op_fdivN (pv 5) (pv 1)) (pg_sub (pv 2) (pv 4) set_list))
  (pss_one (ps_ret (pe_op op_modN (pe_callTy call_int1 (by rfl) T.n_int (by decide +kernel) (pa_cons (pv 5) pa_nil)) (pv 1))))) pss_nil)
  (pss_cons (ps_set (i := 6) sc_law_pick.nd rfl (.inl rfl) (pe_op op_modN (pe_callTy call_int1 (by rfl) T.n_int (by decide +kernel) (pa_cons (pe_op op_mul (pe_op op_add (pe_op op_add (pe_op op_modN (pe_callTy call_int1 (by rfl) T.n_int (by decide +kernel) (pa_cons (pv 5) pa_nil)) pe_int) (pe_op op_mul pe_int (pv 3))) pe_int) pe_int) pa_nil)) pe_int))
  (pss_cons (ps_set (i := 6) sc_law_pick.nd rfl (.inl rfl) (pe_op op_modN (pe_callTy call_int1 (by rfl) T.n_int (by decide +kernel) (pa_cons (pe_op op_mul (pv 6) (pe_op op_add (pe_op op_fdivN (pv 6) pe_int) pe_int)) pa_nil)) pe_int))
  (pss_cons (ps_set (i := 6) sc_law_pick.nd rfl (.inl rfl) (pe_op op_modN (pe_callTy call_int1 (by rfl) T.n_int (by decide +kernel) (pa_cons (pe_op op_mul (pv 6) (pe_op op_add (pe_op op_fdivN (pv 6) pe_int) pe_int)) pa_nil)) pe_int))
  (pss_one (ps_ret (pe_op op_modN (pe_callTy call_int1 (by rfl) T.n_int (by decide +kernel) (pa_cons (pe_op op_fdivN (pv 6) pe_int) pa_nil)) (pv 1))))))))))))), ?_⟩
    refine ⟨.ref b, rfl, b, _, 0, _, rfl, rfl, SqL.of hb, rfl, ?_⟩
    refine ⟨.ref b, rfl, b, _, 1, _, rfl, rfl, SqL.of hb, rfl, ?_⟩
    refine ⟨.int k, rfl, k, 1, rfl, rfl, .ref b, rfl, b, _, 1, 1, rfl, rfl, hb, rfl, ?_⟩
    show tSeq _ _ _ _ (upd H b (.lst [.ref c, .int (k + 1)]))
    have hc1 : upd H b (.lst [.ref c, .int (k + 1)]) c = some (.lst (cs.map V.int)) := by rw [upd_ne (Ne.symm nbc)]; exact hc
    have W1 : Wd b c G (upd H b (.lst [.ref c, .int (k + 1)])) := ⟨⟨nbc, cs, k + 1, upd_same, hc1, l0, l1⟩, same_mut W.gh W.gb, W.gb, W.gc⟩
    have ln : (0 : Int) < ((cs.map V.int).length : Int) := by rw [List.length_map]; omega
    refine ⟨.int k, rfl, .ref c, rfl, c, _, rfl, .inl (SqL.of hc1), k, _, rfl, rfl, by omega, ?_⟩
    have j0 := fm0 (a := k) ln
    have j1 := fm1 (a := k) ln
    dsimp only
    generalize ej : k.fmod ((cs.map V.int).length : Int) = j at j0 j1 ⊢
    have j2 : j < (cs.length : Int) := by rw [List.length_map] at j1; exact j1
    obtain ⟨x, hx⟩ := at_ints j0 j2
    refine ⟨.ref c, rfl, .int j, rfl, c, _, j, .int x, rfl, rfl, SqL.of hc1, hx, ?_⟩
    refine ⟨.int x, rfl, 10, 18, rfl, rfl, ⟨by decide, by decide, by decide⟩, x, _, rfl, rfl, _, rfl, ite2 (fun _ => ?_) (fun _ => ?_)⟩
    · refine ⟨.int x, rfl, .int m, rfl, x, m, rfl, rfl, ⟨by omega, by omega⟩, .ref c, rfl, .int j, rfl, c, _, j, j.toNat, rfl, rfl, hc1, ix_in j0 j1, ?_⟩
      refine ⟨.int x, rfl, .inl ⟨x, rfl, .int m, rfl, x, m, rfl, rfl, by omega, ?_⟩⟩
      refine q _ _ ?_ (fm0 m0) (fm1 m0)
      rw [← List.map_set]
      exact ⟨⟨nbc, cs.set j.toNat (x.fdiv m), k + 1, by rw [upd_ne nbc, upd_same], upd_same, by rw [List.length_set]; exact l0, by rw [List.length_set]; exact l1⟩, same_mut W1.gh W1.gc, W1.gb, W1.gc⟩
    · -- the number is mixed
      refine ⟨.int x, rfl, .inl ⟨x, rfl, x, 2147483647, rfl, rfl, nzA, .int k, rfl, 7919, k, rfl, rfl, .inl ⟨by decide, by decide⟩, _, _, rfl, rfl, _, 1, rfl, rfl, _, 48271, rfl, rfl, .inr ⟨by decide, by decide⟩, .inl ⟨_, rfl, _, 2147483647, rfl, rfl, nzA, ?_⟩⟩⟩
      have a0 := fm0 (a := (x.fmod 2147483647 + 7919 * k + 1) * 48271) (b := 2147483647) (by decide)
      have a1 := fm1 (a := (x.fmod 2147483647 + 7919 * k + 1) * 48271) (b := 2147483647) (by decide)
      dsimp only
      generalize ((x.fmod 2147483647 + 7919 * k + 1) * 48271).fmod 2147483647 = y at a0 a1 ⊢
      refine ⟨.int y, rfl, .int y, rfl, y, 1009, rfl, rfl, ⟨by decide, by decide⟩, _, 69621, rfl, rfl, y, _, rfl, rfl, .inl ⟨by omega, by omega⟩, .inl ⟨_, rfl, _, 2147483647, rfl, rfl, nzA, ?_⟩⟩
      have b0 := fm0 (a := y * (y.fdiv 1009 + 69621)) (b := 2147483647) (by decide)
      have b1 := fm1 (a := y * (y.fdiv 1009 + 69621)) (b := 2147483647) (by decide)
      dsimp only
      generalize (y * (y.fdiv 1009 + 69621)).fmod 2147483647 = z at b0 b1 ⊢
      refine ⟨.int z, rfl, .int z, rfl, z, 2003, rfl, rfl, ⟨by decide, by decide⟩, _, 40692, rfl, rfl, z, _, rfl, rfl, .inl ⟨by omega, by omega⟩, .inl ⟨_, rfl, _, 2147483399, rfl, rfl, nzB, ?_⟩⟩
      dsimp only
      generalize (z * (z.fdiv 2003 + 40692)).fmod 2147483399 = u
      refine ⟨.int u, rfl, u, 7, rfl, rfl, ⟨by decide, by decide⟩, .inl ⟨_, rfl, .int m, rfl, _, m, rfl, rfl, by omega, ?_⟩⟩
      exact q _ _ W1 (fm0 m0) (fm1 m0)
def spNumber : Sp := fun vs H Q _ => ∃ (b c : Addr) (G : Hp), vs = [.ref b] ∧ Wd b c G H ∧ ∀ (i : Int) (H' : Hp), Wd b c G H' → -100000000 * 10 ^ 32 ≤ i → i ≤ 100000001 * 10 ^ 32 → Q (.int i) H'
theorem ok_law_number (T : Txt P K mg) {k : Nat} : FnOk P w K mg base CX0 (k + 2) T.law_number.f T.law_number.fd ["_law_box"] spNumber := by
  have G_law_pick : FnOk P w K mg base CX0 (k + 1) T.law_pick.f T.law_pick.fd ["_law_box", "_law_many"] spPick := ok_law_pick T
  refine T.law_number.F.ok sc_law_number (fun vs H Q E h => ?_) (fun cdv A outer s H vs Q E hr h => ?_)
  · obtain ⟨b, c, G, rfl, _⟩ := h
    rfl
  · obtain ⟨b, c, G, rfl, W, q⟩ := h
    refine ⟨_, (pss_cons (ps_set (i := 1) sc_law_number.nd rfl (.inl rfl) (pe_call G_law_pick (hr.mono (by omega)) (by rfl) T.law_pick.g T.law_pick.F.kp T.law_pick.b .nil pass0 (pa_cons (pv 0) (pa_cons pe_int pa_nil))))
  (pss_cons (ps_if (pt_cmpR op_lt (pv 1) pe_int (nomark _)) (pss_one (ps_ret (pe_op op_sub (pe_call G_law_pick (hr.mono (by omega)) (by rfl) T.law_pick.g T.law_pick.F.kp T.law_pick.b .nil pass0 (pa_cons (pv 0) (pa_cons pe_int pa_nil))) pe_int))) pss_nil)
  (pss_cons (ps_if (pt_cmpR op_eq (pv 1) pe_int (nomark _)) (pss_one (ps_ret (pe_op op_sub (pe_call G_law_pick (hr.mono (by omega)) (by rfl) T.law_pick.g T.law_pick.F.kp T.law_pick.b .nil pass0 (pa_cons (pv 0) (pa_cons pe_int pa_nil))) pe_int))) pss_nil)
  (pss_cons (ps_if (pt_cmpR op_eq (pv 1) pe_int (nomark _)) (pss_one (ps_ret (pe_op op_sub (pe_call G_law_pick (hr.mono (by omega)) (by rfl) T.law_pick.g T.law_pick.F.kp T.law_pick.b .nil pass0 (pa_cons (pv 0) (pa_cons pe_int pa_nil))) pe_int))) pss_nil)
  (pss_one (ps_ret (pe_op op_add (pe_op op_mul (pe_op op_sub (pe_call G_law_pick (hr.mono (by omega)) (by rfl) T.law_pick.g T.law_pick.F.kp T.law_pick.b .nil pass0 (pa_cons (pv 0) (pa_cons pe_int pa_nil))) pe_int) (pe_op op_pow pe_int pe_int)) (pe_call G_law_pick (hr.mono (by omega)) (by rfl) T.law_pick.g T.law_pick.F.kp T.law_pick.b .nil pass0 (pa_cons (pv 0) (pa_cons pe_int pa_nil)))))))))), ?_⟩
    refine ⟨.ref b, rfl, b, c, G, 8, rfl, W, by decide, by decide, fun i H1 W1 i0 i1 => ?_⟩
    refine ⟨.int i, rfl, i, 5, rfl, rfl, _, rfl, ite2 (fun _ => ?_) (fun _ => ?_)⟩
    · refine ⟨.ref b, rfl, b, c, G, 9, rfl, W1, by decide, by decide, fun j H2 W2 j0 j1 => ?_⟩
      exact ⟨j, 4, rfl, rfl, q _ _ W2 (by omega) (by omega)⟩
    · refine ⟨.int i, rfl, rfl, _, rfl, ite2 (fun _ => ?_) (fun _ => ?_)⟩
      · refine ⟨.ref b, rfl, b, c, G, 41, rfl, W1, by decide, by decide, fun j H2 W2 j0 j1 => ?_⟩
        exact ⟨j, 20, rfl, rfl, q _ _ W2 (by omega) (by omega)⟩
      · refine ⟨.int i, rfl, rfl, _, rfl, ite2 (fun _ => ?_) (fun _ => ?_)⟩
        · refine ⟨.ref b, rfl, b, c, G, 2000001, rfl, W1, by decide, by decide, fun j H2 W2 j0 j1 => ?_⟩
          exact ⟨j, 1000000, rfl, rfl, q _ _ W2 (by omega) (by omega)⟩
        · refine ⟨.ref b, rfl, b, c, G, 200000001, rfl, W1, by decide, by decide, fun j H2 W2 j0 j1 => ?_⟩
          refine ⟨j, 100000000, rfl, rfl, 10, 32, rfl, rfl, ⟨by decide, by decide, by decide⟩, _, _, rfl, rfl, .inl ⟨by omega, by omega⟩, ?_⟩
          refine ⟨.ref b, rfl, b, c, G, 100000000, rfl, W2, by decide, by decide, fun l H3 W3 l0 l1 => ?_⟩
          refine ⟨_, l, rfl, rfl, q _ _ W3 ?_ ?_⟩
          · show -100000000 * 10 ^ 32 ≤ (j - 100000000) * (10 ^ 32 : Int) + l
            omega
          · show (j - 100000000) * (10 ^ 32 : Int) + l ≤ 100000001 * 10 ^ 32
            omega
end
end Pl

namespace Pl
open PySem L2
section
variable {P : Program} {w : World} {K : PySem.W.Frag} {mg : Str → Option Value} {base : Heap}
/-- World.__init__(self, rows) -/
def spWInit (T : Txt P K mg) : Sp := fun vs H Q _ => ∃ (G : Hp) (x d dx : Addr) (kvs : List (Key × V)) (rs : Rws), vs = [.ref x, .ref d] ∧ Same G H ∧ G x = none ∧ H x = some (.ins T.c_World dx []) ∧ H d = some (.dK kvs) ∧ EntsAt H kvs rs ∧ goodRows rs ∧
  ∀ H' l, Same G H' → H l = none → WoA T H' x l (wRows rs) → Q .non H'
theorem ok_world_init (T : Txt P K mg) {k : Nat} : FnR P w K mg base CX0 (k + 4) T.World_init.f (spWInit T) := by
  have G_checked_pairs : FnOk P w K mg base CX0 (k + 3) T.checked_pairs.f T.checked_pairs.fd ["rows"] spChPairs := ok_checked_pairs T
  refine toR (T.World_init.ok (k := k + 3) sc_World_init (fun vs H Q E h => ?_) (fun cdv A outer s H vs Q E hr h => ?_)) T.World_init.b
  · obtain ⟨G, x, d, dx, kvs, rs, rfl, _⟩ := h
    rfl
  · obtain ⟨G, x, d, dx, kvs, rs, rfl, sG, xG, hx, hd, he, hg, q⟩ := h
    refine ⟨_, (pss_one (ps_if (pt_cmpR op_isN (pv 1) pe_non (nomark _)) (pss_one (ps_fld (pv 0) (pe_lst pa_nil) rfl)) (pss_one (ps_fld (pv 0) (pe_call G_checked_pairs (hr.mono (by omega)) (by rfl) T.checked_pairs.g T.checked_pairs.F.kp T.checked_pairs.b .nil pass0 (pa_cons (pv 1) pa_nil)) rfl)))), ?_⟩
    refine ⟨.ref d, rfl, rfl, _, rfl, iF (decide_eq_false (fun h => nomatch h)) ?_⟩
    refine ⟨.ref d, rfl, d, kvs, rs, rfl, hd, he, hg, fun r H1 us s1 r0 h1 h2 => ?_⟩
    refine ⟨.ref x, rfl, x, _, dx, [], rfl, s1 _ _ hx, T.o_World.cl, T.n_World_pairs, by decide, ?_⟩
    have hx1 := s1 _ _ hx
    have nrx : r ≠ x := fun e => by rw [e, hx1] at h1; cases h1
    refine q _ r (same_mut (sG.trans s1) xG) r0 ⟨dx, us, upd_same, by rw [upd_ne nrx]; exact h1, h2.1, fun i p e => ?_⟩
    obtain ⟨t, t1, t2⟩ := h2.2 i p e
    exact ⟨t, t1, by rw [upd_ne (fun z => by rw [z, hx1] at t2; cases t2)]; exact t2⟩
theorem inV_ints (x : Int) : ∀ ns : List Int, inV (.int x) (ns.map V.int) = decide (x ∈ ns)
  | [] => by simp [inV]
  | n :: ns => by
    have := inV_ints x ns
    unfold inV at this ⊢
    rw [List.map_cons, List.any_cons, this]
    show ((n == x) || _) = _
    by_cases e : n = x
    · subst e; simp
    · have e' : ¬ x = n := fun z => e z.symm
      simp [e, e', List.mem_cons]
theorem flat_ints : ∀ ns : List Int, (ns.map V.int).all flatV = true
  | [] => rfl
  | n :: ns => by
    rw [List.map_cons, List.all_cons, flat_ints ns]
    rfl
/-- _law_moments: a list of distinct numbers -/
def spMoments : Sp := fun vs H Q _ => ∃ (b c : Addr) (G : Hp) (m : Nat), vs = [.ref b, .int (m : Nat)] ∧ Wd b c G H ∧ m ≤ 100 ∧
  ∀ (a : Addr) (ns : List Int) (H' : Hp), G a = none → Wd b c (upd G a (.lst (ns.map V.int))) H' → ns.Nodup → ns.length ≤ m → Q (.ref a) H'
theorem ok_law_moments (T : Txt P K mg) {k : Nat} : FnOk P w K mg base CX0 (k + 3) T.law_moments.f T.law_moments.fd ["_law_box", "_law_most"] spMoments := by
  have G_law_pick : FnOk P w K mg base CX0 (k + 2) T.law_pick.f T.law_pick.fd ["_law_box", "_law_many"] spPick := ok_law_pick T
  have G_law_number : FnOk P w K mg base CX0 (k + 2) T.law_number.f T.law_number.fd ["_law_box"] spNumber := ok_law_number T
  refine T.law_moments.F.ok (k := k + 2) sc_law_moments (fun vs H Q E h => ?_) (fun cdv A outer s H vs Q E hr h => ?_)
  · obtain ⟨b, c, G, m, rfl, _⟩ := h
    rfl
  · obtain ⟨b, c, G, m, rfl, W, m2, q⟩ := h
    refine ⟨_, (pss_cons (ps_set (i := 2) sc_law_moments.nd rfl (.inl rfl) (pe_lst pa_nil))
  (pss_cons (ps_set (i := 3) sc_law_moments.nd rfl (.inl rfl) (pe_call G_law_number (hr.mono (by omega)) (by rfl) T.law_number.g T.law_number.F.kp T.law_number.b .nil pass0 (pa_cons (pv 0) pa_nil)))
  (pss_cons (ps_for PassesOwn.never rfl (pi_range1 (by rfl) T.n_range (pa_cons (pe_call G_law_pick (hr.mono (by omega)) (by rfl) T.law_pick.g T.law_pick.F.kp T.law_pick.b .nil pass0 (pa_cons (pv 0) (pa_cons (pe_op op_add (pv 1) pe_int) pa_nil))) pa_nil)) (pg_name (i := 4) sc_law_moments.nd rfl (.inl rfl))
   (pss_cons (ps_if (pt_cmpR op_eq (pe_call G_law_pick (hr.mono (by omega)) (by rfl) T.law_pick.g T.law_pick.F.kp T.law_pick.b .nil pass0 (pa_cons (pv 0) (pa_cons pe_int pa_nil))) pe_int (nomark _)) (pss_one (ps_set (i := 3) sc_law_moments.nd rfl (.inl rfl) (pe_call G_law_number (hr.mono (by omega)) (by rfl) T.law_number.g T.law_number.F.kp T.law_number.b .nil pass0 (pa_cons (pv 0) pa_nil)))) (pss_one (ps_set (i := 3) sc_law_moments.nd rfl (.inl rfl) (pe_op op_sub (pe_op op_add (pv 3) (pe_call G_law_pick (hr.mono (by omega)) (by rfl) T.law_pick.g T.law_pick.F.kp T.law_pick.b .nil pass0 (pa_cons (pv 0) (pa_cons pe_int pa_nil)))) pe_int))))
  (pss_one (ps_if (pt_cmpR op_notIn_seq (pv 3) (pv 2) (by with_unfolding_all rfl)) (pss_one (ps_expr (pe_bm PySem.F.plainAttrs_list PySem.F.slot_list_append PySem.F.type_list_append mt_append (pv 2) (pa_cons (pv 3) pa_nil)))) pss_nil))))
  (pss_one (ps_ret (pv 2)))))), ?_⟩
    refine ⟨Nat.zero_le _, fun p hp => ?_⟩
    obtain ⟨pb, pc⟩ := W.nb hp
    have gp : G p = none := W.gh.free hp
    have W1 : Wd b c (upd G p (.lst [])) (upd H p (.lst [])) := (W.mut gp pb pc).keep upd_same pb pc
    refine ⟨_, rfl, b, c, _, rfl, W1, fun x0 H1 W2 _ _ => ?_⟩
    refine ⟨_, rfl, _, rfl, _, _, rfl, rfl, b, c, _, (m : Int) + 1, rfl, W2, by omega, by omega, fun r H2 W3 r0 r1 => ?_⟩
    refine ⟨r, rfl, by omega, by omega, ?_⟩
    refine for_range (lo := 0) (n := r.toNat) (fun t σ H' => ∃ (ns : List Int) (x : Int) (y4 : Option V), σ = [some (.ref b), some (.int (m : Nat)), some (.ref p), some (.int x), y4] ∧ Wd b c (upd G p (.lst (ns.map V.int))) H' ∧ ns.Nodup ∧ ns.length ≤ t)
      ⟨[], x0, none, rfl, W3, List.nodup_nil, Nat.le_refl _⟩ (fun t σ H' ht p2 => ?_) (fun σ H' p2 => ?_)
    · obtain ⟨ns, x, y4, rfl, W4, nd, hlen⟩ := p2
      refine ⟨_, rfl, b, c, _, 3, rfl, W4, by omega, by omega, fun i H5 W5 _ _ => ?_⟩
      refine ⟨rfl, _, rfl, ite2 (fun _ => ?_) (fun _ => ?_)⟩
      · refine ⟨_, rfl, b, c, _, rfl, W5, fun x1 H6 W6 _ _ => ?_⟩
        have hp6 := W6.gh _ _ upd_same
        refine ⟨.int x1, rfl, .ref p, rfl, p, ns.map V.int, rfl, .inl (SqL.of hp6), rfl, flat_ints ns, _, rfl, ?_⟩
        rw [inV_ints]
        by_cases hin : x1 ∈ ns
        · exact iF (by rw [decide_eq_true hin]; rfl) ⟨ns, x1, _, rfl, W6, nd, by omega⟩
        · refine iT (by rw [decide_eq_false hin]; rfl) ⟨.ref p, rfl, .inl ⟨rfl, _, SqL.of hp6⟩, .int x1, rfl, p, _, _, rfl, rfl, hp6, szl (by rw [List.length_map]; have : t < r.toNat := ht; omega), ?_⟩
          have e : ns.map V.int ++ [V.int x1] = (ns ++ [x1]).map V.int := by rw [List.map_append]; rfl
          rw [e]
          exact ⟨ns ++ [x1], x1, _, rfl, ((W6.weak (same_upd gp)).mut gp pb pc).keep upd_same pb pc, List.nodup_append.mpr ⟨nd, by simp, fun a ha b hb => by cases List.mem_singleton.mp hb; exact fun z => hin (z ▸ ha)⟩, by rw [List.length_append]; show ns.length + 1 ≤ t + 1; omega⟩
      · refine ⟨_, rfl, _, rfl, b, c, _, 7, rfl, W5, by omega, by omega, fun j H6 W6 _ _ => ?_⟩
        refine ⟨_, _, rfl, rfl, _, _, rfl, rfl, ?_⟩
        have hp6 := W6.gh _ _ upd_same
        refine ⟨.int (x + j - 2), rfl, .ref p, rfl, p, ns.map V.int, rfl, .inl (SqL.of hp6), rfl, flat_ints ns, _, rfl, ?_⟩
        rw [inV_ints]
        by_cases hin : (x + j - 2) ∈ ns
        · exact iF (by rw [decide_eq_true hin]; rfl) ⟨ns, x + j - 2, _, rfl, W6, nd, by omega⟩
        · refine iT (by rw [decide_eq_false hin]; rfl) ⟨.ref p, rfl, .inl ⟨rfl, _, SqL.of hp6⟩, .int (x + j - 2), rfl, p, _, _, rfl, rfl, hp6, szl (by rw [List.length_map]; have : t < r.toNat := ht; omega), ?_⟩
          have e : ns.map V.int ++ [V.int (x + j - 2)] = (ns ++ [x + j - 2]).map V.int := by rw [List.map_append]; rfl
          rw [e]
          exact ⟨ns ++ [x + j - 2], x + j - 2, _, rfl, ((W6.weak (same_upd gp)).mut gp pb pc).keep upd_same pb pc, List.nodup_append.mpr ⟨nd, by simp, fun a ha b hb => by cases List.mem_singleton.mp hb; exact fun z => hin (z ▸ ha)⟩, by rw [List.length_append]; show ns.length + 1 ≤ t + 1; omega⟩
    · obtain ⟨ns, x, y4, rfl, W4, nd, hlen⟩ := p2
      exact ⟨.ref p, rfl, q p ns H' gp W4 nd (by omega)⟩
end
end Pl

namespace Pl
open PySem L2
theorem tl_flat : ∀ parts : List (List Nat), TL.joinL [] parts = parts.flatten
  | [] => rfl
  | [p] => by simp [TL.joinL]
  | p :: q :: ps => by
    have := tl_flat (q :: ps)
    simp only [TL.joinL, List.flatten_cons, List.append_nil, List.nil_append] at this ⊢
    rw [this]
theorem one_good {c : Nat} (h : c ∈ letters.cps.toList) : goodName ⟨#[c]⟩ := ⟨by show 1 ≤ 1; decide, by show 1 ≤ 12; decide, fun d hd => by
  have : d = c := by simpa using hd
  rw [this]; exact h⟩
theorem join_good {cs : List Nat} (h1 : 1 ≤ cs.length) (h2 : cs.length ≤ 12) (h : ∀ c ∈ cs, c ∈ letters.cps.toList) : goodName (Txt.join "" (cs.map fun c => (⟨#[c]⟩ : Str))) := by
  have e : (Txt.join "" (cs.map fun c => (⟨#[c]⟩ : Str))).cps.toList = cs := by
    rw [TL.join_eq]
    show TL.tl _ = cs
    rw [TL.tl_join, show TL.tl ("" : Str) = [] from by decide +kernel, tl_flat, List.map_map]
    clear h1 h2 h
    induction cs with
    | nil => rfl
    | cons c cs ih =>
      rw [List.map_cons, List.flatten_cons, ih]
      rfl
  have el : (Txt.join "" (cs.map fun c => (⟨#[c]⟩ : Str))).length = cs.length := by
    show (Txt.join "" (cs.map fun c => (⟨#[c]⟩ : Str))).cps.size = cs.length
    rw [← Array.length_toList, e]
  exact ⟨by rw [el]; exact h1, by rw [el]; exact h2, by rw [e]; exact h⟩
theorem let_at {i : Int} (h0 : 0 ≤ i) (h1 : i < 26) : ∃ c, atI letters.cps.toList i = some c ∧ c ∈ letters.cps.toList := by
  have hl : i.toNat < letters.cps.toList.length := by
    have : letters.cps.toList.length = 26 := by decide +kernel
    omega
  exact ⟨letters.cps.toList[i.toNat], at_ix2 h0 (List.getElem?_eq_getElem hl), List.getElem_mem hl⟩
theorem inV_strs (x : Str) : ∀ zs : List Str, inV (.str x) (zs.map V.str) = decide (x ∈ zs)
  | [] => by simp [inV]
  | n :: ns => by
    have := inV_strs x ns
    unfold inV at this ⊢
    rw [List.map_cons, List.any_cons, this]
    show ((n == x) || _) = _
    by_cases e : n = x
    · subst e; simp
    · have e' : ¬ x = n := fun z => e z.symm
      simp [e, e', List.mem_cons]
theorem flat_strs : ∀ zs : List Str, (zs.map V.str).all flatV = true
  | [] => rfl
  | n :: ns => by
    rw [List.map_cons, List.all_cons, flat_strs ns]
    rfl
abbrev abcd : List Str := ["a", "b", "c", "d"]
theorem spare {zs : List Str} (h : zs.length ≤ 3) : ∃ z r, abcd.filter (fun w => !decide (w ∈ zs)) = z :: r ∧ z ∈ abcd ∧ z ∉ zs := by
  cases e : abcd.filter (fun w => !decide (w ∈ zs)) with
  | cons z r =>
    have : z ∈ abcd.filter (fun w => !decide (w ∈ zs)) := by rw [e]; simp
    obtain ⟨m1, m2⟩ := List.mem_filter.mp this
    exact ⟨z, r, rfl, m1, by simpa using m2⟩
  | nil =>
    exfalso
    have hin : ∀ w ∈ abcd, w ∈ zs := fun w hw => by
      have := List.filter_eq_nil_iff.mp e w hw
      simpa using this
    have ha := hin "a" (by decide)
    have hb : ("b" : Str) ∈ zs.erase "a" := (List.mem_erase_of_ne (by decide)).mpr (hin "b" (by decide))
    have hc : ("c" : Str) ∈ (zs.erase "a").erase "b" := (List.mem_erase_of_ne (by decide)).mpr ((List.mem_erase_of_ne (by decide)).mpr (hin "c" (by decide)))
    have hd : ("d" : Str) ∈ ((zs.erase "a").erase "b").erase "c" := (List.mem_erase_of_ne (by decide)).mpr ((List.mem_erase_of_ne (by decide)).mpr ((List.mem_erase_of_ne (by decide)).mpr (hin "d" (by decide))))
    have l1 := List.length_erase_of_mem ha
    have l2 := List.length_erase_of_mem hb
    have l3 := List.length_erase_of_mem hc
    have l4 := List.length_pos_of_mem hd
    omega
theorem abcd_good {z : Str} (h : z ∈ abcd) : goodName z := by
  simp only [abcd, List.mem_cons, List.not_mem_nil, or_false] at h
  rcases h with rfl | rfl | rfl | rfl <;> exact ⟨by decide +kernel, by decide +kernel, by decide +kernel⟩
section
variable {P : Program} {w : World} {K : PySem.W.Frag} {mg : Str → Option Value} {base : Heap}
/-- _law_names: distinct names -/
def spNames : Sp := fun vs H Q _ => ∃ (b c : Addr) (G : Hp) (n : Nat), vs = [.ref b, .int (n : Nat)] ∧ Wd b c G H ∧ n ≤ 4 ∧
  ∀ (a : Addr) (zs : List Str) (H' : Hp), G a = none → a ≠ b → a ≠ c → Wd b c (upd G a (.lst (zs.map V.str))) H' → zs.Nodup → zs.length = n → (∀ z ∈ zs, goodName z) → Q (.ref a) H'
theorem ok_law_names (T : Txt P K mg) {k : Nat} : FnOk P w K mg base CX0 (k + 2) T.law_names.f T.law_names.fd ["_law_box", "_law_many"] spNames := by
  have G_law_pick : FnOk P w K mg base CX0 (k + 1) T.law_pick.f T.law_pick.fd ["_law_box", "_law_many"] spPick := ok_law_pick T
  refine T.law_names.F.ok (k := k + 1) sc_law_names (fun vs H Q E h => ?_) (fun cdv A outer s H vs Q E hr h => ?_)
  · obtain ⟨b, c, G, n, rfl, _⟩ := h
    rfl
  · obtain ⟨b, c, G, n, rfl, W, hn, q⟩ := h
    refine ⟨_, (pss_cons (ps_set (i := 2) sc_law_names.nd rfl (.inr rfl) pe_str)
  (pss_cons (ps_set (i := 3) sc_law_names.nd rfl (.inr rfl) (pe_lst pa_nil))
  (pss_cons (ps_for PassesOwn.never rfl (pi_range1 (by rfl) T.n_range (pa_cons (pv 1) pa_nil)) (pg_name (i := 4) sc_law_names.nd rfl (.inl rfl))
   (pss_cons (ps_set (i := 5) sc_law_names.nd rfl (.inl rfl) (pe_ix ix_str (pv 2) (pe_call G_law_pick (hr.mono (by omega)) (by rfl) T.law_pick.g T.law_pick.F.kp T.law_pick.b .nil pass0 (pa_cons (pv 0) (pa_cons pe_int pa_nil))) (fun _ _ => rfl)))
  (Evl.pss_cut (ps_if (pt_cmpR op_eq (pe_call G_law_pick (hr.mono (by omega)) (by rfl) T.law_pick.g T.law_pick.F.kp T.law_pick.b .nil pass0 (pa_cons (pv 0) (pa_cons pe_int pa_nil))) pe_int (nomark _)) (pss_one (ps_set (i := 5) sc_law_names.nd rfl (.inl rfl) (pe_join pe_str (pe_lc (own := [("_law_j", 6)]) (g := gName 6) (tt := tYes) (te := (tOp _ (tVar 2) (tCall _ _ _ (tCons (tVar 0) (tCons (tC _) tNil))))) rfl sc_law_names.nd (pi_range1 (by rfl) T.n_range (pa_cons (pe_op op_add pe_int (pe_call G_law_pick (hr.mono (by omega)) (by rfl) T.law_pick.g T.law_pick.F.kp T.law_pick.b .nil pass0 (pa_cons (pv 0) (pa_cons pe_int pa_nil)))) pa_nil)) (blkOk_by (own := [("_law_j", 6)]) (N := N_law_names) (sc := defScope s_law_names) (by decide +kernel)) (fun _ _ _ _ _ => (pg_name (i := 6) sc_law_names.nd rfl (.inl rfl))) (fun _ _ _ _ _ => pts_nil) (fun _ _ _ _ _ => (pe_ix ix_str (pv 2) (pe_call G_law_pick (hr.mono (by omega)) (by rfl) T.law_pick.g T.law_pick.F.kp T.law_pick.b .nil pass0 (pa_cons (pv 0) (pa_cons pe_int pa_nil))) (fun _ _ => rfl))))))) pss_nil)
  (Evl.pss_cut (ps_if (pt_cmpR op_in_seq (pv 5) (pv 3) (by with_unfolding_all rfl)) (pss_one (ps_set (i := 5) sc_law_names.nd rfl (.inl rfl) (pe_ix ix_list (pe_lc (own := [("_law_word", 7)]) (g := gName 7) (tt := (tTest (tOp (rIn K true) (tVar 7) (tVar 3)))) (te := (tVar 7)) rfl sc_law_names.nd (pi_list (pe_lst (pa_cons pe_str (pa_cons pe_str (pa_cons pe_str (pa_cons pe_str pa_nil)))))) (blkOk_by (own := [("_law_word", 7)]) (N := N_law_names) (sc := defScope s_law_names) (by decide +kernel)) (fun _ _ _ _ _ => (pg_name (i := 7) sc_law_names.nd rfl (.inl rfl))) (fun _ _ _ _ _ => (pts_one (pt_cmpR op_notIn_seq (pv 7) (pv 3) (by with_unfolding_all rfl)))) (fun _ _ _ _ _ => (pv 7))) pe_int (fun _ _ => rfl)))) pss_nil)
  (pss_one (ps_expr (pe_bm PySem.F.plainAttrs_list PySem.F.slot_list_append PySem.F.type_list_append mt_append (pv 3) (pa_cons (pv 5) pa_nil))))))))
  (pss_one (ps_ret (pv 3)))))), ?_⟩
    refine ⟨Nat.zero_le _, fun p hp => ?_⟩
    obtain ⟨pb, pc⟩ := W.nb hp
    have gp : G p = none := W.gh.free hp
    have W1 : Wd b c (upd G p (.lst [])) (upd H p (.lst [])) := (W.mut gp pb pc).keep upd_same pb pc
    refine ⟨_, rfl, (n : Nat), rfl, by omega, by omega, ?_⟩
    refine for_range (lo := 0) (n := ((n : Nat) : Int).toNat) (fun t σ H' => ∃ (zs : List Str) (y4 y5 : Option V), σ = [some (.ref b), some (.int (n : Nat)), some (.str letters), some (.ref p), y4, y5, none, none] ∧ Wd b c (upd G p (.lst (zs.map V.str))) H' ∧ zs.Nodup ∧ zs.length = t ∧ ∀ z ∈ zs, goodName z) ⟨[], none, none, rfl, W1, by simp, rfl, fun z h => nomatch h⟩ (fun t σ H' ht pp => ?_) (fun σ H' pp => ?_)
    · obtain ⟨zs, y4, y5, rfl, W2, nd, hl, hg⟩ := pp
      have ht : t < n := ht
      refine ⟨.str letters, rfl, .ref b, rfl, b, c, _, 3, rfl, W2, by decide, by decide, fun i H1 W3 i0 i1 => ?_⟩
      obtain ⟨ch, hch, hin⟩ := let_at i0 (by omega)
      refine ⟨letters, i, ch, rfl, rfl, by decide +kernel, hch, ?_⟩
      refine ⟨fun σ H2 => ∃ (z : Str) (x4 : Option V), goodName z ∧ σ = [some (.ref b), some (.int (n : Nat)), some (.str letters), some (.ref p), x4, some (.str z), none, none] ∧ Wd b c (upd G p (.lst (zs.map V.str))) H2, ?_, ?_⟩
      · refine ⟨.ref b, rfl, b, c, _, 2, rfl, W3, by decide, by decide, fun j H2 W4 j0 j1 => ?_⟩
        refine ⟨rfl, _, rfl, ite2 (fun _ => ?_) (fun _ => ?_)⟩
        · refine ⟨⟨_, rfl⟩, ?_⟩
          refine ⟨.ref b, rfl, b, c, _, 12, rfl, W4, by decide, by decide, fun m H3 W5 m0 m1 => ?_⟩
          refine ⟨1, m, rfl, rfl, 1 + m, rfl, by omega, by omega, fun D hD => ?_⟩
          obtain ⟨Db, Dc⟩ := W5.nb hD
          have gD : upd G p (.lst (zs.map V.str)) D = none := W5.gh.free hD
          refine lc_range (lo := 0) (n := (1 + m).toNat) (fun r H' => ∃ cs : List Nat, Wd b c (upd (upd G p (.lst (zs.map V.str))) D (.lst ((cs.map fun c => (⟨#[c]⟩ : Str)).map V.str))) H' ∧ cs.length = r ∧ ∀ c ∈ cs, c ∈ letters.cps.toList) ⟨[], (W5.mut gD Db Dc).keep upd_same Db Dc, rfl, fun c h => nomatch h⟩ (fun r H' hr' pp => ?_) (fun H' pp => ?_)
          · obtain ⟨cs, W6, hc, hcs⟩ := pp
            refine ⟨rfl, yes_if ?_⟩
            refine ⟨.str letters, rfl, .ref b, rfl, b, c, _, 26, rfl, W6, by decide, by decide, fun u H7 W7 u0 u1 => ?_⟩
            obtain ⟨d, hd, hdin⟩ := let_at u0 u1
            refine ⟨letters, u, d, rfl, rfl, by decide +kernel, hd, ?_⟩
            have hD7 := W7.gh _ _ (upd_same (H := upd G p (.lst (zs.map V.str))) (a := D))
            refine ⟨_, hD7, szl (by rw [List.length_map, List.length_map]; omega), cs ++ [d], ?_, by rw [List.length_append, hc]; rfl, fun x hx => ?_⟩
            · have e : (cs.map fun c => (⟨#[c]⟩ : Str)).map V.str ++ [V.str ⟨#[d]⟩] = ((cs ++ [d]).map fun c => (⟨#[c]⟩ : Str)).map V.str := by rw [List.map_append, List.map_append]; rfl
              rw [e]
              exact ((W7.weak (same_upd gD)).mut gD Db Dc).keep upd_same Db Dc
            · rcases List.mem_append.mp hx with h | h
              · exact hcs x h
              · cases List.mem_singleton.mp h
                exact hdin
          · obtain ⟨cs, W6, hc, hcs⟩ := pp
            have hD7 := W6.gh _ _ (upd_same (H := upd G p (.lst (zs.map V.str))) (a := D))
            refine ⟨_, D, cs.map fun c => (⟨#[c]⟩ : Str), rfl, rfl, .inl (SqL.of hD7), ?_, ?_⟩
            · rw [show (("" : Str)).length = 0 from rfl, Nat.mul_zero, Nat.add_zero, List.map_map]
              have : (cs.map ((fun x : Str => x.length) ∘ fun c => (⟨#[c]⟩ : Str))).sum = cs.length := by
                clear hD7 W6 hcs hc
                induction cs with
                | nil => rfl
                | cons x xs ih =>
                  rw [List.map_cons, List.sum_cons, ih, List.length_cons]
                  show 1 + xs.length = xs.length + 1
                  omega
              rw [this]
              omega
            · exact ⟨_, _, join_good (by omega) (by omega) hcs, rfl, W6.weak (same_upd gD)⟩
        · exact ⟨_, _, one_good hin, rfl, W4⟩
      · rintro σ H2 ⟨z, x4, gz, rfl, W4⟩
        refine ⟨fun σ H3 => ∃ (z : Str) (x4 : Option V), goodName z ∧ z ∉ zs ∧ σ = [some (.ref b), some (.int (n : Nat)), some (.str letters), some (.ref p), x4, some (.str z), none, none] ∧ Wd b c (upd G p (.lst (zs.map V.str))) H3, ?_, ?_⟩
        · have hp4 := W4.gh _ _ (upd_same (H := G) (a := p))
          refine ⟨.str z, rfl, .ref p, rfl, p, _, rfl, .inl (SqL.of hp4), rfl, flat_strs zs, _, rfl, ?_⟩
          rw [inV_strs]
          by_cases hz : z ∈ zs
          · refine iT (decide_eq_true hz) ⟨sz (by show 4 ≤ 100000; decide), fun L hL => ?_⟩
            have s5 : Same H2 (upd H2 L (.lst (abcd.map V.str))) := same_upd hL
            have W5 := W4.sm s5
            have hp5 := W5.gh _ _ (upd_same (H := G) (a := p))
            refine ⟨L, rfl, ⟨abcd.map V.str, SqL.of upd_same⟩, fun D hD => ?_⟩
            refine lc_pure (K := K) (a := L) (xs := abcd.map V.str) (fun v => match v with | .str r => if !decide (r ∈ zs) then some (V.str r) else none | _ => none) (SqL.of upd_same) hD (by decide) (fun x H6 N N' hx s6 n1 n2 => ?_) (fun H6 s6 hD6 => ?_)
            · obtain ⟨r, _, rfl⟩ := List.mem_map.mp hx
              refine ⟨rfl, .str r, rfl, .ref p, rfl, p, _, rfl, .inl (SqL.of (s6 _ _ hp5)), rfl, flat_strs zs, _, rfl, ?_⟩
              rw [inV_strs]
              cases hf : decide (r ∈ zs) with
              | true => exact iF rfl (n2 _ (Same.refl _) (by simp only [hf]; rfl))
              | false => exact iT rfl ⟨.str r, rfl, n1 _ _ (Same.refl _) (by simp only [hf]; rfl)⟩
            · obtain ⟨z2, r2, e2, m2, n2⟩ := spare (zs := zs) (by omega)
              have e3 : (abcd.map V.str).filterMap (fun v => match v with | .str r => if !decide (r ∈ zs) then some (V.str r) else none | _ => none) = (abcd.filter (fun w => !decide (w ∈ zs))).map V.str := by
                generalize abcd = l
                induction l with
                | nil => rfl
                | cons x l ih =>
                  rw [List.map_cons, List.filterMap_cons, List.filter_cons, ih]
                  by_cases hx : x ∈ zs <;> simp [hx]
              rw [e3, e2] at hD6
              refine ⟨D, _, 0, .str z2, rfl, rfl, SqL.of hD6, at_ix (by decide) rfl, ?_⟩
              exact ⟨z2, _, abcd_good m2, n2, rfl, W5.sm s6⟩
          · exact iF (decide_eq_false hz) ⟨z, _, gz, hz, rfl, W4⟩
        · rintro σ H3 ⟨z, x4, gz, hz, rfl, W5⟩
          have hp5 := W5.gh _ _ (upd_same (H := G) (a := p))
          refine ⟨.ref p, rfl, .inl ⟨rfl, _, SqL.of hp5⟩, .str z, rfl, p, _, _, rfl, rfl, hp5, szl (by rw [List.length_map]; omega), ?_⟩
          have e : zs.map V.str ++ [V.str z] = (zs ++ [z]).map V.str := by rw [List.map_append]; rfl
          rw [e]
          refine ⟨zs ++ [z], _, _, rfl, ((W5.weak (same_upd gp)).mut gp pb pc).keep upd_same pb pc, List.nodup_append.mpr ⟨nd, by simp, fun a ha b hb => by cases List.mem_singleton.mp hb; exact fun y => hz (y ▸ ha)⟩, by rw [List.length_append, hl]; rfl, fun y hy => ?_⟩
          rcases List.mem_append.mp hy with h | h
          · exact hg y h
          · cases List.mem_singleton.mp h
            exact gz
    · obtain ⟨zs, y4, y5, rfl, W2, nd, hl, hg⟩ := pp
      exact ⟨.ref p, rfl, q p zs H' gp pb pc W2 nd (by omega) hg⟩
/-- _law_limit -/
def spLimitL : Sp := fun vs H Q _ => ∃ (b c : Addr) (G : Hp), vs = [.ref b] ∧ Wd b c G H ∧ ∀ (lim : Option Int) (H' : Hp), limOk lim → Wd b c G H' → Q (oV lim) H'
theorem ok_law_limit (T : Txt P K mg) {k : Nat} : FnOk P w K mg base CX0 (k + 3) T.law_limit.f T.law_limit.fd ["_law_box"] spLimitL := by
  have G_law_pick : FnOk P w K mg base CX0 (k + 1) T.law_pick.f T.law_pick.fd ["_law_box", "_law_many"] spPick := ok_law_pick T
  have G_law_number : FnOk P w K mg base CX0 (k + 2) T.law_number.f T.law_number.fd ["_law_box"] spNumber := ok_law_number T
  refine T.law_limit.F.ok (k := k + 2) sc_law_limit (fun vs H Q E h => ?_) (fun cdv A outer s H vs Q E hr h => ?_)
  · obtain ⟨b, c, G, rfl, _⟩ := h
    rfl
  · obtain ⟨b, c, G, rfl, W, q⟩ := h
    refine ⟨_, (pss_cons (ps_set (i := 1) sc_law_limit.nd rfl (.inl rfl) (pe_call G_law_pick (hr.mono (by omega)) (by rfl) T.law_pick.g T.law_pick.F.kp T.law_pick.b .nil pass0 (pa_cons (pv 0) (pa_cons pe_int pa_nil))))
  (pss_cons (ps_if (pt_cmpR op_lt (pv 1) pe_int (nomark _)) (pss_one (ps_ret pe_non)) pss_nil)
  (pss_cons (ps_if (pt_cmpR op_lt (pv 1) pe_int (nomark _)) (pss_one (ps_ret (pe_call G_law_pick (hr.mono (by omega)) (by rfl) T.law_pick.g T.law_pick.F.kp T.law_pick.b .nil pass0 (pa_cons (pv 0) (pa_cons pe_int pa_nil))))) pss_nil)
  (pss_one (ps_ret (pe_callB call_abs (by rfl) T.n_abs (by decide +kernel) (pa_cons (pe_call G_law_number (hr.mono (by omega)) (by rfl) T.law_number.g T.law_number.F.kp T.law_number.b .nil pass0 (pa_cons (pv 0) pa_nil)) pa_nil))))))), ?_⟩
    refine ⟨.ref b, rfl, b, c, G, 5, rfl, W, by decide, by decide, fun i H1 W1 i0 i1 => ?_⟩
    refine ⟨.int i, rfl, i, 2, rfl, rfl, _, rfl, ite2 (fun _ => q none H1 trivial W1) (fun _ => ?_)⟩
    refine ⟨.int i, rfl, i, 4, rfl, rfl, _, rfl, ite2 (fun _ => ?_) (fun _ => ?_)⟩
    · exact ⟨.ref b, rfl, b, c, G, 7, rfl, W1, by decide, by decide, fun j H2 W2 j0 j1 => q (some j) H2 j0 W2⟩
    · refine ⟨.ref b, rfl, b, c, G, rfl, W1, fun j H2 W2 _ _ => ⟨j, rfl, ?_⟩⟩
      exact q (some (if j < 0 then -j else j)) H2 (by show 0 ≤ (if j < 0 then -j else j); split <;> omega) W2
end
end Pl

namespace Pl
open PySem L2
section
variable {P : Program} {w : World} {K : PySem.W.Frag} {mg : Str → Option Value} {base : Heap}
def geZ : V → Bool
  | .int i => decide (i ≥ 0)
  | _ => false
def spFromZero : Sp := fun vs H Q _ => ∃ (v : V) (t : String), vs = [v] ∧ Ty H v t ∧ Q (.bl (geZ v)) H
theorem ok_is_from_zero (T : Txt P K mg) {k : Nat} : FnOk P w K mg base CX0 (k + 2) T.is_from_zero.f T.is_from_zero.fd ["value"] spFromZero := by
  have G_is_integer : FnOk P w K mg base CX0 (k + 1) T.is_integer.f T.is_integer.fd ["value"] spIsInteger := ok_is_integer T
  refine T.is_from_zero.F.ok (k := k + 1) sc_is_from_zero (fun vs H Q E h => ?_) (fun cdv A outer s H vs Q E hr h => ?_)
  · obtain ⟨v, t, rfl, _⟩ := h
    rfl
  · obtain ⟨v, t, rfl, ty, q⟩ := h
    refine ⟨_, (pss_one (ps_ret (pe_and (pe_call G_is_integer (hr.mono (by omega)) (by rfl) T.is_integer.g T.is_integer.F.kp T.is_integer.b .nil pass0 (pa_cons (pv 0) pa_nil)) (pe_one (pe_cmpR op_ge (pv 0) pe_int (nomark _)))))), ?_⟩
    refine ⟨v, rfl, v, t, rfl, ty, _, rfl, ?_⟩
    cases v with
    | int i => exact iT rfl ⟨.int i, rfl, i, 0, rfl, rfl, q⟩
    | _ => exact iF rfl q
def spCkBound : Sp := fun vs H Q _ => ∃ i : Int, vs = [.int i] ∧ 0 ≤ i ∧ Q .non H
theorem ok_check_bound (T : Txt P K mg) {k : Nat} : FnOk P w K mg base CX0 (k + 3) T.check_bound.f T.check_bound.fd ["value"] spCkBound := by
  have G_is_from_zero : FnOk P w K mg base CX0 (k + 2) T.is_from_zero.f T.is_from_zero.fd ["value"] spFromZero := ok_is_from_zero T
  refine T.check_bound.F.ok (k := k + 2) sc_check_bound (fun vs H Q E h => ?_) (fun cdv A outer s H vs Q E hr h => ?_)
  · obtain ⟨i, rfl, _⟩ := h
    rfl
  · obtain ⟨i, rfl, i0, q⟩ := h
    refine ⟨_, (pss_one (ps_if (pt_not (pt_val (pe_call G_is_from_zero (hr.mono (by omega)) (by rfl) T.is_from_zero.g T.is_from_zero.F.kp T.is_from_zero.b .nil pass0 (pa_cons (pv 0) pa_nil)))) (pss_one ps_never) pss_nil)), ?_⟩
    exact ⟨.int i, rfl, .int i, "int", rfl, .int i, _, rfl, iF (by rw [show geZ (.int i) = true from decide_eq_true i0]; rfl) q⟩
def spCkLimit : Sp := fun vs H Q _ => ∃ lim : Option Int, vs = [oV lim] ∧ limOk lim ∧ Q .non H
theorem ok_check_limit (T : Txt P K mg) {k : Nat} : FnOk P w K mg base CX0 (k + 4) T.check_limit.f T.check_limit.fd ["value"] spCkLimit := by
  have G_check_bound : FnOk P w K mg base CX0 (k + 3) T.check_bound.f T.check_bound.fd ["value"] spCkBound := ok_check_bound T
  refine T.check_limit.F.ok (k := k + 3) sc_check_limit (fun vs H Q E h => ?_) (fun cdv A outer s H vs Q E hr h => ?_)
  · obtain ⟨i, rfl, _⟩ := h
    rfl
  · obtain ⟨lim, rfl, h, q⟩ := h
    refine ⟨_, (pss_one (ps_if (pt_cmpR op_notN (pv 0) pe_non (nomark _)) (pss_one (ps_expr (pe_call G_check_bound (hr.mono (by omega)) (by rfl) T.check_bound.g T.check_bound.F.kp T.check_bound.b .nil pass0 (pa_cons (pv 0) pa_nil)))) pss_nil)), ?_⟩
    cases lim with
    | none => exact ⟨_, rfl, rfl, _, rfl, iF rfl q⟩
    | some i => exact ⟨_, rfl, rfl, _, rfl, iT rfl ⟨_, rfl, i, rfl, h, q⟩⟩
theorem inV_ways {z : Str} (h : z ∈ ways) : inV (.str z) [.str "at", .str "before", .str "since", .str "after"] = true := by
  simp only [ways, List.mem_cons, List.not_mem_nil, or_false] at h
  rcases h with rfl | rfl | rfl | rfl <;> decide +kernel
/-- Look.__init__(self, stream, moment, way, *, within) -/
def spLookInit (T : Txt P K mg) : Sp := fun vs H Q _ => ∃ (G : Hp) (m : Tm) (z wy : Str) (lim : Option Int) (x a dx : Addr), vs = [.ref x, .str z, .ref a, .str wy, oV lim] ∧ Same G H ∧ G x = none ∧ TmAt T.ca G m a ∧ goodName z ∧ wy ∈ ways ∧ limOk lim ∧ (Tm.look z m wy lim).fits ∧ H x = some (.ins T.c_Look dx []) ∧
  ∀ H', Same G H' → TmAt T.ca H' (.look z m wy lim) x → Q .non H'
theorem ok_look_init (T : Txt P K mg) {k : Nat} : ∃ fd, FnOk P w K mg base CX0 (k + 5) T.Look_init.f fd ["self", "stream", "moment", "way", "within"] (spLookInit T) ∧ KBn K fd ["self", "stream", "moment", "way", "within"] 4 ["within"] (fun us ws => us ++ ws) (fun vs zs => vs ++ zs) := by
  have G_check_name : FnOk P w K mg base CX0 (k + 2) T.check_name.f T.check_name.fd ["name"] spCkName := ok_check_name T
  have G_check_term : FnOk P w K mg base CX0 (k + 1) T.check_term.f T.check_term.fd ["value"] (spCkTerm T) := ok_check_term T
  have G_check_limit : FnOk P w K mg base CX0 (k + 4) T.check_limit.f T.check_limit.fd ["value"] spCkLimit := ok_check_limit T
  refine T.Look_init.okK (pre := (defBody s_Look_init).take 8) 4 ["within"] rfl sc_Look_init rfl rfl (by decide +kernel) (by decide) rfl T.n_super (fun _ _ _ _ _ _ _ us ws hl hl2 => match us, ws, hl, hl2 with | [_, _, _, _], [_], _, _ => rfl) ((ok_term_init T (k := k)).mono (show k + 1 ≤ k + 4 by omega)) (fun vs H Q E h => ?_) (fun A outer s H vs Q E hr h => ?_)
  · obtain ⟨G, m, z, wy, lim, x, a, dx, rfl, _⟩ := h
    rfl
  · obtain ⟨G, m, z, wy, lim, x, a, dx, rfl, sG, xG, hm, hz, hw, hlm, hfit, hx, q⟩ := h
    refine ⟨_, _, (pss_cons (ps_expr (pe_call G_check_name (hr.mono (by omega)) (by rfl) T.check_name.g T.check_name.F.kp T.check_name.b .nil pass0 (pa_cons (pv 1) pa_nil)))
  (pss_cons (ps_expr (pe_call G_check_term (hr.mono (by omega)) (by rfl) T.check_term.g T.check_term.F.kp T.check_term.b .nil pass0 (pa_cons (pv 2) pa_nil)))
  (pss_cons (ps_if (PW.pt (pw_or (pt_not (pt_val (pe_callB call_isi (by rfl) T.n_isinstance (by decide +kernel) (pa_cons (pv 3) (pa_cons (pe_bltn (v := .ty "str") (by rfl) T.n_str (by decide +kernel) rfl) pa_nil))))) (pw_or1 (pt_cmpR op_notIn_seq (pv 3) (pe_glob (v := .ref T.a_WAYS) (by rfl) T.k_WAYS rfl) (by with_unfolding_all rfl))))) (pss_one ps_never) pss_nil)
  (pss_cons (ps_expr (pe_call G_check_limit (hr.mono (by omega)) (by rfl) T.check_limit.g T.check_limit.F.kp T.check_limit.b .nil pass0 (pa_cons (pv 4) pa_nil)))
  (pss_cons (ps_fld (pv 0) (pv 1) rfl)
  (pss_cons (ps_fld (pv 0) (pv 2) rfl)
  (pss_cons (ps_fld (pv 0) (pv 3) rfl)
  (pss_one (ps_fld (pv 0) (pv 4) rfl))))))))), (pa_cons (pv 2) pa_nil), ?_⟩
    refine ⟨.str z, rfl, z, rfl, hz, fun H1 s1 => ?_⟩
    have sG1 := sG.trans s1
    have ty : Ty H1 (.str wy) "str" := .str wy
    refine ⟨.ref a, rfl, m, a, rfl, hm.same sG1, ?_⟩
    refine ⟨.str wy, rfl, _, _, _, _, _, rfl, .ty "str", ty.x, isI_str ty, _, rfl, iF (by unfold tyB; rw [kb_str_str]; rfl) ?_⟩
    refine ⟨.str wy, rfl, T.a_WAYS, _, rfl, .inr (T.t_WAYS H1), rfl, by decide +kernel, _, rfl, iF (by rw [inV_ways hw]; rfl) ?_⟩
    refine ⟨oV lim, rfl, lim, rfl, hlm, ?_⟩
    refine ⟨.str z, rfl, .ref x, rfl, x, _, dx, [], rfl, s1 _ _ hx, T.o_Look.cl, T.n_Look_stream, by decide, ?_⟩
    refine ⟨.ref a, rfl, .ref x, rfl, x, _, dx, _, rfl, upd_same, T.o_Look.cl, T.n_Look_moment, (by show 1 < 1000; decide), ?_⟩
    rw [upd_upd]
    refine ⟨.str wy, rfl, .ref x, rfl, x, _, dx, _, rfl, upd_same, T.o_Look.cl, T.n_Look_way, (by show 2 < 1000; decide), ?_⟩
    rw [upd_upd]
    refine ⟨oV lim, rfl, .ref x, rfl, x, _, dx, _, rfl, upd_same, T.o_Look.cl, T.n_Look_within, (by show 3 < 1000; decide), ?_⟩
    rw [upd_upd]
    have sG2 : Same G (upd H1 x (.ins T.c_Look dx (loF z a wy lim))) := same_mut sG1 xG
    refine ⟨x, _, dx, loF z a wy lim, rfl, rfl, upd_same, T.s_Look_Look, .ref a, rfl, G, .look z m wy lim, x, dx, loF z a wy lim, [a], rfl, sG2, xG, ⟨hm, trivial⟩, upd_same, (by show 4 ≤ 10; decide), hfit, fun H' s' b' h' => q H' s' ⟨dx, a, h', hm.same s'⟩⟩
/-- fits(row, moment, way) -/
def spFits : Sp := fun vs H Q _ => ∃ (r m : Int) (wy : Str), vs = [.int r, .int m, .str wy] ∧ Q (.bl (fitsB r m wy)) H
theorem dstr {a b : Str} : decide (V.str a = V.str b) = decide (a = b) := by
  by_cases h : a = b
  · subst h; simp
  · have : ¬ V.str a = V.str b := fun z => h (V.str.inj z)
    simp [h, this]
theorem ok_fits (T : Txt P K mg) {k : Nat} : FnOk P w K mg base CX0 (k + 1) T.fits.f T.fits.fd ["row", "moment", "way"] spFits := by
  refine T.fits.F.ok (k := k) sc_fits (fun vs H Q E h => ?_) (fun cdv A outer s H vs Q E hr h => ?_)
  · obtain ⟨r, m, wy, rfl, _⟩ := h
    rfl
  · obtain ⟨r, m, wy, rfl, q⟩ := h
    refine ⟨_, (pss_cons (ps_if (pt_cmpR op_eq (pv 2) pe_str (nomark _)) (pss_one (ps_ret (pe_cmpR op_le (pv 0) (pv 1) (nomark _)))) pss_nil)
  (pss_cons (ps_if (pt_cmpR op_eq (pv 2) pe_str (nomark _)) (pss_one (ps_ret (pe_cmpR op_lt (pv 0) (pv 1) (nomark _)))) pss_nil)
  (pss_cons (ps_if (pt_cmpR op_eq (pv 2) pe_str (nomark _)) (pss_one (ps_ret (pe_cmpR op_ge (pv 0) (pv 1) (nomark _)))) pss_nil)
  (pss_one (ps_ret (pe_cmpR op_gt (pv 0) (pv 1) (nomark _))))))), ?_⟩
    unfold fitsB at q
    refine ⟨.str wy, rfl, rfl, _, rfl, ?_⟩
    rw [dstr]
    by_cases h1 : wy = "at"
    · rw [if_pos h1] at q
      exact iT (decide_eq_true h1) ⟨_, rfl, _, rfl, r, m, rfl, rfl, q⟩
    rw [if_neg h1] at q
    refine iF (decide_eq_false h1) ⟨.str wy, rfl, rfl, _, rfl, ?_⟩
    rw [dstr]
    by_cases h2 : wy = "before"
    · rw [if_pos h2] at q
      exact iT (decide_eq_true h2) ⟨_, rfl, _, rfl, r, m, rfl, rfl, q⟩
    rw [if_neg h2] at q
    refine iF (decide_eq_false h2) ⟨.str wy, rfl, rfl, _, rfl, ?_⟩
    rw [dstr]
    by_cases h3 : wy = "since"
    · rw [if_pos h3] at q
      exact iT (decide_eq_true h3) ⟨_, rfl, _, rfl, r, m, rfl, rfl, q⟩
    rw [if_neg h3] at q
    exact iF (decide_eq_false h3) ⟨_, rfl, _, rfl, r, m, rfl, rfl, q⟩
def intF (p : Int → Bool) : V → Option V
  | .int r => if p r then some (.int r) else none
  | _ => none
theorem filt_ints (p : Int → Bool) : ∀ ns : List Int, (ns.map V.int).filterMap (intF p) = (ns.filter p).map V.int
  | [] => rfl
  | n :: ns => by
    rw [List.map_cons, List.filterMap_cons, filt_ints p ns]
    cases h : p n <;> simp [intF, h]
theorem mem_ints {x : V} {ns : List Int} (h : x ∈ ns.map V.int) : ∃ r, r ∈ ns ∧ x = .int r := by
  obtain ⟨r, h1, h2⟩ := List.mem_map.mp h
  exact ⟨r, h1, h2.symm⟩
/-- looked_up(moments, moment, way, within) -/
def spLookedUp (K : PySem.W.Frag) : Sp := fun vs H Q _ => ∃ (a : Addr) (ms : List Int) (m : Int) (wy : Str) (lim : Option Int), vs = [.ref a, .int m, .str wy, oV lim] ∧ SqL K H a (ms.map V.int) ∧ ms.length ≤ 1000 ∧ ∀ H', Same H H' → Q (oV (lookedUp ms m wy lim)) H'
theorem ok_looked_up (T : Txt P K mg) {k : Nat} : FnOk P w K mg base CX0 (k + 2) T.looked_up.f T.looked_up.fd ["moments", "moment", "way", "within"] (spLookedUp K) := by
  have G_fits : FnOk P w K mg base CX0 (k + 1) T.fits.f T.fits.fd ["row", "moment", "way"] spFits := ok_fits T
  refine T.looked_up.F.ok (k := k + 1) sc_looked_up (fun vs H Q E h => ?_) (fun cdv A outer s H vs Q E hr h => ?_)
  · obtain ⟨a, ms, m, wy, lim, rfl, _⟩ := h
    rfl
  · obtain ⟨a, ms, m, wy, lim, rfl, ha, hl, q⟩ := h
    refine ⟨_, (pss_cons (ps_setLc (i := 4) (own := [("row", 5)]) (g := gName 5) (tt := (tB (tCall _ _ _ (tCons (tVar 5) (tCons (tVar 1) (tCons (tVar 2) tNil)))))) (te := (tVar 5)) rfl sc_looked_up.nd rfl rfl (sw_true rfl rfl rfl (by decide +kernel)) (pi_list (pv 0)) (blkOk_by (own := [("row", 5)]) (N := N_looked_up) (sc := defScope s_looked_up) (by decide +kernel)) (fun _ _ _ _ _ => (pg_name (i := 5) sc_looked_up.nd rfl (.inl rfl))) (fun _ _ _ _ _ => (pts_one (pt_val (pe_call G_fits (hr.mono (by omega)) (by rfl) T.fits.g T.fits.F.kp T.fits.b .nil pass0 (pa_cons (pv 5) (pa_cons (pv 1) (pa_cons (pv 2) pa_nil))))))) (fun _ _ _ _ _ => (pv 5)))
  (pss_cons (ps_if (pt_cmpR op_eq (pe_callB call_len_seq (by rfl) T.n_len PySem.boot_len (pa_cons (pv 4) pa_nil)) pe_int (nomark _)) (pss_one (ps_ret pe_non)) pss_nil)
  (pss_cons (ps_set (i := 5) sc_looked_up.nd rfl (.inl rfl) (pe_ix ix_list (pv 4) pe_int (fun _ _ => rfl)))
  (Evl.pss_cut (ps_if (PW.pt (pw_or (pt_cmpR op_eq (pv 2) pe_str (nomark _)) (pw_or1 (pt_cmpR op_eq (pv 2) pe_str (nomark _))))) (pss_one (ps_set (i := 5) sc_looked_up.nd rfl (.inl rfl) (pe_ix ix_list (pv 4) (pe_un un_neg pe_int) (fun _ _ => rfl)))) pss_nil)
  (pss_cons (ps_if (PW.pt (pw_and (pt_cmpR op_notN (pv 3) pe_non (nomark _)) (pw_and1 (pt_cmpR op_gt (pe_callB call_abs (by rfl) T.n_abs (by decide +kernel) (pa_cons (pe_op op_sub (pv 5) (pv 1)) pa_nil)) (pv 3) (nomark _))))) (pss_one (ps_ret pe_non)) pss_nil)
  (pss_one (ps_ret (pv 5)))))))), ?_⟩
    refine ⟨.ref a, rfl, a, rfl, ⟨_, ha⟩, fun D hD => ?_⟩
    refine lc_pure (K := K) (a := a) (xs := ms.map V.int) (intF fun r => fitsB r m wy) ha hD (by rw [List.length_map]; omega) (fun x H1 N N' hx s1 n1 n2 => ?_) (fun H1 s1 hD1 => ?_)
    · obtain ⟨r, _, rfl⟩ := mem_ints hx
      refine ⟨rfl, .int r, rfl, .int m, rfl, .str wy, rfl, r, m, wy, rfl, _, rfl, ?_⟩
      cases hf : fitsB r m wy with
      | true => exact iT rfl ⟨.int r, rfl, n1 _ _ (Same.refl _) (by simp [intF, hf])⟩
      | false => exact iF rfl (n2 _ (Same.refl _) (by simp [intF, hf]))
    · rw [filt_ints] at hD1
      unfold lookedUp at q
      generalize ms.filter (fitsB · m wy) = l at q hD1
      refine ⟨.ref D, rfl, D, _, rfl, .inl (SqL.of hD1), rfl, _, rfl, ?_⟩
      cases l with
      | nil => exact iT rfl (q H1 s1)
      | cons r rs =>
        refine iF (decide_eq_false (fun e => by
          have := V.int.inj e
          simp at this
          omega)) ?_
        refine ⟨.ref D, rfl, D, _, 0, .int r, rfl, rfl, SqL.of hD1, at_ix (by decide) rfl, ?_⟩
        have hlast : atI ((r :: rs).map V.int) (-1) = some (.int ((r :: rs).getLast (by simp))) := by
          have e : (r :: rs).map V.int = ((r :: rs).dropLast).map V.int ++ [V.int ((r :: rs).getLast (by simp))] := by
            rw [← List.map_singleton, ← List.map_append, List.dropLast_concat_getLast]
          rw [e]
          exact atI_last _ _
        refine ⟨fun σ H2 => H2 = H1 ∧ σ = [some (.ref a), some (.int m), some (.str wy), some (oV lim), some (.ref D), some (.int (if isBack wy then (r :: rs).getLast (by simp) else r))], ?_, ?_⟩
        · refine ⟨.str wy, rfl, rfl, _, rfl, ?_⟩
          rw [dstr]
          by_cases h1 : wy = "at"
          · refine iT (decide_eq_true h1) (iT rfl ?_)
            refine ⟨.ref D, rfl, 1, rfl, D, _, -1, _, rfl, rfl, SqL.of hD1, hlast, ?_⟩
            rw [if_pos (by simp [isBack, h1])]
            exact ⟨rfl, rfl⟩
          · refine iF (decide_eq_false h1) ⟨.str wy, rfl, rfl, _, rfl, ?_⟩
            rw [dstr]
            by_cases h2 : wy = "before"
            · refine iT (decide_eq_true h2) ?_
              refine ⟨.ref D, rfl, 1, rfl, D, _, -1, _, rfl, rfl, SqL.of hD1, hlast, ?_⟩
              rw [if_pos (by simp [isBack, h2])]
              exact ⟨rfl, rfl⟩
            · refine iF (decide_eq_false h2) ?_
              rw [if_neg (by simp [isBack, h1, h2])]
              exact ⟨rfl, rfl⟩
        · rintro σ H2 ⟨rfl, rfl⟩
          dsimp only at q
          generalize (if isBack wy then (r :: rs).getLast (by simp) else r) = y at q ⊢
          cases lim with
          | none => exact ⟨_, rfl, rfl, _, rfl, iF rfl (iF rfl ⟨_, rfl, q _ s1⟩)⟩
          | some l =>
            refine ⟨_, rfl, rfl, _, rfl, iT rfl ⟨_, rfl, _, rfl, y, m, rfl, rfl, _, rfl, _, rfl, _, l, rfl, rfl, _, rfl, ?_⟩⟩
            cases hf : tooFar y m (some l) with
            | true =>
              rw [hf, if_pos rfl] at q
              exact iT hf (q _ s1)
            | false =>
              rw [hf, if_neg Bool.false_ne_true] at q
              exact iF hf ⟨_, rfl, q _ s1⟩
end
end Pl

namespace Pl
open PySem L2
/-! ### what a term answers -/
def Tm.ans (rows : Str → List Int) (now : Int) : Tm → Option Int
  | .now => some now
  | .shift m n => match m.ans rows now with
    | none => none
    | some x => some (x + n)
  | .look s m wy lim => match m.ans rows now with
    | none => none
    | some x => lookedUp (rows s) x wy lim
  | .either a b => match a.ans rows now with
    | none => b.ans rows now
    | some x => some x
  | .later a b => match a.ans rows now, b.ans rows now with
    | some x, some y => some (if y > x then y else x)
    | _, _ => none
  | .earlier a b => match a.ans rows now, b.ans rows now with
    | some x, some y => some (if y < x then y else x)
    | _, _ => none
/-- names, ways and limits are good -/
def Tm.wf : Tm → Prop
  | .now => True
  | .shift m _ => m.wf
  | .look s m wy lim => goodName s ∧ wy ∈ ways ∧ limOk lim ∧ m.wf
  | .either a b => a.wf ∧ b.wf
  | .later a b => a.wf ∧ b.wf
  | .earlier a b => a.wf ∧ b.wf
section
variable {P : Program} {w : World} {K : PySem.W.Frag} {mg : Str → Option Value} {base : Heap}
def rowF (H : Hp) (z : Str) : V → Option V
  | .ref t => match H t with
    | some (.tup [.str s, .int m]) => if s = z then some (.int m) else none
    | _ => none
  | _ => none
theorem rowF_all {H : Hp} {z : Str} : ∀ {vs : List V} {ps : List (Str × Int)}, PrsAt H vs ps → vs.filterMap (rowF H z) = (rowsOf ps z).map V.int
  | [], [], _ => rfl
  | v :: vs, p :: ps, h => by
    obtain ⟨t, e1, e2⟩ := h.2 0 p rfl
    cases e1
    have ih := rowF_all (z := z) (vs := vs) (ps := ps) ⟨Nat.succ.inj h.1, fun i q e => h.2 (i + 1) q e⟩
    unfold rowsOf at ih ⊢
    rw [List.filterMap_cons, List.filter_cons]
    have e3 : rowF H z (.ref t) = if p.1 = z then some (.int p.2) else none := by
      simp only [rowF, e2]
    rw [e3]
    by_cases hz : p.1 = z
    · rw [if_pos hz, if_pos (decide_eq_true hz), List.map_cons, List.map_cons, ih]
    · rw [if_neg hz, if_neg (by simp [hz]), ih]
  | [], _ :: _, h => nomatch h.1
  | _ :: _, [], h => nomatch h.1
/-- world[name] -/
def spGetItem (T : Txt P K mg) : Sp := fun vs H Q _ => ∃ (a l : Addr) (z : Str) (ps : List (Str × Int)), vs = [.ref a, .str z] ∧ WoA T H a l ps ∧ goodName z ∧ ps.length ≤ 1000 ∧ ∀ r H', Same H H' → H r = none → H' r = some (.lst ((rowsOf ps z).map V.int)) → Q (.ref r) H'
theorem ok_getitem (T : Txt P K mg) {k : Nat} : FnR P w K mg base CX0 (k + 3) T.World_getitem.f (spGetItem T) := by
  have G_check_name : FnOk P w K mg base CX0 (k + 2) T.check_name.f T.check_name.fd ["name"] spCkName := ok_check_name T
  refine toR (T.World_getitem.F.ok (k := k + 2) sc_World_getitem (fun vs H Q E h => ?_) (fun cdv A outer s H vs Q E hr h => ?_)) T.World_getitem.b
  · obtain ⟨a, l, z, ps, rfl, _⟩ := h
    rfl
  · obtain ⟨a, l, z, ps, rfl, hw, hz, hl, q⟩ := h
    refine ⟨_, (pss_cons (ps_expr (pe_call G_check_name (hr.mono (by omega)) (by rfl) T.check_name.g T.check_name.F.kp T.check_name.b .nil pass0 (pa_cons (pv 1) pa_nil)))
  (pss_one (ps_ret (pe_lc (own := [("stream", 2), ("moment", 3)]) (g := gTup K 2 (gCons (gName 2) (gCons (gName 3) gNil))) (tt := (tTest (tOp _ (tVar 2) (tVar 1)))) (te := (tVar 3)) rfl sc_World_getitem.nd (pi_list (pe_fld (pv 0) rfl)) (blkOk_by (own := [("stream", 2), ("moment", 3)]) (N := N_World_getitem) (sc := defScope s_World_getitem) (by decide +kernel)) (fun _ _ _ _ _ => (pg_tup rfl (pgs_cons (pg_name (i := 2) sc_World_getitem.nd rfl (.inl rfl)) (pgs_cons (pg_name (i := 3) sc_World_getitem.nd rfl (.inl rfl)) pgs_nil)))) (fun _ _ _ _ _ => (pts_one (pt_cmpR op_eq (pv 2) (pv 1) (nomark _)))) (fun _ _ _ _ _ => (pv 3)))))), ?_⟩
    refine ⟨.str z, rfl, z, rfl, hz, fun H1 s1 => ?_⟩
    obtain ⟨dx, vs, h1, h2, h3⟩ := hw.same s1
    refine ⟨.ref a, rfl, a, _, dx, _, _, rfl, h1, T.o_World.cl, T.n_World_pairs, rfl, l, rfl, ⟨_, SqL.of h2⟩, fun D hD => ?_⟩
    refine lc_pure (K := K) (a := l) (xs := vs) (rowF H1 z) (SqL.of h2) hD (by rw [h3.1]; omega) (fun x H2 N N' hx s2 n1 n2 => ?_) (fun H2 s2 hD2 => ?_)
    · obtain ⟨i, hi⟩ := List.mem_iff_getElem?.mp hx
      have hip : i < ps.length := by rw [← h3.1]; exact (List.getElem?_eq_some_iff.mp hi).1
      obtain ⟨t, e1, e2⟩ := h3.2 i ps[i] (List.getElem?_eq_getElem hip)
      rw [hi] at e1
      cases e1
      refine ⟨t, _, rfl, SqT.of (s2 _ _ e2), rfl, ?_⟩
      refine ⟨_, _, rfl, _, _, rfl, ?_⟩
      refine ⟨rfl, rfl, ?_⟩
      refine ⟨_, rfl, _, rfl, rfl, _, rfl, ?_⟩
      have e3 : rowF H1 z (.ref t) = if ps[i].1 = z then some (.int ps[i].2) else none := by simp only [rowF, e2]
      rw [dstr]
      by_cases hz : ps[i].1 = z
      · rw [if_pos hz] at e3
        exact iT (decide_eq_true hz) ⟨_, rfl, n1 _ _ (Same.refl _) e3⟩
      · rw [if_neg hz] at e3
        exact iF (decide_eq_false hz) (n2 _ (Same.refl _) e3)
    · rw [rowF_all h3] at hD2
      exact q D H2 (s1.trans s2) (s1.free hD) hD2
def Txt.ansF (T : Txt P K mg) : Kd → Addr
  | .now => T.Term_answer_in.f
  | .shift => T.Shift_answer_in.f
  | .look => T.Look_answer_in.f
  | .either => T.Either_answer_in.f
  | .later => T.Later_answer_in.f
  | .earlier => T.Earlier_answer_in.f
theorem Txt.ansM (T : Txt P K mg) (t : Tm) : Meth K (t.cls T.ca) "answer_in" (T.ansF t.kind) := by
  cases t
  · exact T.m_Now_answer_in
  · exact T.m_Shift_answer_in
  · exact T.m_Look_answer_in
  · exact T.m_Either_answer_in
  · exact T.m_Later_answer_in
  · exact T.m_Earlier_answer_in
def spAns (T : Txt P K mg) (n : Nat) (kd : Kd) : Sp := fun vs H Q _ => ∃ (t : Tm) (a wa l : Addr) (ps : List (Str × Int)) (x : Int), vs = [.ref a, .ref wa, .int x] ∧ t.kind = kd ∧ t.depth ≤ n ∧ t.wf ∧ TmAt T.ca H t a ∧ WoA T H wa l ps ∧ ps.length ≤ 1000 ∧ ∀ H', Same H H' → Q (oV (t.ans (rowsOf ps) x)) H'
/-- o.answer_in(world, now) -/
theorem rd_ans (T : Txt P K mg) {n : Nat} {σ : St} {H : Hp} {Q : VK} {tw tn : TE} {t : Tm} {a wa l : Addr} {ps : List (Str × Int)} {x : Int} (hd : t.depth ≤ n) (hw : t.wf) (hta : TmAt T.ca H t a) (ho : WoA T H wa l ps) (hl : ps.length ≤ 1000) (h1 : ∀ Q' : VK, Q' (.ref wa) H → tw σ H Q') (h2 : ∀ Q' : VK, Q' (.int x) H → tn σ H Q')
    (q : ∀ H', Same H H' → Q (oV (t.ans (rowsOf ps) x)) H') :
    ∃ a' C dx fs i, V.ref a = .ref a' ∧ H a' = some (.ins C dx fs) ∧ fs.lookup ("answer_in" : Str) = none ∧ Cls K C ∧ Meth K C "answer_in" (T.ansF i) ∧ tCons tw (tCons tn tNil) σ H fun vs H2 => spAns T n i (.ref a :: vs) H2 Q E0 := by
  obtain ⟨dx, fs, g1, _, _, _, _, _, g2⟩ := hta.obj
  exact ⟨a, _, dx, fs, t.kind, rfl, g1, g2, (T.kc t).o.cl, T.ansM t, h1 _ (h2 _ ⟨t, a, wa, l, ps, x, rfl, rfl, hd, hw, hta, ho, hl, q⟩)⟩
theorem oV_none {o : Option Int} (h : o = none) : decide (oV o = .non) = true := by subst h; rfl
theorem oV_some {o : Option Int} {x : Int} (h : o = some x) : decide (oV o = .non) = false := by subst h; rfl
theorem ok_ans (T : Txt P K mg) {k : Nat} : ∀ (n : Nat) (kd : Kd), FnR P w K mg base CX0 (k + 4 + n) (T.ansF kd) (spAns T n kd)
  | 0, kd => fun A outer s H us vs Q E hr e0 r h => by
    obtain ⟨t, a, _, _, _, _, _, _, hd, _⟩ := h
    have := depth_pos t
    omega
  | n + 1, kd => by
    have G_answer_in : ∀ kd, FnR P w K mg base CX0 (k + 4 + n) (T.ansF kd) (spAns T n kd) := fun kd => ok_ans T n kd
    have G_getitem : FnR P w K mg base CX0 (k + 3) T.World_getitem.f (spGetItem T) := ok_getitem T
    have G_looked_up : FnOk P w K mg base CX0 (k + 2) T.looked_up.f T.looked_up.fd ["moments", "moment", "way", "within"] (spLookedUp K) := ok_looked_up T
    cases kd with
    | now =>
      refine toR (T.Term_answer_in.F.ok (k := k + 4 + n) sc_Term_answer_in (fun vs H Q E h => ?_) (fun cdv A outer s H vs Q E hr h => ?_)) T.Term_answer_in.b
      · obtain ⟨t, a, wa, l, ps, x, rfl, _⟩ := h
        rfl
      · obtain ⟨t, a, wa, l, ps, x, rfl, hk, hd, hw, hta, ho, hl, q⟩ := h
        cases t with
        | now =>
          refine ⟨_, (pss_one (ps_ret (pv 2))), ?_⟩
          exact ⟨.int x, rfl, q H (Same.refl H)⟩
        | _ => cases hk
    | shift =>
      refine toR (T.Shift_answer_in.F.ok (k := k + 4 + n) sc_Shift_answer_in (fun vs H Q E h => ?_) (fun cdv A outer s H vs Q E hr h => ?_)) T.Shift_answer_in.b
      · obtain ⟨t, a, wa, l, ps, x, rfl, _⟩ := h
        rfl
      · obtain ⟨t, a, wa, l, ps, x, rfl, hk, hd, hw, hta, ho, hl, q⟩ := h
        cases t with
        | shift m i =>
          obtain ⟨dx, b, ha, hm⟩ := hta
          have hd' : m.depth ≤ n := by simp only [Tm.depth] at hd; omega
          refine ⟨_, (pss_cons (ps_set (i := 3) sc_Shift_answer_in.nd rfl (.inl rfl) (pe_methV (pe_fld (pv 0) rfl) G_answer_in (hr.mono (by omega)) pass0 (pa_cons (pv 1) (pa_cons (pv 2) pa_nil))))
  (pss_cons (ps_if (pt_cmpR op_isN (pv 3) pe_non (nomark _)) (pss_one (ps_ret pe_non)) pss_nil)
  (pss_one (ps_ret (pe_op op_add (pv 3) (pe_fld (pv 0) rfl)))))), ?_⟩
          refine ⟨.ref a, rfl, a, _, dx, _, _, rfl, ha, T.o_Shift.cl, T.n_Shift_moment, rfl, ?_⟩
          refine rd_ans T (t := m) (x := x) hd' hw hm ho hl (fun Q' h => ⟨_, rfl, h⟩) (fun Q' h => ⟨.int x, rfl, h⟩) fun H1 s1 => ?_
          simp only [Tm.ans] at q
          cases e : m.ans (rowsOf ps) x with
          | none =>
            rw [e] at q
            exact ⟨_, rfl, rfl, _, rfl, iT rfl (q H1 s1)⟩
          | some y =>
            rw [e] at q
            exact ⟨_, rfl, rfl, _, rfl, iF rfl ⟨.int y, rfl, .ref a, rfl, a, _, dx, _, _, rfl, s1 _ _ ha, T.o_Shift.cl, T.n_Shift_amount, rfl, _, _, rfl, rfl, q H1 s1⟩⟩
        | _ => cases hk
    | look =>
      refine toR (T.Look_answer_in.F.ok (k := k + 4 + n) sc_Look_answer_in (fun vs H Q E h => ?_) (fun cdv A outer s H vs Q E hr h => ?_)) T.Look_answer_in.b
      · obtain ⟨t, a, wa, l, ps, x, rfl, _⟩ := h
        rfl
      · obtain ⟨t, a, wa, l, ps, x, rfl, hk, hd, hw, hta, ho, hl, q⟩ := h
        cases t with
        | look z m wy lim =>
          obtain ⟨dx, b, ha, hm⟩ := hta
          obtain ⟨w1, w2, w3, w4⟩ := hw
          have hd' : m.depth ≤ n := by simp only [Tm.depth] at hd; omega
          refine ⟨_, (pss_cons (ps_set (i := 3) sc_Look_answer_in.nd rfl (.inl rfl) (pe_methV (pe_fld (pv 0) rfl) G_answer_in (hr.mono (by omega)) pass0 (pa_cons (pv 1) (pa_cons (pv 2) pa_nil))))
  (pss_cons (ps_if (pt_cmpR op_isN (pv 3) pe_non (nomark _)) (pss_one (ps_ret pe_non)) pss_nil)
  (pss_one (ps_ret (pe_call G_looked_up (hr.mono (by omega)) (by rfl) T.looked_up.g T.looked_up.F.kp T.looked_up.b .nil pass0 (pa_cons (pe_getO G_getitem (hr.mono (by omega)) pass0 (pv 1) (pe_fld (pv 0) rfl)) (pa_cons (pv 3) (pa_cons (pe_fld (pv 0) rfl) (pa_cons (pe_fld (pv 0) rfl) pa_nil))))))))), ?_⟩
          refine ⟨.ref a, rfl, a, _, dx, _, _, rfl, ha, T.o_Look.cl, T.n_Look_moment, rfl, ?_⟩
          refine rd_ans T (t := m) (x := x) hd' w4 hm ho hl (fun Q' h => ⟨_, rfl, h⟩) (fun Q' h => ⟨.int x, rfl, h⟩) fun H1 s1 => ?_
          simp only [Tm.ans] at q
          cases e : m.ans (rowsOf ps) x with
          | none =>
            rw [e] at q
            exact ⟨_, rfl, rfl, _, rfl, iT rfl (q H1 s1)⟩
          | some y =>
            rw [e] at q
            refine ⟨_, rfl, rfl, _, rfl, iF rfl ⟨.ref wa, rfl, .ref a, rfl, a, _, dx, _, _, rfl, s1 _ _ ha, T.o_Look.cl, T.n_Look_stream, rfl, ?_⟩⟩
            obtain ⟨dw, vs, hwa, _⟩ := ho.same s1
            refine ⟨wa, _, dw, _, rfl, hwa, T.gi_World, wa, l, z, ps, rfl, ho.same s1, w1, hl, fun r H2 s2 _ hr2 => ?_⟩
            have ha2 := s2 _ _ (s1 _ _ ha)
            refine ⟨.int y, rfl, .ref a, rfl, a, _, dx, _, _, rfl, ha2, T.o_Look.cl, T.n_Look_way, rfl, .ref a, rfl, a, _, dx, _, _, rfl, ha2, T.o_Look.cl, T.n_Look_within, rfl, ?_⟩
            refine ⟨r, rowsOf ps z, y, wy, lim, rfl, SqL.of hr2, ?_, fun H3 s3 => q H3 ((s1.trans s2).trans s3)⟩
            unfold rowsOf
            rw [List.length_map]
            exact Nat.le_trans (List.length_filter_le _ _) hl
        | _ => cases hk
    | either =>
      refine toR (T.Either_answer_in.F.ok (k := k + 4 + n) sc_Either_answer_in (fun vs H Q E h => ?_) (fun cdv A outer s H vs Q E hr h => ?_)) T.Either_answer_in.b
      · obtain ⟨t, a, wa, l, ps, x, rfl, _⟩ := h
        rfl
      · obtain ⟨t, a, wa, l, ps, x, rfl, hk, hd, hw, hta, ho, hl, q⟩ := h
        cases t with
        | either t1 t2 =>
          obtain ⟨dx, b, d, ha, hx, hy⟩ := hta
          have hd1 : t1.depth ≤ n := by simp only [Tm.depth] at hd; omega
          have hd2 : t2.depth ≤ n := by simp only [Tm.depth] at hd; omega
          refine ⟨_, (pss_cons (ps_set (i := 3) sc_Either_answer_in.nd rfl (.inl rfl) (pe_methV (pe_fld (pv 0) rfl) G_answer_in (hr.mono (by omega)) pass0 (pa_cons (pv 1) (pa_cons (pv 2) pa_nil))))
  (pss_cons (ps_if (pt_cmpR op_isN (pv 3) pe_non (nomark _)) (pss_one (ps_ret (pe_methV (pe_fld (pv 0) rfl) G_answer_in (hr.mono (by omega)) pass0 (pa_cons (pv 1) (pa_cons (pv 2) pa_nil))))) pss_nil)
  (pss_one (ps_ret (pv 3))))), ?_⟩
          refine ⟨.ref a, rfl, a, _, dx, _, _, rfl, ha, T.o_Either.cl, T.n_Either_first, rfl, ?_⟩
          refine rd_ans T (t := t1) (x := x) hd1 hw.1 hx ho hl (fun Q' h => ⟨_, rfl, h⟩) (fun Q' h => ⟨.int x, rfl, h⟩) fun H1 s1 => ?_
          simp only [Tm.ans] at q
          cases e : t1.ans (rowsOf ps) x with
          | none =>
            rw [e] at q
            refine ⟨_, rfl, rfl, _, rfl, iT rfl ⟨.ref a, rfl, a, _, dx, _, _, rfl, s1 _ _ ha, T.o_Either.cl, T.n_Either_second, rfl, ?_⟩⟩
            exact rd_ans T (t := t2) (x := x) hd2 hw.2 (hy.same s1) (ho.same s1) hl (fun Q' h => ⟨_, rfl, h⟩) (fun Q' h => ⟨.int x, rfl, h⟩) fun H2 s2 => q H2 (s1.trans s2)
          | some y =>
            rw [e] at q
            exact ⟨_, rfl, rfl, _, rfl, iF rfl ⟨.int y, rfl, q H1 s1⟩⟩
        | _ => cases hk
    | later =>
      refine toR (T.Later_answer_in.F.ok (k := k + 4 + n) sc_Later_answer_in (fun vs H Q E h => ?_) (fun cdv A outer s H vs Q E hr h => ?_)) T.Later_answer_in.b
      · obtain ⟨t, a, wa, l, ps, x, rfl, _⟩ := h
        rfl
      · obtain ⟨t, a, wa, l, ps, x, rfl, hk, hd, hw, hta, ho, hl, q⟩ := h
        cases t with
        | later t1 t2 =>
          obtain ⟨dx, b, d, ha, hx, hy⟩ := hta
          have hd1 : t1.depth ≤ n := by simp only [Tm.depth] at hd; omega
          have hd2 : t2.depth ≤ n := by simp only [Tm.depth] at hd; omega
          refine ⟨_, (pss_cons (ps_set (i := 3) sc_Later_answer_in.nd rfl (.inl rfl) (pe_methV (pe_fld (pv 0) rfl) G_answer_in (hr.mono (by omega)) pass0 (pa_cons (pv 1) (pa_cons (pv 2) pa_nil))))
  (pss_cons (ps_set (i := 4) sc_Later_answer_in.nd rfl (.inl rfl) (pe_methV (pe_fld (pv 0) rfl) G_answer_in (hr.mono (by omega)) pass0 (pa_cons (pv 1) (pa_cons (pv 2) pa_nil))))
  (pss_cons (ps_if (PW.pt (pw_or (pt_cmpR op_isN (pv 3) pe_non (nomark _)) (pw_or1 (pt_cmpR op_isN (pv 4) pe_non (nomark _))))) (pss_one (ps_ret pe_non)) pss_nil)
  (pss_one (ps_ret (pe_callB (call_max2 rfl) (by rfl) T.n_max (by decide +kernel) (pa_cons (pv 3) (pa_cons (pv 4) pa_nil)))))))), ?_⟩
          refine ⟨.ref a, rfl, a, _, dx, _, _, rfl, ha, T.o_Later.cl, T.n_Later_first, rfl, ?_⟩
          refine rd_ans T (t := t1) (x := x) hd1 hw.1 hx ho hl (fun Q' h => ⟨_, rfl, h⟩) (fun Q' h => ⟨.int x, rfl, h⟩) fun H1 s1 => ?_
          refine ⟨.ref a, rfl, a, _, dx, _, _, rfl, s1 _ _ ha, T.o_Later.cl, T.n_Later_second, rfl, ?_⟩
          refine rd_ans T (t := t2) (x := x) hd2 hw.2 (hy.same s1) (ho.same s1) hl (fun Q' h => ⟨_, rfl, h⟩) (fun Q' h => ⟨.int x, rfl, h⟩) fun H2 s2 => ?_
          simp only [Tm.ans] at q
          cases e : t1.ans (rowsOf ps) x with
          | none =>
            rw [e] at q
            exact ⟨_, rfl, rfl, _, rfl, iT rfl (iT rfl (q H2 (s1.trans s2)))⟩
          | some y =>
            rw [e] at q
            cases e2 : t2.ans (rowsOf ps) x with
            | none =>
              rw [e2] at q
              exact ⟨_, rfl, rfl, _, rfl, iF rfl ⟨_, rfl, rfl, _, rfl, iT rfl (q H2 (s1.trans s2))⟩⟩
            | some y2 =>
              rw [e2] at q
              exact ⟨_, rfl, rfl, _, rfl, iF rfl ⟨_, rfl, rfl, _, rfl, iF rfl ⟨.int y, rfl, .int y2, rfl, y, y2, rfl, q H2 (s1.trans s2)⟩⟩⟩
        | _ => cases hk
    | earlier =>
      refine toR (T.Earlier_answer_in.F.ok (k := k + 4 + n) sc_Earlier_answer_in (fun vs H Q E h => ?_) (fun cdv A outer s H vs Q E hr h => ?_)) T.Earlier_answer_in.b
      · obtain ⟨t, a, wa, l, ps, x, rfl, _⟩ := h
        rfl
      · obtain ⟨t, a, wa, l, ps, x, rfl, hk, hd, hw, hta, ho, hl, q⟩ := h
        cases t with
        | earlier t1 t2 =>
          obtain ⟨dx, b, d, ha, hx, hy⟩ := hta
          have hd1 : t1.depth ≤ n := by simp only [Tm.depth] at hd; omega
          have hd2 : t2.depth ≤ n := by simp only [Tm.depth] at hd; omega
          refine ⟨_, (pss_cons (ps_set (i := 3) sc_Earlier_answer_in.nd rfl (.inl rfl) (pe_methV (pe_fld (pv 0) rfl) G_answer_in (hr.mono (by omega)) pass0 (pa_cons (pv 1) (pa_cons (pv 2) pa_nil))))
  (pss_cons (ps_set (i := 4) sc_Earlier_answer_in.nd rfl (.inl rfl) (pe_methV (pe_fld (pv 0) rfl) G_answer_in (hr.mono (by omega)) pass0 (pa_cons (pv 1) (pa_cons (pv 2) pa_nil))))
  (pss_cons (ps_if (PW.pt (pw_or (pt_cmpR op_isN (pv 3) pe_non (nomark _)) (pw_or1 (pt_cmpR op_isN (pv 4) pe_non (nomark _))))) (pss_one (ps_ret pe_non)) pss_nil)
  (pss_one (ps_ret (pe_callB (call_min2 rfl) (by rfl) T.n_min (by decide +kernel) (pa_cons (pv 3) (pa_cons (pv 4) pa_nil)))))))), ?_⟩
          refine ⟨.ref a, rfl, a, _, dx, _, _, rfl, ha, T.o_Earlier.cl, T.n_Earlier_first, rfl, ?_⟩
          refine rd_ans T (t := t1) (x := x) hd1 hw.1 hx ho hl (fun Q' h => ⟨_, rfl, h⟩) (fun Q' h => ⟨.int x, rfl, h⟩) fun H1 s1 => ?_
          refine ⟨.ref a, rfl, a, _, dx, _, _, rfl, s1 _ _ ha, T.o_Earlier.cl, T.n_Earlier_second, rfl, ?_⟩
          refine rd_ans T (t := t2) (x := x) hd2 hw.2 (hy.same s1) (ho.same s1) hl (fun Q' h => ⟨_, rfl, h⟩) (fun Q' h => ⟨.int x, rfl, h⟩) fun H2 s2 => ?_
          simp only [Tm.ans] at q
          cases e : t1.ans (rowsOf ps) x with
          | none =>
            rw [e] at q
            exact ⟨_, rfl, rfl, _, rfl, iT rfl (iT rfl (q H2 (s1.trans s2)))⟩
          | some y =>
            rw [e] at q
            cases e2 : t2.ans (rowsOf ps) x with
            | none =>
              rw [e2] at q
              exact ⟨_, rfl, rfl, _, rfl, iF rfl ⟨_, rfl, rfl, _, rfl, iT rfl (q H2 (s1.trans s2))⟩⟩
            | some y2 =>
              rw [e2] at q
              exact ⟨_, rfl, rfl, _, rfl, iF rfl ⟨_, rfl, rfl, _, rfl, iF rfl ⟨.int y, rfl, .int y2, rfl, y, y2, rfl, q H2 (s1.trans s2)⟩⟩⟩
        | _ => cases hk
/-- term(world, now) -/
def spTCall (T : Txt P K mg) : Sp := fun vs H Q _ => ∃ (t : Tm) (a wa l : Addr) (ps : List (Str × Int)) (x : Int), vs = [.ref a, .ref wa, .int x] ∧ t.depth ≤ 12 ∧ t.wf ∧ TmAt T.ca H t a ∧ WoA T H wa l ps ∧ ps.length ≤ 1000 ∧ ∀ H', Same H H' → Q (oV (t.ans (rowsOf ps) x)) H'
theorem ok_term_call (T : Txt P K mg) {k : Nat} : FnR P w K mg base CX0 (k + 17) T.Term_call.f (spTCall T) := by
  have G_check_moment : FnOk P w K mg base CX0 (k + 2) T.check_moment.f T.check_moment.fd ["value"] spCkMoment := ok_check_moment T
  have G_check_world : FnOk P w K mg base CX0 (k + 1) T.check_world.f T.check_world.fd ["value"] (spCkWorld T) := ok_check_world T
  have G_answer_in : ∀ kd, FnR P w K mg base CX0 (k + 4 + 12) (T.ansF kd) (spAns T 12 kd) := fun b => ok_ans T 12 b
  refine toR (T.Term_call.F.ok (k := k + 16) sc_Term_call (fun vs H Q E h => ?_) (fun cdv A outer s H vs Q E hr h => ?_)) T.Term_call.b
  · obtain ⟨t, a, wa, l, ps, x, rfl, _⟩ := h
    rfl
  · obtain ⟨t, a, wa, l, ps, x, rfl, hd, hw, hta, ho, hl, q⟩ := h
    refine ⟨_, (pss_cons (ps_expr (pe_call G_check_world (hr.mono (by omega)) (by rfl) T.check_world.g T.check_world.F.kp T.check_world.b .nil pass0 (pa_cons (pv 1) pa_nil)))
  (pss_cons (ps_expr (pe_call G_check_moment (hr.mono (by omega)) (by rfl) T.check_moment.g T.check_moment.F.kp T.check_moment.b .nil pass0 (pa_cons (pv 2) pa_nil)))
  (pss_one (ps_ret (pe_methV (pv 0) G_answer_in (hr.mono (by omega)) pass0 (pa_cons (pv 1) (pa_cons (pv 2) pa_nil))))))), ?_⟩
    refine ⟨.ref wa, rfl, wa, rfl, ho.is, .int x, rfl, x, rfl, .ref a, rfl, ?_⟩
    exact rd_ans T (t := t) (x := x) hd hw hta ho hl (fun Q' h => ⟨.ref wa, rfl, h⟩) (fun Q' h => ⟨.int x, rfl, h⟩) q
theorem callO_of (T : Txt P K mg) (t : Tm) : StX.CallO K (t.cls T.ca) T.Term_call.f := by
  cases t with
  | now => exact T.call_Now
  | shift => exact T.call_Shift
  | look => exact T.call_Look
  | either => exact T.call_Either
  | later => exact T.call_Later
  | earlier => exact T.call_Earlier
/-- told(term, world, now) -/
theorem ok_told (T : Txt P K mg) {k : Nat} : FnOk P w K mg base CX0 (k + 18) T.told.f T.told.fd ["term", "world", "now"] (spTCall T) := by
  have G_check_term : FnOk P w K mg base CX0 (k + 1) T.check_term.f T.check_term.fd ["value"] (spCkTerm T) := ok_check_term T
  have G_call : FnR P w K mg base CX0 (k + 17) T.Term_call.f (spTCall T) := ok_term_call T
  refine T.told.F.ok (k := k + 17) sc_told (fun vs H Q E h => ?_) (fun cdv A outer s H vs Q E hr h => ?_)
  · obtain ⟨t, a, wa, l, ps, x, rfl, _⟩ := h
    rfl
  · obtain ⟨t, a, wa, l, ps, x, rfl, hd, hw, hta, ho, hl, q⟩ := h
    obtain ⟨dx, fs, h1, _⟩ := hta.obj
    refine ⟨_, (pss_cons (ps_expr (pe_call G_check_term (hr.mono (by omega)) (by rfl) T.check_term.g T.check_term.F.kp T.check_term.b .nil pass0 (pa_cons (pv 0) pa_nil)))
  (pss_one (ps_ret (pe_callV (pv 0) G_call (hr.mono (by omega)) pass0 (pa_cons (pv 1) (pa_cons (pv 2) pa_nil)))))), ?_⟩
    exact ⟨.ref a, rfl, t, a, rfl, hta, .ref a, rfl, a, rfl, .ref wa, rfl, .int x, rfl, _, dx, fs, h1, callO_of T t, t, a, wa, l, ps, x, rfl, hd, hw, hta, ho, hl, q⟩
end
end Pl

namespace Pl
open PySem L2
section
variable {P : Program} {w : World} {K : PySem.W.Frag} {mg : Str → Option Value} {base : Heap}
theorem ok_law_is_integer (T : Txt P K mg) {k : Nat} : FnOk P w K mg base CX0 (k + 1) T.law_is_integer.f T.law_is_integer.fd ["_law_thing"] spIsInteger := by
  refine T.law_is_integer.F.ok sc_law_is_integer (fun vs H Q E h => ?_) (fun cdv A outer s H vs Q E hr h => ?_)
  · obtain ⟨v, t, rfl, _⟩ := h
    rfl
  · obtain ⟨v, t, rfl, ty, q⟩ := h
    refine ⟨_, (pss_one (ps_ret (pe_and (pe_callB call_isi (by rfl) T.n_isinstance (by decide +kernel) (pa_cons (pv 0) (pa_cons (pe_bltn (v := .ty "int") (by rfl) T.n_int (by decide +kernel) rfl) pa_nil))) (pe_one (pe_not (pe_callB call_isi (by rfl) T.n_isinstance (by decide +kernel) (pa_cons (pv 0) (pa_cons (pe_bltn (v := .ty "bool") (by rfl) T.n_bool (by decide +kernel) rfl) pa_nil)))))))), ?_⟩
    refine ⟨v, rfl, _, _, _, _, _, rfl, .ty "int", ty.x, isI_int ty, _, rfl, ?_⟩
    rw [← isInt_of ty] at q
    cases h1 : tyB t "int" with
    | false =>
      rw [h1] at q
      exact iF rfl q
    | true =>
      rw [h1] at q
      refine iT rfl ⟨v, rfl, _, _, _, _, _, rfl, .ty "bool", ty.x, isI_bool ty, _, rfl, ?_⟩
      rw [Bool.true_and] at q
      exact q
/-- an answer and what is due -/
def spAnswerL : Sp := fun vs H Q _ => ∃ o : Option Int, vs = [oV o, oV o] ∧ Q (.bl true) H
theorem ok_law_answer (T : Txt P K mg) {k : Nat} : FnOk P w K mg base CX0 (k + 2) T.law_answer.f T.law_answer.fd ["_law_thing", "_law_due"] spAnswerL := by
  have G_law_is_integer : FnOk P w K mg base CX0 (k + 1) T.law_is_integer.f T.law_is_integer.fd ["_law_thing"] spIsInteger := ok_law_is_integer T
  refine T.law_answer.F.ok (k := k + 1) sc_law_answer (fun vs H Q E h => ?_) (fun cdv A outer s H vs Q E hr h => ?_)
  · obtain ⟨i, rfl, _⟩ := h
    rfl
  · obtain ⟨o, rfl, q⟩ := h
    refine ⟨_, (pss_cons (ps_if (pt_cmpR op_isN (pv 1) pe_non (nomark _)) (pss_one (ps_ret (pe_cmpR op_isN (pv 0) pe_non (nomark _)))) pss_nil)
  (pss_one (ps_ret (pe_and (pe_call G_law_is_integer (hr.mono (by omega)) (by rfl) T.law_is_integer.g T.law_is_integer.F.kp T.law_is_integer.b .nil pass0 (pa_cons (pv 0) pa_nil)) (pe_one (pe_cmpR op_eq (pv 0) (pv 1) (nomark _))))))), ?_⟩
    cases o with
    | none => exact ⟨_, rfl, rfl, _, rfl, iT rfl ⟨_, rfl, rfl, q⟩⟩
    | some i =>
      refine ⟨.int i, rfl, rfl, _, rfl, iF (decide_eq_false (fun h => nomatch h)) ?_⟩
      refine ⟨.int i, rfl, .int i, "int", rfl, .int i, _, rfl, iT rfl ⟨.int i, rfl, .int i, rfl, rfl, ?_⟩⟩
      rw [decide_eq_true rfl]
      exact q
end
end Pl

namespace Pl
open PySem L2
theorem f_at (y m : Int) : fitsB y m "at" = decide (y ≤ m) := by unfold fitsB; rw [if_pos rfl]
theorem f_before (y m : Int) : fitsB y m "before" = decide (y < m) := by unfold fitsB; rw [if_neg (by decide), if_pos rfl]
theorem f_since (y m : Int) : fitsB y m "since" = decide (y ≥ m) := by unfold fitsB; rw [if_neg (by decide), if_neg (by decide), if_pos rfl]
theorem f_after (y m : Int) : fitsB y m "after" = decide (y > m) := by unfold fitsB; rw [if_neg (by decide), if_neg (by decide), if_neg (by decide)]
theorem b_at : isBack "at" = true := by decide
theorem b_before : isBack "before" = true := by decide
theorem b_since : isBack "since" = false := by decide
theorem b_after : isBack "after" = false := by decide
/-- a look carried over by a map -/
theorem lookedUp_map {l l' : List Int} (h : l.Pairwise (· ≤ ·)) (h' : l'.Pairwise (· ≤ ·)) (f : Int → Int) {m m' : Int} {w w' : Str} {lim lim' : Option Int} (hm : ∀ y, y ∈ l' ↔ ∃ x ∈ l, y = f x) (hf : ∀ x, fitsB (f x) m' w' = fitsB x m w)
    (ho : ∀ x y, (if isBack w then y ≤ x else x ≤ y) → (if isBack w' then f y ≤ f x else f x ≤ f y)) (ht : ∀ x, fitsB x m w = true → tooFar (f x) m' lim' = tooFar x m lim) : lookedUp l' m' w' lim' = (lookedUp l m w lim).map f := by
  rcases lookedUp_cases h m w lim with ⟨a1, a2⟩ | ⟨x, bx, ex⟩
  · rcases lookedUp_cases h' m' w' lim' with ⟨b1, b2⟩ | ⟨y, by_, ey⟩
    · rw [a2, b2]; rfl
    · obtain ⟨x, hx, e⟩ := (hm y).mp by_.mem
      have := a1 x hx
      rw [← hf, ← e, by_.fit] at this
      cases this
  · have bf : Best l' m' w' (f x) := ⟨(hm _).mpr ⟨x, bx.mem, rfl⟩, by rw [hf]; exact bx.fit, fun y hy hyf => by
      obtain ⟨z, hz, rfl⟩ := (hm y).mp hy
      rw [hf] at hyf
      exact ho x z (bx.top z hz hyf)⟩
    rcases lookedUp_cases h' m' w' lim' with ⟨b1, b2⟩ | ⟨y, by_, ey⟩
    · have := b1 _ bf.mem
      rw [bf.fit] at this
      cases this
    · rw [ex, ey, by_.uniq bf (fun _ => Iff.rfl), ht x bx.fit]
      cases tooFar x m lim <;> rfl
inductive Mir : Str → Str → Prop
  | a : Mir "at" "since"
  | b : Mir "since" "at"
  | c : Mir "before" "after"
  | d : Mir "after" "before"
theorem Mir.w1 {a b : Str} (h : Mir a b) : a ∈ ways := by cases h <;> decide
theorem Mir.w2 {a b : Str} (h : Mir a b) : b ∈ ways := by cases h <;> decide
theorem far_neg (x m : Int) (lim : Option Int) : tooFar (0 - x) (0 - m) lim = tooFar x m lim := by
  cases lim with
  | none => rfl
  | some l =>
    simp only [tooFar]
    congr 1
    have : (if 0 - x - (0 - m) < 0 then -(0 - x - (0 - m)) else 0 - x - (0 - m)) = (if x - m < 0 then -(x - m) else x - m) := by split <;> split <;> omega
    rw [this]
theorem look_mirror {l l' : List Int} (h : l.Pairwise (· ≤ ·)) (h' : l'.Pairwise (· ≤ ·)) (hm : ∀ y, y ∈ l' ↔ ∃ x ∈ l, y = 0 - x) {w w' : Str} (hw : Mir w w') (m : Int) (lim : Option Int) : lookedUp l' (0 - m) w' lim = (lookedUp l m w lim).map (fun x => 0 - x) := by
  refine lookedUp_map h h' (fun x => 0 - x) hm (fun x => ?_) (fun x y => ?_) (fun x _ => far_neg x m lim)
  · cases hw
    · rw [f_at, f_since]; congr 1 <;> (apply propext; omega)
    · rw [f_at, f_since]; congr 1 <;> (apply propext; omega)
    · rw [f_before, f_after]; congr 1 <;> (apply propext; omega)
    · rw [f_before, f_after]; congr 1 <;> (apply propext; omega)
  · cases hw
    · rw [b_at, b_since]; simp only [if_true, Bool.false_eq_true, if_false]; omega
    · rw [b_at, b_since]; simp only [if_true, Bool.false_eq_true, if_false]; omega
    · rw [b_before, b_after]; simp only [if_true, Bool.false_eq_true, if_false]; omega
    · rw [b_before, b_after]; simp only [if_true, Bool.false_eq_true, if_false]; omega
inductive Nxt : Str → Str → Int → Prop
  | a : Nxt "before" "at" (-1)
  | b : Nxt "after" "since" 1
theorem Nxt.w1 {a b : Str} {k : Int} (h : Nxt a b k) : a ∈ ways := by cases h <;> decide
theorem Nxt.w2 {a b : Str} {k : Int} (h : Nxt a b k) : b ∈ ways := by cases h <;> decide
def wide : Option Int → Option Int
  | none => none
  | some l => some (l + 1)
theorem look_next {l : List Int} (h : l.Pairwise (· ≤ ·)) {w w' : Str} {k : Int} (hw : Nxt w w' k) (m : Int) (lim : Option Int) : lookedUp l (m + k) w' lim = lookedUp l m w (wide lim) := by
  have z := lookedUp_map h h (fun x => x) (m := m) (m' := m + k) (w := w) (w' := w') (lim := wide lim) (lim' := lim) (fun y => ⟨fun h => ⟨y, h, rfl⟩, fun ⟨x, h, e⟩ => by rw [e]; exact h⟩) (fun x => ?_) (fun x y => ?_) (fun x hx => ?_)
  · rw [z]
    cases lookedUp l m w (wide lim) <;> rfl
  · cases hw
    · rw [f_at, f_before]; congr 1 <;> (apply propext; omega)
    · rw [f_since, f_after]; congr 1 <;> (apply propext; omega)
  · cases hw
    · rw [b_at, b_before]; exact fun h => h
    · rw [b_since, b_after]; exact fun h => h
  · cases lim with
    | none => rfl
    | some q =>
      simp only [tooFar, wide]
      congr 1
      apply propext
      cases hw
      · rw [f_before] at hx
        have := of_decide_eq_true hx
        split <;> split <;> omega
      · rw [f_after] at hx
        have := of_decide_eq_true hx
        split <;> split <;> omega
section
variable {P : Program} {w : World} {K : PySem.W.Frag} {mg : Str → Option Value} {base : Heap}
def negF : V → Option V
  | .int i => some (.int (0 - i))
  | _ => none
theorem negF_all : ∀ ns : List Int, (ns.map V.int).filterMap negF = (ns.map fun x => 0 - x).map V.int
  | [] => rfl
  | n :: ns => by
    rw [List.map_cons, List.filterMap_cons, negF_all ns]
    rfl
def spNegated (K : PySem.W.Frag) : Sp := fun vs H Q _ => ∃ (a : Addr) (ns : List Int), vs = [.ref a] ∧ SqL K H a (ns.map V.int) ∧ ns.length ≤ 1000 ∧ ∀ r H', Same H H' → H' r = some (.lst ((ns.map fun x => 0 - x).map V.int)) → Q (.ref r) H'
theorem ok_law_negated (T : Txt P K mg) {k : Nat} : FnOk P w K mg base CX0 (k + 1) T.law_negated.f T.law_negated.fd ["_law_moments_here"] (spNegated K) := by
  refine T.law_negated.F.ok (k := k) sc_law_negated (fun vs H Q E h => ?_) (fun cdv A outer s H vs Q E hr h => ?_)
  · obtain ⟨a, ns, rfl, _⟩ := h
    rfl
  · obtain ⟨a, ns, rfl, ha, hl, q⟩ := h
    refine ⟨_, (pss_one (ps_ret (pe_lc (own := [("_law_moment", 1)]) (g := gName 1) (tt := tYes) (te := (tOp _ (tC _) (tVar 1))) rfl sc_law_negated.nd (pi_list (pv 0)) (blkOk_by (own := [("_law_moment", 1)]) (N := N_law_negated) (sc := defScope s_law_negated) (by decide +kernel)) (fun _ _ _ _ _ => (pg_name (i := 1) sc_law_negated.nd rfl (.inl rfl))) (fun _ _ _ _ _ => pts_nil) (fun _ _ _ _ _ => (pe_op op_sub pe_int (pv 1)))))), ?_⟩
    refine ⟨.ref a, rfl, a, rfl, ⟨_, ha⟩, fun D hD => ?_⟩
    refine lc_pure (K := K) (a := a) (xs := ns.map V.int) negF ha hD (by rw [List.length_map]; omega) (fun x H1 N N' hx s1 n1 n2 => ?_) (fun H1 s1 hD1 => ?_)
    · obtain ⟨r, _, rfl⟩ := mem_ints hx
      exact ⟨rfl, yes_if ⟨.int r, rfl, 0, r, rfl, rfl, n1 _ _ (Same.refl _) rfl⟩⟩
    · rw [negF_all] at hD1
      exact q D H1 s1 hD1
end
end Pl

namespace Pl
open PySem L2
def spLaw (K : PySem.W.Frag) : Sp := fun vs H Q _ => ∃ (a : Addr) (ns : List Int), vs = [.ref a] ∧ SqL K H a (ns.map V.int) ∧ ns.length ≤ 63 ∧ ∀ H', Q (.bl true) H'
section
variable {P : Program} {w : World} {K : PySem.W.Frag} {mg : Str → Option Value} {base : Heap}
theorem mk_same {H : Hp} {x dx C : Addr} {fs : List (Str × V)} (hx : H x = none) (hdx : H dx = none) : Same H (upd (upd H dx (.own x)) x (.ins C dx fs)) := fun c o h => by
  rw [upd_ne (ne_of_none h hx), upd_ne (ne_of_none h hdx)]
  exact h
theorem getR1 (z : Str) (m : List Int) : getR [(z, m)] z = m := by
  unfold getR
  rw [List.find?_cons_of_pos (by simp)]
theorem nd1 (z : Str) (m : List Int) : (([(z, m)] : Rws).map (·.1)).Nodup := by simp
/-- the look from now -/
theorem now_look {z wy : Str} {lim : Option Int} (hz : goodName z) (hw : wy ∈ ways) (hl : limOk lim) : (Tm.look z .now wy lim).fits ∧ (Tm.look z .now wy lim).depth ≤ 12 ∧ (Tm.look z .now wy lim).wf :=
  ⟨⟨by simp only [Tm.depth]; omega, by simp only [Tm.parts]; omega, by simp only [Tm.looks]; omega⟩, by simp only [Tm.depth]; omega, hz, hw, hl, trivial⟩
theorem plus_look {z wy : Str} {lim : Option Int} {k : Int} (hz : goodName z) (hw : wy ∈ ways) (hl : limOk lim) : (Tm.now.plus k).fits ∧ (Tm.look z (Tm.now.plus k) wy lim).fits ∧ (Tm.look z (Tm.now.plus k) wy lim).depth ≤ 12 ∧ (Tm.look z (Tm.now.plus k) wy lim).wf := by
  have h : (Tm.now.plus k).depth ≤ 2 ∧ (Tm.now.plus k).parts ≤ 2 ∧ (Tm.now.plus k).looks = 0 ∧ (Tm.now.plus k).wf := by
    simp only [Tm.plus]
    split <;> exact ⟨by simp only [Tm.depth]; omega, by simp only [Tm.parts]; omega, rfl, trivial⟩
  obtain ⟨f1, f2, f3, f4⟩ := h
  exact ⟨⟨by omega, by omega, by omega⟩, ⟨by simp only [Tm.depth]; omega, by simp only [Tm.parts]; omega, by simp only [Tm.looks]; omega⟩, by simp only [Tm.depth]; omega, hz, hw, hl, f4⟩
theorem plus_look_ans (z wy : Str) (lim : Option Int) (k nw : Int) (rows : Str → List Int) : (Tm.look z (Tm.now.plus k) wy lim).ans rows nw = lookedUp (rows z) (nw + k) wy lim := by
  simp only [Tm.plus]
  by_cases h : k = 0
  · subst h
    rw [if_pos rfl, Int.add_zero]
    rfl
  · rw [if_neg h]
    rfl
/-- World({z: ms}) -/
theorem w1good {z : Str} {m : List Int} (hz : goodName z) (nd : m.Nodup) (hl : m.length ≤ 300) : goodRows [(z, m)] :=
  ⟨fun r hr => by cases List.mem_singleton.mp hr; exact ⟨hz, nd, hl⟩, by show m.length + 0 ≤ 300; omega⟩
theorem ents1 {H : Hp} {z : Str} {a : Addr} {m : List Int} (ha : H a = some (.lst (m.map V.int))) : EntsAt H [(.inr z, .ref a)] [(z, m)] := ⟨rfl, fun i kv r h1 h2 => by
  match i, h1, h2 with
  | 0, h1, h2 => cases h1; cases h2; exact ⟨rfl, a, rfl, ha⟩⟩
theorem ok_law (T : Txt P K mg) : FnOk P w K mg base CX0 19 T.law.f T.law.fd ["_law_script"] (spLaw K) := by
  have G_law_open : FnOk P w K mg base CX0 (17 + 1) T.law_open.f T.law_open.fd ["_law_script"] (spOpen K) := ok_law_open T
  have G_law_pick : FnOk P w K mg base CX0 (17 + 1) T.law_pick.f T.law_pick.fd ["_law_box", "_law_many"] spPick := ok_law_pick T
  have G_law_number : FnOk P w K mg base CX0 (16 + 2) T.law_number.f T.law_number.fd ["_law_box"] spNumber := ok_law_number T
  have G_law_names : FnOk P w K mg base CX0 (16 + 2) T.law_names.f T.law_names.fd ["_law_box", "_law_many"] spNames := ok_law_names T
  have G_law_limit : FnOk P w K mg base CX0 (15 + 3) T.law_limit.f T.law_limit.fd ["_law_box"] spLimitL := ok_law_limit T
  have G_law_moments : FnOk P w K mg base CX0 (15 + 3) T.law_moments.f T.law_moments.fd ["_law_box", "_law_most"] spMoments := ok_law_moments T
  have G_law_negated : FnOk P w K mg base CX0 (17 + 1) T.law_negated.f T.law_negated.fd ["_law_moments_here"] (spNegated K) := ok_law_negated T
  have G_World_init : FnR P w K mg base CX0 (12 + 4) T.World_init.f (spWInit T) := ok_world_init T
  have G_law_answer : FnOk P w K mg base CX0 (16 + 2) T.law_answer.f T.law_answer.fd ["_law_thing", "_law_due"] spAnswerL := ok_law_answer T
  have G_told : FnOk P w K mg base CX0 (0 + 18) T.told.f T.told.fd ["term", "world", "now"] (spTCall T) := ok_told T
  have G_add : FnR P w K mg base CX0 (8 + 5) T.Term_add.f (spTAdd T 1) := ok_term_add T
  have G_Now_init : FnR P w K mg base CX0 (11 + 2) T.Now_init.f (spNowInit T) := ok_now_init T
  obtain ⟨fdL, G_Look_init, B_Look_init⟩ := ok_look_init (P := P) (w := w) (base := base) T (k := 12)
  refine T.law.F.ok (k := 18) sc_law (fun vs H Q E h => ?_) (fun cdv A outer s H vs Q E hr h => ?_)
  · obtain ⟨a, ns, rfl, _⟩ := h
    rfl
  · obtain ⟨sa, sns, rfl, hS, hl, q⟩ := h
    refine ⟨_, (pss_cons (ps_set (i := 1) sc_law.nd rfl (.inl rfl) (pe_call G_law_open (hr.mono (by omega)) (by rfl) T.law_open.g T.law_open.F.kp T.law_open.b .nil pass0 (pa_cons (pv 0) pa_nil)))
  (pss_cons (ps_set (i := 2) sc_law.nd rfl (.inl rfl) (pe_call G_law_names (hr.mono (by omega)) (by rfl) T.law_names.g T.law_names.F.kp T.law_names.b .nil pass0 (pa_cons (pv 1) (pa_cons pe_int pa_nil))))
  (pss_cons (ps_set (i := 3) sc_law.nd rfl (.inl rfl) (pe_call G_law_moments (hr.mono (by omega)) (by rfl) T.law_moments.g T.law_moments.F.kp T.law_moments.b .nil pass0 (pa_cons (pv 1) (pa_cons pe_int pa_nil))))
  (pss_cons (ps_set (i := 4) sc_law.nd rfl (.inl rfl) (pe_call G_law_limit (hr.mono (by omega)) (by rfl) T.law_limit.g T.law_limit.F.kp T.law_limit.b .nil pass0 (pa_cons (pv 1) pa_nil)))
  (pss_cons (ps_set (i := 5) sc_law.nd rfl (.inl rfl) (pe_call G_law_number (hr.mono (by omega)) (by rfl) T.law_number.g T.law_number.F.kp T.law_number.b .nil pass0 (pa_cons (pv 1) pa_nil)))
  (Evl.pss_cut (ps_if (PW.pt (pw_and (pt_cmpR op_gt (pe_callB call_len_seq (by rfl) T.n_len PySem.boot_len (pa_cons (pv 3) pa_nil)) pe_int (nomark _)) (pw_and1 (pt_cmpR op_eq (pe_call G_law_pick (hr.mono (by omega)) (by rfl) T.law_pick.g T.law_pick.F.kp T.law_pick.b .nil pass0 (pa_cons (pv 1) (pa_cons pe_int pa_nil))) pe_int (nomark _))))) (pss_one (ps_set (i := 5) sc_law.nd rfl (.inl rfl) (pe_op op_sub (pe_op op_add (pe_ix ix_list (pv 3) (pe_call G_law_pick (hr.mono (by omega)) (by rfl) T.law_pick.g T.law_pick.F.kp T.law_pick.b .nil pass0 (pa_cons (pv 1) (pa_cons (pe_callB call_len_seq (by rfl) T.n_len PySem.boot_len (pa_cons (pv 3) pa_nil)) pa_nil))) (fun _ _ => rfl)) (pe_call G_law_pick (hr.mono (by omega)) (by rfl) T.law_pick.g T.law_pick.F.kp T.law_pick.b .nil pass0 (pa_cons (pv 1) (pa_cons pe_int pa_nil)))) pe_int))) pss_nil)
  (pss_cons (ps_set (i := 6) sc_law.nd rfl (.inl rfl) (StX.pe_makeR T.mk_World G_World_init (hr.mono (by omega)) (by rfl) T.g_World pass0 (pa_cons (pe_disp (pps_cons (pe_ix ix_list (pv 2) pe_int (fun _ _ => rfl)) (pe_callTy call_list_of (by rfl) T.n_list (by decide +kernel) (pa_cons (pv 3) pa_nil)) pps_nil) (by rfl) (by rfl) (fun z => by cases z) (by decide)) pa_nil)))
  (pss_cons (ps_set (i := 7) sc_law.nd rfl (.inl rfl) (StX.pe_makeR T.mk_World G_World_init (hr.mono (by omega)) (by rfl) T.g_World pass0 (pa_cons (pe_disp (pps_cons (pe_ix ix_list (pv 2) pe_int (fun _ _ => rfl)) (pe_call G_law_negated (hr.mono (by omega)) (by rfl) T.law_negated.g T.law_negated.F.kp T.law_negated.b .nil pass0 (pa_cons (pv 3) pa_nil)) pps_nil) (by rfl) (by rfl) (fun z => by cases z) (by decide)) pa_nil)))
  (pss_cons (ps_for PassesOwn.never rfl (pi_list (pe_lst (pa_cons (pe_tup (pa_cons pe_str (pa_cons pe_str pa_nil))) (pa_cons (pe_tup (pa_cons pe_str (pa_cons pe_str pa_nil))) (pa_cons (pe_tup (pa_cons pe_str (pa_cons pe_str pa_nil))) (pa_cons (pe_tup (pa_cons pe_str (pa_cons pe_str pa_nil))) pa_nil)))))) (pg_name (i := 8) sc_law.nd rfl (.inl rfl))
   (pss_cons (ps_set (i := 10) sc_law.nd rfl (.inl rfl) (pe_call G_told (hr.mono (by omega)) (by rfl) T.told.g T.told.F.kp T.told.b .nil pass0 (pa_cons (pe_makeK (n := 3) T.mk_Look G_Look_init (hr.mono (by omega)) (by rfl) T.g_Look B_Look_init pass0 (pa_cons (pe_ix ix_list (pv 2) pe_int (fun _ _ => rfl)) (pa_cons (pe_makeR0 T.mk_Now G_Now_init (hr.mono (by omega)) (by rfl) T.g_Now pass0) (pa_cons (pe_ix ix_tup (pv 8) pe_int (fun _ _ => rfl)) pa_nil))) (pk_cons (pv 4) pk_nil)) (pa_cons (pv 6) (pa_cons (pv 5) pa_nil)))))
  (pss_cons (ps_set (i := 11) sc_law.nd rfl (.inl rfl) (pe_call G_told (hr.mono (by omega)) (by rfl) T.told.g T.told.F.kp T.told.b .nil pass0 (pa_cons (pe_makeK (n := 3) T.mk_Look G_Look_init (hr.mono (by omega)) (by rfl) T.g_Look B_Look_init pass0 (pa_cons (pe_ix ix_list (pv 2) pe_int (fun _ _ => rfl)) (pa_cons (pe_makeR0 T.mk_Now G_Now_init (hr.mono (by omega)) (by rfl) T.g_Now pass0) (pa_cons (pe_ix ix_tup (pv 8) pe_int (fun _ _ => rfl)) pa_nil))) (pk_cons (pv 4) pk_nil)) (pa_cons (pv 7) (pa_cons (pe_op op_sub pe_int (pv 5)) pa_nil)))))
  (Evl.pss_cut (ps_if (pt_cmpR op_notN (pv 11) pe_non (nomark _)) (pss_one (ps_set (i := 11) sc_law.nd rfl (.inl rfl) (pe_op op_sub pe_int (pv 11)))) pss_nil)
  (pss_one (ps_if (pt_not (pt_val (pe_call G_law_answer (hr.mono (by omega)) (by rfl) T.law_answer.g T.law_answer.F.kp T.law_answer.b .nil pass0 (pa_cons (pv 10) (pa_cons (pv 11) pa_nil))))) (pss_one (ps_ret pe_bl)) pss_nil))))))
  (pss_cons (ps_set (i := 9) sc_law.nd rfl (.inl rfl) pe_non)
  (Evl.pss_cut (ps_if (pt_cmpR op_notN (pv 4) pe_non (nomark _)) (pss_one (ps_set (i := 9) sc_law.nd rfl (.inl rfl) (pe_op op_add (pv 4) pe_int))) pss_nil)
  (pss_cons (ps_for PassesOwn.never rfl (pi_list (pe_lst (pa_cons (pe_tup (pa_cons pe_str (pa_cons pe_str (pa_cons (pe_un un_neg pe_int) pa_nil)))) (pa_cons (pe_tup (pa_cons pe_str (pa_cons pe_str (pa_cons pe_int pa_nil)))) pa_nil)))) (pg_name (i := 8) sc_law.nd rfl (.inl rfl))
   (pss_cons (ps_set (i := 10) sc_law.nd rfl (.inl rfl) (pe_call G_told (hr.mono (by omega)) (by rfl) T.told.g T.told.F.kp T.told.b .nil pass0 (pa_cons (pe_makeK (n := 3) T.mk_Look G_Look_init (hr.mono (by omega)) (by rfl) T.g_Look B_Look_init pass0 (pa_cons (pe_ix ix_list (pv 2) pe_int (fun _ _ => rfl)) (pa_cons (pe_makeR0 T.mk_Now G_Now_init (hr.mono (by omega)) (by rfl) T.g_Now pass0) (pa_cons (pe_ix ix_tup (pv 8) pe_int (fun _ _ => rfl)) pa_nil))) (pk_cons (pv 9) pk_nil)) (pa_cons (pv 6) (pa_cons (pv 5) pa_nil)))))
  (pss_cons (ps_set (i := 11) sc_law.nd rfl (.inl rfl) (pe_call G_told (hr.mono (by omega)) (by rfl) T.told.g T.told.F.kp T.told.b .nil pass0 (pa_cons (pe_makeK (n := 3) T.mk_Look G_Look_init (hr.mono (by omega)) (by rfl) T.g_Look B_Look_init pass0 (pa_cons (pe_ix ix_list (pv 2) pe_int (fun _ _ => rfl)) (pa_cons (pe_op (op_binI G_add (hr.mono (by omega)) pass0) (pe_makeR0 T.mk_Now G_Now_init (hr.mono (by omega)) (by rfl) T.g_Now pass0) (pe_ix ix_tup (pv 8) pe_int (fun _ _ => rfl))) (pa_cons (pe_ix ix_tup (pv 8) pe_int (fun _ _ => rfl)) pa_nil))) (pk_cons (pv 4) pk_nil)) (pa_cons (pv 6) (pa_cons (pv 5) pa_nil)))))
  (pss_one (ps_if (pt_not (pt_val (pe_call G_law_answer (hr.mono (by omega)) (by rfl) T.law_answer.g T.law_answer.F.kp T.law_answer.b .nil pass0 (pa_cons (pv 10) (pa_cons (pv 11) pa_nil))))) (pss_one (ps_ret pe_bl)) pss_nil)))))
  (pss_one (ps_ret pe_bl)))))))))))))), ?_⟩
    refine ⟨_, rfl, sa, sns, rfl, hS, hl, fun b c H1 _ _ s1 bx => ?_⟩
    have W1 : Wd b c H0 H1 := Wd.begin bx
    refine ⟨_, rfl, b, c, _, 1, rfl, W1, by decide, fun nl zs H2 _ nb nc W2 nd hz hg => ?_⟩
    obtain ⟨z0, rfl⟩ : ∃ z0, zs = [z0] := by
      match zs, hz with
      | [z0], _ => exact ⟨z0, rfl⟩
    have gz := hg z0 (by simp)
    refine ⟨_, rfl, b, c, _, 8, rfl, W2, by decide, fun a0 m0 H3 ga0 W3 ndm hlm => ?_⟩
    have hnl : upd (upd H0 nl (.lst [.str z0])) a0 (.lst (m0.map V.int)) nl = some (.lst [.str z0]) := by rw [upd_ne (fun e => by rw [← e, upd_same] at ga0; cases ga0)]; exact upd_same
    have ha0 : upd (upd H0 nl (.lst [.str z0])) a0 (.lst (m0.map V.int)) a0 = some (.lst (m0.map V.int)) := upd_same
    have W3' : Wd b c (upd (upd H0 nl (.lst [.str z0])) a0 (.lst (m0.map V.int))) H3 := W3
    generalize upd (upd H0 nl (.lst [.str z0])) a0 (.lst (m0.map V.int)) = G3 at hnl ha0 W3'
    refine ⟨_, rfl, b, c, _, rfl, W3', fun lim H4 hlim W4 => ?_⟩
    refine ⟨_, rfl, b, c, _, rfl, W4, fun nw H5 W5 _ _ => ?_⟩
    refine ⟨fun σ H' => ∃ nw : Int, σ = [some (.ref sa), some (.ref b), some (.ref nl), some (.ref a0), some (oV lim), some (.int nw), none, none, none, none, none, none] ∧ Same G3 H', ?_, ?_⟩
    · refine ⟨.ref a0, rfl, a0, _, rfl, .inl (SqL.of (W5.gh _ _ ha0)), _, _, rfl, rfl, _, rfl, ?_⟩
      by_cases hm : (0 : Nat) < m0.length
      · refine iT (decide_eq_true (by rw [List.length_map]; omega)) ⟨.ref b, rfl, b, c, _, 2, rfl, W5, by decide, by decide, fun i H' W11 _ _ => ⟨rfl, _, rfl, ite2 (fun _ => ?_) (fun _ => ⟨nw, rfl, W11.gh⟩)⟩⟩
        refine ⟨.ref a0, rfl, .ref b, rfl, .ref a0, rfl, a0, _, rfl, .inl (SqL.of (W11.gh _ _ ha0)), b, c, _, _, rfl, W11, by rw [List.length_map]; omega, by rw [List.length_map]; omega, fun i H' W12 i0 i1 => ?_⟩
        obtain ⟨x, hx⟩ := at_ints (cs := m0) i0 (by rw [List.length_map] at i1; exact i1)
        refine ⟨a0, _, i, .int x, rfl, rfl, SqL.of (W12.gh _ _ ha0), hx, ?_⟩
        exact ⟨.ref b, rfl, b, c, _, 3, rfl, W12, by decide, by decide, fun j H' W13 _ _ => ⟨_, _, rfl, rfl, _, _, rfl, rfl, _, rfl, W13.gh⟩⟩
      · exact iF (decide_eq_false (by rw [List.length_map]; omega)) (iF rfl ⟨nw, rfl, W5.gh⟩)
    · rintro σ H6 ⟨nw, rfl, sG⟩
      -- the worlds
      refine fun p hp => ?_
      have g7 : Same G3 (upd H6 p (.dK [])) := sG.trans (same_upd hp)
      refine ⟨_, rfl, nl, _, 0, .str z0, rfl, rfl, SqL.of (g7 _ _ hnl), at_ix (by decide) rfl, ?_⟩
      refine ⟨_, rfl, a0, _, rfl, .inl (SqL.of (g7 _ _ ha0)), fun c1 hc1 => ?_⟩
      have npc : p ≠ c1 := fun e => by rw [← e, upd_same] at hc1; cases hc1
      refine ⟨by rw [upd_ne npc, upd_same], [(.inr z0, .ref c1)], rfl, by show 1 ≤ 15; decide, ?_⟩
      have sp1 : Same H6 (upd (upd (upd H6 p (.dK [])) c1 (.lst (m0.map V.int))) p (.dK (mergeK [] [(.inr z0, .ref c1)]))) := same_mut ((same_upd hp).trans (same_upd hc1)) hp
      have hpd : upd (upd (upd H6 p (.dK [])) c1 (.lst (m0.map V.int))) p (.dK (mergeK [] [(.inr z0, .ref c1)])) p = some (.dK [(.inr z0, .ref c1)]) := upd_same
      have hpc : upd (upd (upd H6 p (.dK [])) c1 (.lst (m0.map V.int))) p (.dK (mergeK [] [(.inr z0, .ref c1)])) c1 = some (.lst (m0.map V.int)) := by rw [upd_ne (Ne.symm npc), upd_same]
      generalize upd (upd (upd H6 p (.dK [])) c1 (.lst (m0.map V.int))) p (.dK (mergeK [] [(.inr z0, .ref c1)])) = H8 at sp1 hpd hpc ⊢
      refine fun wa dwa hwa hdwa _ => ?_
      have sm8 := mk_same (C := T.c_World) (fs := []) hwa hdwa
      refine ⟨H8, wa, p, dwa, [(.inr z0, .ref c1)], [(z0, m0)], rfl, sm8, hwa, upd_same, sm8 _ _ hpd, (ents1 hpc).same sm8, w1good gz ndm (by omega), fun H9 wl s9 _ hwo => ⟨rfl, ?_⟩⟩
      have g9 := (sG.trans sp1).trans s9
      refine fun p2 hp2 => ?_
      have g10 : Same G3 (upd H9 p2 (.dK [])) := g9.trans (same_upd hp2)
      refine ⟨_, rfl, nl, _, 0, .str z0, rfl, rfl, SqL.of (g10 _ _ hnl), at_ix (by decide) rfl, ?_⟩
      refine ⟨_, rfl, a0, m0, rfl, SqL.of (g10 _ _ ha0), by omega, fun c2 H11 s11 hc2 => ?_⟩
      have hp11 := s11 _ _ (upd_same (H := H9) (a := p2) (o := .dK []))
      have npc2 : p2 ≠ c2 := fun e => by rw [← e, hp11] at hc2; cases hc2
      refine ⟨hp11, [(.inr z0, .ref c2)], rfl, by show 1 ≤ 15; decide, ?_⟩
      have sp2 : Same H9 (upd H11 p2 (.dK (mergeK [] [(.inr z0, .ref c2)]))) := same_mut ((same_upd hp2).trans s11) hp2
      have hpd2 : upd H11 p2 (.dK (mergeK [] [(.inr z0, .ref c2)])) p2 = some (.dK [(.inr z0, .ref c2)]) := upd_same
      have hpc2 : upd H11 p2 (.dK (mergeK [] [(.inr z0, .ref c2)])) c2 = some (.lst ((m0.map fun x => 0 - x).map V.int)) := by rw [upd_ne (Ne.symm npc2)]; exact hc2
      generalize upd H11 p2 (.dK (mergeK [] [(.inr z0, .ref c2)])) = H12 at sp2 hpd2 hpc2 ⊢
      refine fun wb dwb hwb hdwb _ => ?_
      have sm12 := mk_same (C := T.c_World) (fs := []) hwb hdwb
      have ndm2 : (m0.map fun x => 0 - x).Nodup := List.Pairwise.map _ (fun a b h z => h (by omega)) ndm
      refine ⟨H12, wb, p2, dwb, [(.inr z0, .ref c2)], [(z0, m0.map fun x => 0 - x)], rfl, sm12, hwb, upd_same, sm12 _ _ hpd2, (ents1 hpc2).same sm12, w1good gz ndm2 (by rw [List.length_map]; omega), fun H13 wl2 s13 _ hwo2 => ⟨rfl, ?_⟩⟩
      have s9_13 := sp2.trans s13
      have g13 := g9.trans s9_13
      have hwo' := hwo.same s9_13
      have wlen : (wRows [(z0, m0)]).length ≤ 1000 := by rw [wRows_len]; show m0.length + 0 ≤ 1000; omega
      have wlen2 : (wRows [(z0, m0.map fun x => 0 - x)]).length ≤ 1000 := by rw [wRows_len]; show (m0.map fun x => 0 - x).length + 0 ≤ 1000; rw [List.length_map]; omega
      have mm : ∀ y, y ∈ rowsOf (wRows [(z0, m0.map fun x => 0 - x)]) z0 ↔ ∃ x ∈ rowsOf (wRows [(z0, m0)]) z0, y = 0 - x := fun y => by
        rw [mem_world (nd1 _ _), getR1, List.mem_map]
        constructor
        · rintro ⟨x, h1, h2⟩
          exact ⟨x, by rw [mem_world (nd1 _ _), getR1]; exact h1, h2.symm⟩
        · rintro ⟨x, h1, h2⟩
          rw [mem_world (nd1 _ _), getR1] at h1
          exact ⟨x, h1, h2.symm⟩
      have srt := world_sorted [(z0, m0)] z0
      have srt2 := world_sorted [(z0, m0.map fun x => 0 - x)] z0
      clear hwo hpd hpc hpd2 hpc2 hp11 hc2
      -- the four pairs of ways
      refine ⟨sz (by show 2 ≤ 100000; decide), fun t1 h1 => ⟨sz (by show 2 ≤ 100000; decide), fun t2 h2 => ⟨sz (by show 2 ≤ 100000; decide), fun t3 h3 => ⟨sz (by show 2 ≤ 100000; decide), fun t4 h4 => ⟨sz (by show 4 ≤ 100000; decide), fun L hL => ?_⟩⟩⟩⟩⟩
      have sL : Same (upd (upd (upd (upd H13 t1 (.tup [.str "at", .str "since"])) t2 (.tup [.str "since", .str "at"])) t3 (.tup [.str "before", .str "after"])) t4 (.tup [.str "after", .str "before"])) _ := same_upd (o := .lst [.ref t1, .ref t2, .ref t3, .ref t4]) hL
      have e4 := sL _ _ upd_same
      have e3 := sL _ _ (same_upd (o := .tup [.str "after", .str "before"]) h4 _ _ upd_same)
      have e2 := sL _ _ (same_upd (o := .tup [.str "after", .str "before"]) h4 _ _ (same_upd (o := .tup [.str "before", .str "after"]) h3 _ _ upd_same))
      have e1 := sL _ _ (same_upd (o := .tup [.str "after", .str "before"]) h4 _ _ (same_upd (o := .tup [.str "before", .str "after"]) h3 _ _ (same_upd (o := .tup [.str "since", .str "at"]) h2 _ _ upd_same)))
      have s14 : Same H13 _ := ((((same_upd h1).trans (same_upd h2)).trans (same_upd h3)).trans (same_upd h4)).trans sL
      have hL14 := upd_same (H := upd (upd (upd (upd H13 t1 (.tup [.str "at", .str "since"])) t2 (.tup [.str "since", .str "at"])) t3 (.tup [.str "before", .str "after"])) t4 (.tup [.str "after", .str "before"])) (a := L) (o := .lst [.ref t1, .ref t2, .ref t3, .ref t4])
      generalize upd (upd (upd (upd (upd H13 t1 (.tup [.str "at", .str "since"])) t2 (.tup [.str "since", .str "at"])) t3 (.tup [.str "before", .str "after"])) t4 (.tup [.str "after", .str "before"])) L (.lst [.ref t1, .ref t2, .ref t3, .ref t4]) = H14 at e1 e2 e3 e4 s14 hL14 ⊢
      clear sL
      have prs : ∀ x ∈ ([.ref t1, .ref t2, .ref t3, .ref t4] : List V), ∃ t w1 w2, x = .ref t ∧ H14 t = some (.tup [.str w1, .str w2]) ∧ Mir w1 w2 := fun x hx => by
        simp only [List.mem_cons, List.not_mem_nil, or_false] at hx
        rcases hx with rfl | rfl | rfl | rfl
        · exact ⟨t1, _, _, rfl, e1, .a⟩
        · exact ⟨t2, _, _, rfl, e2, .b⟩
        · exact ⟨t3, _, _, rfl, e3, .c⟩
        · exact ⟨t4, _, _, rfl, e4, .d⟩
      refine ⟨L, rfl, ⟨_, SqL.of hL14⟩, ?_⟩
      refine for_list (K := K) (a := L) (xs := [.ref t1, .ref t2, .ref t3, .ref t4]) (fun i σ H' => Same H14 H' ∧ ∃ y8 y10 y11, σ = [some (.ref sa), some (.ref b), some (.ref nl), some (.ref a0), some (oV lim), some (.int nw), some (.ref wa), some (.ref wb), y8, none, y10, y11]) ⟨Same.refl _, none, none, none, rfl⟩ (fun i σ H' _ pp => SqL.of (pp.1 _ _ hL14)) (fun i x σ H' hx pp => ?_) (fun σ H' pp => ?_)
      · obtain ⟨s15, y8, y10, y11, rfl⟩ := pp
        obtain ⟨t, w1, w2, rfl, ht, hmir⟩ := prs x (List.mem_of_getElem? hx)
        have g15 := (g13.trans s14).trans s15
        obtain ⟨k1, k2, k3⟩ := now_look gz hmir.w1 hlim
        obtain ⟨k4, k5, k6⟩ := now_look gz hmir.w2 hlim
        refine ⟨_, rfl, nl, _, 0, .str z0, rfl, rfl, SqL.of (g15 _ _ hnl), at_ix (by decide) rfl, fun nx ndx hnx hndx _ => ?_⟩
        refine ⟨H', nx, ndx, rfl, mk_same hnx hndx, hnx, upd_same, fun H16 s16 h16 => ⟨rfl, ?_⟩⟩
        refine ⟨_, rfl, t, _, 0, .str w1, rfl, rfl, SqT.of ((s15.trans s16) _ _ ht), at_ix (by decide) rfl, _, rfl, rfl, rfl, fun x dx hx hdx _ => ?_⟩
        refine ⟨H16, .now, z0, w1, lim, x, nx, dx, rfl, mk_same hx hdx, hx, h16, gz, hmir.w1, hlim, k1, upd_same, fun H17 s17 h17 => ⟨rfl, ?_⟩⟩
        have s15_17 := (s15.trans s16).trans s17
        refine ⟨_, rfl, _, rfl, _, x, wa, wl, _, nw, rfl, k2, k3, h17, hwo'.same (s14.trans s15_17), wlen, fun H18 s18 => ?_⟩
        have s15_18 := s15_17.trans s18
        have g18 := (g13.trans s14).trans s15_18
        refine ⟨_, rfl, nl, _, 0, .str z0, rfl, rfl, SqL.of (g18 _ _ hnl), at_ix (by decide) rfl, fun nx ndx hnx hndx _ => ?_⟩
        refine ⟨H18, nx, ndx, rfl, mk_same hnx hndx, hnx, upd_same, fun H19 s19 h19 => ⟨rfl, ?_⟩⟩
        refine ⟨_, rfl, t, _, 1, .str w2, rfl, rfl, SqT.of ((s15_18.trans s19) _ _ ht), at_ix (by decide) rfl, _, rfl, rfl, rfl, fun x dx hx hdx _ => ?_⟩
        refine ⟨H19, .now, z0, w2, lim, x, nx, dx, rfl, mk_same hx hdx, hx, h19, gz, hmir.w2, hlim, k4, upd_same, fun H20 s20 h20 => ⟨rfl, ?_⟩⟩
        have s15_20 := (s15_18.trans s19).trans s20
        refine ⟨_, rfl, _, rfl, 0, nw, rfl, rfl, _, x, wb, wl2, _, 0 - nw, rfl, k5, k6, h20, hwo2.same (s14.trans s15_20), wlen2, fun H21 s21 => ?_⟩
        have s15_21 := s15_20.trans s21
        have lm := look_mirror srt srt2 mm hmir nw lim
        refine ⟨fun σ H' => H' = H21 ∧ σ = [some (.ref sa), some (.ref b), some (.ref nl), some (.ref a0), some (oV lim), some (.int nw), some (.ref wa), some (.ref wb), some (.ref t), none, some (oV (lookedUp (rowsOf (wRows [(z0, m0)]) z0) nw w1 lim)), some (oV (lookedUp (rowsOf (wRows [(z0, m0)]) z0) nw w1 lim))], ?_, ?_⟩
        · have lm' : (Tm.look z0 .now w2 lim).ans (rowsOf (wRows [(z0, m0.map fun x => 0 - x)])) (0 - nw) = (lookedUp (rowsOf (wRows [(z0, m0)]) z0) nw w1 lim).map (fun x => 0 - x) := lm
          have lm2 : (Tm.look z0 .now w1 lim).ans (rowsOf (wRows [(z0, m0)])) nw = lookedUp (rowsOf (wRows [(z0, m0)]) z0) nw w1 lim := rfl
          rw [lm', lm2]
          generalize lookedUp (rowsOf (wRows [(z0, m0)]) z0) nw w1 lim = r
          cases r with
          | none => exact ⟨_, rfl, rfl, _, rfl, iF rfl ⟨rfl, rfl⟩⟩
          | some y =>
            refine ⟨_, rfl, rfl, _, rfl, iT rfl ⟨_, rfl, 0, 0 - y, rfl, rfl, rfl, ?_⟩⟩
            have e : (0 : Int) - (0 - y) = y := by omega
            have e' : (fun i j => V.int (i - j)) 0 (0 - y) = V.int y := congrArg V.int e
            rw [e']
            rfl
        · rintro σ H22 ⟨rfl, rfl⟩
          exact ⟨_, rfl, _, rfl, _, rfl, _, rfl, iF rfl ⟨s15_21, _, _, _, rfl⟩⟩
      · obtain ⟨s15, y8, y10, y11, rfl⟩ := pp
        have g15 := (g13.trans s14).trans s15
        refine ⟨fun σ H2 => H2 = H' ∧ σ = [some (.ref sa), some (.ref b), some (.ref nl), some (.ref a0), some (oV lim), some (.int nw), some (.ref wa), some (.ref wb), y8, some (oV (wide lim)), y10, y11], ?_, ?_⟩
        · cases lim with
          | none => exact ⟨_, rfl, rfl, _, rfl, iF rfl ⟨rfl, rfl⟩⟩
          | some l => exact ⟨_, rfl, rfl, _, rfl, iT rfl ⟨_, rfl, l, 1, rfl, rfl, rfl, rfl⟩⟩
        · rintro σ H2 ⟨rfl, rfl⟩
          have hwide : limOk (wide lim) := by
            cases lim with
            | none => trivial
            | some l => show (0 : Int) ≤ l + 1; have : (0 : Int) ≤ l := hlim; omega
          refine ⟨1, rfl, sz (by show 3 ≤ 100000; decide), fun t1 h1 => ⟨sz (by show 3 ≤ 100000; decide), fun t2 h2 => ⟨sz (by show 2 ≤ 100000; decide), fun L hL => ?_⟩⟩⟩
          have sL : Same (upd (upd H2 t1 (.tup [.str "before", .str "at", .int (-1)])) t2 (.tup [.str "after", .str "since", .int 1])) _ := same_upd (o := .lst [.ref t1, .ref t2]) hL
          have e2 := sL _ _ upd_same
          have e1 := sL _ _ (same_upd (o := .tup [.str "after", .str "since", .int 1]) h2 _ _ upd_same)
          have s16 : Same H2 _ := ((same_upd h1).trans (same_upd h2)).trans sL
          have hL16 := upd_same (H := upd (upd H2 t1 (.tup [.str "before", .str "at", .int (-1)])) t2 (.tup [.str "after", .str "since", .int 1])) (a := L) (o := .lst [.ref t1, .ref t2])
          generalize upd (upd (upd H2 t1 (.tup [.str "before", .str "at", .int (-1)])) t2 (.tup [.str "after", .str "since", .int 1])) L (.lst [.ref t1, .ref t2]) = H16 at e1 e2 s16 hL16 ⊢
          clear sL
          have prs : ∀ x ∈ ([.ref t1, .ref t2] : List V), ∃ t w1 w2 k, x = .ref t ∧ H16 t = some (.tup [.str w1, .str w2, .int k]) ∧ Nxt w1 w2 k := fun x hx => by
            simp only [List.mem_cons, List.not_mem_nil, or_false] at hx
            rcases hx with rfl | rfl
            · exact ⟨t1, _, _, _, rfl, e1, .a⟩
            · exact ⟨t2, _, _, _, rfl, e2, .b⟩
          refine ⟨L, rfl, ⟨_, SqL.of hL16⟩, ?_⟩
          refine for_list (K := K) (a := L) (xs := [.ref t1, .ref t2]) (fun i σ H' => Same H16 H' ∧ ∃ y8 y10 y11, σ = [some (.ref sa), some (.ref b), some (.ref nl), some (.ref a0), some (oV lim), some (.int nw), some (.ref wa), some (.ref wb), y8, some (oV (wide lim)), y10, y11]) ⟨Same.refl _, _, _, _, rfl⟩ (fun i σ H' _ pp => SqL.of (pp.1 _ _ hL16)) (fun i x σ H' hx pp => ?_) (fun σ H' pp => q H')
          obtain ⟨s17, y8, y10, y11, rfl⟩ := pp
          obtain ⟨t, w1, w2, k, rfl, ht, hnx⟩ := prs x (List.mem_of_getElem? hx)
          have a17 := (s14.trans s15).trans (s16.trans s17)
          have g17 := g13.trans a17
          obtain ⟨k1, k2, k3⟩ := now_look gz hnx.w1 hwide
          obtain ⟨k0, k4, k5, k6⟩ := plus_look (k := k) gz hnx.w2 hlim
          refine ⟨_, rfl, nl, _, 0, .str z0, rfl, rfl, SqL.of (g17 _ _ hnl), at_ix (by decide) rfl, fun nx ndx hnx' hndx _ => ?_⟩
          refine ⟨H', nx, ndx, rfl, mk_same hnx' hndx, hnx', upd_same, fun H18 s18 h18 => ⟨rfl, ?_⟩⟩
          refine ⟨_, rfl, t, _, 0, .str w1, rfl, rfl, SqT.of ((s17.trans s18) _ _ ht), at_ix (by decide) rfl, _, rfl, rfl, rfl, fun x dx hx hdx _ => ?_⟩
          refine ⟨H18, .now, z0, w1, wide lim, x, nx, dx, rfl, mk_same hx hdx, hx, h18, gz, hnx.w1, hwide, k1, upd_same, fun H19 s19 h19 => ⟨rfl, ?_⟩⟩
          have a19 := (a17.trans s18).trans s19
          refine ⟨_, rfl, _, rfl, _, x, wa, wl, _, nw, rfl, k2, k3, h19, hwo'.same a19, wlen, fun H20 s20 => ?_⟩
          have a20 := a19.trans s20
          have b20 := ((s17.trans s18).trans s19).trans s20
          refine ⟨_, rfl, nl, _, 0, .str z0, rfl, rfl, SqL.of ((g13.trans a20) _ _ hnl), at_ix (by decide) rfl, fun nx ndx hnx' hndx _ => ?_⟩
          refine ⟨H20, nx, ndx, rfl, mk_same hnx' hndx, hnx', upd_same, fun H21 s21 h21 => ⟨rfl, ?_⟩⟩
          obtain ⟨dn, hn⟩ := id h21
          refine ⟨_, rfl, t, _, 2, .int k, rfl, rfl, SqT.of ((b20.trans s21) _ _ ht), at_ix (by decide) rfl, ?_⟩
          refine ⟨nx, _, dn, _, k, rfl, rfl, hn, T.b_Now_Add, .now, nx, k, rfl, h21, by rw [Int.one_mul]; exact k0, fun r1 H22 s22 h22 => ?_⟩
          rw [Int.one_mul] at h22
          have b22 := (b20.trans s21).trans s22
          refine ⟨_, rfl, t, _, 1, .str w2, rfl, rfl, SqT.of (b22 _ _ ht), at_ix (by decide) rfl, _, rfl, rfl, rfl, fun x dx hx hdx _ => ?_⟩
          refine ⟨H22, Tm.now.plus k, z0, w2, lim, x, r1, dx, rfl, mk_same hx hdx, hx, h22, gz, hnx.w2, hlim, k4, upd_same, fun H23 s23 h23 => ⟨rfl, ?_⟩⟩
          have a23 := ((a20.trans s21).trans s22).trans s23
          refine ⟨_, rfl, _, rfl, _, x, wa, wl, _, nw, rfl, k5, k6, h23, hwo'.same a23, wlen, fun H24 s24 => ?_⟩
          refine ⟨_, rfl, _, rfl, lookedUp (rowsOf (wRows [(z0, m0)]) z0) nw w1 (wide lim), ?_, _, rfl, iF rfl ⟨(b22.trans s23).trans s24, _, _, _, rfl⟩⟩
          rw [plus_look_ans, look_next srt hnx]
          rfl
end
end Pl
namespace Pl
open PySem L2
theorem fin_mk {l : PySem.W.OpenLaw} {w : World} {K : PySem.W.Frag} {mg : Str → Option Value} {fa : Addr} (x : ∃ T : Txt l.prog K mg, T.law.f = fa ∧ ∀ (s : Shared) (v : Value), BindsTo s T.law.fd ⟨[v], []⟩ [("_law_script", v)]) :
    ∃ fd : FuncData, (∀ (s : Shared) (v : Value), BindsTo s fd ⟨[v], []⟩ [("_law_script", v)]) ∧ ∀ base : Heap, K.In base → base.Ns mainGlobals mg → FnOk l.prog w K mg base CX0 19 fa fd ["_law_script"] (spLaw K) := by
  obtain ⟨T, rfl, h⟩ := x
  exact ⟨T.law.fd, h, fun base _ _ => ok_law T⟩
end Pl
open PySem PySem.W PyProof.Rows in
set_option maxRecDepth 100000 in
set_option maxHeartbeats 0 in
theorem PySem.Challenge.cw_pastlooks_k03_looks_mirrored_holds : PySem.Challenge.rw_pastlooks_k03_looks_mirrored.Holds := by
  w_on; o_law; k_headL; (case hw => w_witness2)
  k_fill
  refine L2.walk_of (l := PySem.Challenge.rw_pastlooks_k03_looks_mirrored) (n := 63) (k := 19) (x := "_law_script") (CX := fun _ => L2.CX0) (sp := fun w => Pl.spLaw _) rfl (by decide) rfl ⟨rfl, by decide, by decide⟩ (fun w h Y => PySem.W.kIn_of Y) ?F (fun _ _ a ns hl _ hS => ⟨a, ns, rfl, hS, hl, fun _ => rfl⟩) (fun _ _ _ _ _ h => h)
  case F => as_aux_lemma =>
    intro w mg fa h KX G hmg
    refine' Pl.fin_mk (Pl.all_mk (l := PySem.Challenge.rw_pastlooks_k03_looks_mirrored) (w := w) KX G hmg ?hfile ?htop ?h0 ?h1 ?h2 ?h3 ?h4 ?h5 ?h6 ?h7 ?h8 ?h9 ?h10 ?h11 ?h12 ?h13 ?h14 ?h15 ?h16 ?h17 ?h18 ?h19 ?h20 ?h21 ?h22 ?h23 ?h24 ?h25 ?h26 ?h27 ?h28 ?h29 ?h30 ?h31 ?h32 ?h33 ?h34 ?h35 ?h36 ?h37 ?h38 ?h39 ?h40 ?h41 ?h42 ?h43 ?h44 ?h45 ?h46 ?h47 ?h48 ?h49 ?h50 ?h51 ?h52 ?h53 ?h54 ?h55 ?h56 ?h57 ?h58 ?h59 ?h60 ?h61 ?h62 ?h63 ?h64 ?h65 ?h66 ?h67 ?h68 ?h69 ?h70 ?h71 ?h72 ?h73 ?h74 ?h75 ?h76 ?h77 ?h78 ?h79 ?h80 ?h81 ?h82 ?h83 ?h84 ?h85 ?h86 ?h87 ?h88 ?h89 ?h90 ?h91 ?h92 ?h93 ?h94 ?h95 ?h96 ?h97 ?h98 ?h99 ?h100 ?h101 ?h102 ?h103 ?h104 ?h105 ?h106 ?h107 ?h108 ?h109 ?h110 ?h111 ?h112 ?h113 ?h114 ?h115 ?h116 ?h117 ?h118 ?h119 ?h120 ?h121 ?h122 ?h123 ?h124 ?h125 ?h126 ?h127 ?h128 ?h129 ?h130 ?h131 ?h132 ?h133 ?h134 ?h135 ?h136 ?h137 ?h138 ?h139 ?h140 ?h141 ?h142 ?h143 ?h144 ?h145 ?h146 ?h147 ?h148 ?h149 ?h150 ?h151 ?h152 ?h153 ?h154 ?h155 ?h156 ?h157 ?h158 ?h159 ?h160 ?h161 ?h162 ?h163 ?h164 ?h165 ?h166 ?h167 ?h168 ?h169 ?h170 ?h171 ?h172 ?h173 ?h174 ?h175 ?h176 ?h177 ?h178 ?h179 ?h180 ?h181 ?h182 ?h183 ?h184 ?h185 ?h186 ?h187 ?h188 ?h189 ?h190 ?h191 ?h192 ?h193 ?h194 ?h195 ?h196 ?h197 ?h198 ?h199 ?h200 ?h201 ?h202 ?h203 ?h204 ?h205 ?h206 ?h207 ?h208 ?h209 ?h210 ?h211 ?h212 ?h213 ?h214 ?h215 ?h216 ?h217 ?h218 ?h219 ?h220 ?h221 ?h222 ?h223 ?h224 ?h225 ?h226 ?h227 ?h228 ?h229 ?h230 ?h231 ?h232 ?h233 ?h234 ?h235 ?h236 ?h237 ?h238 ?h239 ?h240 ?h241 ?h242 ?h243 ?h244 ?h245 ?h246 ?h247 ?h248 ?h249 ?h250 ?h251 ?h252 ?h253 ?h254 ?h255 ?h256 ?h257 ?h258 ?h259 ?h260 ?h261 ?h262 ?h263 ?h264 ?h265 ?h266 ?h267 ?h268 ?h269 ?h270 ?h271 ?h272 ?h273 ?h274 ?h275 ?h276 ?h277 ?h278 ?h279 ?h280 ?h281 ?h282 ?h283 ?h284 ?h285 ?h286 ?h287 ?h288 ?h289 ?h290 ?h291 ?h292 ?h293 ?h294 ?h295 ?h296 ?h297 ?h298 ?h299 ?h300 ?h301 ?h302 ?h303 ?h304 ?h305 ?h306 ?h307 ?h308 ?h309 ?h310 ?h311 ?h312 ?h313 ?h314 ?h315 ?h316 ?h317 ?h318 ?h319 ?h320 ?h321 ?h322 ?h323 ?h324 ?h325 ?h326 ?h327 ?h328 ?h329 ?h330 ?h331 ?h332 ?h333 ?h334 ?h335 ?h336 ?h337 ?h338 ?h339 ?h340 ?h341 ?h342 ?h343 ?h344 ?h345 ?h346 ?h347 ?h348 ?h349 ?h350 ?h351 ?h352 ?h353 ?h354 ?h355 ?h356 ?h357 ?h358 ?h359 ?h360 ?h361 ?h362 ?h363 ?h364 ?h365 ?h366 ?h367 ?h368 ?h369 ?h370 ?h371 ?h372 ?h373 ?h374 ?h375 ?h376 ?h377 ?h378 ?h379 ?h380 ?h381 ?h382 ?h383 ?h384 ?h385 ?h386 ?h387 ?h388 ?h389 ?h390 ?h391 ?h392 ?h393 ?h394 ?h395 ?h396 ?h397 ?h398 ?h399 ?h400 ?h401 ?h402 ?h403 ?h404 ?h405 ?h406 ?h407 ?h408 ?h409 ?h410 ?h411 ?h412 ?h413 ?h414 ?h415 ?h416 ?h417 ?h418 ?h419 ?h420 ?h421 ?h422)
    (case hfile => first | rfl | decide +kernel); (case htop => first | rfl | decide +kernel); (case h0 => as_aux_lemma => k_is); (case h1 => as_aux_lemma => k_is); (case h2 => as_aux_lemma => k_is); (case h3 => as_aux_lemma => k_is); (case h4 => as_aux_lemma => k_is); (case h5 => as_aux_lemma => k_is); (case h6 => as_aux_lemma => k_is); (case h7 => as_aux_lemma => k_is); (case h8 => as_aux_lemma => k_is); (case h9 => as_aux_lemma => k_is); (case h10 => as_aux_lemma => k_is); (case h11 => as_aux_lemma => k_is); (case h12 => as_aux_lemma => k_is); (case h13 => as_aux_lemma => k_is); (case h14 => as_aux_lemma => k_is); (case h15 => as_aux_lemma => k_is); (case h16 => as_aux_lemma => k_is); (case h17 => as_aux_lemma => k_is); (case h18 => as_aux_lemma => k_is); (case h19 => as_aux_lemma => k_is); (case h20 => as_aux_lemma => k_is); (case h21 => as_aux_lemma => k_is); (case h22 => as_aux_lemma => k_is); (case h23 => as_aux_lemma => k_is); (case h24 => as_aux_lemma => k_is); (case h25 => as_aux_lemma => k_is); (case h26 => as_aux_lemma => k_is); (case h27 => as_aux_lemma => k_is); (case h28 => as_aux_lemma => k_is); (case h29 => as_aux_lemma => k_is); (case h30 => as_aux_lemma => k_is); (case h31 => as_aux_lemma => k_is); (case h32 => as_aux_lemma => k_is); (case h33 => as_aux_lemma => k_is); (case h34 => as_aux_lemma => k_is); (case h35 => as_aux_lemma => k_is); (case h36 => as_aux_lemma => k_is); (case h37 => as_aux_lemma => k_is); (case h38 => as_aux_lemma => k_is); (case h39 => as_aux_lemma => k_is); (case h40 => as_aux_lemma => k_is); (case h41 => as_aux_lemma => k_is); (case h42 => as_aux_lemma => k_is); (case h43 => as_aux_lemma => k_is); (case h44 => as_aux_lemma => k_is); (case h45 => as_aux_lemma => k_is); (case h46 => as_aux_lemma => k_is); (case h47 => as_aux_lemma => k_is); (case h48 => as_aux_lemma => k_is); (case h49 => as_aux_lemma => k_is); (case h50 => as_aux_lemma => k_is); (case h51 => as_aux_lemma => k_is); (case h52 => as_aux_lemma => k_is); (case h53 => as_aux_lemma => k_is); (case h54 => as_aux_lemma => k_is); (case h55 => as_aux_lemma => k_is); (case h56 => as_aux_lemma => k_is); (case h57 => as_aux_lemma => k_is); (case h58 => as_aux_lemma => k_is); (case h59 => as_aux_lemma => k_is); (case h60 => as_aux_lemma => k_is); (case h61 => as_aux_lemma => k_is); (case h62 => as_aux_lemma => k_is); (case h63 => as_aux_lemma => k_is); (case h64 => as_aux_lemma => k_is); (case h65 => as_aux_lemma => k_is); (case h66 => as_aux_lemma => k_is); (case h67 => as_aux_lemma => k_is); (case h68 => as_aux_lemma => k_is); (case h69 => as_aux_lemma => k_is); (case h70 => as_aux_lemma => k_is); (case h71 => as_aux_lemma => k_is); (case h72 => as_aux_lemma => k_is); (case h73 => as_aux_lemma => k_is); (case h74 => as_aux_lemma => k_is); (case h75 => as_aux_lemma => k_is); (case h76 => as_aux_lemma => k_is); (case h77 => as_aux_lemma => k_is); (case h78 => as_aux_lemma => k_is); (case h79 => as_aux_lemma => k_is); (case h80 => as_aux_lemma => k_is); (case h81 => as_aux_lemma => k_is); (case h82 => as_aux_lemma => k_is); (case h83 => as_aux_lemma => k_is); (case h84 => as_aux_lemma => k_is); (case h85 => as_aux_lemma => k_is); (case h86 => as_aux_lemma => k_is); (case h87 => as_aux_lemma => k_is); (case h88 => as_aux_lemma => k_is); (case h89 => as_aux_lemma => k_is); (case h90 => as_aux_lemma => k_is); (case h91 => as_aux_lemma => k_is); (case h92 => as_aux_lemma => k_is); (case h93 => as_aux_lemma => k_is); (case h94 => as_aux_lemma => k_is); (case h95 => as_aux_lemma => k_is); (case h96 => as_aux_lemma => k_is); (case h97 => as_aux_lemma => k_is); (case h98 => as_aux_lemma => k_is); (case h99 => as_aux_lemma => k_is); (case h100 => as_aux_lemma => k_is); (case h101 => as_aux_lemma => k_is); (case h102 => as_aux_lemma => k_is); (case h103 => as_aux_lemma => k_is); (case h104 => as_aux_lemma => k_is); (case h105 => as_aux_lemma => k_is); (case h106 => as_aux_lemma => k_is); (case h107 => as_aux_lemma => k_is); (case h108 => as_aux_lemma => k_is); (case h109 => as_aux_lemma => k_is); (case h110 => as_aux_lemma => k_is); (case h111 => as_aux_lemma => k_is); (case h112 => as_aux_lemma => k_is); (case h113 => as_aux_lemma => k_is); (case h114 => as_aux_lemma => k_is); (case h115 => as_aux_lemma => k_is); (case h116 => as_aux_lemma => k_is); (case h117 => as_aux_lemma => k_is); (case h118 => as_aux_lemma => k_is); (case h119 => as_aux_lemma => k_is); (case h120 => as_aux_lemma => k_is); (case h121 => as_aux_lemma => k_is); (case h122 => as_aux_lemma => k_is); (case h123 => as_aux_lemma => k_is); (case h124 => as_aux_lemma => k_is); (case h125 => as_aux_lemma => k_is); (case h126 => as_aux_lemma => k_is); (case h127 => as_aux_lemma => k_is); (case h128 => as_aux_lemma => k_is); (case h129 => as_aux_lemma => k_is); (case h130 => as_aux_lemma => k_is); (case h131 => as_aux_lemma => k_is); (case h132 => as_aux_lemma => k_is); (case h133 => as_aux_lemma => k_is); (case h134 => as_aux_lemma => k_is); (case h135 => as_aux_lemma => k_is); (case h136 => as_aux_lemma => k_is); (case h137 => as_aux_lemma => k_is); (case h138 => as_aux_lemma => k_is); (case h139 => as_aux_lemma => k_is); (case h140 => as_aux_lemma => k_is); (case h141 => as_aux_lemma => k_is); (case h142 => as_aux_lemma => k_is); (case h143 => as_aux_lemma => k_is); (case h144 => as_aux_lemma => k_is); (case h145 => as_aux_lemma => k_is); (case h146 => as_aux_lemma => k_is); (case h147 => as_aux_lemma => k_is); (case h148 => as_aux_lemma => k_is); (case h149 => as_aux_lemma => k_is); (case h150 => as_aux_lemma => k_is); (case h151 => as_aux_lemma => k_is); (case h152 => as_aux_lemma => k_is); (case h153 => as_aux_lemma => k_is); (case h154 => as_aux_lemma => k_is); (case h155 => as_aux_lemma => k_is); (case h156 => as_aux_lemma => k_is); (case h157 => as_aux_lemma => k_is); (case h158 => as_aux_lemma => k_is); (case h159 => as_aux_lemma => k_is); (case h160 => as_aux_lemma => k_is); (case h161 => as_aux_lemma => k_is); (case h162 => as_aux_lemma => k_is); (case h163 => rfl); (case h164 => as_aux_lemma => k_is); (case h165 => as_aux_lemma => k_is); (case h166 => as_aux_lemma => k_is); (case h167 => as_aux_lemma => k_is); (case h168 => as_aux_lemma => k_is); (case h169 => as_aux_lemma => k_is); (case h170 => as_aux_lemma => k_is); (case h171 => as_aux_lemma => k_is); (case h172 => as_aux_lemma => k_is); (case h173 => as_aux_lemma => k_is); (case h174 => as_aux_lemma => k_is); (case h175 => rfl); (case h176 => as_aux_lemma => k_is); (case h177 => as_aux_lemma => k_is); (case h178 => as_aux_lemma => k_is); (case h179 => as_aux_lemma => k_is); (case h180 => as_aux_lemma => k_is); (case h181 => as_aux_lemma => k_is); (case h182 => as_aux_lemma => k_is); (case h183 => as_aux_lemma => k_is); (case h184 => as_aux_lemma => k_is); (case h185 => as_aux_lemma => k_is); (case h186 => as_aux_lemma => k_is); (case h187 => as_aux_lemma => k_is); (case h188 => as_aux_lemma => k_is); (case h189 => as_aux_lemma => k_is); (case h190 => as_aux_lemma => k_is); (case h191 => as_aux_lemma => k_is); (case h192 => as_aux_lemma => k_is); (case h193 => as_aux_lemma => k_is); (case h194 => as_aux_lemma => k_is); (case h195 => rfl); (case h196 => as_aux_lemma => k_is); (case h197 => as_aux_lemma => k_is); (case h198 => as_aux_lemma => k_is); (case h199 => as_aux_lemma => k_is); (case h200 => as_aux_lemma => k_is); (case h201 => as_aux_lemma => k_is); (case h202 => as_aux_lemma => k_is); (case h203 => as_aux_lemma => k_is); (case h204 => as_aux_lemma => k_is); (case h205 => as_aux_lemma => k_is); (case h206 => as_aux_lemma => k_is); (case h207 => as_aux_lemma => k_is); (case h208 => as_aux_lemma => k_is); (case h209 => as_aux_lemma => k_is); (case h210 => as_aux_lemma => k_is); (case h211 => as_aux_lemma => k_is); (case h212 => as_aux_lemma => k_is); (case h213 => as_aux_lemma => k_is); (case h214 => as_aux_lemma => k_is); (case h215 => as_aux_lemma => k_is); (case h216 => as_aux_lemma => k_is); (case h217 => as_aux_lemma => k_is); (case h218 => as_aux_lemma => k_is); (case h219 => as_aux_lemma => k_is); (case h220 => as_aux_lemma => k_is); (case h221 => as_aux_lemma => k_is); (case h222 => as_aux_lemma => k_is); (case h223 => as_aux_lemma => k_is); (case h224 => as_aux_lemma => k_is); (case h225 => as_aux_lemma => k_is); (case h226 => as_aux_lemma => k_is); (case h227 => as_aux_lemma => k_is); (case h228 => as_aux_lemma => k_is); (case h229 => as_aux_lemma => k_is); (case h230 => as_aux_lemma => k_is); (case h231 => as_aux_lemma => k_is); (case h232 => as_aux_lemma => k_is); (case h233 => as_aux_lemma => k_is); (case h234 => as_aux_lemma => k_is); (case h235 => as_aux_lemma => k_is); (case h236 => as_aux_lemma => k_is); (case h237 => as_aux_lemma => k_is); (case h238 => as_aux_lemma => k_is); (case h239 => as_aux_lemma => k_is); (case h240 => as_aux_lemma => k_is); (case h241 => as_aux_lemma => k_is); (case h242 => as_aux_lemma => k_is); (case h243 => as_aux_lemma => k_is); (case h244 => as_aux_lemma => k_is); (case h245 => as_aux_lemma => k_is); (case h246 => as_aux_lemma => k_is); (case h247 => as_aux_lemma => k_is); (case h248 => as_aux_lemma => k_is); (case h249 => as_aux_lemma => k_is); (case h250 => as_aux_lemma => k_is); (case h251 => as_aux_lemma => k_is); (case h252 => as_aux_lemma => k_is); (case h253 => as_aux_lemma => k_is); (case h254 => as_aux_lemma => k_is); (case h255 => as_aux_lemma => k_is); (case h256 => as_aux_lemma => k_is); (case h257 => as_aux_lemma => k_is); (case h258 => as_aux_lemma => k_is); (case h259 => as_aux_lemma => k_is); (case h260 => as_aux_lemma => k_is); (case h261 => as_aux_lemma => k_is); (case h262 => as_aux_lemma => k_is); (case h263 => as_aux_lemma => k_is); (case h264 => as_aux_lemma => k_is); (case h265 => as_aux_lemma => k_is); (case h266 => as_aux_lemma => k_is); (case h267 => as_aux_lemma => k_is); (case h268 => as_aux_lemma => k_is); (case h269 => as_aux_lemma => k_is); (case h270 => as_aux_lemma => k_is); (case h271 => as_aux_lemma => k_is); (case h272 => as_aux_lemma => k_is); (case h273 => as_aux_lemma => k_is); (case h274 => as_aux_lemma => k_is); (case h275 => as_aux_lemma => k_is); (case h276 => as_aux_lemma => k_is); (case h277 => as_aux_lemma => k_is); (case h278 => as_aux_lemma => k_is); (case h279 => as_aux_lemma => k_is); (case h280 => as_aux_lemma => k_is); (case h281 => as_aux_lemma => k_is); (case h282 => as_aux_lemma => k_is); (case h283 => as_aux_lemma => k_is); (case h284 => as_aux_lemma => k_is); (case h285 => as_aux_lemma => k_is); (case h286 => as_aux_lemma => k_is); (case h287 => as_aux_lemma => k_is); (case h288 => as_aux_lemma => k_is); (case h289 => as_aux_lemma => k_is); (case h290 => as_aux_lemma => k_is); (case h291 => as_aux_lemma => k_is); (case h292 => as_aux_lemma => k_is); (case h293 => as_aux_lemma => k_is); (case h294 => as_aux_lemma => k_is); (case h295 => as_aux_lemma => k_is); (case h296 => as_aux_lemma => k_is); (case h297 => as_aux_lemma => k_is); (case h298 => as_aux_lemma => k_is); (case h299 => as_aux_lemma => k_is); (case h300 => as_aux_lemma => k_is); (case h301 => as_aux_lemma => k_is); (case h302 => as_aux_lemma => k_is); (case h303 => as_aux_lemma => k_is); (case h304 => as_aux_lemma => k_is); (case h305 => as_aux_lemma => k_is); (case h306 => as_aux_lemma => k_is); (case h307 => as_aux_lemma => k_is); (case h308 => as_aux_lemma => k_is); (case h309 => as_aux_lemma => k_is); (case h310 => as_aux_lemma => k_is); (case h311 => as_aux_lemma => k_is); (case h312 => as_aux_lemma => k_is); (case h313 => as_aux_lemma => k_is); (case h314 => as_aux_lemma => k_is); (case h315 => as_aux_lemma => k_is); (case h316 => as_aux_lemma => k_is); (case h317 => as_aux_lemma => k_is); (case h318 => as_aux_lemma => k_is); (case h319 => as_aux_lemma => k_is); (case h320 => as_aux_lemma => k_is); (case h321 => as_aux_lemma => k_is); (case h322 => as_aux_lemma => k_is); (case h323 => as_aux_lemma => k_is); (case h324 => as_aux_lemma => k_is); (case h325 => as_aux_lemma => k_is); (case h326 => as_aux_lemma => k_is); (case h327 => as_aux_lemma => k_is); (case h328 => as_aux_lemma => k_is); (case h329 => as_aux_lemma => k_is); (case h330 => as_aux_lemma => k_is); (case h331 => as_aux_lemma => k_is); (case h332 => as_aux_lemma => k_is); (case h333 => as_aux_lemma => k_is); (case h334 => as_aux_lemma => k_is); (case h335 => as_aux_lemma => k_is); (case h336 => as_aux_lemma => k_is); (case h337 => as_aux_lemma => k_is); (case h338 => as_aux_lemma => k_is); (case h339 => as_aux_lemma => k_is); (case h340 => as_aux_lemma => k_is); (case h341 => as_aux_lemma => k_is); (case h342 => as_aux_lemma => k_is); (case h343 => as_aux_lemma => k_is); (case h344 => as_aux_lemma => k_is); (case h345 => as_aux_lemma => k_is); (case h346 => as_aux_lemma => k_is); (case h347 => as_aux_lemma => k_is); (case h348 => as_aux_lemma => k_is); (case h349 => as_aux_lemma => k_is); (case h350 => as_aux_lemma => k_is); (case h351 => as_aux_lemma => k_is); (case h352 => as_aux_lemma => ks_is); (case h353 => as_aux_lemma => k_is); (case h354 => as_aux_lemma => ks_is); (case h355 => as_aux_lemma => k_is); (case h356 => as_aux_lemma => ks_is); (case h357 => as_aux_lemma => k_is); (case h358 => as_aux_lemma => k_is); (case h359 => as_aux_lemma => k_is); (case h360 => as_aux_lemma => k_is); (case h361 => as_aux_lemma => k_is); (case h362 => as_aux_lemma => k_is); (case h363 => as_aux_lemma => k_is); (case h364 => as_aux_lemma => k_is); (case h365 => as_aux_lemma => k_is); (case h366 => as_aux_lemma => kit_is); (case h367 => as_aux_lemma => kit_is); (case h368 => as_aux_lemma => kit_is); (case h369 => as_aux_lemma => kit_is); (case h370 => as_aux_lemma => kit_is); (case h371 => as_aux_lemma => kit_is); (case h372 => as_aux_lemma => kit_is); (case h373 => as_aux_lemma => kit_is); (case h374 => as_aux_lemma => kit_is); (case h375 => as_aux_lemma => kit_is); (case h376 => as_aux_lemma => kit_is); (case h377 => as_aux_lemma => kit_is); (case h378 => as_aux_lemma => kit_is); (case h379 => as_aux_lemma => kit_is); (case h380 => as_aux_lemma => kit_is); (case h381 => as_aux_lemma => kit_is); (case h382 => as_aux_lemma => kit_is); (case h383 => as_aux_lemma => kit_is); (case h384 => as_aux_lemma => kit_is); (case h385 => as_aux_lemma => kit_is); (case h386 => as_aux_lemma => kit_is); (case h387 => as_aux_lemma => kit_is); (case h388 => as_aux_lemma => kit_is); (case h389 => as_aux_lemma => kit_is); (case h390 => as_aux_lemma => kit_is); (case h391 => as_aux_lemma => k_is); (case h392 => as_aux_lemma => k_is); (case h393 => as_aux_lemma => k_is); (case h394 => as_aux_lemma => k_is); (case h395 => as_aux_lemma => k_is); (case h396 => as_aux_lemma => k_is); (case h397 => as_aux_lemma => k_is); (case h398 => as_aux_lemma => k_is); (case h399 => as_aux_lemma => k_is); (case h400 => as_aux_lemma => k_is); (case h401 => as_aux_lemma => k_is); (case h402 => as_aux_lemma => k_is); (case h403 => as_aux_lemma => k_is); (case h404 => as_aux_lemma => k_is); (case h405 => as_aux_lemma => k_is); (case h406 => as_aux_lemma => k_is); (case h407 => as_aux_lemma => k_is); (case h408 => as_aux_lemma => k_is); (case h409 => as_aux_lemma => k_is); (case h410 => as_aux_lemma => k_is); (case h411 => as_aux_lemma => k_is); (case h412 => as_aux_lemma => k_is); (case h413 => as_aux_lemma => k_is); (case h414 => as_aux_lemma => k_is); (case h415 => as_aux_lemma => k_is); (case h416 => as_aux_lemma => k_is); (case h417 => as_aux_lemma => k_is); (case h418 => as_aux_lemma => k_is); (case h419 => as_aux_lemma => k_is); (case h420 => as_aux_lemma => k_is); (case h421 => as_aux_lemma => k_is); (case h422 => as_aux_lemma => k_is)
