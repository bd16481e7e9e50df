import PyProof.Rows.All
import Wide.All
import OpenK.AllK
import Wide.FinOn
import KE.OsRunLaw
import KE.RegKSuper
import KE.RegKIsAll
import HandS.ForMost
import HandS.IsInst
import HandS.Nested
import HandS.ClsMeth
import HandS.Star
import KE.KSuper
import HandS.SlotsOwn
import KE.KOpsOwn
import HandS.MakeKwOnly
import KE.KStateDown
import HandS.Head0
import HandS.Head1
import HandS.Head2
import HandS.HeadEnd
import HandS.HeadHook1
import HandS.HeadHook2
import HandS.Defaults
import HandS.SortKw
import KE.SortData
import KE.DataMinMax
import HandS.Evl
import HandS.Zip
import HandS.Walk
import HandS.Style
import HandS.Small
import HandS.Wide
import HandS.Text
import HandS.Deep
import PySem.Challenge.RW_pastlooks_k24_whole_moved_and_mirrored
set_option Elab.async false
set_option linter.all false
set_option maxRecDepth 100000
set_option maxHeartbeats 4000000
set_option Elab.async false
set_option linter.all false
set_option maxRecDepth 100000
set_option maxHeartbeats 4000000
namespace Pl
open PySem L2
/-! ### heaps -/
theorem same_upd {H : Hp} {p : Addr} {o : HO} (h : H p = none) : Same H (upd H p o) := fun b x e => by
  rw [upd_ne (ne_of_none e h)]
  exact e
theorem same_mut {G H : Hp} {p : Addr} {o : HO} (s : Same G H) (h : G p = none) : Same G (upd H p o) := fun b x e => by
  rw [upd_ne (ne_of_none e h)]
  exact s b x e
theorem same_both {G H : Hp} {p : Addr} {o : HO} (s : Same G H) : Same (upd G p o) (upd H p o) := fun b x e => by
  unfold upd at *
  split
  · rename_i h
    rw [if_pos h] at e
    exact e
  · rename_i h
    rw [if_neg h] at e
    exact s b x e
theorem Same.rd {H H' : Hp} {a : Addr} {u : HO} (s : Same H H') (h : Rd H a u) : Rd H' a u := by
  rcases h with h | ⟨o, h⟩
  · exact .inl (s _ _ h)
  · exact .inr ⟨o, s _ _ h⟩
theorem Same.tup {K : PySem.W.Frag} {H H' : Hp} {a : Addr} {xs : List V} (s : Same H H') (h : SqT K H a xs) : SqT K H' a xs := by
  rcases h with (h | ⟨o, h⟩) | h
  · exact .inl (.inl (s _ _ h))
  · exact .inl (.inr ⟨o, s _ _ h⟩)
  · exact .inr h
theorem at_ix {xs : List V} {j : Int} {v : V} (h0 : 0 ≤ j) (h : xs[j.toNat]? = some v) : atI xs j = some v := by
  have e : j = ((j.toNat : Nat) : Int) := by omega
  rw [e]
  exact atI_nat h
theorem at_ix2 {α : Type} {xs : List α} {j : Int} {v : α} (h0 : 0 ≤ j) (h : xs[j.toNat]? = some v) : atI xs j = some v := by
  have e : j = ((j.toNat : Nat) : Int) := by omega
  rw [e]
  exact atI_nat h
theorem ix_in {n : Nat} {j : Int} (h0 : 0 ≤ j) (h1 : j < n) : ixN n j = some j.toNat := by
  unfold ixN
  rw [if_pos h0, if_pos h1]
theorem at_ints {cs : List Int} {j : Int} (h0 : 0 ≤ j) (h1 : j < cs.length) : ∃ x, atI (cs.map V.int) j = some (.int x) := by
  have h : j.toNat < cs.length := by omega
  exact ⟨cs[j.toNat], at_ix h0 (by rw [List.getElem?_map, List.getElem?_eq_getElem h]; rfl)⟩
theorem fm0 {a b : Int} (h : 0 < b) : 0 ≤ a.fmod b := by
  rw [Int.fmod_eq_emod_of_nonneg _ (Int.le_of_lt h)]
  exact Int.emod_nonneg _ (by omega)
theorem fm1 {a b : Int} (h : 0 < b) : a.fmod b < b := by
  rw [Int.fmod_eq_emod_of_nonneg _ (Int.le_of_lt h)]
  exact Int.emod_lt_of_pos _ h
theorem sz {n : Nat} (h : n ≤ 100000) : n ≤ sizeLine := Nat.le_trans h (by decide)
theorem szl {n : Nat} (h : n < 100000) : n < sizeLine := Nat.lt_of_lt_of_le h (by decide)
/-! ### the box from which a law draws -/
def BoxAt (b c : Addr) (H : Hp) : Prop := b ≠ c ∧ ∃ (cs : List Int) (k : Int), H b = some (.lst [.ref c, .int k]) ∧ H c = some (.lst (cs.map V.int)) ∧ 0 < cs.length ∧ cs.length ≤ 64
/-- G: what stays -/
structure Wd (b c : Addr) (G H : Hp) : Prop where
  box : BoxAt b c H
  gh : Same G H
  gb : G b = none
  gc : G c = none
/-- nothing that stood is changed; G is what is known and stays -/
structure Gr (G H G' H' : Hp) : Prop where
  gg : Same G G'
  gh : Same G' H'
  hh : Same H H'
  nw : ∀ a o, G' a = some o → G a = some o ∨ H a = none
theorem Gr.refl {G H : Hp} (s : Same G H) : Gr G H G H := ⟨Same.refl _, s, Same.refl _, fun _ _ h => .inl h⟩
theorem Gr.trans {G H G1 H1 G2 H2 : Hp} (a : Gr G H G1 H1) (b : Gr G1 H1 G2 H2) : Gr G H G2 H2 :=
  ⟨a.gg.trans b.gg, b.gh, a.hh.trans b.hh, fun x o h => by
    rcases b.nw x o h with h | h
    · exact a.nw x o h
    · exact .inr (a.hh.free h)⟩
theorem Gr.new {G H : Hp} {p : Addr} {o : HO} (s : Same G H) (h : H p = none) : Gr G H (upd G p o) (upd H p o) :=
  ⟨same_upd (s.free h), same_both s, same_upd h, fun a x e => by
    by_cases q : a = p
    · rw [q]; exact .inr h
    · rw [upd_ne q] at e; exact .inl e⟩
/-- a new thing that is not to be known -/
theorem Gr.drop {G H : Hp} {p : Addr} {o : HO} (s : Same G H) (h : H p = none) : Gr G H G (upd H p o) :=
  ⟨Same.refl _, same_mut s (s.free h), same_upd h, fun _ _ e => .inl e⟩
theorem Gr.none {G H G' H' : Hp} (g : Gr G H G' H') {a : Addr} {o : HO} (h : G a = none) (ha : H a = some o) : G' a = none := by
  cases e : G' a with
  | none => rfl
  | some u =>
    rcases g.nw a u e with q | q
    · rw [h] at q; cases q
    · rw [ha] at q; cases q
theorem BoxAt.same {b c : Addr} {H H' : Hp} (x : BoxAt b c H) (s : Same H H') : BoxAt b c H' := by
  obtain ⟨n, cs, k, h1, h2, h3⟩ := x
  exact ⟨n, cs, k, s _ _ h1, s _ _ h2, h3⟩
theorem BoxAt.b {b c : Addr} {H : Hp} (x : BoxAt b c H) : ∃ o, H b = some o := by
  obtain ⟨n, cs, k, h1, h2, h3⟩ := x
  exact ⟨_, h1⟩
theorem BoxAt.c {b c : Addr} {H : Hp} (x : BoxAt b c H) : ∃ o, H c = some o := by
  obtain ⟨n, cs, k, h1, h2, h3⟩ := x
  exact ⟨_, h2⟩
theorem Wd.gr {b c : Addr} {G H G' H' : Hp} (x : Wd b c G H) (g : Gr G H G' H') : Wd b c G' H' := by
  obtain ⟨_, h1⟩ := x.box.b
  obtain ⟨_, h2⟩ := x.box.c
  exact ⟨x.box.same g.hh, g.gh, g.none x.gb h1, g.none x.gc h2⟩
theorem Wd.gr0 {b c : Addr} {G H : Hp} (x : Wd b c G H) : Gr G H G H := Gr.refl x.gh
/-- a list that is not frozen may be written -/
theorem Wd.mut {b c p : Addr} {G H : Hp} {o : HO} (x : Wd b c G H) (h : G p = none) (hb : p ≠ b) (hc : p ≠ c) : Wd b c G (upd H p o) := by
  obtain ⟨n, cs, k, h1, h2, h3⟩ := x.box
  exact ⟨⟨n, cs, k, by rw [upd_ne (Ne.symm hb)]; exact h1, by rw [upd_ne (Ne.symm hc)]; exact h2, h3⟩, same_mut x.gh h, x.gb, x.gc⟩
/-! ### isinstance of built-in classes -/
theorem kb_int_int : kitB "int" "int" = some true := by decide +kernel
theorem kb_int_bool : kitB "int" "bool" = some false := by decide +kernel
theorem kb_int_tuple : kitB "int" "tuple" = some false := by decide +kernel
theorem kb_int_list : kitB "int" "list" = some false := by decide +kernel
theorem kb_int_str : kitB "int" "str" = some false := by decide +kernel
theorem kb_bool_int : kitB "bool" "int" = some true := by decide +kernel
theorem kb_bool_bool : kitB "bool" "bool" = some true := by decide +kernel
theorem kb_bool_tuple : kitB "bool" "tuple" = some false := by decide +kernel
theorem kb_bool_list : kitB "bool" "list" = some false := by decide +kernel
theorem kb_bool_str : kitB "bool" "str" = some false := by decide +kernel
theorem kb_tuple_int : kitB "tuple" "int" = some false := by decide +kernel
theorem kb_tuple_bool : kitB "tuple" "bool" = some false := by decide +kernel
theorem kb_tuple_tuple : kitB "tuple" "tuple" = some true := by decide +kernel
theorem kb_tuple_list : kitB "tuple" "list" = some false := by decide +kernel
theorem kb_tuple_str : kitB "tuple" "str" = some false := by decide +kernel
theorem kb_list_int : kitB "list" "int" = some false := by decide +kernel
theorem kb_list_bool : kitB "list" "bool" = some false := by decide +kernel
theorem kb_list_tuple : kitB "list" "tuple" = some false := by decide +kernel
theorem kb_list_list : kitB "list" "list" = some true := by decide +kernel
theorem kb_list_str : kitB "list" "str" = some false := by decide +kernel
theorem kb_str_int : kitB "str" "int" = some false := by decide +kernel
theorem kb_str_bool : kitB "str" "bool" = some false := by decide +kernel
theorem kb_str_tuple : kitB "str" "tuple" = some false := by decide +kernel
theorem kb_str_list : kitB "str" "list" = some false := by decide +kernel
theorem kb_str_str : kitB "str" "str" = some true := by decide +kernel
theorem kb_none_int : kitB "NoneType" "int" = some false := by decide +kernel
theorem kb_none_bool : kitB "NoneType" "bool" = some false := by decide +kernel
theorem kb_none_tuple : kitB "NoneType" "tuple" = some false := by decide +kernel
theorem kb_none_list : kitB "NoneType" "list" = some false := by decide +kernel
theorem kb_none_str : kitB "NoneType" "str" = some false := by decide +kernel
/-- the kinds of values that a law handles, by a built-in type's name -/
inductive Ty (H : Hp) : V → String → Prop
  | non : Ty H .non "NoneType"
  | bl (b : Bool) : Ty H (.bl b) "bool"
  | int (i : Int) : Ty H (.int i) "int"
  | str (x : Str) : Ty H (.str x) "str"
  | lst {a : Addr} {xs : List V} (h : H a = some (.lst xs)) : Ty H (.ref a) "list"
  | tup {a : Addr} {xs : List V} (h : H a = some (.tup xs)) : Ty H (.ref a) "tuple"
theorem Ty.x {K : PySem.W.Frag} {H : Hp} {v : V} {n : String} (t : Ty H v n) : TyX K H v (.type n) := by
  cases t with
  | non => exact .base .non
  | bl b => exact .base (.bl b)
  | int i => exact .base (.int i)
  | str x => exact .base (.str x)
  | lst h => exact .base (.lst h)
  | tup h => exact .base (.tup h)
theorem Ty.same {H H' : Hp} {v : V} {n : String} (s : Same H H') (t : Ty H v n) : Ty H' v n := by
  cases t with
  | non => exact .non
  | bl b => exact .bl b
  | int i => exact .int i
  | str x => exact .str x
  | lst h => exact .lst (s _ _ h)
  | tup h => exact .tup (s _ _ h)
/-- isinstance(x, n) of such a value -/
def tyB (t n : String) : Bool := (kitB t n).getD false
theorem Ty.kit {H : Hp} {v : V} {t : String} (h : Ty H v t) {n : String} (hn : n = "int" ∨ n = "bool" ∨ n = "tuple" ∨ n = "list" ∨ n = "str") : kitB t n = some (tyB t n) := by
  unfold tyB
  rcases hn with rfl | rfl | rfl | rfl | rfl <;> cases h <;> first
    | (rw [kb_int_int]; rfl) | (rw [kb_int_bool]; rfl) | (rw [kb_int_tuple]; rfl) | (rw [kb_int_list]; rfl) | (rw [kb_int_str]; rfl)
    | (rw [kb_bool_int]; rfl) | (rw [kb_bool_bool]; rfl) | (rw [kb_bool_tuple]; rfl) | (rw [kb_bool_list]; rfl) | (rw [kb_bool_str]; rfl)
    | (rw [kb_tuple_int]; rfl) | (rw [kb_tuple_bool]; rfl) | (rw [kb_tuple_tuple]; rfl) | (rw [kb_tuple_list]; rfl) | (rw [kb_tuple_str]; rfl)
    | (rw [kb_list_int]; rfl) | (rw [kb_list_bool]; rfl) | (rw [kb_list_tuple]; rfl) | (rw [kb_list_list]; rfl) | (rw [kb_list_str]; rfl)
    | (rw [kb_str_int]; rfl) | (rw [kb_str_bool]; rfl) | (rw [kb_str_tuple]; rfl) | (rw [kb_str_list]; rfl) | (rw [kb_str_str]; rfl)
    | (rw [kb_none_int]; rfl) | (rw [kb_none_bool]; rfl) | (rw [kb_none_tuple]; rfl) | (rw [kb_none_list]; rfl) | (rw [kb_none_str]; rfl)
theorem isI_int {K : PySem.W.Frag} {H : Hp} {v : V} {t : String} (h : Ty H v t) : PySem.W.kitOne K (.type t) (.type "int") = some (tyB t "int") := kit_ty (h.kit (.inl rfl))
theorem isI_bool {K : PySem.W.Frag} {H : Hp} {v : V} {t : String} (h : Ty H v t) : PySem.W.kitOne K (.type t) (.type "bool") = some (tyB t "bool") := kit_ty (h.kit (.inr (.inl rfl)))
theorem isI_tuple {K : PySem.W.Frag} {H : Hp} {v : V} {t : String} (h : Ty H v t) : PySem.W.kitOne K (.type t) (.type "tuple") = some (tyB t "tuple") := kit_ty (h.kit (.inr (.inr (.inl rfl))))
theorem isI_list {K : PySem.W.Frag} {H : Hp} {v : V} {t : String} (h : Ty H v t) : PySem.W.kitOne K (.type t) (.type "list") = some (tyB t "list") := kit_ty (h.kit (.inr (.inr (.inr (.inl rfl)))))
theorem isI_str {K : PySem.W.Frag} {H : Hp} {v : V} {t : String} (h : Ty H v t) : PySem.W.kitOne K (.type t) (.type "str") = some (tyB t "str") := kit_ty (h.kit (.inr (.inr (.inr (.inr rfl)))))
def isInt : V → Bool
  | .int _ => true
  | _ => false
theorem isInt_of {H : Hp} {v : V} {t : String} (h : Ty H v t) : (tyB t "int" && !tyB t "bool") = isInt v := by
  unfold tyB
  cases h
  · rw [kb_none_int]; rfl
  · rw [kb_bool_int, kb_bool_bool]; rfl
  · rw [kb_int_int, kb_int_bool]; rfl
  · rw [kb_str_int]; rfl
  · rw [kb_list_int]; rfl
  · rw [kb_tuple_int]; rfl
end Pl

set_option Elab.async false
set_option linter.all false
set_option maxRecDepth 100000
set_option maxHeartbeats 4000000
/-! Methods of own classes whose last statement is super().__init__(..). -/
namespace Pl
open PySem PySem.Spec PyProof.Rows L2 NdefX ClX
/-- what the written part has of a def that closes over its class D, and of the def g of the class behind D -/
structure SupK (P : Program) (K : PySem.W.Frag) (F : NF) (cc D g : Addr) (name : Str) : Prop where
  cl : F.cl = ([("__class__", cc)] : List (Str × Addr))
  cell : ∃ ccl ccd ccs, K.lookup cc = some ⟨ccl, ccd, .cell (some (.ref D)), ccs⟩
  cls : ∃ cd, PySem.W.clsIn K D = some cd
  code : ∃ ccl cdd vs ccs file tf, K.lookup F.c = some ⟨ccl, cdd, .fields vs, ccs⟩ ∧ vs[2]? = some (.str file tf) ∧ ((P.main.file : Str) == file) = true
  nsup : PySem.W.nsIn K mainGlobals "super" = some none
  any : PySem.W.nsIn K cStatics "thirdparty.any" = some none
  ty : PySem.W.typeIn K (.ref g) = some (.type "function")
  fi : PySem.W.fnIn K g = true
  top : (P.main.scope.names.lookup ("super" : Str)).isSome = false
  ks : F.scope.names.lookup ("super" : Str) = some .globalImplicit
  kc : F.scope.names.lookup ("__class__" : Str) = some .free
  at_ : (name == ("__class__" : Str)) = false
/-- .. and of the class C of the object -/
structure SupC (K : PySem.W.Frag) (C D g : Addr) (name : Str) : Prop where
  mro : PySem.W.mroIn K C (.ref D) = some true
  sup : PySem.W.ks_superIn K C D name = some (some (.ref g))
abbrev superE (name : Str) (es : List Expr) (p0 p1 apos pos : Pos) : Expr := .Call (.Attribute (.Call (.Name "super" p0) [] [] p1) name apos) es [] pos
theorem load_of {X : Cx} {i : Nat} {x : Str} {pins : List (Addr × Obj)} {σ : L2.St} {H : Hp} {s : Shared} {v : V} {E : Value → Shared → Prop} {Q : Value → Shared → Prop} (I : Inv X pins σ H s) (hN : X.N[i]? = some x) (hv : Vis X.env.scope x) (e : σ[i]? = some (some v)) (hcd : (x == ("__classdict__" : Str)) = false) (h : ∀ u, RelV v u → Q u s) :
    wpAny (model X.prog X.w) X.A (loadName X.env x) Q E s := by
  obtain ⟨m, hn, hl⟩ := I.loc
  obtain ⟨u, r, l⟩ := hl i x v hN e hv
  rcases l with ⟨k, hm⟩ | ⟨k, c, hc, hu⟩
  · exact wpAny_loadName_local I.ok.kind k hn hm (h u r)
  · rcases k with k | k
    · exact wpAny_loadName_cell I.ok.kind k hc hu (h u r)
    · exact wpAny_loadName_free I.ok.kind k hc hu (h u r) hcd
section
variable {X : Cx} {F : NF} {f cc D g x C dx L : Addr} {name : Str} {fd : FuncData} {ar : Arg} {oc : Value} {od : Option Addr} {osl : Array (Option Value)} {pins : List (Addr × Obj)} {σ : L2.St} {H : Hp} {s : Shared} {fs : List (Str × V)} {j : Nat} {body : List Stmt} {p0 p1 apos pos : Pos} {whole : Sem Value}
/-- super(): the record so -/
theorem super_base {Q : Value → Shared → Prop} {E : Value → Shared → Prop} (S : SupK X.prog X.K F cc D g name) (hE : X.env = PySem.W.envX F.qual F.scope L f (.ref F.c) F.cl) (hf : X.K.lookup f = some ⟨oc, od, .func fd, osl⟩) (hp : (fd.params.posonlyargs ++ fd.params.args).head? = some ar)
    (hms : X.mg "super" = none) (I : Inv X pins σ H s) (i0 : X.N[0]? = some ar.arg) (hv0 : F.scope.names.lookup ar.arg = some .local) (h0c : (ar.arg == ("__classdict__" : Str)) = false) (ic : X.N[j]? = some "__class__") (hj : σ[j]? = some (some (.ref D))) (hx : σ[0]? = some (some (.ref x))) (ho : H x = some (.ins C dx fs)) (sc : SupC X.K C D g name)
    (h : ∀ h', h'.get? s.heap.objs.size = some (PySem.W.ks_superObj D x C) → (∀ y o, s.heap.get? y = some o → h'.get? y = some o) → Q (.ref s.heap.objs.size) { s with heap := h' }) :
    _root_.PySem.wpAt (model X.prog X.w) X.A (.func body X.env) (attributeBase (.Call (.Name "super" p0) [] [] p1) name X.env whole) Q E s := by
  obtain ⟨ccl, cdd, vs, ccs, file, tf, hc1, hc2, hc3⟩ := S.code
  obtain ⟨cdD, hD⟩ := S.cls
  have KI := I.kIn
  have ksx : X.env.scope = F.scope := by rw [hE]
  have k1 : X.env.kindOf "super" = some .globalImplicit := by rw [hE]; exact S.ks
  have k2 : X.env.kindOf "__class__" = some .free := by rw [hE]; exact S.kc
  have k3 : X.env.func = some f := by rw [hE]
  have k4 : X.env.code = .ref F.c := by rw [hE]
  obtain ⟨oD, hD1, hD2⟩ : ∃ oD, s.heap.get? D = some oD ∧ oD.data = .cls cdD := by
    unfold PySem.W.clsIn at hD
    split at hD
    · rename_i c d cd' sl ho
      cases hD
      exact ⟨_, KI _ _ ho, rfl⟩
    · cases hD
  obtain ⟨mA, O, _⟩ := ins_get I.hok ho
  obtain ⟨odx, J, _⟩ := O.look
  refine ks_wpAt_super_base (env := X.env) k1 k2 S.at_ k3 (KI _ _ hf) rfl hp k4 (KI _ _ hc1) rfl hc2 hc3 S.top ?_
  obtain ⟨mb, h1, h2⟩ := I.mod.blt
  refine PySem.W.ks_loadName_global I.ok.kind k1 (Calls.loadGlobal_builtin (by rw [I.ok.glob]; exact I.mod.glob.keeps I.bk) hms (by rw [I.ok.blt]; exact h1.keeps I.bk) ((h2 "super" (by decide)).trans (by decide +kernel)) ⟨rfl, ?_⟩)
  refine load_of I ic (by rw [ksx]; exact .inr (.inr S.kc)) hj (by decide) fun u r => ?_
  obtain rfl : u = Value.ref D := r
  refine load_of I i0 (by rw [ksx]; exact .inl hv0) hx h0c fun u r => ?_
  obtain rfl : u = Value.ref x := r
  obtain ⟨hh, gg, dd, t, os⟩ := s
  refine ks_wpAny_isType_cls hD1 hD2 ⟨rfl, ?_⟩
  refine ks_wpAny_call_super hD1 hD2 J.at_ J.cls (fun c e => ?_) (PySem.W.looks_mroIn KI sc.mro) (fun h' e k => h h' e k)
  have := J.no
  unfold PySem.W.notCls at this
  rw [e] at this
  exact Bool.noConfusion this
/-- super().name(e, ..) -/
theorem super_run {CX : CXT} {k : Nat} {sp : Sp} {E : XK} {Q : VK} {e : Expr} {es : List Expr} {t : TA} {pl : Sem Bool} (S : SupK X.prog X.K F cc D g name) (hE : X.env = PySem.W.envX F.qual F.scope L f (.ref F.c) F.cl) (hf : X.K.lookup f = some ⟨oc, od, .func fd, osl⟩) (hp : (fd.params.posonlyargs ++ fd.params.args).head? = some ar)
    (hms : X.mg "super" = none) (I : Inv X pins σ H s) (i0 : X.N[0]? = some ar.arg) (hv0 : F.scope.names.lookup ar.arg = some .local) (h0c : (ar.arg == ("__classdict__" : Str)) = false) (ic : X.N[j]? = some ("__class__" : Str)) (hj : σ[j]? = some (some (.ref D))) (hx : σ[0]? = some (some (.ref x))) (ho : H x = some (.ins C dx fs)) (sc : SupC X.K C D g name)
    (G : FnR X.prog X.w X.K X.mg X.base CX k g sp) (hr : Room k X.A) (hxp : Passes CX X E) (ha : PA X (e :: es) t) (h : t σ H fun vs H1 => sp (.ref x :: vs) H1 Q E)
    (hst : starEach (e :: es) X.env = (false, eval e X.env) :: starEach es X.env) (hpl : (backTo pos (starEach es X.env)).any (·.1) = false)
    (ht : eval (superE name (e :: es) p0 p1 apos pos) X.env = (do
      let ov ← attributeBase (.Call (.Name "super" p0) [] [] p1) name X.env (eval (.Call (.Name "super" p0) [] [] p1) X.env)
      standAt apos.atName
      let (f, first) ← holding [ov] (getMethod ov name pl)
      callWith pos f first (backTo pos (starEach (e :: es) X.env)) [])) :
    _root_.PySem.wpAt (model X.prog X.w) X.A (.func body X.env) (eval (superE name (e :: es) p0 p1 apos pos) X.env) (EP X pins σ Q) X.xe s := by
  obtain ⟨hh, gg, dd, tt, os⟩ := s
  refine ks_wpAt_MethodCall (super_base S hE hf hp hms I i0 hv0 h0c ic hj hx ho sc fun h' e1 k1 => ?_) ht
  have I1 : Inv X pins σ H ⟨h', gg, dd, tt, os⟩ := I.kept (t' := tt) k1
  obtain ⟨mA, O, _⟩ := ins_get I1.hok ho
  obtain ⟨odx, J, _⟩ := O.look
  have hm := sc.sup
  have hm' := hm
  unfold PySem.W.ks_superIn at hm'
  obtain ⟨cd, hc⟩ : ∃ cd, PySem.W.clsIn X.K C = some cd := by
    cases hc : PySem.W.clsIn X.K C with
    | none => rw [hc] at hm'; cases hm'
    | some cd => exact ⟨cd, rfl⟩
  rw [hc] at hm'
  obtain ⟨of, hof, hofc⟩ : ∃ of, h'.get? g = some of ∧ of.cls = .type "function" := by
    have ht' : (X.K.lookup g).map (·.cls) = some (.type "function") := S.ty
    cases z : X.K.lookup g with
    | none => rw [z] at ht'; cases ht'
    | some of => rw [z] at ht'; exact ⟨of, I1.kIn _ _ z, Option.some.inj ht'⟩
  refine ks_wpAny_getMethod_super e1 (PySem.W.looks_opaque I1.kIn S.any) (l₀ := cd.mro) (fun A Q E s k q => wpAny_bind ((PySem.W.looks_clsIn I1.kIn hc) A _ E s k (wpAny_pure q))) rfl I1.kIn hm' hof hofc (PySem.W.ks_ne I1.kIn J hc) S.at_ ?_
  have I2 := met_new (g := g) (C := x) I1
  refine callwith_cm I2 (base_none I1 (Nat.le_refl _)) S.fi (thn (ha.run pos _ _ σ H _ I2 h) fun us s3 ⟨vs, H2, I3, rv, q2⟩ => ⟨⟨pin_at I3, I3.kIn⟩, run_cm G hr hxp I3 rv q2⟩) hst hpl
/-- super().name() -/
theorem super_run0 {CX : CXT} {k : Nat} {sp : Sp} {E : XK} {Q : VK} {pl : Sem Bool} (S : SupK X.prog X.K F cc D g name) (hE : X.env = PySem.W.envX F.qual F.scope L f (.ref F.c) F.cl) (hf : X.K.lookup f = some ⟨oc, od, .func fd, osl⟩) (hp : (fd.params.posonlyargs ++ fd.params.args).head? = some ar)
    (hms : X.mg "super" = none) (I : Inv X pins σ H s) (i0 : X.N[0]? = some ar.arg) (hv0 : F.scope.names.lookup ar.arg = some .local) (h0c : (ar.arg == ("__classdict__" : Str)) = false) (ic : X.N[j]? = some ("__class__" : Str)) (hj : σ[j]? = some (some (.ref D))) (hx : σ[0]? = some (some (.ref x))) (ho : H x = some (.ins C dx fs)) (sc : SupC X.K C D g name)
    (G : FnR X.prog X.w X.K X.mg X.base CX k g sp) (hr : Room k X.A) (hxp : Passes CX X E) (h : sp [.ref x] H Q E)
    (ht : eval (superE name [] p0 p1 apos pos) X.env = (do
      let ov ← attributeBase (.Call (.Name "super" p0) [] [] p1) name X.env (eval (.Call (.Name "super" p0) [] [] p1) X.env)
      standAt apos.atName
      let (f, first) ← holding [ov] (getMethod ov name pl)
      callWith pos f first (backTo pos (starEach [] X.env)) [])) :
    _root_.PySem.wpAt (model X.prog X.w) X.A (.func body X.env) (eval (superE name [] p0 p1 apos pos) X.env) (EP X pins σ Q) X.xe s := by
  obtain ⟨hh, gg, dd, tt, os⟩ := s
  refine ks_wpAt_MethodCall (super_base S hE hf hp hms I i0 hv0 h0c ic hj hx ho sc fun h' e1 k1 => ?_) ht
  have I1 : Inv X pins σ H ⟨h', gg, dd, tt, os⟩ := I.kept (t' := tt) k1
  obtain ⟨mA, O, _⟩ := ins_get I1.hok ho
  obtain ⟨odx, J, _⟩ := O.look
  have hm' := sc.sup
  unfold PySem.W.ks_superIn at hm'
  obtain ⟨cd, hc⟩ : ∃ cd, PySem.W.clsIn X.K C = some cd := by
    cases hc : PySem.W.clsIn X.K C with
    | none => rw [hc] at hm'; cases hm'
    | some cd => exact ⟨cd, rfl⟩
  rw [hc] at hm'
  obtain ⟨of, hof, hofc⟩ : ∃ of, h'.get? g = some of ∧ of.cls = .type "function" := by
    have ht' : (X.K.lookup g).map (·.cls) = some (.type "function") := S.ty
    cases z : X.K.lookup g with
    | none => rw [z] at ht'; cases ht'
    | some of => rw [z] at ht'; exact ⟨of, I1.kIn _ _ z, Option.some.inj ht'⟩
  refine ks_wpAny_getMethod_super e1 (PySem.W.looks_opaque I1.kIn S.any) (l₀ := cd.mro) (fun A Q E s k q => wpAny_bind ((PySem.W.looks_clsIn I1.kIn hc) A _ E s k (wpAny_pure q))) rfl I1.kIn hm' hof hofc (PySem.W.ks_ne I1.kIn J hc) S.at_ ?_
  have I2 := met_new (g := g) (C := x) I1
  exact PySem.W.callWith_M0 (first := []) ⟨pin_at I2, I2.kIn⟩ S.fi (run_cm G hr hxp I2 .nil h)
end
theorem execs_app {M : Model} {env : Env} {post : List Stmt} {Γ} {Q : Flow → Pos → Shared → Prop} {E : Value → Pos → Shared → Prop} : ∀ {pre : List Stmt} {p s}, Sem.wp M Γ (execs pre env) (fun f p s => match f with | .next => Sem.wp M Γ (execs post env) Q E p s | f => Q f p s) E p s → Sem.wp M Γ (execs (pre ++ post) env) Q E p s
  | [], p, s, h => by
    rw [execs_nil, Sem.wp_pure'] at h
    exact h
  | a :: pre, p, s, h => by
    rw [List.cons_append, execs_cons, Sem.wp_bind']
    rw [execs_cons, Sem.wp_bind'] at h
    refine Sem.wp_mono M Γ _ (fun f p' s' h' => ?_) (fun _ _ _ h' => h') _ _ h
    cases f
    case next => exact execs_app h'
    all_goals exact h'
section
variable {CX : CXT} {P : Program} {w : World} {K : PySem.W.Frag} {mg : Str → Option Value} {base : Heap} {k : Nat} {f cc D : Addr} {F : NF} {dV kV doc pm ct oc ccl : Value} {an od ccd : Option Addr} {osl ccs : Array (Option Value)} {N ps : List Str} {sp : Sp}
theorem cells_cc {h : Heap} {H : Hp} (hcc : h.get? cc = some ⟨ccl, ccd, .cell (some (.ref D)), ccs⟩) (hn : H cc = none) : CellsAt [(("__class__" : Str), cc)] [("__class__" : Str)] [some (.ref D)] h H := by
  refine ⟨rfl, fun y c e => ?_, fun x y c e1 e2 => ?_, fun i y e => ?_⟩
  · have : c = cc := by
      simp only [List.lookup] at e
      split at e
      · exact (Option.some.inj e).symm
      · cases e
    subst this
    exact ⟨hn, _, _, hcc, rfl⟩
  · have h1 : x = ("__class__" : Str) := by
      simp only [List.lookup] at e1
      split at e1
      · rename_i z; exact beq_iff_eq.mp z
      · cases e1
    have h2 : y = ("__class__" : Str) := by
      simp only [List.lookup] at e2
      split at e2
      · rename_i z; exact beq_iff_eq.mp z
      · cases e2
    rw [h1, h2]
  · match i with
    | 0 =>
      obtain rfl : ("__class__" : Str) = y := Option.some.inj e
      refine ⟨cc, by simp [List.lookup], fun v ev => ?_⟩
      obtain rfl : V.ref D = v := Option.some.inj (Option.some.inj ev)
      exact ⟨.ref D, rfl, _, hcc, rfl⟩
    | i + 1 => simp at e
/-- a def that closes over its class, its body pre ++ [last] where last is read at its place -/
theorem fnL_of {pre : List Stmt} {last : Stmt} (hcl : F.cl = [(("__class__" : Str), cc)]) (hbd : F.body = pre ++ [last])
    (lk : K.lookup f = some ⟨oc, od, .func (PySem.W.fnX F.name F.qual F.params F.body F.scope F.cl dV kV doc pm an (.ref F.c) ct), osl⟩) (hcd : PySem.W.codeIn K (.ref F.c) F.qual = true) (S : NScope N ps ["__class__"] F.scope) (hcc : K.lookup cc = some ⟨ccl, ccd, .cell (some (.ref D)), ccs⟩)
    (len : ∀ vs H Q E, sp vs H Q E → vs.length = ps.length)
    (hbody : ∀ (A : Around) (outer : List Env) (s : Shared) (H : Hp) (vs : List V) (Q : VK) (E : XK), Room k (A.deeper (envF F f s.heap.objs.size)) → sp vs H Q E →
      ∃ (t : TS) (LQ : L2.St → Hp → Prop), PSs (ncx CX P w K mg base N F f A outer s H E) pre t ∧ t { nx := LQ, rt := Q } (startF N vs [some (.ref D)]) H ∧
        ∀ σ' H' s', Inv (ncx CX P w K mg base N F f A outer s H E) [] σ' H' s' → LQ σ' H' →
          _root_.PySem.wpAt (model P w) (A.deeper (envF F f s.heap.objs.size)) (.func F.body (envF F f s.heap.objs.size)) (exec last (envF F f s.heap.objs.size)) (fun fl s2 => fl = .next ∧ ∃ σ2 H2, Inv (ncx CX P w K mg base N F f A outer s H E) [] σ2 H2 s2 ∧ Q .non H2)
            (ncx CX P w K mg base N F f A outer s H E).xe s') :
    FnOk P w K mg base CX (k + 1) f (PySem.W.fnX F.name F.qual F.params F.body F.scope F.cl dV kV doc pm an (.ref F.c) ct) ps sp := by
  refine ⟨len, fun A outer s H args us vs Q E hr e0 hb r hsp => ?_⟩
  have hl := len _ _ _ _ hsp
  have KX : K.In s.heap := e0.mod.kin.keeps fun b o e => (e0.bs b o e).1
  have lim : s.heap.NoLimit := e0.mod.nolimit.keeps fun b o e => (e0.bs b o e).1
  have hnc : H cc = none := (e0.bs _ _ (e0.mod.kin _ _ hcc)).2
  have C : CellsAt F.cl ["__class__"] [some (.ref D)] s.heap H := by
    rw [hcl]
    exact cells_cc (KX _ _ hcc) hnc
  refine ks_codeAny_call_defAt (body := F.body) (binds := ps.zip us) hr.depth (KX _ _ lk) rfl lim (PySem.W.codeRec_of KX hcd) rfl hb S.nocell (fun ⟨n, _⟩ hy => S.par n (List.of_mem_zip hy).1) (fun h₁ hns kp => ?_) S.co S.gen S.kind
  have I : Inv (ncx CX P w K mg base N F f A outer s H E) [] (startF N vs [some (.ref D)]) H { s with heap := h₁, toks := s.toks + (ps.zip us).length } := inv_startN S hr.hd e0 hl r C hns kp
  obtain ⟨t, LQ, ht, hq, hlast⟩ := hbody A outer s H vs Q E (hr.deeper _) hsp
  have fin : ∀ {σ' : L2.St} {H' : Hp} {v : V} {u : Value} {s' : Shared}, Inv (ncx CX P w K mg base N F f A outer s H E) [] σ' H' s' → L2.RelV v u → Q v H' → CE outer P w H s Q u s' :=
    fun {σ' H' v u s'} J rv q => ⟨v, H', J.os, J.bare, J.base, J.hok, rv, q⟩
  have h1 := ht.run [] _ (startF N vs [some (.ref D)]) H { nx := LQ, rt := Q } I hq
  show _root_.PySem.wpAt _ _ (.func F.body (envF F f s.heap.objs.size)) (execs F.body (envF F f s.heap.objs.size)) _ _ _
  intro Γ p hc hΓ
  have h2 := wpAt_of_wpAny (c := .func F.body (envF F f s.heap.objs.size)) h1 Γ p hc hΓ
  rw [show execs F.body (envF F f s.heap.objs.size) = execs (pre ++ [last]) (envF F f s.heap.objs.size) by rw [hbd]]
  refine execs_app (Sem.wp_mono _ Γ _ (fun fl p' s' hs => ?_) (fun e p' s' hs => ?_) _ _ h2)
  · cases fl with
    | next =>
      obtain ⟨σ', H', J, q⟩ := hs
      rw [execs_cons, Sem.wp_bind']
      refine Sem.wp_mono _ Γ _ (fun fl p' s' hs => ?_) (fun e p' s' hs => ?_) _ _ (hlast σ' H' s' J q Γ p' hc hΓ)
      · obtain ⟨rfl, σ2, H2, J2, q2⟩ := hs
        show Sem.wp _ _ (execs [] _) _ _ _ _
        rw [execs_nil, Sem.wp_pure']
        exact fin (v := V.non) (u := Value.none) J2 rfl q2
      · exact hs
    | ret u =>
      obtain ⟨v, σ', H', J, rv, q⟩ := hs
      exact fin J rv q
    | brk =>
      obtain ⟨_, _, _, q⟩ := hs
      exact False.elim q
    | cont =>
      obtain ⟨_, _, _, q⟩ := hs
      exact False.elim q
  · exact hs
/-- what stands ahead of super().name(..) -/
def SupQ (K : PySem.W.Frag) (D g : Addr) (name : Str) (j : Nat) (ta : TA) (spg : Sp) (Q : VK) (E : XK) : L2.St → Hp → Prop := fun σ H => ∃ x C dx fs, σ[0]? = some (some (.ref x)) ∧ σ[j]? = some (some (.ref D)) ∧ H x = some (.ins C dx fs) ∧ SupC K C D g name ∧ ta σ H fun vs H1 => spg (.ref x :: vs) H1 (fun _ H2 => Q .non H2) E
/-- THE RULE: a def of a class D whose body ends in super().name(e, ..) -/
theorem fnS_of {pre : List Stmt} {g : Addr} {name : Str} {e : Expr} {es : List Expr} {ar : Arg} {p0 p1 apos pos spos : Pos} {pl : Addr → Sem Bool} {spg : Sp} (SK : SupK P K F cc D g name) (hbd : F.body = pre ++ [.Expr (superE name (e :: es) p0 p1 apos pos) spos])
    (lk : K.lookup f = some ⟨oc, od, .func (PySem.W.fnX F.name F.qual F.params F.body F.scope F.cl dV kV doc pm an (.ref F.c) ct), osl⟩) (hcd : PySem.W.codeIn K (.ref F.c) F.qual = true) (S : NScope N ps ["__class__"] F.scope)
    (hp : (F.params.posonlyargs ++ F.params.args).head? = some ar) (i0 : N[0]? = some ar.arg) (hv0 : F.scope.names.lookup ar.arg = some .local) (h0c : (ar.arg == ("__classdict__" : Str)) = false) (ic : N[ps.length]? = some ("__class__" : Str)) (hms : mg "super" = none)
    (G : FnR P w K mg base CX k g spg) (hxp : ∀ A outer s H E, Passes CX (ncx CX P w K mg base N F f A outer s H E) E)
    (len : ∀ vs H Q E, sp vs H Q E → vs.length = ps.length)
    (hbody : ∀ (A : Around) (outer : List Env) (s : Shared) (H : Hp) (vs : List V) (Q : VK) (E : XK), Room k (A.deeper (envF F f s.heap.objs.size)) → sp vs H Q E →
      ∃ (t : TS) (ta : TA), PSs (ncx CX P w K mg base N F f A outer s H E) pre t ∧ PA (ncx CX P w K mg base N F f A outer s H E) (e :: es) ta ∧ t { nx := SupQ K D g name ps.length ta spg Q E, rt := Q } (startF N vs [some (.ref D)]) H)
    (hst : ∀ L, starEach (e :: es) (envF F f L) = (false, eval e (envF F f L)) :: starEach es (envF F f L) := by intro L; rfl) (hpl : ∀ L, (backTo pos (starEach es (envF F f L))).any (·.1) = false := by intro L; rfl)
    (ht : ∀ L, eval (superE name (e :: es) p0 p1 apos pos) (envF F f L) = (do
      let ov ← attributeBase (.Call (.Name "super" p0) [] [] p1) name (envF F f L) (eval (.Call (.Name "super" p0) [] [] p1) (envF F f L))
      standAt apos.atName
      let (fn, first) ← holding [ov] (getMethod ov name (pl L))
      callWith pos fn first (backTo pos (starEach (e :: es) (envF F f L))) []) := by intro L; rfl)
    (hi : ∀ L, interactive (envF F f L) = false := by intro L; rfl) (hs : ∀ L, swapsWith (superE name (e :: es) p0 p1 apos pos) none spos.line (envF F f L) = pure false := by intro L; rfl) :
    FnOk P w K mg base CX (k + 1) f (PySem.W.fnX F.name F.qual F.params F.body F.scope F.cl dV kV doc pm an (.ref F.c) ct) ps sp := by
  obtain ⟨ccl, ccd, ccs, hcc⟩ := SK.cell
  refine fnL_of SK.cl hbd lk hcd S hcc len fun A outer s H vs Q E hr hsp => ?_
  obtain ⟨t, ta, h1, h2, h3⟩ := hbody A outer s H vs Q E hr hsp
  refine ⟨t, SupQ K D g name ps.length ta spg Q E, h1, h3, fun σ' H' s' I q => ?_⟩
  obtain ⟨x, C, dx, fs, e0, ej, hx, sc, hq⟩ := q
  have z := super_run (X := ncx CX P w K mg base N F f A outer s H E) (body := F.body) (Q := fun _ H2 => Q .non H2) SK rfl lk hp hms I i0 hv0 h0c ic ej e0 hx sc G hr (hxp A outer s H E) h2 hq (hst _) (hpl _) (ht _)
  exact ks_wpAt_Expr_any (ks_wpAt_mono z (fun v s2 ⟨y, H2, I2, _, q2⟩ => ⟨rfl, σ', H2, I2, q2⟩) fun _ _ y => y) (hi _) (hs _)
/-- .. in super().name() -/
theorem fnS0_of {pre : List Stmt} {g : Addr} {name : Str} {ar : Arg} {p0 p1 apos pos spos : Pos} {pl : Addr → Sem Bool} {spg : Sp} (SK : SupK P K F cc D g name) (hbd : F.body = pre ++ [.Expr (superE name [] p0 p1 apos pos) spos])
    (lk : K.lookup f = some ⟨oc, od, .func (PySem.W.fnX F.name F.qual F.params F.body F.scope F.cl dV kV doc pm an (.ref F.c) ct), osl⟩) (hcd : PySem.W.codeIn K (.ref F.c) F.qual = true) (S : NScope N ps ["__class__"] F.scope)
    (hp : (F.params.posonlyargs ++ F.params.args).head? = some ar) (i0 : N[0]? = some ar.arg) (hv0 : F.scope.names.lookup ar.arg = some .local) (h0c : (ar.arg == ("__classdict__" : Str)) = false) (ic : N[ps.length]? = some ("__class__" : Str)) (hms : mg "super" = none)
    (G : FnR P w K mg base CX k g spg) (hxp : ∀ A outer s H E, Passes CX (ncx CX P w K mg base N F f A outer s H E) E)
    (len : ∀ vs H Q E, sp vs H Q E → vs.length = ps.length)
    (hbody : ∀ (A : Around) (outer : List Env) (s : Shared) (H : Hp) (vs : List V) (Q : VK) (E : XK), Room k (A.deeper (envF F f s.heap.objs.size)) → sp vs H Q E →
      ∃ (t : TS), PSs (ncx CX P w K mg base N F f A outer s H E) pre t ∧ t { nx := SupQ K D g name ps.length tNil spg Q E, rt := Q } (startF N vs [some (.ref D)]) H)
    (ht : ∀ L, eval (superE name [] p0 p1 apos pos) (envF F f L) = (do
      let ov ← attributeBase (.Call (.Name "super" p0) [] [] p1) name (envF F f L) (eval (.Call (.Name "super" p0) [] [] p1) (envF F f L))
      standAt apos.atName
      let (fn, first) ← holding [ov] (getMethod ov name (pl L))
      callWith pos fn first (backTo pos (starEach [] (envF F f L))) []) := by intro L; rfl)
    (hi : ∀ L, interactive (envF F f L) = false := by intro L; rfl) (hs : ∀ L, swapsWith (superE name [] p0 p1 apos pos) none spos.line (envF F f L) = pure false := by intro L; rfl) :
    FnOk P w K mg base CX (k + 1) f (PySem.W.fnX F.name F.qual F.params F.body F.scope F.cl dV kV doc pm an (.ref F.c) ct) ps sp := by
  obtain ⟨ccl, ccd, ccs, hcc⟩ := SK.cell
  refine fnL_of SK.cl hbd lk hcd S hcc len fun A outer s H vs Q E hr hsp => ?_
  obtain ⟨t, h1, h3⟩ := hbody A outer s H vs Q E hr hsp
  refine ⟨t, SupQ K D g name ps.length tNil spg Q E, h1, h3, fun σ' H' s' I q => ?_⟩
  obtain ⟨x, C, dx, fs, e0, ej, hx, sc, hq⟩ := q
  have z := super_run0 (X := ncx CX P w K mg base N F f A outer s H E) (body := F.body) (Q := fun _ H2 => Q .non H2) SK rfl lk hp hms I i0 hv0 h0c ic ej e0 hx sc G hr (hxp A outer s H E) hq (ht _)
  exact ks_wpAt_Expr_any (ks_wpAt_mono z (fun v s2 ⟨y, H2, I2, _, q2⟩ => ⟨rfl, σ', H2, I2, q2⟩) fun _ _ y => y) (hi _) (hs _)
end
end Pl

set_option Elab.async false
set_option linter.all false
set_option maxRecDepth 100000
set_option maxHeartbeats 4000000
/-! Operators and methods of own classes, the class not fixed. -/
namespace Pl
open PySem PySem.Spec PyProof.Rows L2
/-- o.m(..): o an instance of any class that finds m in one of the defs fl -/
def tMethV {ι : Type} (K : PySem.W.Frag) (fl : ι → Addr) (m : Str) (sp : ι → Sp) (E : XK) (ta : TE) (t : TA) : TE := fun σ H Q => ta σ H fun x H1 => ∃ a C dx fs i, x = .ref a ∧ H1 a = some (.ins C dx fs) ∧ fs.lookup m = none ∧ Cls K C ∧ Meth K C m (fl i) ∧ t σ H1 fun vs H2 => sp i (x :: vs) H2 Q E
section
variable {X : Cx} {CX : CXT} {k : Nat} {fl : List Addr} {sp : Sp} {E : XK} {m : Str} {p pos apos : Pos} {e o : Expr} {es : List Expr} {ta : TE} {t : TA}
theorem pe_methV {ι : Type} {fl : ι → Addr} {sp : ι → Sp} {pl : Sem Bool} (he : PE X o ta) (F : ∀ i, FnR X.prog X.w X.K X.mg X.base CX k (fl i) (sp i)) (hr : Room k X.A) (hx : Passes CX X E) (ha : PA X (e :: es) t)
    (hst : starEach (e :: es) X.env = (false, eval e X.env) :: starEach es X.env := by rfl) (hpl : (backTo pos (starEach es X.env)).any (·.1) = false := by rfl)
    (ht : eval (.Call (.Attribute o m apos) (e :: es) [] pos) X.env = (do
      let ov ← eval o X.env
      standAt apos.atName
      let (f, first) ← holding [ov] (getMethod ov m pl)
      callWith pos f first (backTo pos (starEach (e :: es) X.env)) (backToKw pos (keywordEach [] X.env))) := by rfl) :
    PE X (.Call (.Attribute o m apos) (e :: es) [] pos) (tMethV X.K fl m sp E ta t) := by
  refine ⟨fun pins s σ H Q I h => ?_⟩
  refine PySem.W.methodCall_KW (pl := pl) (thn (he.run pins s σ H _ I h) fun u s1 ⟨x, H1, I1, rx, a, C, dx, fs, i, ex, ea, l, c, hm, q⟩ => ?_) ht
  subst ex
  obtain rfl : u = Value.ref a := rx
  refine getmeth_ok I1 ea c hm l ?_
  refine PySem.W.callWith_K (first := [.ref a]) (h₀ := X.base) I.ok.mod.kin hm.kp (thn (ha.run pos pins s1 σ H1 _ I1 q) fun us s2 ⟨vs, H2, I2, r, q2⟩ => ⟨I2.kIn, ?_⟩) hst hpl
  exact wpAny_call (run_fnR (us := .ref a :: us) (vs := .ref a :: vs) (F i) hr hx I2 (.cons rfl r) q2)
theorem pe_methV0 {ι : Type} {fl : ι → Addr} {sp : ι → Sp} {pl : Sem Bool} (he : PE X o ta) (F : ∀ i, FnR X.prog X.w X.K X.mg X.base CX k (fl i) (sp i)) (hr : Room k X.A) (hx : Passes CX X E)
    (ht : eval (.Call (.Attribute o m apos) [] [] pos) X.env = (do
      let ov ← eval o X.env
      standAt apos.atName
      let (f, first) ← holding [ov] (getMethod ov m pl)
      callWith pos f first (backTo pos (starEach [] X.env)) (backToKw pos (keywordEach [] X.env))) := by rfl) :
    PE X (.Call (.Attribute o m apos) [] [] pos) (tMethV X.K fl m sp E ta tNil) := by
  refine ⟨fun pins s σ H Q I h => ?_⟩
  refine PySem.W.methodCall_KW (pl := pl) (thn (he.run pins s σ H _ I h) fun u s1 ⟨x, H1, I1, rx, a, C, dx, fs, i, ex, ea, l, c, hm, q⟩ => ?_) ht
  subst ex
  obtain rfl : u = Value.ref a := rx
  refine getmeth_ok I1 ea c hm l ?_
  exact PySem.W.callWith_K0 (first := [.ref a]) I1.kIn hm.kp (wpAny_call (run_fnR (us := [.ref a]) (vs := [.ref a]) (F i) hr hx I1 (.cons rfl .nil) q))
/-- what a class must have for an operator with a number to its right -/
structure BinI (K : PySem.W.Frag) (C f : Addr) (op : Operator) : Prop where
  first : PySem.W.selfFirst K C = true
  at_ : PySem.W.findIn K (.ref C) (PySem.dunder op.info.2) = some (some (.ref f))
  fn : PySem.W.isFn K (.ref f) = true
  r : PySem.W.findIn K (.ref C) (dunderR op.info.2) = some none
  i1 : (PySem.W.findIn K (.type "int") (PySem.dunder op.info.2)).isSome = true
  i2 : (PySem.W.findIn K (.type "int") (dunderR op.info.2)).isSome = true
  sub : PySem.W.subIn K (.type "int") (.ref C) = some false
theorem op_binI {op : Operator} {f : Addr} (F : FnR X.prog X.w X.K X.mg X.base CX k f sp) (hr : Room k X.A) (hx : Passes CX X E) :
    OpR X (binaryOp op) (fun x y H Q => ∃ a C dx fs i, x = .ref a ∧ y = .int i ∧ H a = some (.ins C dx fs) ∧ BinI X.K C f op ∧ sp [x, y] H Q E) := by
  intro pins s σ H x y v u Q I rx ry h
  obtain ⟨a, C, dx, fs, i, rfl, rfl, ha, B, q⟩ := h
  cases (show v = Value.ref a from rx)
  obtain ⟨t, eu⟩ := (show ∃ t, u = Value.int i t from ry)
  subst eu
  obtain ⟨mA, O, _⟩ := ins_get I.hok ha
  obtain ⟨odx, J, _⟩ := O.look
  obtain ⟨m, hF⟩ := I.fr
  obtain ⟨fo, h1⟩ := Option.isSome_iff_exists.mp B.i1
  obtain ⟨ro, h2⟩ := Option.isSome_iff_exists.mp B.i2
  refine PySem.W.ksp_binT (T := "int") hF I.ok.mod.kin J rfl B.first B.at_ B.fn B.r (.inl rfl) h1 h2 B.sub ?_
  refine wpAny_mono (wpAny_call (run_fnR (us := [.ref a, .int i t]) (vs := [.ref a, .int i]) F hr hx I (.cons rfl (.cons ⟨t, rfl⟩ .nil)) q)) (fun w s' z => ?_) fun _ _ x => x
  obtain ⟨z', H', I', rz, qz⟩ := z
  exact SlX.cmpback rz ⟨z', H', I', rz, qz⟩
/-- .. with an instance of the same class to its right -/
structure BinS (K : PySem.W.Frag) (C f : Addr) (op : Operator) : Prop where
  first : PySem.W.selfFirst K C = true
  at_ : PySem.W.findIn K (.ref C) (PySem.dunder op.info.2) = some (some (.ref f))
  fn : PySem.W.isFn K (.ref f) = true
theorem op_binS {op : Operator} {f : Addr} (F : FnR X.prog X.w X.K X.mg X.base CX k f sp) (hr : Room k X.A) (hx : Passes CX X E) :
    OpR X (binaryOp op) (fun x y H Q => ∃ a C dx fs b dy gs, x = .ref a ∧ y = .ref b ∧ H a = some (.ins C dx fs) ∧ H b = some (.ins C dy gs) ∧ BinS X.K C f op ∧ sp [x, y] H Q E) := by
  intro pins s σ H x y v u Q I rx ry h
  obtain ⟨a, C, dx, fs, b, dy, gs, rfl, rfl, ha, hb, B, q⟩ := h
  cases (show v = Value.ref a from rx)
  cases (show u = Value.ref b from ry)
  obtain ⟨mA, O, _⟩ := ins_get I.hok ha
  obtain ⟨odx, J, _⟩ := O.look
  obtain ⟨mB, O', _⟩ := ins_get I.hok hb
  obtain ⟨ody, J', _⟩ := O'.look
  obtain ⟨m, hF⟩ := I.fr
  refine PySem.W.binop_K hF I.ok.mod.kin J J'.type B.first B.at_ B.fn ?_
  refine wpAny_mono (wpAny_call (run_fnR (us := [.ref a, .ref b]) (vs := [.ref a, .ref b]) F hr hx I (.cons rfl (.cons rfl .nil)) q)) (fun w s' z => ?_) fun _ _ x => x
  obtain ⟨z', H', I', rz, qz⟩ := z
  exact SlX.cmpback rz ⟨z', H', I', rz, qz⟩
/-- .. of a comparison, an instance to its right -/
structure CmpO (K : PySem.W.Frag) (C f : Addr) (op : CmpOp) : Prop where
  at_ : PySem.W.findIn K (.ref C) (cmpInfo op).2.1 = some (some (.ref f))
  fn : PySem.W.isFn K (.ref f) = true
theorem op_cmpO {op : CmpOp} {f : Addr} (hop : ∀ a b, compareOp op a b = richCompare op a b) (F : FnR X.prog X.w X.K X.mg X.base CX k f sp) (hr : Room k X.A) (hx : Passes CX X E) :
    OpR X (compareOp op) (fun x y H Q => ∃ a C dx fs b C' dy gs, x = .ref a ∧ y = .ref b ∧ H a = some (.ins C dx fs) ∧ H b = some (.ins C' dy gs) ∧ CmpO X.K C f op ∧ PySem.W.notFirst X.K C (.ref C') = true ∧ sp [x, y] H Q E) := by
  intro pins s σ H x y v u Q I rx ry h
  obtain ⟨a, C, dx, fs, b, C', dy, gs, rfl, rfl, ha, hb, B, hn, q⟩ := h
  cases (show v = Value.ref a from rx)
  cases (show u = Value.ref b from ry)
  obtain ⟨mA, O, _⟩ := ins_get I.hok ha
  obtain ⟨odx, J, _⟩ := O.look
  obtain ⟨mB, O', _⟩ := ins_get I.hok hb
  obtain ⟨ody, J', _⟩ := O'.look
  obtain ⟨m, hF⟩ := I.fr
  rw [hop]
  refine PySem.W.cmp_K (op := op) (tb := .ref C') hr.units0 hF I.ok.mod.kin J J'.type hn B.at_ B.fn ?_
  refine wpAny_mono (wpAny_call (run_fnR (us := [.ref a, .ref b]) (vs := [.ref a, .ref b]) F hr hx I (.cons rfl (.cons rfl .nil)) q)) (fun w s' z => ?_) fun _ _ x => x
  obtain ⟨z', H', I', rz, qz⟩ := z
  exact SlX.cmpback rz ⟨z', H', I', rz, qz⟩
/-- f(e, ..), f an instance of any class whose __call__ is at g -/
def tCallV (X : Cx) (g : Addr) (sp : Sp) (E : XK) (tf : TE) (t : TA) : TE := fun σ H Q => tf σ H fun y H1 => ∃ a, y = V.ref a ∧ t σ H1 fun vs H2 => ∃ C dx fs, H2 a = some (.ins C dx fs) ∧ StX.CallO X.K C g ∧ sp (V.ref a :: vs) H2 Q E
theorem pe_callV {g : Addr} {fe : Expr} {tf : TE} (hf : PE X fe tf) (F : FnR X.prog X.w X.K X.mg X.base CX k g sp) (hr : Room k X.A) (hx : Passes CX X E) (ha : PA X (e :: es) t)
    (ht : eval (.Call fe (e :: es) [] pos) X.env = (do callWith pos (← eval fe X.env) [] (backTo pos (starEach (e :: es) X.env)) (backToKw pos (keywordEach [] X.env))) := by rfl)
    (he : starEach (e :: es) X.env = (false, eval e X.env) :: starEach es X.env := by rfl) (hpl : (backTo pos (starEach es X.env)).any (·.1) = false := by rfl) : PE X (.Call fe (e :: es) [] pos) (tCallV X g sp E tf t) := by
  refine ⟨fun pins s σ H Q I h => ?_⟩
  refine Call_ (thn (hf.run pins s σ H _ I h) fun u s1 ⟨y, H1, I1, ry, a, ey, q⟩ => ?_) ht
  subst ey
  obtain rfl : u = Value.ref a := ry
  refine StX.callO_with (thn (ha.run pos pins s1 σ H1 _ I1 q) fun us s2 ⟨vs, H2, I2, r, C, dx, fs, hi, c, q2⟩ => ?_) he hpl
  obtain ⟨ox, od, J, hd⟩ := StX.insC_at I2 (.inr ⟨dx, fs, hi⟩)
  exact ⟨⟨C, ox, od, J, hd⟩, StX.run_callO c F hr hx I2 (.inr ⟨dx, fs, hi⟩) r q2⟩
end
end Pl

set_option Elab.async false
set_option linter.all false
set_option maxRecDepth 100000
set_option maxHeartbeats 4000000
/-! What the text has of methods; defs that end in super().__init__(..), in short. -/
namespace Pl
open PySem PySem.Spec PyProof.Rows L2 NdefX ClX
theorem toR {P : Program} {w : World} {K : PySem.W.Frag} {mg : Str → Option Value} {base : Heap} {CX : CXT} {k : Nat} {f : Addr} {fd : FuncData} {ps : List Str} {sp : Sp} (F : FnOk P w K mg base CX k f fd ps sp) (b : Binds K fd ps []) : FnR P w K mg base CX k f sp := by
  intro A outer s H us vs Q E hr e0 r h
  have KX : K.In s.heap := e0.mod.kin.keeps fun b o e => (e0.bs b o e).1
  have hl : (us ++ []).length = ps.length := by rw [List.append_nil, ← r.length]; exact F.len _ _ _ _ h
  have hb := b s us KX hl
  rw [List.append_nil] at hb
  exact F.run A outer s H ⟨us, []⟩ us vs Q E hr e0 hb r h
/-- a method of the text -/
structure Md (K : PySem.W.Frag) (x qual : Str) (st : Stmt) (ps : List Str) where
  f : Addr
  fd : FuncData
  F : Fun K x qual st f fd
  b : Binds K fd ps []
/-- .. with a star parameter -/
structure MdF (K : PySem.W.Frag) (x qual : Str) (st : Stmt) where
  f : Addr
  fd : FuncData
  F : Fun K x qual st f fd
/-- .. with the default None for its last parameter -/
structure MdD (K : PySem.W.Frag) (x qual : Str) (st : Stmt) (ps : List Str) where
  f : Addr
  fd : FuncData
  ex : ∃ (oc : Value) (od : Option Addr) (dV kV doc pm : Value) (an : Option Addr) (cdv ct : Value) (osl : Array (Option Value)),
    fd = PySem.W.fnOf x qual (defArgs st) (defBody st) (defScope st) dV kV doc pm an cdv ct ∧ K.lookup f = some ⟨oc, od, .func fd, osl⟩ ∧ PySem.W.codeIn K cdv qual = true
  b : Binds K fd ps []
theorem MdD.ok {P : Program} {w : World} {K : PySem.W.Frag} {mg : Str → Option Value} {base : Heap} {CX : CXT} {x qual : Str} {st : Stmt} {N ps : List Str} {k : Nat} {sp : Sp} (M : MdD K x qual st ps) (S : FnScope N ps (defScope st)) (len : ∀ vs H Q E, sp vs H Q E → vs.length = ps.length)
    (hbody : ∀ (cdv : Value) (A : Around) (outer : List Env) (s : Shared) (H : Hp) (vs : List V) (Q : VK) (E : XK), Room k (A.deeper (envOfC qual (defScope st) s.heap.objs.size M.f cdv)) → sp vs H Q E →
      ∃ t, PSs (cxOf CX P w K mg base N qual (defScope st) M.f cdv A outer s H E) (defBody st) t ∧ t { nx := fun _ H' => Q .non H', rt := Q } (start N vs) H) : FnOk P w K mg base CX (k + 1) M.f M.fd ps sp := by
  obtain ⟨f, fd, ⟨oc, od, dV, kV, doc, pm, an, cdv, ct, osl, rfl, lk, hcd⟩, b⟩ := M
  exact fn_of lk hcd S len fun A outer s H vs Q E hr hsp => hbody cdv A outer s H vs Q E hr hsp
/-- .. that closes over its class at D and says super().__init__(..), which is found at g -/
structure MdS (P : Program) (K : PySem.W.Frag) (x qual : Str) (st : Stmt) (D g : Addr) where
  f : Addr
  cc : Addr
  c : Addr
  lk : ∃ (oc : Value) (od : Option Addr) (kV doc pm : Value) (an : Option Addr) (ct : Value) (osl : Array (Option Value)),
    K.lookup f = some ⟨oc, od, .func (PySem.W.fnX x qual (defArgs st) (defBody st) (defScope st) [(("__class__" : Str), cc)] .none kV doc pm an (.ref c) ct), osl⟩
  hcd : PySem.W.codeIn K (.ref c) qual = true
  kp : PySem.W.keepIn K (.ref f) = true
  sk : SupK P K ⟨x, qual, defArgs st, defBody st, defScope st, [(("__class__" : Str), cc)], c⟩ cc D g "__init__"
abbrev MdS.nf {P : Program} {K : PySem.W.Frag} {x qual : Str} {st : Stmt} {D g : Addr} (M : MdS P K x qual st D g) : NF := ⟨x, qual, defArgs st, defBody st, defScope st, [(("__class__" : Str), M.cc)], M.c⟩
section
variable {P : Program} {w : World} {K : PySem.W.Frag} {mg : Str → Option Value} {base : Heap} {k : Nat} {x qual : Str} {st : Stmt} {D g : Addr} {N ps : List Str} {sp spg : Sp}
theorem MdS.ok (M : MdS P K x qual st D g) {pre : List Stmt} {e : Expr} {es : List Expr} {ar : Arg} {p0 p1 apos pos spos : Pos} {pl : Addr → Sem Bool} (hbd : defBody st = pre ++ [.Expr (superE "__init__" (e :: es) p0 p1 apos pos) spos])
    (S : NScope N ps ["__class__"] (defScope st)) (hp : ((defArgs st).posonlyargs ++ (defArgs st).args).head? = some ar) (i0 : N[0]? = some ar.arg) (hv0 : (defScope st).names.lookup ar.arg = some .local) (h0c : (ar.arg == ("__classdict__" : Str)) = false) (ic : N[ps.length]? = some ("__class__" : Str)) (hms : mg "super" = none)
    (hb : ∀ (kV doc pm : Value) (an : Option Addr) (ct : Value) (cc c : Addr) (us : List Value), us.length = ps.length → bindArgs (PySem.W.fnX x qual (defArgs st) (defBody st) (defScope st) [(("__class__" : Str), cc)] .none kV doc pm an (.ref c) ct) ⟨us, []⟩ = pure (ps.zip us))
    (G : FnR P w K mg base CX0 k g spg) (len : ∀ vs H Q E, sp vs H Q E → vs.length = ps.length)
    (hbody : ∀ (A : Around) (outer : List Env) (s : Shared) (H : Hp) (vs : List V) (Q : VK) (E : XK), Room k (A.deeper (envF M.nf M.f s.heap.objs.size)) → sp vs H Q E →
      ∃ (t : TS) (ta : TA), PSs (ncx CX0 P w K mg base N M.nf M.f A outer s H E) pre t ∧ PA (ncx CX0 P w K mg base N M.nf M.f A outer s H E) (e :: es) ta ∧ t { nx := SupQ K D g "__init__" ps.length ta spg Q E, rt := Q } (startF N vs [some (.ref D)]) H)
    (hst : ∀ L, starEach (e :: es) (envF M.nf M.f L) = (false, eval e (envF M.nf M.f L)) :: starEach es (envF M.nf M.f L) := by intro L; rfl) (hpl : ∀ L, (backTo pos (starEach es (envF M.nf M.f L))).any (·.1) = false := by intro L; rfl)
    (ht : ∀ L, eval (superE "__init__" (e :: es) p0 p1 apos pos) (envF M.nf M.f L) = (do
      let ov ← attributeBase (.Call (.Name "super" p0) [] [] p1) "__init__" (envF M.nf M.f L) (eval (.Call (.Name "super" p0) [] [] p1) (envF M.nf M.f L))
      standAt apos.atName
      let (fn, first) ← holding [ov] (getMethod ov "__init__" (pl L))
      callWith pos fn first (backTo pos (starEach (e :: es) (envF M.nf M.f L))) []) := by intro L; rfl)
    (hi : ∀ L, interactive (envF M.nf M.f L) = false := by intro L; rfl) (hs : ∀ L, swapsWith (superE "__init__" (e :: es) p0 p1 apos pos) none spos.line (envF M.nf M.f L) = pure false := by intro L; rfl) :
    FnR P w K mg base CX0 (k + 1) M.f sp := by
  obtain ⟨oc, od, kV, doc, pm, an, ct, osl, lk⟩ := M.lk
  refine toR (fnS_of (F := M.nf) M.sk hbd lk M.hcd S hp i0 hv0 h0c ic hms G (fun A outer s H E => fun _ _ _ _ _ _ _ z => z.elim) len hbody hst hpl ht hi hs) (.all fun us hl => hb _ _ _ _ _ _ _ us hl)
theorem MdS.ok0 (M : MdS P K x qual st D g) {pre : List Stmt} {ar : Arg} {p0 p1 apos pos spos : Pos} {pl : Addr → Sem Bool} (hbd : defBody st = pre ++ [.Expr (superE "__init__" [] p0 p1 apos pos) spos])
    (S : NScope N ps ["__class__"] (defScope st)) (hp : ((defArgs st).posonlyargs ++ (defArgs st).args).head? = some ar) (i0 : N[0]? = some ar.arg) (hv0 : (defScope st).names.lookup ar.arg = some .local) (h0c : (ar.arg == ("__classdict__" : Str)) = false) (ic : N[ps.length]? = some ("__class__" : Str)) (hms : mg "super" = none)
    (hb : ∀ (kV doc pm : Value) (an : Option Addr) (ct : Value) (cc c : Addr) (us : List Value), us.length = ps.length → bindArgs (PySem.W.fnX x qual (defArgs st) (defBody st) (defScope st) [(("__class__" : Str), cc)] .none kV doc pm an (.ref c) ct) ⟨us, []⟩ = pure (ps.zip us))
    (G : FnR P w K mg base CX0 k g spg) (len : ∀ vs H Q E, sp vs H Q E → vs.length = ps.length)
    (hbody : ∀ (A : Around) (outer : List Env) (s : Shared) (H : Hp) (vs : List V) (Q : VK) (E : XK), Room k (A.deeper (envF M.nf M.f s.heap.objs.size)) → sp vs H Q E →
      ∃ (t : TS), PSs (ncx CX0 P w K mg base N M.nf M.f A outer s H E) pre t ∧ t { nx := SupQ K D g "__init__" ps.length tNil spg Q E, rt := Q } (startF N vs [some (.ref D)]) H)
    (ht : ∀ L, eval (superE "__init__" [] p0 p1 apos pos) (envF M.nf M.f L) = (do
      let ov ← attributeBase (.Call (.Name "super" p0) [] [] p1) "__init__" (envF M.nf M.f L) (eval (.Call (.Name "super" p0) [] [] p1) (envF M.nf M.f L))
      standAt apos.atName
      let (fn, first) ← holding [ov] (getMethod ov "__init__" (pl L))
      callWith pos fn first (backTo pos (starEach [] (envF M.nf M.f L))) []) := by intro L; rfl)
    (hi : ∀ L, interactive (envF M.nf M.f L) = false := by intro L; rfl) (hs : ∀ L, swapsWith (superE "__init__" [] p0 p1 apos pos) none spos.line (envF M.nf M.f L) = pure false := by intro L; rfl) :
    FnR P w K mg base CX0 (k + 1) M.f sp := by
  obtain ⟨oc, od, kV, doc, pm, an, ct, osl, lk⟩ := M.lk
  exact toR (fnS0_of (F := M.nf) M.sk hbd lk M.hcd S hp i0 hv0 h0c ic hms G (fun A outer s H E => fun _ _ _ _ _ _ _ z => z.elim) len hbody ht hi hs) (.all fun us hl => hb _ _ _ _ _ _ _ us hl)
end
/-- what isinstance wants of a class of instances -/
structure OCls (K : PySem.W.Frag) (C : Addr) : Prop where
  cl : Cls K C
  ca : PySem.W.findIn K (.ref C) "__class__" = some (some (.builtin "object.__class__"))
  cn : PySem.W.specialIn K (.builtin "object.__class__") "__get__" = some (some (.builtin "getset_descriptor.__get__"))
  ct : PySem.W.takesIn K (.builtin "object.__class__") = some true
  cm : PySem.W.mroIn K C (.type "object") = some true
theorem OCls.ty {K : PySem.W.Frag} {C a dx : Addr} {H : Hp} {fs : List (Str × V)} (c : OCls K C) (e : H a = some (.ins C dx fs)) : TyX K H (.ref a) (.ref C) := .base (.ins e c.cl c.ca c.cn c.ct c.cm)
end Pl

set_option Elab.async false
set_option linter.all false
set_option maxRecDepth 100000
set_option maxHeartbeats 4000000
/-! Two own classes around an operator; o[i] of an own class; a def with super().__init__(..) called with keywords. -/
namespace Pl
open PySem PySem.Spec PyProof.Rows L2 NdefX ClX
section
variable {X : Cx} {CX : CXT} {k : Nat} {sp : Sp} {E : XK} {pins : List (Addr × Obj)} {σ : L2.St} {H : Hp} {s : Shared}
theorem run_fnR1 {f : Addr} {Q : VK} {us : List Value} {vs : List V} (F : FnR X.prog X.w X.K X.mg X.base CX k f sp) (hr : Room (k + 1) X.A) (hx : Passes CX X E) (I : Inv X pins σ H s) (r : Vals vs us) (h : sp vs H Q E) :
    codeAny (model X.prog X.w) X.A.in1 (.call (.ref f) ⟨us, []⟩) (fun r s' => match r with | .ok (.ret v) => EP X pins σ Q v s' | .ok _ => False | .error e => X.xe e s') s := by
  refine codeAny_mono (F X.A.in1 X.stack s H us vs Q E hr.in1 I.env0.in1 r h) fun r s' hq => ?_
  cases r with
  | error e => exact hx pins σ H s e s' I hq
  | ok fl =>
    cases fl with
    | ret u => exact I.after hq
    | next => exact False.elim hq
    | brk => exact False.elim hq
    | cont => exact False.elim hq
/-- what a class must have for o[i] -/
structure GetO (K : PySem.W.Frag) (C f : Addr) : Prop where
  at_ : PySem.W.findIn K (.ref C) "__getitem__" = some (some (.ref f))
  fi : PySem.W.fnIn K f = true
  fn : PySem.W.isFn K (.ref f) = true
theorem sub_K2 {prog : Program} {w : World} {A : Around} {E : Value → Shared → Prop} {s : Shared} {K : PySem.W.Frag} {x C L f : Addr} {h₀ : Heap} {m : Str → Option Value} {ox : Obj} {od : Option Obj} {value slice : Expr} {i : Value} {Q : Value → Shared → Prop} (F : PyProof.Rows.Fr h₀ L s.heap m) (X₀ : K.In h₀) (I : PySem.W.InstAt s.heap x ox C od) (hs : PySem.W.findIn K (.ref C) "__getitem__" = some (some (.ref f))) (hf : PySem.W.fnIn K f = true) (hfn : PySem.W.isFn K (.ref f) = true)
    (h : wpAny (model prog w) A.in1 (call (.ref f) [.ref x, i]) Q E s)
    (hsl : subscripted slice true (.ref x) i = runValue (.builtin "lifetime.subscript" ⟨[.ref x, i], []⟩)) :
    wpAny (model prog w) A (subscriptTail value slice (.ref x) i) Q E s := PySem.W.sub_K F X₀ I hs hf hfn h hsl
def tGetO (X : Cx) (f : Addr) (sp : Sp) (E : XK) : R2 := fun x y H Q => ∃ a C dx fs, x = .ref a ∧ H a = some (.ins C dx fs) ∧ GetO X.K C f ∧ sp [x, y] H Q E
theorem pe_getO {f : Addr} {a b : Expr} {ta tb : TE} {pos : Pos} (F : FnR X.prog X.w X.K X.mg X.base CX k f sp) (hr : Room (k + 1) X.A) (hx : Passes CX X E) (ha : PE X a ta) (hb : PE X b tb)
    (hsl : ∀ x i, subscripted b true (.ref x) i = runValue (.builtin "lifetime.subscript" ⟨[.ref x, i], []⟩) := by intro x i; with_unfolding_all rfl) : PE X (.Subscript a b pos) (tOp (tGetO X f sp E) ta tb) := by
  refine ⟨fun pins s σ H Q I h => ?_⟩
  refine Subscript_ (binT ha hb I h fun v u s2 x y H2 I2 rx ry q => ?_)
  obtain ⟨p, C, dx, fs, rfl, hp, B, q⟩ := q
  cases (show v = Value.ref p from rx)
  obtain ⟨mA, O, _⟩ := ins_get I2.hok hp
  obtain ⟨odx, J, _⟩ := O.look
  obtain ⟨m, hF⟩ := I2.fr
  refine sub_K2 hF I2.ok.mod.kin J B.at_ B.fi B.fn ?_ (hsl _ _)
  exact wpAny_call (run_fnR1 (us := [.ref p, u]) (vs := [.ref p, y]) F hr hx I2 (.cons rfl (.cons ry .nil)) q)
/-- what two classes must have for an operator between their instances -/
structure BinC (K : PySem.W.Frag) (C f : Addr) (op : Operator) : Prop where
  first : PySem.W.selfFirst K C = true
  at_ : PySem.W.findIn K (.ref C) (PySem.dunder op.info.2) = some (some (.ref f))
  fn : PySem.W.isFn K (.ref f) = true
  r : PySem.W.findIn K (.ref C) (dunderR op.info.2) = some none
theorem ksp_binO {prog : Program} {w : World} {A : Around} {E : Value → Shared → Prop} {s : Shared} {K : PySem.W.Frag} {x y C C' L f g : Addr} {h₀ : Heap} {m : Str → Option Value} {ox oy : Obj} {od od' : Option Obj} {op : Operator} {Q : Value → Shared → Prop} (F : PyProof.Rows.Fr h₀ L s.heap m) (X₀ : K.In h₀) (I : PySem.W.InstAt s.heap x ox C od) (J : PySem.W.InstAt s.heap y oy C' od')
    (B : BinC K C f op) (B' : BinC K C' g op) (hsub : C = C' ∨ PySem.W.subIn K (.ref C') (.ref C) = some false)
    (h : wpAny (model prog w) A (call (.ref f) [.ref x, .ref y]) (PySem.W.CmpBack Q) E s) : wpAny (model prog w) A (binaryOp op (.ref x) (.ref y)) Q E s := by
  by_cases hCC : C = C'
  · subst hCC
    exact PySem.W.binop_K F X₀ I J.type B.first B.at_ B.fn h
  · have hsub := hsub.resolve_left hCC
    have X := X₀.keeps F.keep
    obtain ⟨cd, rest, hcd, hm⟩ := PySem.W.ksp_first B.first
    obtain ⟨cd', rest', hcd', hm'⟩ := PySem.W.ksp_first B'.first
    have hs := B.at_
    have hr := B.r
    have hs' := B'.at_
    have hr' := B'.r
    rcases hi : op.info with ⟨sym, nm'⟩
    rw [hi] at hs hr hs' hr'
    dsimp only at hs hr hs' hr'
    have one := PySem.W.ksp_try X I hs B.fn h
    obtain ⟨hh, gg, d, tt, os⟩ := s
    have L1 : PySem.W.Looks (model prog w) hh (typeOf (.ref x)) (.ref C) := I.type
    have L2 : PySem.W.Looks (model prog w) hh (typeOf (.ref y)) (.ref C') := J.type
    have L3 : PySem.W.Looks (model prog w) hh (fillsNumberSlot (.ref C) nm') true := PySem.W.fills_K X hcd hm hs
    have L4 : PySem.W.Looks (model prog w) hh (fillsNumberSlot (.ref C') nm') true := PySem.W.fills_K X hcd' hm' hs'
    have L5 : PySem.W.Looks (model prog w) hh (isSubtype (.ref C') (.ref C)) false := PySem.W.looks_subIn X hsub
    have L6 : PySem.W.Looks (model prog w) hh (numberSlotInPython (.ref C) nm') true := PySem.W.ksp_inPy X hs hr (.inl rfl)
    have L7 : PySem.W.Looks (model prog w) hh (numberSlotInPython (.ref C') nm') true := PySem.W.ksp_inPy X hs' hr' (.inl rfl)
    have hne : (Value.ref C == Value.ref C') = false := Bool.eq_false_iff.mpr fun q => by cases beq_iff_eq.mp q; exact hCC rfl
    simp only [binaryOp, hi]
    refine wpAny_holding (wpAny_bind ?_)
    unfold binaryOp1
    refine wpAny_bind (L1.at (wpAny_bind (L2.at (wpAny_bind (L3.at ?_)))))
    simp only [hne, Bool.false_eq_true, if_false]
    ksp_lk
    refine wpAny_mono one (fun r s' hr' => ?_) fun _ _ e => e
    obtain ⟨v, rfl, hq⟩ := hr'
    ksp_lk
    exact hq
theorem op_binO {op : Operator} {f : Addr} (F : FnR X.prog X.w X.K X.mg X.base CX k f sp) (hr : Room k X.A) (hx : Passes CX X E) :
    OpR X (binaryOp op) (fun x y H Q => ∃ a C dx fs b C' dy gs, x = .ref a ∧ y = .ref b ∧ H a = some (.ins C dx fs) ∧ H b = some (.ins C' dy gs) ∧ BinC X.K C f op ∧ BinC X.K C' f op ∧ (C = C' ∨ PySem.W.subIn X.K (.ref C') (.ref C) = some false) ∧ sp [x, y] H Q E) := by
  intro pins s σ H x y v u Q I rx ry h
  obtain ⟨a, C, dx, fs, b, C', dy, gs, rfl, rfl, ha, hb, B, B', hsub, q⟩ := h
  cases (show v = Value.ref a from rx)
  cases (show u = Value.ref b from ry)
  obtain ⟨mA, O, _⟩ := ins_get I.hok ha
  obtain ⟨odx, J, _⟩ := O.look
  obtain ⟨mB, O', _⟩ := ins_get I.hok hb
  obtain ⟨ody, J', _⟩ := O'.look
  obtain ⟨m, hF⟩ := I.fr
  refine ksp_binO hF I.ok.mod.kin J J' B B' hsub ?_
  refine wpAny_mono (wpAny_call (run_fnR (us := [.ref a, .ref b]) (vs := [.ref a, .ref b]) F hr hx I (.cons rfl (.cons rfl .nil)) q)) (fun w s' z => ?_) fun _ _ x => x
  obtain ⟨z', H', I', rz, qz⟩ := z
  exact SlX.cmpback rz ⟨z', H', I', rz, qz⟩
end
section
variable {P : Program} {w : World} {K : PySem.W.Frag} {mg : Str → Option Value} {base : Heap} {k : Nat} {x qual : Str} {st : Stmt} {D g : Addr} {N ps : List Str} {sp spg : Sp}
/-- a def with super().__init__(..) at its end whose last parameters are keywords -/
theorem MdS.okK (M : MdS P K x qual st D g) {pre : List Stmt} {e : Expr} {es : List Expr} {ar : Arg} {p0 p1 apos pos spos : Pos} {pl : Addr → Sem Bool} (n : Nat) (ks : List Str) (hbd : defBody st = pre ++ [.Expr (superE "__init__" (e :: es) p0 p1 apos pos) spos])
    (S : NScope N ps ["__class__"] (defScope st)) (hp : ((defArgs st).posonlyargs ++ (defArgs st).args).head? = some ar) (i0 : N[0]? = some ar.arg) (hv0 : (defScope st).names.lookup ar.arg = some .local) (h0c : (ar.arg == ("__classdict__" : Str)) = false) (ic : N[ps.length]? = some ("__class__" : Str)) (hms : mg "super" = none)
    (hb : ∀ (kV doc pm : Value) (an : Option Addr) (ct : Value) (cc c : Addr) (us ws : List Value), us.length = n → ws.length = ks.length → bindArgs (PySem.W.fnX x qual (defArgs st) (defBody st) (defScope st) [(("__class__" : Str), cc)] .none kV doc pm an (.ref c) ct) ⟨us, ks.zip ws⟩ = pure (ps.zip (us ++ ws)))
    (G : FnR P w K mg base CX0 k g spg) (len : ∀ vs H Q E, sp vs H Q E → vs.length = ps.length)
    (hbody : ∀ (A : Around) (outer : List Env) (s : Shared) (H : Hp) (vs : List V) (Q : VK) (E : XK), Room k (A.deeper (envF M.nf M.f s.heap.objs.size)) → sp vs H Q E →
      ∃ (t : TS) (ta : TA), PSs (ncx CX0 P w K mg base N M.nf M.f A outer s H E) pre t ∧ PA (ncx CX0 P w K mg base N M.nf M.f A outer s H E) (e :: es) ta ∧ t { nx := SupQ K D g "__init__" ps.length ta spg Q E, rt := Q } (startF N vs [some (.ref D)]) H)
    (hst : ∀ L, starEach (e :: es) (envF M.nf M.f L) = (false, eval e (envF M.nf M.f L)) :: starEach es (envF M.nf M.f L) := by intro L; rfl) (hpl : ∀ L, (backTo pos (starEach es (envF M.nf M.f L))).any (·.1) = false := by intro L; rfl)
    (ht : ∀ L, eval (superE "__init__" (e :: es) p0 p1 apos pos) (envF M.nf M.f L) = (do
      let ov ← attributeBase (.Call (.Name "super" p0) [] [] p1) "__init__" (envF M.nf M.f L) (eval (.Call (.Name "super" p0) [] [] p1) (envF M.nf M.f L))
      standAt apos.atName
      let (fn, first) ← holding [ov] (getMethod ov "__init__" (pl L))
      callWith pos fn first (backTo pos (starEach (e :: es) (envF M.nf M.f L))) []) := by intro L; rfl)
    (hi : ∀ L, interactive (envF M.nf M.f L) = false := by intro L; rfl) (hs : ∀ L, swapsWith (superE "__init__" (e :: es) p0 p1 apos pos) none spos.line (envF M.nf M.f L) = pure false := by intro L; rfl) :
    ∃ fd, FnOk P w K mg base CX0 (k + 1) M.f fd ps sp ∧ KBn K fd ps n ks (fun us ws => us ++ ws) (fun vs zs => vs ++ zs) := by
  obtain ⟨oc, od, kV, doc, pm, an, ct, osl, lk⟩ := M.lk
  refine ⟨_, fnS_of (F := M.nf) M.sk hbd lk M.hcd S hp i0 hv0 h0c ic hms G (fun A outer s H E => fun _ _ _ _ _ _ _ z => z.elim) len hbody hst hpl ht hi hs, ?_⟩
  exact ⟨fun s us ws _ l1 l2 => .of_eq (hb _ _ _ _ _ _ _ us ws l1 l2), fun r1 r2 => r1.append r2⟩
end
end Pl

set_option Elab.async false
set_option linter.all false
set_option maxRecDepth 100000
set_option maxHeartbeats 4000000
/-! What the top leaves, seen by a Hook of one's own: checks of the written part, and the defs as they stand. -/
namespace Pl
open PySem PySem.Spec PyProof.Rows L2 NdefX ClX
abbrev FnO : Type := Option (Str × Str × Arguments × FuncBody × Scope × Addr × List Str × Addr)
def fnOb (K : PySem.W.Frag) (p : Str × Option Str) : FnO := match K.lookup (He.fAd K p) with
  | some ⟨_, _, .func fd, _⟩ => some (fd.name, fd.qualname, fd.params, fd.body, fd.scope, fd.globals, fd.closure.map (·.1), fd.builtins)
  | _ => none
/-- one def: where it stands, its name, qualified name, its statement, what it closes over -/
structure ObD where
  at_ : Str × Option Str
  name : Str
  qual : Str
  st : Stmt
  cl : List Str := []
def ObD.val (d : ObD) : FnO := some (d.name, d.qual, defArgs d.st, .stmts (defBody d.st), defScope d.st, mainGlobals, d.cl, builtinsNs)
abbrev AlP : Type := Bool × List FnO
def obsP (cks : List (PySem.W.Frag → Bool)) (fn : List ObD) (K : PySem.W.Frag) : AlP := (cks.all fun f => f K, fn.map fun d => fnOb K d.at_)
def valP (fn : List ObD) : AlP := (true, fn.map ObD.val)
def SaysP (cks : List (PySem.W.Frag → Bool)) (fn : List ObD) (K : PySem.W.Frag) : Prop := obsP cks fn K = valP fn
def asP (g : Addr → Option Obj) : Nat → List Addr
  | 0 => [mainGlobals, cStatics]
  | n + 1 => He.growD g (asP g n)
def obsPG (n : List Addr) (cks : List (PySem.W.Frag → Bool)) (fn : List ObD) (g : Addr → Option Obj) : AlP := obsP cks fn (He.frG g n)
def hookP (n : List Addr) (cks : List (PySem.W.Frag → Bool)) (fn : List ObD) : PySem.W.Hook where
  α := AlP
  obs := fun s => obsPG n cks fn s.heap.get?
  val := fun _ => valP fn
  says := fun _ h => ∃ K : PySem.W.Frag, K.In h ∧ SaysP cks fn K
  of := fun _ _ e => ⟨_, He.frG_in, e⟩
  keeps := fun _ _ _ ⟨K, hK, c⟩ k => ⟨K, PySem.W.Frag.In.keeps hK k, c⟩
theorem obsPG_eq {n : List Addr} {cks : List (PySem.W.Frag → Bool)} {fn : List ObD} {g : Addr → Option Obj} {s : Shared} (h : ∀ a, g a = s.heap.get? a) : obsPG n cks fn g = (hookP n cks fn).obs s := by
  have e : g = s.heap.get? := funext h
  rw [e] <;> rfl
section
variable {cks : List (PySem.W.Frag → Bool)} {fn : List ObD} {K : PySem.W.Frag}
theorem SaysP.ck (c : SaysP cks fn K) (i : Nat) {f : PySem.W.Frag → Bool} (h : cks[i]? = some f) : f K = true := by
  have c1 : (cks.all fun f => f K) = true := congrArg (fun z : AlP => z.1) c
  exact List.all_eq_true.mp c1 f (List.mem_of_getElem? h)
theorem SaysP.de (c : SaysP cks fn K) (i : Nat) {d : ObD} (h : fn[i]? = some d) : fnOb K d.at_ = d.val := by
  have e : fn.map (fun d => fnOb K d.at_) = fn.map ObD.val := congrArg (fun z : AlP => z.2) c
  have e2 : (fn.map fun d => fnOb K d.at_)[i]? = (fn.map ObD.val)[i]? := by rw [e]
  rw [List.getElem?_map, List.getElem?_map, h] at e2
  exact Option.some.inj e2
/-- a plain def -/
def plB (at_ : Str × Option Str) (qual : Str) : PySem.W.Frag → Bool := fun K => PySem.W.keepIn K (.ref (He.fAd K at_)) && (match K.lookup (He.fAd K at_) with
  | some ⟨_, _, .func fd, _⟩ => PySem.W.codeIn K fd.code qual && (match fd.defaults with
    | .none => true
    | _ => false)
  | _ => false)
theorem ob_fun {d : ObD} (e : fnOb K d.at_ = d.val) (hc : d.cl = []) (c : plB d.at_ d.qual K = true) : ∃ fd, Fun K d.name d.qual d.st (He.fAd K d.at_) fd := by
  obtain ⟨kp, c2⟩ := He.ba c
  unfold fnOb at e
  cases q : K.lookup (He.fAd K d.at_) with
  | none => rw [q] at c2; cases c2
  | some o =>
    obtain ⟨oc, od, dt, osl⟩ := o
    rw [q] at c2 e
    cases dt with
    | func fd =>
      obtain ⟨n1, n2, n3, n4, n5, n6, n7, n8, n9, n10, n11, n12, n13, n14, n15⟩ := fd
      have e2 : (some (n1, n2, n3, n4, n5, n6, n7.map (·.1), n15) : FnO) = some (d.name, d.qual, defArgs d.st, .stmts (defBody d.st), defScope d.st, mainGlobals, d.cl, builtinsNs) := e
      simp only [Option.some.injEq, Prod.mk.injEq] at e2
      obtain ⟨h1, h2, h3, h4, h5, h6, h7, h8⟩ := e2
      rw [hc] at h7
      have h7' : n7 = [] := List.map_eq_nil_iff.mp h7
      subst h1 h2 h3 h4 h5 h6 h7' h8
      obtain ⟨k1, k2⟩ := He.ba (by exact c2)
      cases n8 with
      | none => exact ⟨_, fun_mk q k1 kp⟩
      | _ => cases k2
    | _ => cases c2
/-- a def with the default None for its last parameter -/
def dfB (at_ : Str × Option Str) (qual : Str) : PySem.W.Frag → Bool := fun K => PySem.W.keepIn K (.ref (He.fAd K at_)) && (match K.lookup (He.fAd K at_) with
  | some ⟨_, _, .func fd, _⟩ => PySem.W.codeIn K fd.code qual && (He.dflB K fd.defaults [.non] && He.kwdB K fd.kwdefaults [])
  | _ => false)
theorem ob_dfl {d : ObD} (e : fnOb K d.at_ = d.val) (hc : d.cl = []) (c : dfB d.at_ d.qual K = true) : ∃ fd, FunD K d.name d.qual (defArgs d.st) (defBody d.st) (defScope d.st) [.non] [] (He.fAd K d.at_) fd := by
  obtain ⟨kp, c2⟩ := He.ba c
  unfold fnOb at e
  cases q : K.lookup (He.fAd K d.at_) with
  | none => rw [q] at c2; cases c2
  | some o =>
    obtain ⟨oc, od, dt, osl⟩ := o
    rw [q] at c2 e
    cases dt with
    | func fd =>
      obtain ⟨n1, n2, n3, n4, n5, n6, n7, n8, n9, n10, n11, n12, n13, n14, n15⟩ := fd
      have e2 : (some (n1, n2, n3, n4, n5, n6, n7.map (·.1), n15) : FnO) = some (d.name, d.qual, defArgs d.st, .stmts (defBody d.st), defScope d.st, mainGlobals, d.cl, builtinsNs) := e
      simp only [Option.some.injEq, Prod.mk.injEq] at e2
      obtain ⟨h1, h2, h3, h4, h5, h6, h7, h8⟩ := e2
      rw [hc] at h7
      have h7' : n7 = [] := List.map_eq_nil_iff.mp h7
      subst h1 h2 h3 h4 h5 h6 h7' h8
      have c3 : (PySem.W.codeIn K n13 d.qual && (He.dflB K n8 [.non] && He.kwdB K n9 [])) = true := c2
      obtain ⟨k1, k2⟩ := He.ba c3
      obtain ⟨k3, k4⟩ := He.ba k2
      exact ⟨_, ⟨oc, od, n8, n9, n10, n11, n12, n13, n14, osl, rfl, q, k1, He.dflB_ok k3, He.kwdB_ok k4⟩, kp⟩
    | _ => cases c2
/-- a def that closes over its class D -/
def supB (at_ : Str × Option Str) (qual : Str) (D : Str) (file : Str) : PySem.W.Frag → Bool := fun K => PySem.W.keepIn K (.ref (He.fAd K at_)) && (match K.lookup (He.fAd K at_) with
  | some ⟨_, _, .func fd, _⟩ => (match fd.closure, fd.code, fd.defaults with
    | [(_, cc)], .ref c, .none => PySem.W.codeIn K (.ref c) qual && ((match K.lookup cc with
        | some ⟨_, _, .cell (some v), _⟩ => decide (v = .ref (He.ga K D))
        | _ => false) && (match K.lookup c with
        | some ⟨_, _, .fields vs, _⟩ => (match (vs[2]? : Option Value) with
          | some (.str z _) => decide (z = file)
          | _ => false)
        | _ => false))
    | _, _, _ => false)
  | _ => false)
theorem ob_sup {d : ObD} {D file : Str} (e : fnOb K d.at_ = d.val) (hc : d.cl = [("__class__" : Str)]) (c : supB d.at_ d.qual D file K = true) : ∃ cc c0 : Addr,
    (∃ (oc : Value) (od : Option Addr) (kV doc pm : Value) (an : Option Addr) (ct : Value) (osl : Array (Option Value)), K.lookup (He.fAd K d.at_) = some ⟨oc, od, .func (PySem.W.fnX d.name d.qual (defArgs d.st) (defBody d.st) (defScope d.st) [(("__class__" : Str), cc)] .none kV doc pm an (.ref c0) ct), osl⟩) ∧
    PySem.W.codeIn K (.ref c0) d.qual = true ∧ PySem.W.keepIn K (.ref (He.fAd K d.at_)) = true ∧ (∃ ccl ccd ccs, K.lookup cc = some ⟨ccl, ccd, .cell (some (.ref (He.ga K D))), ccs⟩) ∧
    ∃ ccl cdd vs ccs tf, K.lookup c0 = some ⟨ccl, cdd, .fields vs, ccs⟩ ∧ vs[2]? = some (.str file tf) := by
  obtain ⟨kp, c2⟩ := He.ba c
  unfold fnOb at e
  cases q : K.lookup (He.fAd K d.at_) with
  | none => rw [q] at c2; cases c2
  | some o =>
    obtain ⟨oc, od, dt, osl⟩ := o
    rw [q] at c2 e
    cases dt with
    | func fd =>
      obtain ⟨n1, n2, n3, n4, n5, n6, n7, n8, n9, n10, n11, n12, n13, n14, n15⟩ := fd
      have e2 : (some (n1, n2, n3, n4, n5, n6, n7.map (·.1), n15) : FnO) = some (d.name, d.qual, defArgs d.st, .stmts (defBody d.st), defScope d.st, mainGlobals, d.cl, builtinsNs) := e
      simp only [Option.some.injEq, Prod.mk.injEq] at e2
      obtain ⟨h1, h2, h3, h4, h5, h6, h7, h8⟩ := e2
      rw [hc] at h7
      subst h1 h2 h3 h4 h5 h6 h8
      match n7, h7, c2 with
      | [(y, cc)], h7, c2 =>
        have hy : y = ("__class__" : Str) := (List.cons.inj h7).1
        subst hy
        cases n13 with
        | ref c0 =>
          cases n8 with
          | none =>
            obtain ⟨k1, k2⟩ := He.ba (show (PySem.W.codeIn K (.ref c0) d.qual && ((match K.lookup cc with
                | some ⟨_, _, .cell (some v), _⟩ => decide (v = .ref (He.ga K D))
                | _ => false) && (match K.lookup c0 with
                | some ⟨_, _, .fields vs, _⟩ => (match (vs[2]? : Option Value) with
                  | some (.str z _) => decide (z = file)
                  | _ => false)
                | _ => false))) = true from c2)
            obtain ⟨k3, k4⟩ := He.ba k2
            refine ⟨cc, c0, ⟨oc, od, n9, n10, n11, n12, n14, osl, rfl⟩, k1, kp, ?_, ?_⟩
            · cases z : K.lookup cc with
              | none => rw [z] at k3; cases k3
              | some o =>
                obtain ⟨a1, a2, a3, a4⟩ := o
                rw [z] at k3
                cases a3 with
                | cell v =>
                  cases v with
                  | none => cases k3
                  | some v =>
                    have : v = .ref (He.ga K D) := of_decide_eq_true k3
                    subst this
                    exact ⟨_, _, _, rfl⟩
                | _ => cases k3
            · cases z : K.lookup c0 with
              | none => rw [z] at k4; cases k4
              | some o =>
                obtain ⟨a1, a2, a3, a4⟩ := o
                rw [z] at k4
                cases a3 with
                | fields vs =>
                  have k5 : (match (vs[2]? : Option Value) with | some (.str z _) => decide (z = file) | _ => false) = true := k4
                  cases y : vs[2]? with
                  | none => rw [y] at k5; cases k5
                  | some v =>
                    rw [y] at k5
                    cases v with
                    | str z t =>
                      have : z = file := of_decide_eq_true k5
                      subst this
                      exact ⟨_, _, _, _, t, rfl, y⟩
                    | _ => cases k5
                | _ => cases k4
          | _ => cases c2
        | _ => cases n8 <;> cases c2
      | [], h7, c2 => cases h7
      | _ :: _ :: _, h7, c2 => cases (List.cons.inj h7).2
    | _ => cases c2
theorem SaysP.ck2 {css : List (List (PySem.W.Frag → Bool))} (c : SaysP css.flatten fn K) (p i : Nat) {l : List (PySem.W.Frag → Bool)} {f : PySem.W.Frag → Bool} (h1 : css[p]? = some l) (h2 : l[i]? = some f) : f K = true := by
  have c1 : (css.flatten.all fun f => f K) = true := congrArg (fun z : AlP => z.1) c
  exact List.all_eq_true.mp c1 f (List.mem_flatten.mpr ⟨l, List.mem_of_getElem? h1, List.mem_of_getElem? h2⟩)
/-- the run's parts, joined -/
theorem run_join {σ β : Type} {o : Option σ} {lk : σ → Bool} {se : σ → β} {gd : β} {kf : σ → PySem.W.Frag} {css : List (List (PySem.W.Frag → Bool))} (h0 : o.map (fun s => (lk s, se s)) = some (true, gd)) (hf : o.map (fun s => fn.map fun d => fnOb (kf s) d.at_) = some (fn.map ObD.val))
    (hc : ∀ c ∈ css, o.map (fun s => c.all fun f => f (kf s)) = some true) : o.map (fun s => (lk s, se s, obsP css.flatten fn (kf s))) = some (true, gd, valP fn) := by
  cases o with
  | none => cases h0
  | some s =>
    have e0 := Option.some.inj h0
    have ef : (fn.map fun d => fnOb (kf s) d.at_) = fn.map ObD.val := Option.some.inj hf
    have ec : (css.flatten.all fun f => f (kf s)) = true := by
      refine List.all_eq_true.mpr fun f hm => ?_
      obtain ⟨l, h1, h2⟩ := List.mem_flatten.mp hm
      exact List.all_eq_true.mp (Option.some.inj (hc l h1)) f h2
    have e1 := congrArg Prod.fst e0
    have e2 := congrArg Prod.snd e0
    simp only at e1 e2
    show some (lk s, se s, obsP css.flatten fn (kf s)) = _
    unfold obsP valP
    rw [e1, e2, ef, ec]
/-! facts with a value -/
def eqB (a b : Option Bool) : Bool := decide (a = b)
theorem eqB_ok {a b : Option Bool} (h : eqB a b = true) : a = b := of_decide_eq_true h
end
end Pl

namespace Pl
open PySem L2
def topS (i : Nat) : Stmt := PySem.Challenge.pw_pastlooks_k24_whole_moved_and_mirrored.main.body.getD i (.Pass ⟨0, 0, 0, 0⟩)
abbrev s_is_integer : Stmt := topS 13
abbrev N_is_integer : List Str := ["value"]
theorem sc_is_integer : FnScope N_is_integer ["value"] (defScope s_is_integer) := ⟨rfl, rfl, rfl, by decide +kernel, rfl, by decide +kernel, by decide +kernel⟩
abbrev s_is_from_zero : Stmt := topS 14
abbrev N_is_from_zero : List Str := ["value"]
theorem sc_is_from_zero : FnScope N_is_from_zero ["value"] (defScope s_is_from_zero) := ⟨rfl, rfl, rfl, by decide +kernel, rfl, by decide +kernel, by decide +kernel⟩
abbrev s_is_name : Stmt := topS 15
abbrev N_is_name : List Str := ["name", "letter"]
theorem sc_is_name : FnScope N_is_name ["name"] (defScope s_is_name) := ⟨rfl, rfl, rfl, by decide +kernel, rfl, by decide +kernel, by decide +kernel⟩
abbrev s_check_name : Stmt := topS 16
abbrev N_check_name : List Str := ["name"]
theorem sc_check_name : FnScope N_check_name ["name"] (defScope s_check_name) := ⟨rfl, rfl, rfl, by decide +kernel, rfl, by decide +kernel, by decide +kernel⟩
abbrev s_check_moment : Stmt := topS 17
abbrev N_check_moment : List Str := ["value"]
theorem sc_check_moment : FnScope N_check_moment ["value"] (defScope s_check_moment) := ⟨rfl, rfl, rfl, by decide +kernel, rfl, by decide +kernel, by decide +kernel⟩
abbrev s_check_bound : Stmt := topS 18
abbrev N_check_bound : List Str := ["value"]
theorem sc_check_bound : FnScope N_check_bound ["value"] (defScope s_check_bound) := ⟨rfl, rfl, rfl, by decide +kernel, rfl, by decide +kernel, by decide +kernel⟩
abbrev s_check_limit : Stmt := topS 19
abbrev N_check_limit : List Str := ["value"]
theorem sc_check_limit : FnScope N_check_limit ["value"] (defScope s_check_limit) := ⟨rfl, rfl, rfl, by decide +kernel, rfl, by decide +kernel, by decide +kernel⟩
abbrev s_check_rows : Stmt := topS 20
abbrev N_check_rows : List Str := ["name", "moments", "moment"]
theorem sc_check_rows : FnScope N_check_rows ["name", "moments"] (defScope s_check_rows) := ⟨rfl, rfl, rfl, by decide +kernel, rfl, by decide +kernel, by decide +kernel⟩
abbrev s_limited : Stmt := topS 23
abbrev N_limited : List Str := ["pairs"]
theorem sc_limited : FnScope N_limited ["pairs"] (defScope s_limited) := ⟨rfl, rfl, rfl, by decide +kernel, rfl, by decide +kernel, by decide +kernel⟩
abbrev s_checked_pairs : Stmt := topS 24
abbrev N_checked_pairs : List Str := ["rows", "pairs", "name", "moments", "moment"]
theorem sc_checked_pairs : FnScope N_checked_pairs ["rows"] (defScope s_checked_pairs) := ⟨rfl, rfl, rfl, by decide +kernel, rfl, by decide +kernel, by decide +kernel⟩
abbrev s_World_init : Stmt := inClass (topS 27) 0
abbrev N_World_init : List Str := ["self", "rows"]
theorem sc_World_init : FnScope N_World_init ["self", "rows"] (defScope s_World_init) := ⟨rfl, rfl, rfl, by decide +kernel, rfl, by decide +kernel, by decide +kernel⟩
abbrev s_World_getitem : Stmt := inClass (topS 27) 2
abbrev N_World_getitem : List Str := ["self", "name", "stream", "moment"]
theorem sc_World_getitem : FnScope N_World_getitem ["self", "name"] (defScope s_World_getitem) := ⟨rfl, rfl, rfl, by decide +kernel, rfl, by decide +kernel, by decide +kernel⟩
abbrev s_World_rows : Stmt := inClass (topS 27) 11
abbrev N_World_rows : List Str := ["self"]
theorem sc_World_rows : FnScope N_World_rows ["self"] (defScope s_World_rows) := ⟨rfl, rfl, rfl, by decide +kernel, rfl, by decide +kernel, by decide +kernel⟩
abbrev s_check_world : Stmt := topS 28
abbrev N_check_world : List Str := ["value"]
theorem sc_check_world : FnScope N_check_world ["value"] (defScope s_check_world) := ⟨rfl, rfl, rfl, by decide +kernel, rfl, by decide +kernel, by decide +kernel⟩
abbrev s_Term_init : Stmt := inClass (topS 34) 0
abbrev N_Term_init : List Str := ["self", "children", "chooses", "child"]
theorem sc_Term_init : FnScope N_Term_init ["self", "children"] (defScope s_Term_init) := ⟨rfl, rfl, rfl, by decide +kernel, rfl, by decide +kernel, by decide +kernel⟩
abbrev s_Term_add : Stmt := inClass (topS 34) 1
abbrev N_Term_add : List Str := ["self", "amount"]
theorem sc_Term_add : FnScope N_Term_add ["self", "amount"] (defScope s_Term_add) := ⟨rfl, rfl, rfl, by decide +kernel, rfl, by decide +kernel, by decide +kernel⟩
abbrev s_Term_sub : Stmt := inClass (topS 34) 2
abbrev N_Term_sub : List Str := ["self", "amount"]
theorem sc_Term_sub : FnScope N_Term_sub ["self", "amount"] (defScope s_Term_sub) := ⟨rfl, rfl, rfl, by decide +kernel, rfl, by decide +kernel, by decide +kernel⟩
abbrev s_Term_or : Stmt := inClass (topS 34) 3
abbrev N_Term_or : List Str := ["self", "other"]
theorem sc_Term_or : FnScope N_Term_or ["self", "other"] (defScope s_Term_or) := ⟨rfl, rfl, rfl, by decide +kernel, rfl, by decide +kernel, by decide +kernel⟩
abbrev s_Term_eq : Stmt := inClass (topS 34) 4
abbrev N_Term_eq : List Str := ["self", "other"]
theorem sc_Term_eq : FnScope N_Term_eq ["self", "other"] (defScope s_Term_eq) := ⟨rfl, rfl, rfl, by decide +kernel, rfl, by decide +kernel, by decide +kernel⟩
abbrev s_Term_call : Stmt := inClass (topS 34) 5
abbrev N_Term_call : List Str := ["self", "world", "now"]
theorem sc_Term_call : FnScope N_Term_call ["self", "world", "now"] (defScope s_Term_call) := ⟨rfl, rfl, rfl, by decide +kernel, rfl, by decide +kernel, by decide +kernel⟩
abbrev s_Term_later : Stmt := inClass (topS 34) 6
abbrev N_Term_later : List Str := ["self", "other"]
theorem sc_Term_later : FnScope N_Term_later ["self", "other"] (defScope s_Term_later) := ⟨rfl, rfl, rfl, by decide +kernel, rfl, by decide +kernel, by decide +kernel⟩
abbrev s_Term_earlier : Stmt := inClass (topS 34) 7
abbrev N_Term_earlier : List Str := ["self", "other"]
theorem sc_Term_earlier : FnScope N_Term_earlier ["self", "other"] (defScope s_Term_earlier) := ⟨rfl, rfl, rfl, by decide +kernel, rfl, by decide +kernel, by decide +kernel⟩
abbrev s_Term_form : Stmt := inClass (topS 34) 15
abbrev N_Term_form : List Str := ["self"]
theorem sc_Term_form : FnScope N_Term_form ["self"] (defScope s_Term_form) := ⟨rfl, rfl, rfl, by decide +kernel, rfl, by decide +kernel, by decide +kernel⟩
abbrev s_Term_answer_in : Stmt := inClass (topS 34) 16
abbrev N_Term_answer_in : List Str := ["self", "world", "now"]
theorem sc_Term_answer_in : FnScope N_Term_answer_in ["self", "world", "now"] (defScope s_Term_answer_in) := ⟨rfl, rfl, rfl, by decide +kernel, rfl, by decide +kernel, by decide +kernel⟩
abbrev s_Now_init : Stmt := inClass (topS 35) 0
abbrev N_Now_init : List Str := ["self", "__class__"]
theorem sc_Now_init : NdefX.NScope N_Now_init ["self"] ["__class__"] (defScope s_Now_init) := NdefX.nscope_by (by decide +kernel)
abbrev s_Shift_init : Stmt := inClass (topS 36) 0
abbrev N_Shift_init : List Str := ["self", "moment", "amount", "__class__"]
theorem sc_Shift_init : NdefX.NScope N_Shift_init ["self", "moment", "amount"] ["__class__"] (defScope s_Shift_init) := NdefX.nscope_by (by decide +kernel)
abbrev s_Shift_form : Stmt := inClass (topS 36) 3
abbrev N_Shift_form : List Str := ["self"]
theorem sc_Shift_form : FnScope N_Shift_form ["self"] (defScope s_Shift_form) := ⟨rfl, rfl, rfl, by decide +kernel, rfl, by decide +kernel, by decide +kernel⟩
abbrev s_Shift_answer_in : Stmt := inClass (topS 36) 4
abbrev N_Shift_answer_in : List Str := ["self", "world", "now", "answer"]
theorem sc_Shift_answer_in : FnScope N_Shift_answer_in ["self", "world", "now"] (defScope s_Shift_answer_in) := ⟨rfl, rfl, rfl, by decide +kernel, rfl, by decide +kernel, by decide +kernel⟩
abbrev s_Look_init : Stmt := inClass (topS 37) 0
abbrev N_Look_init : List Str := ["self", "stream", "moment", "way", "within", "__class__"]
theorem sc_Look_init : NdefX.NScope N_Look_init ["self", "stream", "moment", "way", "within"] ["__class__"] (defScope s_Look_init) := NdefX.nscope_by (by decide +kernel)
abbrev s_Look_form : Stmt := inClass (topS 37) 4
abbrev N_Look_form : List Str := ["self"]
theorem sc_Look_form : FnScope N_Look_form ["self"] (defScope s_Look_form) := ⟨rfl, rfl, rfl, by decide +kernel, rfl, by decide +kernel, by decide +kernel⟩
abbrev s_Look_answer_in : Stmt := inClass (topS 37) 5
abbrev N_Look_answer_in : List Str := ["self", "world", "now", "moment"]
theorem sc_Look_answer_in : FnScope N_Look_answer_in ["self", "world", "now"] (defScope s_Look_answer_in) := ⟨rfl, rfl, rfl, by decide +kernel, rfl, by decide +kernel, by decide +kernel⟩
abbrev s_Pair_init : Stmt := inClass (topS 38) 0
abbrev N_Pair_init : List Str := ["self", "first", "second", "__class__"]
theorem sc_Pair_init : NdefX.NScope N_Pair_init ["self", "first", "second"] ["__class__"] (defScope s_Pair_init) := NdefX.nscope_by (by decide +kernel)
abbrev s_Either_form : Stmt := inClass (topS 39) 1
abbrev N_Either_form : List Str := ["self"]
theorem sc_Either_form : FnScope N_Either_form ["self"] (defScope s_Either_form) := ⟨rfl, rfl, rfl, by decide +kernel, rfl, by decide +kernel, by decide +kernel⟩
abbrev s_Either_answer_in : Stmt := inClass (topS 39) 2
abbrev N_Either_answer_in : List Str := ["self", "world", "now", "answer"]
theorem sc_Either_answer_in : FnScope N_Either_answer_in ["self", "world", "now"] (defScope s_Either_answer_in) := ⟨rfl, rfl, rfl, by decide +kernel, rfl, by decide +kernel, by decide +kernel⟩
abbrev s_Later_form : Stmt := inClass (topS 40) 1
abbrev N_Later_form : List Str := ["self"]
theorem sc_Later_form : FnScope N_Later_form ["self"] (defScope s_Later_form) := ⟨rfl, rfl, rfl, by decide +kernel, rfl, by decide +kernel, by decide +kernel⟩
abbrev s_Later_answer_in : Stmt := inClass (topS 40) 2
abbrev N_Later_answer_in : List Str := ["self", "world", "now", "answer", "other"]
theorem sc_Later_answer_in : FnScope N_Later_answer_in ["self", "world", "now"] (defScope s_Later_answer_in) := ⟨rfl, rfl, rfl, by decide +kernel, rfl, by decide +kernel, by decide +kernel⟩
abbrev s_Earlier_form : Stmt := inClass (topS 41) 1
abbrev N_Earlier_form : List Str := ["self"]
theorem sc_Earlier_form : FnScope N_Earlier_form ["self"] (defScope s_Earlier_form) := ⟨rfl, rfl, rfl, by decide +kernel, rfl, by decide +kernel, by decide +kernel⟩
abbrev s_Earlier_answer_in : Stmt := inClass (topS 41) 2
abbrev N_Earlier_answer_in : List Str := ["self", "world", "now", "answer", "other"]
theorem sc_Earlier_answer_in : FnScope N_Earlier_answer_in ["self", "world", "now"] (defScope s_Earlier_answer_in) := ⟨rfl, rfl, rfl, by decide +kernel, rfl, by decide +kernel, by decide +kernel⟩
abbrev s_shifted : Stmt := topS 42
abbrev N_shifted : List Str := ["term", "amount"]
theorem sc_shifted : FnScope N_shifted ["term", "amount"] (defScope s_shifted) := ⟨rfl, rfl, rfl, by decide +kernel, rfl, by decide +kernel, by decide +kernel⟩
abbrev s_fits : Stmt := topS 43
abbrev N_fits : List Str := ["row", "moment", "way"]
theorem sc_fits : FnScope N_fits ["row", "moment", "way"] (defScope s_fits) := ⟨rfl, rfl, rfl, by decide +kernel, rfl, by decide +kernel, by decide +kernel⟩
abbrev s_looked_up : Stmt := topS 44
abbrev N_looked_up : List Str := ["moments", "moment", "way", "within", "found", "row"]
theorem sc_looked_up : FnScope N_looked_up ["moments", "moment", "way", "within"] (defScope s_looked_up) := ⟨rfl, rfl, rfl, by decide +kernel, rfl, by decide +kernel, by decide +kernel⟩
abbrev s_check_term : Stmt := topS 45
abbrev N_check_term : List Str := ["value"]
theorem sc_check_term : FnScope N_check_term ["value"] (defScope s_check_term) := ⟨rfl, rfl, rfl, by decide +kernel, rfl, by decide +kernel, by decide +kernel⟩
abbrev s_told : Stmt := topS 46
abbrev N_told : List Str := ["term", "world", "now"]
theorem sc_told : FnScope N_told ["term", "world", "now"] (defScope s_told) := ⟨rfl, rfl, rfl, by decide +kernel, rfl, by decide +kernel, by decide +kernel⟩
abbrev s_greater_first : Stmt := topS 48
abbrev N_greater_first : List Str := ["one", "other"]
theorem sc_greater_first : FnScope N_greater_first ["one", "other"] (defScope s_greater_first) := ⟨rfl, rfl, rfl, by decide +kernel, rfl, by decide +kernel, by decide +kernel⟩
abbrev s_lesser_last : Stmt := topS 49
abbrev N_lesser_last : List Str := ["one", "other"]
theorem sc_lesser_last : FnScope N_lesser_last ["one", "other"] (defScope s_lesser_last) := ⟨rfl, rfl, rfl, by decide +kernel, rfl, by decide +kernel, by decide +kernel⟩
abbrev s_is_stretch : Stmt := topS 50
abbrev N_is_stretch : List Str := ["first", "last"]
theorem sc_is_stretch : FnScope N_is_stretch ["first", "last"] (defScope s_is_stretch) := ⟨rfl, rfl, rfl, by decide +kernel, rfl, by decide +kernel, by decide +kernel⟩
abbrev s_moved : Stmt := topS 51
abbrev N_moved : List Str := ["bound", "amount"]
theorem sc_moved : FnScope N_moved ["bound", "amount"] (defScope s_moved) := ⟨rfl, rfl, rfl, by decide +kernel, rfl, by decide +kernel, by decide +kernel⟩
abbrev s_clipped : Stmt := topS 52
abbrev N_clipped : List Str := ["rows", "first", "last", "result", "piece", "low", "high"]
theorem sc_clipped : FnScope N_clipped ["rows", "first", "last"] (defScope s_clipped) := ⟨rfl, rfl, rfl, by decide +kernel, rfl, by decide +kernel, by decide +kernel⟩
abbrev s_added : Stmt := topS 53
abbrev N_added : List Str := ["rows", "amount", "result", "first", "last", "word", "number"]
theorem sc_added : FnScope N_added ["rows", "amount"] (defScope s_added) := ⟨rfl, rfl, rfl, by decide +kernel, rfl, by decide +kernel, by decide +kernel⟩
abbrev s_span : Stmt := topS 54
abbrev N_span : List Str := ["moments", "index", "way", "within", "row", "ahead", "behind", "strict", "first", "last"]
theorem sc_span : FnScope N_span ["moments", "index", "way", "within"] (defScope s_span) := ⟨rfl, rfl, rfl, by decide +kernel, rfl, by decide +kernel, by decide +kernel⟩
abbrev s_look_table : Stmt := topS 55
abbrev N_look_table : List Str := ["moments", "way", "within", "result", "start", "ended", "index", "row", "first", "last"]
theorem sc_look_table : FnScope N_look_table ["moments", "way", "within"] (defScope s_look_table) := ⟨rfl, rfl, rfl, by decide +kernel, rfl, by decide +kernel, by decide +kernel⟩
abbrev s_look_pieces : Stmt := topS 56
abbrev N_look_pieces : List Str := ["term", "world", "moments", "table", "result", "first", "last", "word", "number", "row", "low", "high", "inner"]
theorem sc_look_pieces : FnScope N_look_pieces ["term", "world"] (defScope s_look_pieces) := ⟨rfl, rfl, rfl, by decide +kernel, rfl, by decide +kernel, by decide +kernel⟩
abbrev s_overlaid : Stmt := topS 57
abbrev N_overlaid : List Str := ["rows", "others", "result", "first", "last", "word", "number", "low", "high", "other", "amount"]
theorem sc_overlaid : FnScope N_overlaid ["rows", "others"] (defScope s_overlaid) := ⟨rfl, rfl, rfl, by decide +kernel, rfl, by decide +kernel, by decide +kernel⟩
abbrev s_cut : Stmt := topS 58
abbrev N_cut : List Str := ["first", "last", "moment", "ahead", "behind"]
theorem sc_cut : FnScope N_cut ["first", "last", "moment", "ahead", "behind"] (defScope s_cut) := ⟨rfl, rfl, rfl, by decide +kernel, rfl, by decide +kernel, by decide +kernel⟩
abbrev s_chosen : Stmt := topS 59
abbrev N_chosen : List Str := ["first", "last", "form", "other", "later", "number", "row", "shift"]
theorem sc_chosen : FnScope N_chosen ["first", "last", "form", "other", "later"] (defScope s_chosen) := ⟨rfl, rfl, rfl, by decide +kernel, rfl, by decide +kernel, by decide +kernel⟩
abbrev s_raw_pieces : Stmt := topS 60
abbrev N_raw_pieces : List Str := ["term", "world", "rows", "others", "result", "first", "last", "form", "other"]
theorem sc_raw_pieces : FnScope N_raw_pieces ["term", "world"] (defScope s_raw_pieces) := ⟨rfl, rfl, rfl, by decide +kernel, rfl, by decide +kernel, by decide +kernel⟩
abbrev s_meeting : Stmt := topS 61
abbrev N_meeting : List Str := ["form", "other"]
theorem sc_meeting : FnScope N_meeting ["form", "other"] (defScope s_meeting) := ⟨rfl, rfl, rfl, by decide +kernel, rfl, by decide +kernel, by decide +kernel⟩
abbrev s_reach : Stmt := topS 62
abbrev N_reach : List Str := ["rows", "at", "start", "form", "last", "piece"]
theorem sc_reach : FnScope N_reach ["rows", "at", "start", "form"] (defScope s_reach) := ⟨rfl, rfl, rfl, by decide +kernel, rfl, by decide +kernel, by decide +kernel⟩
abbrev s_forms_at : Stmt := topS 63
abbrev N_forms_at : List Str := ["piece", "start"]
theorem sc_forms_at : FnScope N_forms_at ["piece", "start"] (defScope s_forms_at) := ⟨rfl, rfl, rfl, by decide +kernel, rfl, by decide +kernel, by decide +kernel⟩
abbrev s_farthest : Stmt := topS 64
abbrev N_farthest : List Str := ["rows", "result", "at", "start", "best", "form", "last", "begin", "behind"]
theorem sc_farthest : FnScope N_farthest ["rows"] (defScope s_farthest) := ⟨rfl, rfl, rfl, by decide +kernel, rfl, by decide +kernel, by decide +kernel⟩
abbrev s_pieces : Stmt := topS 65
abbrev N_pieces : List Str := ["term", "world"]
theorem sc_pieces : FnScope N_pieces ["term", "world"] (defScope s_pieces) := ⟨rfl, rfl, rfl, by decide +kernel, rfl, by decide +kernel, by decide +kernel⟩
abbrev s_unequal : Stmt := topS 66
abbrev N_unequal : List Str := ["first", "last", "form", "other", "moment", "result", "low", "high"]
theorem sc_unequal : FnScope N_unequal ["first", "last", "form", "other"] (defScope s_unequal) := ⟨rfl, rfl, rfl, by decide +kernel, rfl, by decide +kernel, by decide +kernel⟩
abbrev s_differences : Stmt := topS 67
abbrev N_differences : List Str := ["term", "world", "other", "result", "first", "last", "form", "second", "low", "high"]
theorem sc_differences : FnScope N_differences ["term", "world", "other"] (defScope s_differences) := ⟨rfl, rfl, rfl, by decide +kernel, rfl, by decide +kernel, by decide +kernel⟩
abbrev s_law_open : Stmt := topS 69
abbrev N_law_open : List Str := ["_law_script", "_law_cells"]
theorem sc_law_open : FnScope N_law_open ["_law_script"] (defScope s_law_open) := ⟨rfl, rfl, rfl, by decide +kernel, rfl, by decide +kernel, by decide +kernel⟩
abbrev s_law_pick : Stmt := topS 70
abbrev N_law_pick : List Str := ["_law_box", "_law_many", "_law_cells", "_law_k", "_law_at", "_law_cell", "_law_number_here"]
theorem sc_law_pick : FnScope N_law_pick ["_law_box", "_law_many"] (defScope s_law_pick) := ⟨rfl, rfl, rfl, by decide +kernel, rfl, by decide +kernel, by decide +kernel⟩
abbrev s_law_number : Stmt := topS 71
abbrev N_law_number : List Str := ["_law_box", "_law_kind"]
theorem sc_law_number : FnScope N_law_number ["_law_box"] (defScope s_law_number) := ⟨rfl, rfl, rfl, by decide +kernel, rfl, by decide +kernel, by decide +kernel⟩
abbrev s_law_limit : Stmt := topS 72
abbrev N_law_limit : List Str := ["_law_box", "_law_kind"]
theorem sc_law_limit : FnScope N_law_limit ["_law_box"] (defScope s_law_limit) := ⟨rfl, rfl, rfl, by decide +kernel, rfl, by decide +kernel, by decide +kernel⟩
abbrev s_law_names : Stmt := topS 73
abbrev N_law_names : List Str := ["_law_box", "_law_many", "_law_letters", "_law_names_here", "_law_k", "_law_name", "_law_j", "_law_word"]
theorem sc_law_names : FnScope N_law_names ["_law_box", "_law_many"] (defScope s_law_names) := ⟨rfl, rfl, rfl, by decide +kernel, rfl, by decide +kernel, by decide +kernel⟩
abbrev s_law_shift : Stmt := topS 74
abbrev N_law_shift : List Str := ["_law_tree_here", "_law_amount"]
theorem sc_law_shift : FnScope N_law_shift ["_law_tree_here", "_law_amount"] (defScope s_law_shift) := ⟨rfl, rfl, rfl, by decide +kernel, rfl, by decide +kernel, by decide +kernel⟩
abbrev s_law_tree : Stmt := topS 75
abbrev N_law_tree : List Str := ["_law_box", "_law_names_here", "_law_looks", "_law_joins", "_law_kind", "_law_left", "_law_inner", "_law_one", "_law_other", "_law_inside", "_law_name", "_law_way", "_law_far"]
theorem sc_law_tree : FnScope N_law_tree ["_law_box", "_law_names_here", "_law_looks", "_law_joins"] (defScope s_law_tree) := ⟨rfl, rfl, rfl, by decide +kernel, rfl, by decide +kernel, by decide +kernel⟩
abbrev s_law_term : Stmt := topS 76
abbrev N_law_term : List Str := ["_law_tree_here", "_law_one", "_law_other"]
theorem sc_law_term : FnScope N_law_term ["_law_tree_here"] (defScope s_law_term) := ⟨rfl, rfl, rfl, by decide +kernel, rfl, by decide +kernel, by decide +kernel⟩
abbrev s_law_moments : Stmt := topS 77
abbrev N_law_moments : List Str := ["_law_box", "_law_most", "_law_found", "_law_moment", "_law_k"]
theorem sc_law_moments : FnScope N_law_moments ["_law_box", "_law_most"] (defScope s_law_moments) := ⟨rfl, rfl, rfl, by decide +kernel, rfl, by decide +kernel, by decide +kernel⟩
abbrev s_law_rows : Stmt := topS 78
abbrev N_law_rows : List Str := ["_law_box", "_law_names_here", "_law_most", "_law_rows_here", "_law_name"]
theorem sc_law_rows : FnScope N_law_rows ["_law_box", "_law_names_here", "_law_most"] (defScope s_law_rows) := ⟨rfl, rfl, rfl, by decide +kernel, rfl, by decide +kernel, by decide +kernel⟩
abbrev s_law_copy : Stmt := topS 79
abbrev N_law_copy : List Str := ["_law_rows_here", "_law_result", "_law_name"]
theorem sc_law_copy : FnScope N_law_copy ["_law_rows_here"] (defScope s_law_copy) := ⟨rfl, rfl, rfl, by decide +kernel, rfl, by decide +kernel, by decide +kernel⟩
abbrev s_law_world : Stmt := topS 80
abbrev N_law_world : List Str := ["_law_rows_here"]
theorem sc_law_world : FnScope N_law_world ["_law_rows_here"] (defScope s_law_world) := ⟨rfl, rfl, rfl, by decide +kernel, rfl, by decide +kernel, by decide +kernel⟩
abbrev s_law_pairs : Stmt := topS 81
abbrev N_law_pairs : List Str := ["_law_rows_here", "_law_pairs_here", "_law_name", "_law_moment"]
theorem sc_law_pairs : FnScope N_law_pairs ["_law_rows_here"] (defScope s_law_pairs) := ⟨rfl, rfl, rfl, by decide +kernel, rfl, by decide +kernel, by decide +kernel⟩
abbrev s_law_is_integer : Stmt := topS 82
abbrev N_law_is_integer : List Str := ["_law_thing"]
theorem sc_law_is_integer : FnScope N_law_is_integer ["_law_thing"] (defScope s_law_is_integer) := ⟨rfl, rfl, rfl, by decide +kernel, rfl, by decide +kernel, by decide +kernel⟩
abbrev s_law_answer : Stmt := topS 83
abbrev N_law_answer : List Str := ["_law_thing", "_law_due"]
theorem sc_law_answer : FnScope N_law_answer ["_law_thing", "_law_due"] (defScope s_law_answer) := ⟨rfl, rfl, rfl, by decide +kernel, rfl, by decide +kernel, by decide +kernel⟩
abbrev s_law_equal : Stmt := topS 84
abbrev N_law_equal : List Str := ["_law_one", "_law_other", "_law_nested", "_law_k"]
theorem sc_law_equal : FnScope N_law_equal ["_law_one", "_law_other"] (defScope s_law_equal) := ⟨rfl, rfl, rfl, by decide +kernel, rfl, by decide +kernel, by decide +kernel⟩
abbrev s_law_mirror : Stmt := topS 85
abbrev N_law_mirror : List Str := ["_law_tree_here", "_law_words", "_law_ways"]
theorem sc_law_mirror : FnScope N_law_mirror ["_law_tree_here"] (defScope s_law_mirror) := ⟨rfl, rfl, rfl, by decide +kernel, rfl, by decide +kernel, by decide +kernel⟩
abbrev s_law_moved : Stmt := topS 86
abbrev N_law_moved : List Str := ["_law_rows_here", "_law_sign", "_law_amount", "_law_result", "_law_name", "_law_moment"]
theorem sc_law_moved : FnScope N_law_moved ["_law_rows_here", "_law_sign", "_law_amount"] (defScope s_law_moved) := ⟨rfl, rfl, rfl, by decide +kernel, rfl, by decide +kernel, by decide +kernel⟩
abbrev s_law_minus : Stmt := topS 87
abbrev N_law_minus : List Str := ["_law_value"]
theorem sc_law_minus : FnScope N_law_minus ["_law_value"] (defScope s_law_minus) := ⟨rfl, rfl, rfl, by decide +kernel, rfl, by decide +kernel, by decide +kernel⟩
abbrev s_law_renamed : Stmt := topS 88
abbrev N_law_renamed : List Str := ["_law_tree_here", "_law_words"]
theorem sc_law_renamed : FnScope N_law_renamed ["_law_tree_here", "_law_words"] (defScope s_law_renamed) := ⟨rfl, rfl, rfl, by decide +kernel, rfl, by decide +kernel, by decide +kernel⟩
abbrev s_law_moved_piece : Stmt := topS 89
abbrev N_law_moved_piece : List Str := ["_law_piece", "_law_amount", "_law_first", "_law_last", "_law_number_here"]
theorem sc_law_moved_piece : FnScope N_law_moved_piece ["_law_piece", "_law_amount"] (defScope s_law_moved_piece) := ⟨rfl, rfl, rfl, by decide +kernel, rfl, by decide +kernel, by decide +kernel⟩
abbrev s_law : Stmt := topS 90
abbrev N_law : List Str := ["_law_script", "_law_box", "_law_names_here", "_law_tree_here", "_law_rows_here", "_law_others", "_law_amount", "_law_term_here", "_law_mirror_here", "_law_words", "_law_twins", "_law_k", "_law_twin", "_law_further", "_law_turned", "_law_moments_here", "_law_now", "_law_found", "_law_stretches", "_law_back", "_law_answer_here", "_law_due", "_law_piece", "_law_entry", "_law_pair"]
theorem sc_law : FnScope N_law ["_law_script"] (defScope s_law) := ⟨rfl, rfl, rfl, by decide +kernel, rfl, by decide +kernel, by decide +kernel⟩
structure Df (K : PySem.W.Frag) (mg : Str → Option Value) (x : Str) (st : Stmt) (ps : List Str) where
  f : Addr
  fd : FuncData
  F : Fun K x x st f fd
  b : Binds K fd ps []
  g : mg x = some (.ref f)
abbrev fileS : Str := PySem.Challenge.pw_pastlooks_k24_whole_moved_and_mirrored.main.file
structure Txt (P : Program) (K : PySem.W.Frag) (mg : Str → Option Value) where
  c_World : Addr
  g_World : mg "World" = some (.ref c_World)
  c_Term : Addr
  g_Term : mg "Term" = some (.ref c_Term)
  c_Now : Addr
  g_Now : mg "Now" = some (.ref c_Now)
  c_Shift : Addr
  g_Shift : mg "Shift" = some (.ref c_Shift)
  c_Look : Addr
  g_Look : mg "Look" = some (.ref c_Look)
  c_Pair : Addr
  g_Pair : mg "Pair" = some (.ref c_Pair)
  c_Either : Addr
  g_Either : mg "Either" = some (.ref c_Either)
  c_Later : Addr
  g_Later : mg "Later" = some (.ref c_Later)
  c_Earlier : Addr
  g_Earlier : mg "Earlier" = some (.ref c_Earlier)
  a_WAYS : Addr
  k_WAYS : mg "WAYS" = some (.ref a_WAYS)
  t_WAYS : ∀ H : Hp, SqT K H a_WAYS [.str "at", .str "before", .str "since", .str "after"]
  u_DEEPEST : Tok
  k_DEEPEST : mg "DEEPEST" = some (.int 12 u_DEEPEST)
  u_LETTERS : Tok
  k_LETTERS : mg "LETTERS" = some (.str "abcdefghijklmnopqrstuvwxyz" u_LETTERS)
  u_MOST_LOOKS : Tok
  k_MOST_LOOKS : mg "MOST_LOOKS" = some (.int 12 u_MOST_LOOKS)
  u_MOST_PARTS : Tok
  k_MOST_PARTS : mg "MOST_PARTS" = some (.int 40 u_MOST_PARTS)
  u_MOST_ROWS : Tok
  k_MOST_ROWS : mg "MOST_ROWS" = some (.int 300 u_MOST_ROWS)
  is_integer : Df K mg "is_integer" s_is_integer ["value"]
  is_from_zero : Df K mg "is_from_zero" s_is_from_zero ["value"]
  is_name : Df K mg "is_name" s_is_name ["name"]
  check_name : Df K mg "check_name" s_check_name ["name"]
  check_moment : Df K mg "check_moment" s_check_moment ["value"]
  check_bound : Df K mg "check_bound" s_check_bound ["value"]
  check_limit : Df K mg "check_limit" s_check_limit ["value"]
  check_rows : Df K mg "check_rows" s_check_rows ["name", "moments"]
  limited : Df K mg "limited" s_limited ["pairs"]
  checked_pairs : Df K mg "checked_pairs" s_checked_pairs ["rows"]
  check_world : Df K mg "check_world" s_check_world ["value"]
  shifted : Df K mg "shifted" s_shifted ["term", "amount"]
  fits : Df K mg "fits" s_fits ["row", "moment", "way"]
  looked_up : Df K mg "looked_up" s_looked_up ["moments", "moment", "way", "within"]
  check_term : Df K mg "check_term" s_check_term ["value"]
  told : Df K mg "told" s_told ["term", "world", "now"]
  greater_first : Df K mg "greater_first" s_greater_first ["one", "other"]
  lesser_last : Df K mg "lesser_last" s_lesser_last ["one", "other"]
  is_stretch : Df K mg "is_stretch" s_is_stretch ["first", "last"]
  moved : Df K mg "moved" s_moved ["bound", "amount"]
  clipped : Df K mg "clipped" s_clipped ["rows", "first", "last"]
  added : Df K mg "added" s_added ["rows", "amount"]
  span : Df K mg "span" s_span ["moments", "index", "way", "within"]
  look_table : Df K mg "look_table" s_look_table ["moments", "way", "within"]
  look_pieces : Df K mg "look_pieces" s_look_pieces ["term", "world"]
  overlaid : Df K mg "overlaid" s_overlaid ["rows", "others"]
  cut : Df K mg "cut" s_cut ["first", "last", "moment", "ahead", "behind"]
  chosen : Df K mg "chosen" s_chosen ["first", "last", "form", "other", "later"]
  raw_pieces : Df K mg "raw_pieces" s_raw_pieces ["term", "world"]
  meeting : Df K mg "meeting" s_meeting ["form", "other"]
  reach : Df K mg "reach" s_reach ["rows", "at", "start", "form"]
  forms_at : Df K mg "forms_at" s_forms_at ["piece", "start"]
  farthest : Df K mg "farthest" s_farthest ["rows"]
  pieces : Df K mg "pieces" s_pieces ["term", "world"]
  unequal : Df K mg "unequal" s_unequal ["first", "last", "form", "other"]
  differences : Df K mg "differences" s_differences ["term", "world", "other"]
  law_open : Df K mg "_law_open" s_law_open ["_law_script"]
  law_pick : Df K mg "_law_pick" s_law_pick ["_law_box", "_law_many"]
  law_number : Df K mg "_law_number" s_law_number ["_law_box"]
  law_limit : Df K mg "_law_limit" s_law_limit ["_law_box"]
  law_names : Df K mg "_law_names" s_law_names ["_law_box", "_law_many"]
  law_shift : Df K mg "_law_shift" s_law_shift ["_law_tree_here", "_law_amount"]
  law_tree : Df K mg "_law_tree" s_law_tree ["_law_box", "_law_names_here", "_law_looks", "_law_joins"]
  law_term : Df K mg "_law_term" s_law_term ["_law_tree_here"]
  law_moments : Df K mg "_law_moments" s_law_moments ["_law_box", "_law_most"]
  law_rows : Df K mg "_law_rows" s_law_rows ["_law_box", "_law_names_here", "_law_most"]
  law_copy : Df K mg "_law_copy" s_law_copy ["_law_rows_here"]
  law_world : Df K mg "_law_world" s_law_world ["_law_rows_here"]
  law_pairs : Df K mg "_law_pairs" s_law_pairs ["_law_rows_here"]
  law_is_integer : Df K mg "_law_is_integer" s_law_is_integer ["_law_thing"]
  law_answer : Df K mg "_law_answer" s_law_answer ["_law_thing", "_law_due"]
  law_equal : Df K mg "_law_equal" s_law_equal ["_law_one", "_law_other"]
  law_mirror : Df K mg "_law_mirror" s_law_mirror ["_law_tree_here"]
  law_moved : Df K mg "_law_moved" s_law_moved ["_law_rows_here", "_law_sign", "_law_amount"]
  law_minus : Df K mg "_law_minus" s_law_minus ["_law_value"]
  law_renamed : Df K mg "_law_renamed" s_law_renamed ["_law_tree_here", "_law_words"]
  law_moved_piece : Df K mg "_law_moved_piece" s_law_moved_piece ["_law_piece", "_law_amount"]
  law : Df K mg "law" s_law ["_law_script"]
  World_init : MdD K "__init__" "World.__init__" s_World_init ["self", "rows"]
  World_getitem : Md K "__getitem__" "World.__getitem__" s_World_getitem ["self", "name"]
  World_rows : Md K "rows" "World.rows" s_World_rows ["self"]
  Term_init : MdF K "__init__" "Term.__init__" s_Term_init
  Term_add : Md K "__add__" "Term.__add__" s_Term_add ["self", "amount"]
  Term_sub : Md K "__sub__" "Term.__sub__" s_Term_sub ["self", "amount"]
  Term_or : Md K "__or__" "Term.__or__" s_Term_or ["self", "other"]
  Term_eq : Md K "__eq__" "Term.__eq__" s_Term_eq ["self", "other"]
  Term_call : Md K "__call__" "Term.__call__" s_Term_call ["self", "world", "now"]
  Term_later : Md K "later" "Term.later" s_Term_later ["self", "other"]
  Term_earlier : Md K "earlier" "Term.earlier" s_Term_earlier ["self", "other"]
  Term_form : Md K "form" "Term.form" s_Term_form ["self"]
  Term_answer_in : Md K "answer_in" "Term.answer_in" s_Term_answer_in ["self", "world", "now"]
  Now_init : MdS P K "__init__" "Now.__init__" s_Now_init c_Now Term_init.f
  Shift_init : MdS P K "__init__" "Shift.__init__" s_Shift_init c_Shift Term_init.f
  Shift_form : Md K "form" "Shift.form" s_Shift_form ["self"]
  Shift_answer_in : Md K "answer_in" "Shift.answer_in" s_Shift_answer_in ["self", "world", "now"]
  Look_init : MdS P K "__init__" "Look.__init__" s_Look_init c_Look Term_init.f
  Look_form : Md K "form" "Look.form" s_Look_form ["self"]
  Look_answer_in : Md K "answer_in" "Look.answer_in" s_Look_answer_in ["self", "world", "now"]
  Pair_init : MdS P K "__init__" "Pair.__init__" s_Pair_init c_Pair Term_init.f
  Either_form : Md K "form" "Either.form" s_Either_form ["self"]
  Either_answer_in : Md K "answer_in" "Either.answer_in" s_Either_answer_in ["self", "world", "now"]
  Later_form : Md K "form" "Later.form" s_Later_form ["self"]
  Later_answer_in : Md K "answer_in" "Later.answer_in" s_Later_answer_in ["self", "world", "now"]
  Earlier_form : Md K "form" "Earlier.form" s_Earlier_form ["self"]
  Earlier_answer_in : Md K "answer_in" "Earlier.answer_in" s_Earlier_answer_in ["self", "world", "now"]
  o_Earlier : OCls K c_Earlier
  o_Either : OCls K c_Either
  o_Later : OCls K c_Later
  o_Look : OCls K c_Look
  o_Now : OCls K c_Now
  o_Shift : OCls K c_Shift
  o_World : OCls K c_World
  mk_Earlier : Mk K c_Earlier Pair_init.f
  mk_Either : Mk K c_Either Pair_init.f
  mk_Later : Mk K c_Later Pair_init.f
  mk_Look : Mk K c_Look Look_init.f
  mk_Now : Mk K c_Now Now_init.f
  mk_Shift : Mk K c_Shift Shift_init.f
  mk_World : Mk K c_World World_init.f
  m_Earlier_answer_in : Meth K c_Earlier "answer_in" Earlier_answer_in.f
  m_Earlier_earlier : Meth K c_Earlier "earlier" Term_earlier.f
  m_Earlier_form : Meth K c_Earlier "form" Earlier_form.f
  m_Earlier_later : Meth K c_Earlier "later" Term_later.f
  m_Either_answer_in : Meth K c_Either "answer_in" Either_answer_in.f
  m_Either_earlier : Meth K c_Either "earlier" Term_earlier.f
  m_Either_form : Meth K c_Either "form" Either_form.f
  m_Either_later : Meth K c_Either "later" Term_later.f
  m_Later_answer_in : Meth K c_Later "answer_in" Later_answer_in.f
  m_Later_earlier : Meth K c_Later "earlier" Term_earlier.f
  m_Later_form : Meth K c_Later "form" Later_form.f
  m_Later_later : Meth K c_Later "later" Term_later.f
  m_Look_answer_in : Meth K c_Look "answer_in" Look_answer_in.f
  m_Look_earlier : Meth K c_Look "earlier" Term_earlier.f
  m_Look_form : Meth K c_Look "form" Look_form.f
  m_Look_later : Meth K c_Look "later" Term_later.f
  m_Now_answer_in : Meth K c_Now "answer_in" Term_answer_in.f
  m_Now_earlier : Meth K c_Now "earlier" Term_earlier.f
  m_Now_form : Meth K c_Now "form" Term_form.f
  m_Now_later : Meth K c_Now "later" Term_later.f
  m_Shift_answer_in : Meth K c_Shift "answer_in" Shift_answer_in.f
  m_Shift_earlier : Meth K c_Shift "earlier" Term_earlier.f
  m_Shift_form : Meth K c_Shift "form" Shift_form.f
  m_Shift_later : Meth K c_Shift "later" Term_later.f
  n_Earlier_choices : NoAttr K c_Earlier "choices"
  n_Earlier_depth : NoAttr K c_Earlier "depth"
  n_Earlier_first : NoAttr K c_Earlier "first"
  n_Earlier_looks : NoAttr K c_Earlier "looks"
  n_Earlier_parts : NoAttr K c_Earlier "parts"
  n_Earlier_second : NoAttr K c_Earlier "second"
  n_Either_choices : NoAttr K c_Either "choices"
  n_Either_depth : NoAttr K c_Either "depth"
  n_Either_first : NoAttr K c_Either "first"
  n_Either_looks : NoAttr K c_Either "looks"
  n_Either_parts : NoAttr K c_Either "parts"
  n_Either_second : NoAttr K c_Either "second"
  n_Later_choices : NoAttr K c_Later "choices"
  n_Later_depth : NoAttr K c_Later "depth"
  n_Later_first : NoAttr K c_Later "first"
  n_Later_looks : NoAttr K c_Later "looks"
  n_Later_parts : NoAttr K c_Later "parts"
  n_Later_second : NoAttr K c_Later "second"
  n_Look_choices : NoAttr K c_Look "choices"
  n_Look_depth : NoAttr K c_Look "depth"
  n_Look_looks : NoAttr K c_Look "looks"
  n_Look_moment : NoAttr K c_Look "moment"
  n_Look_parts : NoAttr K c_Look "parts"
  n_Look_stream : NoAttr K c_Look "stream"
  n_Look_way : NoAttr K c_Look "way"
  n_Look_within : NoAttr K c_Look "within"
  n_Now_choices : NoAttr K c_Now "choices"
  n_Now_depth : NoAttr K c_Now "depth"
  n_Now_looks : NoAttr K c_Now "looks"
  n_Now_parts : NoAttr K c_Now "parts"
  n_Shift_amount : NoAttr K c_Shift "amount"
  n_Shift_choices : NoAttr K c_Shift "choices"
  n_Shift_depth : NoAttr K c_Shift "depth"
  n_Shift_looks : NoAttr K c_Shift "looks"
  n_Shift_moment : NoAttr K c_Shift "moment"
  n_Shift_parts : NoAttr K c_Shift "parts"
  n_World_pairs : NoAttr K c_World "pairs"
  s_Earlier_Pair : SupC K c_Earlier c_Pair Term_init.f "__init__"
  s_Either_Pair : SupC K c_Either c_Pair Term_init.f "__init__"
  s_Later_Pair : SupC K c_Later c_Pair Term_init.f "__init__"
  s_Look_Look : SupC K c_Look c_Look Term_init.f "__init__"
  s_Now_Now : SupC K c_Now c_Now Term_init.f "__init__"
  s_Shift_Shift : SupC K c_Shift c_Shift Term_init.f "__init__"
  b_Earlier_Add : BinI K c_Earlier Term_add.f .Add
  b_Either_Add : BinI K c_Either Term_add.f .Add
  b_Later_Add : BinI K c_Later Term_add.f .Add
  b_Look_Add : BinI K c_Look Term_add.f .Add
  b_Now_Add : BinI K c_Now Term_add.f .Add
  b_Shift_Add : BinI K c_Shift Term_add.f .Add
  bc_Earlier_BitOr : BinC K c_Earlier Term_or.f .BitOr
  bc_Either_BitOr : BinC K c_Either Term_or.f .BitOr
  bc_Later_BitOr : BinC K c_Later Term_or.f .BitOr
  bc_Look_BitOr : BinC K c_Look Term_or.f .BitOr
  bc_Now_BitOr : BinC K c_Now Term_or.f .BitOr
  bc_Shift_BitOr : BinC K c_Shift Term_or.f .BitOr
  sb_Earlier_Either : PySem.W.subIn K (.ref c_Earlier) (.ref c_Either) = some false
  sb_Earlier_Later : PySem.W.subIn K (.ref c_Earlier) (.ref c_Later) = some false
  sb_Earlier_Look : PySem.W.subIn K (.ref c_Earlier) (.ref c_Look) = some false
  sb_Earlier_Now : PySem.W.subIn K (.ref c_Earlier) (.ref c_Now) = some false
  sb_Earlier_Shift : PySem.W.subIn K (.ref c_Earlier) (.ref c_Shift) = some false
  sb_Either_Earlier : PySem.W.subIn K (.ref c_Either) (.ref c_Earlier) = some false
  sb_Either_Later : PySem.W.subIn K (.ref c_Either) (.ref c_Later) = some false
  sb_Either_Look : PySem.W.subIn K (.ref c_Either) (.ref c_Look) = some false
  sb_Either_Now : PySem.W.subIn K (.ref c_Either) (.ref c_Now) = some false
  sb_Either_Shift : PySem.W.subIn K (.ref c_Either) (.ref c_Shift) = some false
  sb_Later_Earlier : PySem.W.subIn K (.ref c_Later) (.ref c_Earlier) = some false
  sb_Later_Either : PySem.W.subIn K (.ref c_Later) (.ref c_Either) = some false
  sb_Later_Look : PySem.W.subIn K (.ref c_Later) (.ref c_Look) = some false
  sb_Later_Now : PySem.W.subIn K (.ref c_Later) (.ref c_Now) = some false
  sb_Later_Shift : PySem.W.subIn K (.ref c_Later) (.ref c_Shift) = some false
  sb_Look_Earlier : PySem.W.subIn K (.ref c_Look) (.ref c_Earlier) = some false
  sb_Look_Either : PySem.W.subIn K (.ref c_Look) (.ref c_Either) = some false
  sb_Look_Later : PySem.W.subIn K (.ref c_Look) (.ref c_Later) = some false
  sb_Look_Now : PySem.W.subIn K (.ref c_Look) (.ref c_Now) = some false
  sb_Look_Shift : PySem.W.subIn K (.ref c_Look) (.ref c_Shift) = some false
  sb_Now_Earlier : PySem.W.subIn K (.ref c_Now) (.ref c_Earlier) = some false
  sb_Now_Either : PySem.W.subIn K (.ref c_Now) (.ref c_Either) = some false
  sb_Now_Later : PySem.W.subIn K (.ref c_Now) (.ref c_Later) = some false
  sb_Now_Look : PySem.W.subIn K (.ref c_Now) (.ref c_Look) = some false
  sb_Now_Shift : PySem.W.subIn K (.ref c_Now) (.ref c_Shift) = some false
  sb_Shift_Earlier : PySem.W.subIn K (.ref c_Shift) (.ref c_Earlier) = some false
  sb_Shift_Either : PySem.W.subIn K (.ref c_Shift) (.ref c_Either) = some false
  sb_Shift_Later : PySem.W.subIn K (.ref c_Shift) (.ref c_Later) = some false
  sb_Shift_Look : PySem.W.subIn K (.ref c_Shift) (.ref c_Look) = some false
  sb_Shift_Now : PySem.W.subIn K (.ref c_Shift) (.ref c_Now) = some false
  gi_World : GetO K c_World World_getitem.f
  k1_Earlier_Either : PySem.W.kitOne K (.ref c_Earlier) (.ref c_Either) = some false
  k1_Earlier_Later : PySem.W.kitOne K (.ref c_Earlier) (.ref c_Later) = some false
  k1_Earlier_Look : PySem.W.kitOne K (.ref c_Earlier) (.ref c_Look) = some false
  k1_Earlier_Now : PySem.W.kitOne K (.ref c_Earlier) (.ref c_Now) = some false
  k1_Earlier_Shift : PySem.W.kitOne K (.ref c_Earlier) (.ref c_Shift) = some false
  k1_Earlier_Term : PySem.W.kitOne K (.ref c_Earlier) (.ref c_Term) = some true
  k1_Either_Either : PySem.W.kitOne K (.ref c_Either) (.ref c_Either) = some true
  k1_Either_Later : PySem.W.kitOne K (.ref c_Either) (.ref c_Later) = some false
  k1_Either_Look : PySem.W.kitOne K (.ref c_Either) (.ref c_Look) = some false
  k1_Either_Now : PySem.W.kitOne K (.ref c_Either) (.ref c_Now) = some false
  k1_Either_Shift : PySem.W.kitOne K (.ref c_Either) (.ref c_Shift) = some false
  k1_Either_Term : PySem.W.kitOne K (.ref c_Either) (.ref c_Term) = some true
  k1_Later_Either : PySem.W.kitOne K (.ref c_Later) (.ref c_Either) = some false
  k1_Later_Later : PySem.W.kitOne K (.ref c_Later) (.ref c_Later) = some true
  k1_Later_Look : PySem.W.kitOne K (.ref c_Later) (.ref c_Look) = some false
  k1_Later_Now : PySem.W.kitOne K (.ref c_Later) (.ref c_Now) = some false
  k1_Later_Shift : PySem.W.kitOne K (.ref c_Later) (.ref c_Shift) = some false
  k1_Later_Term : PySem.W.kitOne K (.ref c_Later) (.ref c_Term) = some true
  k1_Look_Either : PySem.W.kitOne K (.ref c_Look) (.ref c_Either) = some false
  k1_Look_Later : PySem.W.kitOne K (.ref c_Look) (.ref c_Later) = some false
  k1_Look_Look : PySem.W.kitOne K (.ref c_Look) (.ref c_Look) = some true
  k1_Look_Now : PySem.W.kitOne K (.ref c_Look) (.ref c_Now) = some false
  k1_Look_Shift : PySem.W.kitOne K (.ref c_Look) (.ref c_Shift) = some false
  k1_Look_Term : PySem.W.kitOne K (.ref c_Look) (.ref c_Term) = some true
  k1_Now_Either : PySem.W.kitOne K (.ref c_Now) (.ref c_Either) = some false
  k1_Now_Later : PySem.W.kitOne K (.ref c_Now) (.ref c_Later) = some false
  k1_Now_Look : PySem.W.kitOne K (.ref c_Now) (.ref c_Look) = some false
  k1_Now_Now : PySem.W.kitOne K (.ref c_Now) (.ref c_Now) = some true
  k1_Now_Shift : PySem.W.kitOne K (.ref c_Now) (.ref c_Shift) = some false
  k1_Now_Term : PySem.W.kitOne K (.ref c_Now) (.ref c_Term) = some true
  k1_Shift_Either : PySem.W.kitOne K (.ref c_Shift) (.ref c_Either) = some false
  k1_Shift_Later : PySem.W.kitOne K (.ref c_Shift) (.ref c_Later) = some false
  k1_Shift_Look : PySem.W.kitOne K (.ref c_Shift) (.ref c_Look) = some false
  k1_Shift_Now : PySem.W.kitOne K (.ref c_Shift) (.ref c_Now) = some false
  k1_Shift_Shift : PySem.W.kitOne K (.ref c_Shift) (.ref c_Shift) = some true
  k1_Shift_Term : PySem.W.kitOne K (.ref c_Shift) (.ref c_Term) = some true
  k1_World_World : PySem.W.kitOne K (.ref c_World) (.ref c_World) = some true
  ka_Earlier_Look_Later_Earlier : PySem.W.kitAny K (.ref c_Earlier) [.ref c_Look, .ref c_Later, .ref c_Earlier] = some true
  ka_Either_Look_Later_Earlier : PySem.W.kitAny K (.ref c_Either) [.ref c_Look, .ref c_Later, .ref c_Earlier] = some false
  ka_Later_Look_Later_Earlier : PySem.W.kitAny K (.ref c_Later) [.ref c_Look, .ref c_Later, .ref c_Earlier] = some true
  ka_Look_Look_Later_Earlier : PySem.W.kitAny K (.ref c_Look) [.ref c_Look, .ref c_Later, .ref c_Earlier] = some true
  ka_Now_Look_Later_Earlier : PySem.W.kitAny K (.ref c_Now) [.ref c_Look, .ref c_Later, .ref c_Earlier] = some false
  ka_Shift_Look_Later_Earlier : PySem.W.kitAny K (.ref c_Shift) [.ref c_Look, .ref c_Later, .ref c_Earlier] = some false
  call_Earlier : StX.CallO K c_Earlier Term_call.f
  call_Either : StX.CallO K c_Either Term_call.f
  call_Later : StX.CallO K c_Later Term_call.f
  call_Look : StX.CallO K c_Look Term_call.f
  call_Now : StX.CallO K c_Now Term_call.f
  call_Shift : StX.CallO K c_Shift Term_call.f
  n_isinstance : mg "isinstance" = none
  n_bool : mg "bool" = none
  n_int : mg "int" = none
  n_len : mg "len" = none
  n_str : mg "str" = none
  n_set : mg "set" = none
  n_list : mg "list" = none
  n_sorted : mg "sorted" = none
  n_sum : mg "sum" = none
  n_max : mg "max" = none
  n_super : mg "super" = none
  n_min : mg "min" = none
  n_abs : mg "abs" = none
  n_enumerate : mg "enumerate" = none
  n_range : mg "range" = none
  n_tuple : mg "tuple" = none
-- BEGIN RUN
def loose : List Str := (["_wall", "PastError", "BadName", "BadMoment", "BadBound", "BadTerm", "BadWay", "BadWorld", "BadRows", "TooMany", "LETTERS", "is_integer", "is_from_zero", "is_name", "check_name", "check_moment", "check_bound", "check_limit", "check_rows", "MOST_ROWS", "limited", "checked_pairs", "joined", "grouped", "World", "check_world", "WAYS", "DEEPEST", "MOST_PARTS", "MOST_LOOKS"] : List Str) ++ (["Term", "Now", "Shift", "Look", "Pair", "Either", "Later", "Earlier", "shifted", "fits", "looked_up", "check_term", "told", "greater_first", "lesser_last", "is_stretch", "moved", "clipped", "added", "span", "look_table", "look_pieces", "overlaid", "cut", "chosen", "raw_pieces", "meeting", "reach", "forms_at", "farthest"] : List Str) ++ (["pieces", "unequal", "differences", "_law_open", "_law_pick", "_law_number", "_law_limit", "_law_names", "_law_shift", "_law_tree", "_law_term", "_law_moments", "_law_rows", "_law_copy", "_law_world", "_law_pairs", "_law_is_integer", "_law_answer", "_law_equal", "_law_mirror", "_law_moved", "_law_minus", "_law_renamed", "_law_moved_piece"] : List Str)
def fns : List ObD := [⟨("is_integer", none), "is_integer", "is_integer", s_is_integer, []⟩,
  ⟨("is_from_zero", none), "is_from_zero", "is_from_zero", s_is_from_zero, []⟩,
  ⟨("is_name", none), "is_name", "is_name", s_is_name, []⟩,
  ⟨("check_name", none), "check_name", "check_name", s_check_name, []⟩,
  ⟨("check_moment", none), "check_moment", "check_moment", s_check_moment, []⟩,
  ⟨("check_bound", none), "check_bound", "check_bound", s_check_bound, []⟩,
  ⟨("check_limit", none), "check_limit", "check_limit", s_check_limit, []⟩,
  ⟨("check_rows", none), "check_rows", "check_rows", s_check_rows, []⟩,
  ⟨("limited", none), "limited", "limited", s_limited, []⟩,
  ⟨("checked_pairs", none), "checked_pairs", "checked_pairs", s_checked_pairs, []⟩,
  ⟨("check_world", none), "check_world", "check_world", s_check_world, []⟩,
  ⟨("shifted", none), "shifted", "shifted", s_shifted, []⟩,
  ⟨("fits", none), "fits", "fits", s_fits, []⟩,
  ⟨("looked_up", none), "looked_up", "looked_up", s_looked_up, []⟩,
  ⟨("check_term", none), "check_term", "check_term", s_check_term, []⟩,
  ⟨("told", none), "told", "told", s_told, []⟩,
  ⟨("greater_first", none), "greater_first", "greater_first", s_greater_first, []⟩,
  ⟨("lesser_last", none), "lesser_last", "lesser_last", s_lesser_last, []⟩,
  ⟨("is_stretch", none), "is_stretch", "is_stretch", s_is_stretch, []⟩,
  ⟨("moved", none), "moved", "moved", s_moved, []⟩,
  ⟨("clipped", none), "clipped", "clipped", s_clipped, []⟩,
  ⟨("added", none), "added", "added", s_added, []⟩,
  ⟨("span", none), "span", "span", s_span, []⟩,
  ⟨("look_table", none), "look_table", "look_table", s_look_table, []⟩,
  ⟨("look_pieces", none), "look_pieces", "look_pieces", s_look_pieces, []⟩,
  ⟨("overlaid", none), "overlaid", "overlaid", s_overlaid, []⟩,
  ⟨("cut", none), "cut", "cut", s_cut, []⟩,
  ⟨("chosen", none), "chosen", "chosen", s_chosen, []⟩,
  ⟨("raw_pieces", none), "raw_pieces", "raw_pieces", s_raw_pieces, []⟩,
  ⟨("meeting", none), "meeting", "meeting", s_meeting, []⟩,
  ⟨("reach", none), "reach", "reach", s_reach, []⟩,
  ⟨("forms_at", none), "forms_at", "forms_at", s_forms_at, []⟩,
  ⟨("farthest", none), "farthest", "farthest", s_farthest, []⟩,
  ⟨("pieces", none), "pieces", "pieces", s_pieces, []⟩,
  ⟨("unequal", none), "unequal", "unequal", s_unequal, []⟩,
  ⟨("differences", none), "differences", "differences", s_differences, []⟩,
  ⟨("_law_open", none), "_law_open", "_law_open", s_law_open, []⟩,
  ⟨("_law_pick", none), "_law_pick", "_law_pick", s_law_pick, []⟩,
  ⟨("_law_number", none), "_law_number", "_law_number", s_law_number, []⟩,
  ⟨("_law_limit", none), "_law_limit", "_law_limit", s_law_limit, []⟩,
  ⟨("_law_names", none), "_law_names", "_law_names", s_law_names, []⟩,
  ⟨("_law_shift", none), "_law_shift", "_law_shift", s_law_shift, []⟩,
  ⟨("_law_tree", none), "_law_tree", "_law_tree", s_law_tree, []⟩,
  ⟨("_law_term", none), "_law_term", "_law_term", s_law_term, []⟩,
  ⟨("_law_moments", none), "_law_moments", "_law_moments", s_law_moments, []⟩,
  ⟨("_law_rows", none), "_law_rows", "_law_rows", s_law_rows, []⟩,
  ⟨("_law_copy", none), "_law_copy", "_law_copy", s_law_copy, []⟩,
  ⟨("_law_world", none), "_law_world", "_law_world", s_law_world, []⟩,
  ⟨("_law_pairs", none), "_law_pairs", "_law_pairs", s_law_pairs, []⟩,
  ⟨("_law_is_integer", none), "_law_is_integer", "_law_is_integer", s_law_is_integer, []⟩,
  ⟨("_law_answer", none), "_law_answer", "_law_answer", s_law_answer, []⟩,
  ⟨("_law_equal", none), "_law_equal", "_law_equal", s_law_equal, []⟩,
  ⟨("_law_mirror", none), "_law_mirror", "_law_mirror", s_law_mirror, []⟩,
  ⟨("_law_moved", none), "_law_moved", "_law_moved", s_law_moved, []⟩,
  ⟨("_law_minus", none), "_law_minus", "_law_minus", s_law_minus, []⟩,
  ⟨("_law_renamed", none), "_law_renamed", "_law_renamed", s_law_renamed, []⟩,
  ⟨("_law_moved_piece", none), "_law_moved_piece", "_law_moved_piece", s_law_moved_piece, []⟩,
  ⟨("law", none), "law", "law", s_law, []⟩,
  ⟨("World", some "__init__"), "__init__", "World.__init__", s_World_init, []⟩,
  ⟨("World", some "__getitem__"), "__getitem__", "World.__getitem__", s_World_getitem, []⟩,
  ⟨("World", some "rows"), "rows", "World.rows", s_World_rows, []⟩,
  ⟨("Term", some "__init__"), "__init__", "Term.__init__", s_Term_init, []⟩,
  ⟨("Term", some "__add__"), "__add__", "Term.__add__", s_Term_add, []⟩,
  ⟨("Term", some "__sub__"), "__sub__", "Term.__sub__", s_Term_sub, []⟩,
  ⟨("Term", some "__or__"), "__or__", "Term.__or__", s_Term_or, []⟩,
  ⟨("Term", some "__eq__"), "__eq__", "Term.__eq__", s_Term_eq, []⟩,
  ⟨("Term", some "__call__"), "__call__", "Term.__call__", s_Term_call, []⟩,
  ⟨("Term", some "later"), "later", "Term.later", s_Term_later, []⟩,
  ⟨("Term", some "earlier"), "earlier", "Term.earlier", s_Term_earlier, []⟩,
  ⟨("Term", some "form"), "form", "Term.form", s_Term_form, []⟩,
  ⟨("Term", some "answer_in"), "answer_in", "Term.answer_in", s_Term_answer_in, []⟩,
  ⟨("Now", some "__init__"), "__init__", "Now.__init__", s_Now_init, [("__class__" : Str)]⟩,
  ⟨("Shift", some "__init__"), "__init__", "Shift.__init__", s_Shift_init, [("__class__" : Str)]⟩,
  ⟨("Shift", some "form"), "form", "Shift.form", s_Shift_form, []⟩,
  ⟨("Shift", some "answer_in"), "answer_in", "Shift.answer_in", s_Shift_answer_in, []⟩,
  ⟨("Look", some "__init__"), "__init__", "Look.__init__", s_Look_init, [("__class__" : Str)]⟩,
  ⟨("Look", some "form"), "form", "Look.form", s_Look_form, []⟩,
  ⟨("Look", some "answer_in"), "answer_in", "Look.answer_in", s_Look_answer_in, []⟩,
  ⟨("Pair", some "__init__"), "__init__", "Pair.__init__", s_Pair_init, [("__class__" : Str)]⟩,
  ⟨("Either", some "form"), "form", "Either.form", s_Either_form, []⟩,
  ⟨("Either", some "answer_in"), "answer_in", "Either.answer_in", s_Either_answer_in, []⟩,
  ⟨("Later", some "form"), "form", "Later.form", s_Later_form, []⟩,
  ⟨("Later", some "answer_in"), "answer_in", "Later.answer_in", s_Later_answer_in, []⟩,
  ⟨("Earlier", some "form"), "form", "Earlier.form", s_Earlier_form, []⟩,
  ⟨("Earlier", some "answer_in"), "answer_in", "Earlier.answer_in", s_Earlier_answer_in, []⟩]
def cks0 : List (PySem.W.Frag → Bool) := [fun K => He.eqO (PySem.W.nsIn K mainGlobals "World") (some (some (.ref (He.ga K "World")))),
  fun K => He.eqO (PySem.W.nsIn K mainGlobals "Term") (some (some (.ref (He.ga K "Term")))),
  fun K => He.eqO (PySem.W.nsIn K mainGlobals "Now") (some (some (.ref (He.ga K "Now")))),
  fun K => He.eqO (PySem.W.nsIn K mainGlobals "Shift") (some (some (.ref (He.ga K "Shift")))),
  fun K => He.eqO (PySem.W.nsIn K mainGlobals "Look") (some (some (.ref (He.ga K "Look")))),
  fun K => He.eqO (PySem.W.nsIn K mainGlobals "Pair") (some (some (.ref (He.ga K "Pair")))),
  fun K => He.eqO (PySem.W.nsIn K mainGlobals "Either") (some (some (.ref (He.ga K "Either")))),
  fun K => He.eqO (PySem.W.nsIn K mainGlobals "Later") (some (some (.ref (He.ga K "Later")))),
  fun K => He.eqO (PySem.W.nsIn K mainGlobals "Earlier") (some (some (.ref (He.ga K "Earlier")))),
  fun K => He.eqO (PySem.W.nsIn K mainGlobals "WAYS") (some (some (.ref (He.ga K "WAYS")))),
  fun K => He.tupB K "WAYS" [.str "at", .str "before", .str "since", .str "after"],
  fun K => (He.Fa.int "DEEPEST" 12).ok K,
  fun K => (He.Fa.str "LETTERS" "abcdefghijklmnopqrstuvwxyz").ok K,
  fun K => (He.Fa.int "MOST_LOOKS" 12).ok K,
  fun K => (He.Fa.int "MOST_PARTS" 40).ok K,
  fun K => (He.Fa.int "MOST_ROWS" 300).ok K,
  fun K => plB ("is_integer", none) "is_integer" K,
  fun K => He.eqO (PySem.W.nsIn K mainGlobals "is_integer") (some (some (.ref (He.ga K "is_integer")))),
  fun K => plB ("is_from_zero", none) "is_from_zero" K,
  fun K => He.eqO (PySem.W.nsIn K mainGlobals "is_from_zero") (some (some (.ref (He.ga K "is_from_zero")))),
  fun K => plB ("is_name", none) "is_name" K,
  fun K => He.eqO (PySem.W.nsIn K mainGlobals "is_name") (some (some (.ref (He.ga K "is_name")))),
  fun K => plB ("check_name", none) "check_name" K,
  fun K => He.eqO (PySem.W.nsIn K mainGlobals "check_name") (some (some (.ref (He.ga K "check_name")))),
  fun K => plB ("check_moment", none) "check_moment" K,
  fun K => He.eqO (PySem.W.nsIn K mainGlobals "check_moment") (some (some (.ref (He.ga K "check_moment")))),
  fun K => plB ("check_bound", none) "check_bound" K,
  fun K => He.eqO (PySem.W.nsIn K mainGlobals "check_bound") (some (some (.ref (He.ga K "check_bound")))),
  fun K => plB ("check_limit", none) "check_limit" K,
  fun K => He.eqO (PySem.W.nsIn K mainGlobals "check_limit") (some (some (.ref (He.ga K "check_limit")))),
  fun K => plB ("check_rows", none) "check_rows" K,
  fun K => He.eqO (PySem.W.nsIn K mainGlobals "check_rows") (some (some (.ref (He.ga K "check_rows")))),
  fun K => plB ("limited", none) "limited" K,
  fun K => He.eqO (PySem.W.nsIn K mainGlobals "limited") (some (some (.ref (He.ga K "limited")))),
  fun K => plB ("checked_pairs", none) "checked_pairs" K,
  fun K => He.eqO (PySem.W.nsIn K mainGlobals "checked_pairs") (some (some (.ref (He.ga K "checked_pairs")))),
  fun K => plB ("check_world", none) "check_world" K,
  fun K => He.eqO (PySem.W.nsIn K mainGlobals "check_world") (some (some (.ref (He.ga K "check_world")))),
  fun K => plB ("shifted", none) "shifted" K,
  fun K => He.eqO (PySem.W.nsIn K mainGlobals "shifted") (some (some (.ref (He.ga K "shifted")))),
  fun K => plB ("fits", none) "fits" K,
  fun K => He.eqO (PySem.W.nsIn K mainGlobals "fits") (some (some (.ref (He.ga K "fits")))),
  fun K => plB ("looked_up", none) "looked_up" K,
  fun K => He.eqO (PySem.W.nsIn K mainGlobals "looked_up") (some (some (.ref (He.ga K "looked_up")))),
  fun K => plB ("check_term", none) "check_term" K,
  fun K => He.eqO (PySem.W.nsIn K mainGlobals "check_term") (some (some (.ref (He.ga K "check_term")))),
  fun K => plB ("told", none) "told" K,
  fun K => He.eqO (PySem.W.nsIn K mainGlobals "told") (some (some (.ref (He.ga K "told")))),
  fun K => plB ("greater_first", none) "greater_first" K,
  fun K => He.eqO (PySem.W.nsIn K mainGlobals "greater_first") (some (some (.ref (He.ga K "greater_first")))),
  fun K => plB ("lesser_last", none) "lesser_last" K,
  fun K => He.eqO (PySem.W.nsIn K mainGlobals "lesser_last") (some (some (.ref (He.ga K "lesser_last")))),
  fun K => plB ("is_stretch", none) "is_stretch" K,
  fun K => He.eqO (PySem.W.nsIn K mainGlobals "is_stretch") (some (some (.ref (He.ga K "is_stretch")))),
  fun K => plB ("moved", none) "moved" K,
  fun K => He.eqO (PySem.W.nsIn K mainGlobals "moved") (some (some (.ref (He.ga K "moved")))),
  fun K => plB ("clipped", none) "clipped" K,
  fun K => He.eqO (PySem.W.nsIn K mainGlobals "clipped") (some (some (.ref (He.ga K "clipped")))),
  fun K => plB ("added", none) "added" K,
  fun K => He.eqO (PySem.W.nsIn K mainGlobals "added") (some (some (.ref (He.ga K "added"))))]
def cks1 : List (PySem.W.Frag → Bool) := [fun K => plB ("span", none) "span" K,
  fun K => He.eqO (PySem.W.nsIn K mainGlobals "span") (some (some (.ref (He.ga K "span")))),
  fun K => plB ("look_table", none) "look_table" K,
  fun K => He.eqO (PySem.W.nsIn K mainGlobals "look_table") (some (some (.ref (He.ga K "look_table")))),
  fun K => plB ("look_pieces", none) "look_pieces" K,
  fun K => He.eqO (PySem.W.nsIn K mainGlobals "look_pieces") (some (some (.ref (He.ga K "look_pieces")))),
  fun K => plB ("overlaid", none) "overlaid" K,
  fun K => He.eqO (PySem.W.nsIn K mainGlobals "overlaid") (some (some (.ref (He.ga K "overlaid")))),
  fun K => plB ("cut", none) "cut" K,
  fun K => He.eqO (PySem.W.nsIn K mainGlobals "cut") (some (some (.ref (He.ga K "cut")))),
  fun K => plB ("chosen", none) "chosen" K,
  fun K => He.eqO (PySem.W.nsIn K mainGlobals "chosen") (some (some (.ref (He.ga K "chosen")))),
  fun K => plB ("raw_pieces", none) "raw_pieces" K,
  fun K => He.eqO (PySem.W.nsIn K mainGlobals "raw_pieces") (some (some (.ref (He.ga K "raw_pieces")))),
  fun K => plB ("meeting", none) "meeting" K,
  fun K => He.eqO (PySem.W.nsIn K mainGlobals "meeting") (some (some (.ref (He.ga K "meeting")))),
  fun K => plB ("reach", none) "reach" K,
  fun K => He.eqO (PySem.W.nsIn K mainGlobals "reach") (some (some (.ref (He.ga K "reach")))),
  fun K => plB ("forms_at", none) "forms_at" K,
  fun K => He.eqO (PySem.W.nsIn K mainGlobals "forms_at") (some (some (.ref (He.ga K "forms_at")))),
  fun K => plB ("farthest", none) "farthest" K,
  fun K => He.eqO (PySem.W.nsIn K mainGlobals "farthest") (some (some (.ref (He.ga K "farthest")))),
  fun K => plB ("pieces", none) "pieces" K,
  fun K => He.eqO (PySem.W.nsIn K mainGlobals "pieces") (some (some (.ref (He.ga K "pieces")))),
  fun K => plB ("unequal", none) "unequal" K,
  fun K => He.eqO (PySem.W.nsIn K mainGlobals "unequal") (some (some (.ref (He.ga K "unequal")))),
  fun K => plB ("differences", none) "differences" K,
  fun K => He.eqO (PySem.W.nsIn K mainGlobals "differences") (some (some (.ref (He.ga K "differences")))),
  fun K => plB ("_law_open", none) "_law_open" K,
  fun K => He.eqO (PySem.W.nsIn K mainGlobals "_law_open") (some (some (.ref (He.ga K "_law_open")))),
  fun K => plB ("_law_pick", none) "_law_pick" K,
  fun K => He.eqO (PySem.W.nsIn K mainGlobals "_law_pick") (some (some (.ref (He.ga K "_law_pick")))),
  fun K => plB ("_law_number", none) "_law_number" K,
  fun K => He.eqO (PySem.W.nsIn K mainGlobals "_law_number") (some (some (.ref (He.ga K "_law_number")))),
  fun K => plB ("_law_limit", none) "_law_limit" K,
  fun K => He.eqO (PySem.W.nsIn K mainGlobals "_law_limit") (some (some (.ref (He.ga K "_law_limit")))),
  fun K => plB ("_law_names", none) "_law_names" K,
  fun K => He.eqO (PySem.W.nsIn K mainGlobals "_law_names") (some (some (.ref (He.ga K "_law_names")))),
  fun K => plB ("_law_shift", none) "_law_shift" K,
  fun K => He.eqO (PySem.W.nsIn K mainGlobals "_law_shift") (some (some (.ref (He.ga K "_law_shift")))),
  fun K => plB ("_law_tree", none) "_law_tree" K,
  fun K => He.eqO (PySem.W.nsIn K mainGlobals "_law_tree") (some (some (.ref (He.ga K "_law_tree")))),
  fun K => plB ("_law_term", none) "_law_term" K,
  fun K => He.eqO (PySem.W.nsIn K mainGlobals "_law_term") (some (some (.ref (He.ga K "_law_term")))),
  fun K => plB ("_law_moments", none) "_law_moments" K,
  fun K => He.eqO (PySem.W.nsIn K mainGlobals "_law_moments") (some (some (.ref (He.ga K "_law_moments")))),
  fun K => plB ("_law_rows", none) "_law_rows" K,
  fun K => He.eqO (PySem.W.nsIn K mainGlobals "_law_rows") (some (some (.ref (He.ga K "_law_rows")))),
  fun K => plB ("_law_copy", none) "_law_copy" K,
  fun K => He.eqO (PySem.W.nsIn K mainGlobals "_law_copy") (some (some (.ref (He.ga K "_law_copy")))),
  fun K => plB ("_law_world", none) "_law_world" K,
  fun K => He.eqO (PySem.W.nsIn K mainGlobals "_law_world") (some (some (.ref (He.ga K "_law_world")))),
  fun K => plB ("_law_pairs", none) "_law_pairs" K,
  fun K => He.eqO (PySem.W.nsIn K mainGlobals "_law_pairs") (some (some (.ref (He.ga K "_law_pairs")))),
  fun K => plB ("_law_is_integer", none) "_law_is_integer" K,
  fun K => He.eqO (PySem.W.nsIn K mainGlobals "_law_is_integer") (some (some (.ref (He.ga K "_law_is_integer")))),
  fun K => plB ("_law_answer", none) "_law_answer" K,
  fun K => He.eqO (PySem.W.nsIn K mainGlobals "_law_answer") (some (some (.ref (He.ga K "_law_answer")))),
  fun K => plB ("_law_equal", none) "_law_equal" K,
  fun K => He.eqO (PySem.W.nsIn K mainGlobals "_law_equal") (some (some (.ref (He.ga K "_law_equal"))))]
def cks2 : List (PySem.W.Frag → Bool) := [fun K => plB ("_law_mirror", none) "_law_mirror" K,
  fun K => He.eqO (PySem.W.nsIn K mainGlobals "_law_mirror") (some (some (.ref (He.ga K "_law_mirror")))),
  fun K => plB ("_law_moved", none) "_law_moved" K,
  fun K => He.eqO (PySem.W.nsIn K mainGlobals "_law_moved") (some (some (.ref (He.ga K "_law_moved")))),
  fun K => plB ("_law_minus", none) "_law_minus" K,
  fun K => He.eqO (PySem.W.nsIn K mainGlobals "_law_minus") (some (some (.ref (He.ga K "_law_minus")))),
  fun K => plB ("_law_renamed", none) "_law_renamed" K,
  fun K => He.eqO (PySem.W.nsIn K mainGlobals "_law_renamed") (some (some (.ref (He.ga K "_law_renamed")))),
  fun K => plB ("_law_moved_piece", none) "_law_moved_piece" K,
  fun K => He.eqO (PySem.W.nsIn K mainGlobals "_law_moved_piece") (some (some (.ref (He.ga K "_law_moved_piece")))),
  fun K => plB ("law", none) "law" K,
  fun K => He.eqO (PySem.W.nsIn K mainGlobals "law") (some (some (.ref (He.ga K "law")))),
  fun K => dfB ("World", some "__init__") "World.__init__" K,
  fun K => plB ("World", some "__getitem__") "World.__getitem__" K,
  fun K => plB ("World", some "rows") "World.rows" K,
  fun K => plB ("Term", some "__init__") "Term.__init__" K,
  fun K => plB ("Term", some "__add__") "Term.__add__" K,
  fun K => plB ("Term", some "__sub__") "Term.__sub__" K,
  fun K => plB ("Term", some "__or__") "Term.__or__" K,
  fun K => plB ("Term", some "__eq__") "Term.__eq__" K,
  fun K => plB ("Term", some "__call__") "Term.__call__" K,
  fun K => plB ("Term", some "later") "Term.later" K,
  fun K => plB ("Term", some "earlier") "Term.earlier" K,
  fun K => plB ("Term", some "form") "Term.form" K,
  fun K => plB ("Term", some "answer_in") "Term.answer_in" K,
  fun K => supB ("Now", some "__init__") "Now.__init__" "Now" fileS K,
  fun K => (PySem.W.clsIn K (He.ga K "Now")).isSome,
  fun K => He.eqO (PySem.W.nsIn K mainGlobals "super") (some none),
  fun K => He.eqO (PySem.W.nsIn K cStatics "thirdparty.any") (some none),
  fun K => decide (PySem.W.typeIn K (.ref (He.fAd K ("Term", some "__init__"))) = some (.type "function")),
  fun K => PySem.W.fnIn K (He.fAd K ("Term", some "__init__")),
  fun K => supB ("Shift", some "__init__") "Shift.__init__" "Shift" fileS K,
  fun K => (PySem.W.clsIn K (He.ga K "Shift")).isSome,
  fun K => plB ("Shift", some "form") "Shift.form" K,
  fun K => plB ("Shift", some "answer_in") "Shift.answer_in" K,
  fun K => supB ("Look", some "__init__") "Look.__init__" "Look" fileS K,
  fun K => (PySem.W.clsIn K (He.ga K "Look")).isSome,
  fun K => plB ("Look", some "form") "Look.form" K,
  fun K => plB ("Look", some "answer_in") "Look.answer_in" K,
  fun K => supB ("Pair", some "__init__") "Pair.__init__" "Pair" fileS K,
  fun K => (PySem.W.clsIn K (He.ga K "Pair")).isSome,
  fun K => plB ("Either", some "form") "Either.form" K,
  fun K => plB ("Either", some "answer_in") "Either.answer_in" K,
  fun K => plB ("Later", some "form") "Later.form" K,
  fun K => plB ("Later", some "answer_in") "Later.answer_in" K,
  fun K => plB ("Earlier", some "form") "Earlier.form" K,
  fun K => plB ("Earlier", some "answer_in") "Earlier.answer_in" K,
  fun K => PySem.W.plainGet K (He.ga K "Earlier") Str.empty,
  fun K => PySem.W.hasDictIn K (He.ga K "Earlier"),
  fun K => PySem.W.plainOver K (He.ga K "Earlier"),
  fun K => He.eqO (PySem.W.findIn K (.ref (He.ga K "Earlier")) "__setattr__") (some (some (.builtin "object.__setattr__"))),
  fun K => He.eqO (PySem.W.findIn K (.ref (He.ga K "Earlier")) "__class__") (some (some (.builtin "object.__class__"))),
  fun K => He.eqO (PySem.W.specialIn K (.builtin "object.__class__") "__get__") (some (some (.builtin "getset_descriptor.__get__"))),
  fun K => eqB (PySem.W.takesIn K (.builtin "object.__class__")) (some true),
  fun K => eqB (PySem.W.mroIn K (He.ga K "Earlier") (.type "object")) (some true),
  fun K => PySem.W.plainGet K (He.ga K "Either") Str.empty,
  fun K => PySem.W.hasDictIn K (He.ga K "Either"),
  fun K => PySem.W.plainOver K (He.ga K "Either"),
  fun K => He.eqO (PySem.W.findIn K (.ref (He.ga K "Either")) "__setattr__") (some (some (.builtin "object.__setattr__"))),
  fun K => He.eqO (PySem.W.findIn K (.ref (He.ga K "Either")) "__class__") (some (some (.builtin "object.__class__")))]
def cks3 : List (PySem.W.Frag → Bool) := [fun K => eqB (PySem.W.mroIn K (He.ga K "Either") (.type "object")) (some true),
  fun K => PySem.W.plainGet K (He.ga K "Later") Str.empty,
  fun K => PySem.W.hasDictIn K (He.ga K "Later"),
  fun K => PySem.W.plainOver K (He.ga K "Later"),
  fun K => He.eqO (PySem.W.findIn K (.ref (He.ga K "Later")) "__setattr__") (some (some (.builtin "object.__setattr__"))),
  fun K => He.eqO (PySem.W.findIn K (.ref (He.ga K "Later")) "__class__") (some (some (.builtin "object.__class__"))),
  fun K => eqB (PySem.W.mroIn K (He.ga K "Later") (.type "object")) (some true),
  fun K => PySem.W.plainGet K (He.ga K "Look") Str.empty,
  fun K => PySem.W.hasDictIn K (He.ga K "Look"),
  fun K => PySem.W.plainOver K (He.ga K "Look"),
  fun K => He.eqO (PySem.W.findIn K (.ref (He.ga K "Look")) "__setattr__") (some (some (.builtin "object.__setattr__"))),
  fun K => He.eqO (PySem.W.findIn K (.ref (He.ga K "Look")) "__class__") (some (some (.builtin "object.__class__"))),
  fun K => eqB (PySem.W.mroIn K (He.ga K "Look") (.type "object")) (some true),
  fun K => PySem.W.plainGet K (He.ga K "Now") Str.empty,
  fun K => PySem.W.hasDictIn K (He.ga K "Now"),
  fun K => PySem.W.plainOver K (He.ga K "Now"),
  fun K => He.eqO (PySem.W.findIn K (.ref (He.ga K "Now")) "__setattr__") (some (some (.builtin "object.__setattr__"))),
  fun K => He.eqO (PySem.W.findIn K (.ref (He.ga K "Now")) "__class__") (some (some (.builtin "object.__class__"))),
  fun K => eqB (PySem.W.mroIn K (He.ga K "Now") (.type "object")) (some true),
  fun K => PySem.W.plainGet K (He.ga K "Shift") Str.empty,
  fun K => PySem.W.hasDictIn K (He.ga K "Shift"),
  fun K => PySem.W.plainOver K (He.ga K "Shift"),
  fun K => He.eqO (PySem.W.findIn K (.ref (He.ga K "Shift")) "__setattr__") (some (some (.builtin "object.__setattr__"))),
  fun K => He.eqO (PySem.W.findIn K (.ref (He.ga K "Shift")) "__class__") (some (some (.builtin "object.__class__"))),
  fun K => eqB (PySem.W.mroIn K (He.ga K "Shift") (.type "object")) (some true),
  fun K => PySem.W.plainGet K (He.ga K "World") Str.empty,
  fun K => PySem.W.hasDictIn K (He.ga K "World"),
  fun K => PySem.W.plainOver K (He.ga K "World"),
  fun K => He.eqO (PySem.W.findIn K (.ref (He.ga K "World")) "__setattr__") (some (some (.builtin "object.__setattr__"))),
  fun K => He.eqO (PySem.W.findIn K (.ref (He.ga K "World")) "__class__") (some (some (.builtin "object.__class__"))),
  fun K => eqB (PySem.W.mroIn K (He.ga K "World") (.type "object")) (some true),
  fun K => PySem.W.makesIn K (He.ga K "Earlier"),
  fun K => He.eqO (PySem.W.findIn K (.ref (He.ga K "Earlier")) "__init__") (some (some (.ref (He.fAd K ("Pair", some "__init__"))))),
  fun K => PySem.W.isFn K (.ref (He.fAd K ("Pair", some "__init__"))),
  fun K => PySem.W.keepIn K (.ref (He.ga K "Earlier")),
  fun K => PySem.W.makesIn K (He.ga K "Either"),
  fun K => He.eqO (PySem.W.findIn K (.ref (He.ga K "Either")) "__init__") (some (some (.ref (He.fAd K ("Pair", some "__init__"))))),
  fun K => PySem.W.keepIn K (.ref (He.ga K "Either")),
  fun K => PySem.W.makesIn K (He.ga K "Later"),
  fun K => He.eqO (PySem.W.findIn K (.ref (He.ga K "Later")) "__init__") (some (some (.ref (He.fAd K ("Pair", some "__init__"))))),
  fun K => PySem.W.keepIn K (.ref (He.ga K "Later")),
  fun K => PySem.W.makesIn K (He.ga K "Look"),
  fun K => He.eqO (PySem.W.findIn K (.ref (He.ga K "Look")) "__init__") (some (some (.ref (He.fAd K ("Look", some "__init__"))))),
  fun K => PySem.W.isFn K (.ref (He.fAd K ("Look", some "__init__"))),
  fun K => PySem.W.keepIn K (.ref (He.ga K "Look")),
  fun K => PySem.W.makesIn K (He.ga K "Now"),
  fun K => He.eqO (PySem.W.findIn K (.ref (He.ga K "Now")) "__init__") (some (some (.ref (He.fAd K ("Now", some "__init__"))))),
  fun K => PySem.W.isFn K (.ref (He.fAd K ("Now", some "__init__"))),
  fun K => PySem.W.keepIn K (.ref (He.ga K "Now")),
  fun K => PySem.W.makesIn K (He.ga K "Shift"),
  fun K => He.eqO (PySem.W.findIn K (.ref (He.ga K "Shift")) "__init__") (some (some (.ref (He.fAd K ("Shift", some "__init__"))))),
  fun K => PySem.W.isFn K (.ref (He.fAd K ("Shift", some "__init__"))),
  fun K => PySem.W.keepIn K (.ref (He.ga K "Shift")),
  fun K => PySem.W.makesIn K (He.ga K "World"),
  fun K => He.eqO (PySem.W.findIn K (.ref (He.ga K "World")) "__init__") (some (some (.ref (He.fAd K ("World", some "__init__"))))),
  fun K => PySem.W.isFn K (.ref (He.fAd K ("World", some "__init__"))),
  fun K => PySem.W.keepIn K (.ref (He.ga K "World")),
  fun K => He.eqO (PySem.W.findIn K (.ref (He.ga K "Earlier")) "answer_in") (some (some (.ref (He.fAd K ("Earlier", some "answer_in"))))),
  fun K => PySem.W.isFn K (.ref (He.fAd K ("Earlier", some "answer_in"))),
  fun K => PySem.W.keepIn K (.ref (He.fAd K ("Earlier", some "answer_in")))]
def cks4 : List (PySem.W.Frag → Bool) := [fun K => He.eqO (PySem.W.findIn K (.ref (He.ga K "Earlier")) "earlier") (some (some (.ref (He.fAd K ("Term", some "earlier"))))),
  fun K => PySem.W.isFn K (.ref (He.fAd K ("Term", some "earlier"))),
  fun K => PySem.W.keepIn K (.ref (He.fAd K ("Term", some "earlier"))),
  fun K => He.eqO (PySem.W.findIn K (.ref (He.ga K "Earlier")) "form") (some (some (.ref (He.fAd K ("Earlier", some "form"))))),
  fun K => PySem.W.isFn K (.ref (He.fAd K ("Earlier", some "form"))),
  fun K => PySem.W.keepIn K (.ref (He.fAd K ("Earlier", some "form"))),
  fun K => He.eqO (PySem.W.findIn K (.ref (He.ga K "Earlier")) "later") (some (some (.ref (He.fAd K ("Term", some "later"))))),
  fun K => PySem.W.isFn K (.ref (He.fAd K ("Term", some "later"))),
  fun K => PySem.W.keepIn K (.ref (He.fAd K ("Term", some "later"))),
  fun K => He.eqO (PySem.W.findIn K (.ref (He.ga K "Either")) "answer_in") (some (some (.ref (He.fAd K ("Either", some "answer_in"))))),
  fun K => PySem.W.isFn K (.ref (He.fAd K ("Either", some "answer_in"))),
  fun K => PySem.W.keepIn K (.ref (He.fAd K ("Either", some "answer_in"))),
  fun K => He.eqO (PySem.W.findIn K (.ref (He.ga K "Either")) "earlier") (some (some (.ref (He.fAd K ("Term", some "earlier"))))),
  fun K => He.eqO (PySem.W.findIn K (.ref (He.ga K "Either")) "form") (some (some (.ref (He.fAd K ("Either", some "form"))))),
  fun K => PySem.W.isFn K (.ref (He.fAd K ("Either", some "form"))),
  fun K => PySem.W.keepIn K (.ref (He.fAd K ("Either", some "form"))),
  fun K => He.eqO (PySem.W.findIn K (.ref (He.ga K "Either")) "later") (some (some (.ref (He.fAd K ("Term", some "later"))))),
  fun K => He.eqO (PySem.W.findIn K (.ref (He.ga K "Later")) "answer_in") (some (some (.ref (He.fAd K ("Later", some "answer_in"))))),
  fun K => PySem.W.isFn K (.ref (He.fAd K ("Later", some "answer_in"))),
  fun K => PySem.W.keepIn K (.ref (He.fAd K ("Later", some "answer_in"))),
  fun K => He.eqO (PySem.W.findIn K (.ref (He.ga K "Later")) "earlier") (some (some (.ref (He.fAd K ("Term", some "earlier"))))),
  fun K => He.eqO (PySem.W.findIn K (.ref (He.ga K "Later")) "form") (some (some (.ref (He.fAd K ("Later", some "form"))))),
  fun K => PySem.W.isFn K (.ref (He.fAd K ("Later", some "form"))),
  fun K => PySem.W.keepIn K (.ref (He.fAd K ("Later", some "form"))),
  fun K => He.eqO (PySem.W.findIn K (.ref (He.ga K "Later")) "later") (some (some (.ref (He.fAd K ("Term", some "later"))))),
  fun K => He.eqO (PySem.W.findIn K (.ref (He.ga K "Look")) "answer_in") (some (some (.ref (He.fAd K ("Look", some "answer_in"))))),
  fun K => PySem.W.isFn K (.ref (He.fAd K ("Look", some "answer_in"))),
  fun K => PySem.W.keepIn K (.ref (He.fAd K ("Look", some "answer_in"))),
  fun K => He.eqO (PySem.W.findIn K (.ref (He.ga K "Look")) "earlier") (some (some (.ref (He.fAd K ("Term", some "earlier"))))),
  fun K => He.eqO (PySem.W.findIn K (.ref (He.ga K "Look")) "form") (some (some (.ref (He.fAd K ("Look", some "form"))))),
  fun K => PySem.W.isFn K (.ref (He.fAd K ("Look", some "form"))),
  fun K => PySem.W.keepIn K (.ref (He.fAd K ("Look", some "form"))),
  fun K => He.eqO (PySem.W.findIn K (.ref (He.ga K "Look")) "later") (some (some (.ref (He.fAd K ("Term", some "later"))))),
  fun K => He.eqO (PySem.W.findIn K (.ref (He.ga K "Now")) "answer_in") (some (some (.ref (He.fAd K ("Term", some "answer_in"))))),
  fun K => PySem.W.isFn K (.ref (He.fAd K ("Term", some "answer_in"))),
  fun K => PySem.W.keepIn K (.ref (He.fAd K ("Term", some "answer_in"))),
  fun K => He.eqO (PySem.W.findIn K (.ref (He.ga K "Now")) "earlier") (some (some (.ref (He.fAd K ("Term", some "earlier"))))),
  fun K => He.eqO (PySem.W.findIn K (.ref (He.ga K "Now")) "form") (some (some (.ref (He.fAd K ("Term", some "form"))))),
  fun K => PySem.W.isFn K (.ref (He.fAd K ("Term", some "form"))),
  fun K => PySem.W.keepIn K (.ref (He.fAd K ("Term", some "form"))),
  fun K => He.eqO (PySem.W.findIn K (.ref (He.ga K "Now")) "later") (some (some (.ref (He.fAd K ("Term", some "later"))))),
  fun K => He.eqO (PySem.W.findIn K (.ref (He.ga K "Shift")) "answer_in") (some (some (.ref (He.fAd K ("Shift", some "answer_in"))))),
  fun K => PySem.W.isFn K (.ref (He.fAd K ("Shift", some "answer_in"))),
  fun K => PySem.W.keepIn K (.ref (He.fAd K ("Shift", some "answer_in"))),
  fun K => He.eqO (PySem.W.findIn K (.ref (He.ga K "Shift")) "earlier") (some (some (.ref (He.fAd K ("Term", some "earlier"))))),
  fun K => He.eqO (PySem.W.findIn K (.ref (He.ga K "Shift")) "form") (some (some (.ref (He.fAd K ("Shift", some "form"))))),
  fun K => PySem.W.isFn K (.ref (He.fAd K ("Shift", some "form"))),
  fun K => PySem.W.keepIn K (.ref (He.fAd K ("Shift", some "form"))),
  fun K => He.eqO (PySem.W.findIn K (.ref (He.ga K "Shift")) "later") (some (some (.ref (He.fAd K ("Term", some "later"))))),
  fun K => He.eqO (PySem.W.findIn K (.ref (He.ga K "Earlier")) "choices") (some none),
  fun K => He.eqO (PySem.W.findIn K (.ref (He.ga K "Earlier")) "depth") (some none),
  fun K => He.eqO (PySem.W.findIn K (.ref (He.ga K "Earlier")) "first") (some none),
  fun K => He.eqO (PySem.W.findIn K (.ref (He.ga K "Earlier")) "looks") (some none),
  fun K => He.eqO (PySem.W.findIn K (.ref (He.ga K "Earlier")) "parts") (some none),
  fun K => He.eqO (PySem.W.findIn K (.ref (He.ga K "Earlier")) "second") (some none),
  fun K => He.eqO (PySem.W.findIn K (.ref (He.ga K "Either")) "choices") (some none),
  fun K => He.eqO (PySem.W.findIn K (.ref (He.ga K "Either")) "depth") (some none),
  fun K => He.eqO (PySem.W.findIn K (.ref (He.ga K "Either")) "first") (some none),
  fun K => He.eqO (PySem.W.findIn K (.ref (He.ga K "Either")) "looks") (some none),
  fun K => He.eqO (PySem.W.findIn K (.ref (He.ga K "Either")) "parts") (some none)]
def cks5 : List (PySem.W.Frag → Bool) := [fun K => He.eqO (PySem.W.findIn K (.ref (He.ga K "Either")) "second") (some none),
  fun K => He.eqO (PySem.W.findIn K (.ref (He.ga K "Later")) "choices") (some none),
  fun K => He.eqO (PySem.W.findIn K (.ref (He.ga K "Later")) "depth") (some none),
  fun K => He.eqO (PySem.W.findIn K (.ref (He.ga K "Later")) "first") (some none),
  fun K => He.eqO (PySem.W.findIn K (.ref (He.ga K "Later")) "looks") (some none),
  fun K => He.eqO (PySem.W.findIn K (.ref (He.ga K "Later")) "parts") (some none),
  fun K => He.eqO (PySem.W.findIn K (.ref (He.ga K "Later")) "second") (some none),
  fun K => He.eqO (PySem.W.findIn K (.ref (He.ga K "Look")) "choices") (some none),
  fun K => He.eqO (PySem.W.findIn K (.ref (He.ga K "Look")) "depth") (some none),
  fun K => He.eqO (PySem.W.findIn K (.ref (He.ga K "Look")) "looks") (some none),
  fun K => He.eqO (PySem.W.findIn K (.ref (He.ga K "Look")) "moment") (some none),
  fun K => He.eqO (PySem.W.findIn K (.ref (He.ga K "Look")) "parts") (some none),
  fun K => He.eqO (PySem.W.findIn K (.ref (He.ga K "Look")) "stream") (some none),
  fun K => He.eqO (PySem.W.findIn K (.ref (He.ga K "Look")) "way") (some none),
  fun K => He.eqO (PySem.W.findIn K (.ref (He.ga K "Look")) "within") (some none),
  fun K => He.eqO (PySem.W.findIn K (.ref (He.ga K "Now")) "choices") (some none),
  fun K => He.eqO (PySem.W.findIn K (.ref (He.ga K "Now")) "depth") (some none),
  fun K => He.eqO (PySem.W.findIn K (.ref (He.ga K "Now")) "looks") (some none),
  fun K => He.eqO (PySem.W.findIn K (.ref (He.ga K "Now")) "parts") (some none),
  fun K => He.eqO (PySem.W.findIn K (.ref (He.ga K "Shift")) "amount") (some none),
  fun K => He.eqO (PySem.W.findIn K (.ref (He.ga K "Shift")) "choices") (some none),
  fun K => He.eqO (PySem.W.findIn K (.ref (He.ga K "Shift")) "depth") (some none),
  fun K => He.eqO (PySem.W.findIn K (.ref (He.ga K "Shift")) "looks") (some none),
  fun K => He.eqO (PySem.W.findIn K (.ref (He.ga K "Shift")) "moment") (some none),
  fun K => He.eqO (PySem.W.findIn K (.ref (He.ga K "Shift")) "parts") (some none),
  fun K => He.eqO (PySem.W.findIn K (.ref (He.ga K "World")) "pairs") (some none),
  fun K => eqB (PySem.W.mroIn K (He.ga K "Earlier") (.ref (He.ga K "Pair"))) (some true),
  fun K => He.eqO (PySem.W.ks_superIn K (He.ga K "Earlier") (He.ga K "Pair") "__init__") (some (some (.ref (He.fAd K ("Term", some "__init__"))))),
  fun K => eqB (PySem.W.mroIn K (He.ga K "Either") (.ref (He.ga K "Pair"))) (some true),
  fun K => He.eqO (PySem.W.ks_superIn K (He.ga K "Either") (He.ga K "Pair") "__init__") (some (some (.ref (He.fAd K ("Term", some "__init__"))))),
  fun K => eqB (PySem.W.mroIn K (He.ga K "Later") (.ref (He.ga K "Pair"))) (some true),
  fun K => He.eqO (PySem.W.ks_superIn K (He.ga K "Later") (He.ga K "Pair") "__init__") (some (some (.ref (He.fAd K ("Term", some "__init__"))))),
  fun K => eqB (PySem.W.mroIn K (He.ga K "Look") (.ref (He.ga K "Look"))) (some true),
  fun K => He.eqO (PySem.W.ks_superIn K (He.ga K "Look") (He.ga K "Look") "__init__") (some (some (.ref (He.fAd K ("Term", some "__init__"))))),
  fun K => eqB (PySem.W.mroIn K (He.ga K "Now") (.ref (He.ga K "Now"))) (some true),
  fun K => He.eqO (PySem.W.ks_superIn K (He.ga K "Now") (He.ga K "Now") "__init__") (some (some (.ref (He.fAd K ("Term", some "__init__"))))),
  fun K => eqB (PySem.W.mroIn K (He.ga K "Shift") (.ref (He.ga K "Shift"))) (some true),
  fun K => He.eqO (PySem.W.ks_superIn K (He.ga K "Shift") (He.ga K "Shift") "__init__") (some (some (.ref (He.fAd K ("Term", some "__init__"))))),
  fun K => PySem.W.selfFirst K (He.ga K "Earlier"),
  fun K => He.eqO (PySem.W.findIn K (.ref (He.ga K "Earlier")) "__add__") (some (some (.ref (He.fAd K ("Term", some "__add__"))))),
  fun K => PySem.W.isFn K (.ref (He.fAd K ("Term", some "__add__"))),
  fun K => He.eqO (PySem.W.findIn K (.ref (He.ga K "Earlier")) "__radd__") (some none),
  fun K => (PySem.W.findIn K (.type "int") "__add__").isSome,
  fun K => (PySem.W.findIn K (.type "int") "__radd__").isSome,
  fun K => eqB (PySem.W.subIn K (.type "int") (.ref (He.ga K "Earlier"))) (some false),
  fun K => PySem.W.selfFirst K (He.ga K "Either"),
  fun K => He.eqO (PySem.W.findIn K (.ref (He.ga K "Either")) "__add__") (some (some (.ref (He.fAd K ("Term", some "__add__"))))),
  fun K => He.eqO (PySem.W.findIn K (.ref (He.ga K "Either")) "__radd__") (some none),
  fun K => eqB (PySem.W.subIn K (.type "int") (.ref (He.ga K "Either"))) (some false),
  fun K => PySem.W.selfFirst K (He.ga K "Later"),
  fun K => He.eqO (PySem.W.findIn K (.ref (He.ga K "Later")) "__add__") (some (some (.ref (He.fAd K ("Term", some "__add__"))))),
  fun K => He.eqO (PySem.W.findIn K (.ref (He.ga K "Later")) "__radd__") (some none),
  fun K => eqB (PySem.W.subIn K (.type "int") (.ref (He.ga K "Later"))) (some false),
  fun K => PySem.W.selfFirst K (He.ga K "Look"),
  fun K => He.eqO (PySem.W.findIn K (.ref (He.ga K "Look")) "__add__") (some (some (.ref (He.fAd K ("Term", some "__add__"))))),
  fun K => He.eqO (PySem.W.findIn K (.ref (He.ga K "Look")) "__radd__") (some none),
  fun K => eqB (PySem.W.subIn K (.type "int") (.ref (He.ga K "Look"))) (some false),
  fun K => PySem.W.selfFirst K (He.ga K "Now"),
  fun K => He.eqO (PySem.W.findIn K (.ref (He.ga K "Now")) "__add__") (some (some (.ref (He.fAd K ("Term", some "__add__"))))),
  fun K => He.eqO (PySem.W.findIn K (.ref (He.ga K "Now")) "__radd__") (some none)]
def cks6 : List (PySem.W.Frag → Bool) := [fun K => eqB (PySem.W.subIn K (.type "int") (.ref (He.ga K "Now"))) (some false),
  fun K => PySem.W.selfFirst K (He.ga K "Shift"),
  fun K => He.eqO (PySem.W.findIn K (.ref (He.ga K "Shift")) "__add__") (some (some (.ref (He.fAd K ("Term", some "__add__"))))),
  fun K => He.eqO (PySem.W.findIn K (.ref (He.ga K "Shift")) "__radd__") (some none),
  fun K => eqB (PySem.W.subIn K (.type "int") (.ref (He.ga K "Shift"))) (some false),
  fun K => He.eqO (PySem.W.findIn K (.ref (He.ga K "Earlier")) "__or__") (some (some (.ref (He.fAd K ("Term", some "__or__"))))),
  fun K => PySem.W.isFn K (.ref (He.fAd K ("Term", some "__or__"))),
  fun K => He.eqO (PySem.W.findIn K (.ref (He.ga K "Earlier")) "__ror__") (some none),
  fun K => He.eqO (PySem.W.findIn K (.ref (He.ga K "Either")) "__or__") (some (some (.ref (He.fAd K ("Term", some "__or__"))))),
  fun K => He.eqO (PySem.W.findIn K (.ref (He.ga K "Either")) "__ror__") (some none),
  fun K => He.eqO (PySem.W.findIn K (.ref (He.ga K "Later")) "__or__") (some (some (.ref (He.fAd K ("Term", some "__or__"))))),
  fun K => He.eqO (PySem.W.findIn K (.ref (He.ga K "Later")) "__ror__") (some none),
  fun K => He.eqO (PySem.W.findIn K (.ref (He.ga K "Look")) "__or__") (some (some (.ref (He.fAd K ("Term", some "__or__"))))),
  fun K => He.eqO (PySem.W.findIn K (.ref (He.ga K "Look")) "__ror__") (some none),
  fun K => He.eqO (PySem.W.findIn K (.ref (He.ga K "Now")) "__or__") (some (some (.ref (He.fAd K ("Term", some "__or__"))))),
  fun K => He.eqO (PySem.W.findIn K (.ref (He.ga K "Now")) "__ror__") (some none),
  fun K => He.eqO (PySem.W.findIn K (.ref (He.ga K "Shift")) "__or__") (some (some (.ref (He.fAd K ("Term", some "__or__"))))),
  fun K => He.eqO (PySem.W.findIn K (.ref (He.ga K "Shift")) "__ror__") (some none),
  fun K => eqB (PySem.W.subIn K (.ref (He.ga K "Earlier")) (.ref (He.ga K "Either"))) (some false),
  fun K => eqB (PySem.W.subIn K (.ref (He.ga K "Earlier")) (.ref (He.ga K "Later"))) (some false),
  fun K => eqB (PySem.W.subIn K (.ref (He.ga K "Earlier")) (.ref (He.ga K "Look"))) (some false),
  fun K => eqB (PySem.W.subIn K (.ref (He.ga K "Earlier")) (.ref (He.ga K "Now"))) (some false),
  fun K => eqB (PySem.W.subIn K (.ref (He.ga K "Earlier")) (.ref (He.ga K "Shift"))) (some false),
  fun K => eqB (PySem.W.subIn K (.ref (He.ga K "Either")) (.ref (He.ga K "Earlier"))) (some false),
  fun K => eqB (PySem.W.subIn K (.ref (He.ga K "Either")) (.ref (He.ga K "Later"))) (some false),
  fun K => eqB (PySem.W.subIn K (.ref (He.ga K "Either")) (.ref (He.ga K "Look"))) (some false),
  fun K => eqB (PySem.W.subIn K (.ref (He.ga K "Either")) (.ref (He.ga K "Now"))) (some false),
  fun K => eqB (PySem.W.subIn K (.ref (He.ga K "Either")) (.ref (He.ga K "Shift"))) (some false),
  fun K => eqB (PySem.W.subIn K (.ref (He.ga K "Later")) (.ref (He.ga K "Earlier"))) (some false),
  fun K => eqB (PySem.W.subIn K (.ref (He.ga K "Later")) (.ref (He.ga K "Either"))) (some false),
  fun K => eqB (PySem.W.subIn K (.ref (He.ga K "Later")) (.ref (He.ga K "Look"))) (some false),
  fun K => eqB (PySem.W.subIn K (.ref (He.ga K "Later")) (.ref (He.ga K "Now"))) (some false),
  fun K => eqB (PySem.W.subIn K (.ref (He.ga K "Later")) (.ref (He.ga K "Shift"))) (some false),
  fun K => eqB (PySem.W.subIn K (.ref (He.ga K "Look")) (.ref (He.ga K "Earlier"))) (some false),
  fun K => eqB (PySem.W.subIn K (.ref (He.ga K "Look")) (.ref (He.ga K "Either"))) (some false),
  fun K => eqB (PySem.W.subIn K (.ref (He.ga K "Look")) (.ref (He.ga K "Later"))) (some false),
  fun K => eqB (PySem.W.subIn K (.ref (He.ga K "Look")) (.ref (He.ga K "Now"))) (some false),
  fun K => eqB (PySem.W.subIn K (.ref (He.ga K "Look")) (.ref (He.ga K "Shift"))) (some false),
  fun K => eqB (PySem.W.subIn K (.ref (He.ga K "Now")) (.ref (He.ga K "Earlier"))) (some false),
  fun K => eqB (PySem.W.subIn K (.ref (He.ga K "Now")) (.ref (He.ga K "Either"))) (some false),
  fun K => eqB (PySem.W.subIn K (.ref (He.ga K "Now")) (.ref (He.ga K "Later"))) (some false),
  fun K => eqB (PySem.W.subIn K (.ref (He.ga K "Now")) (.ref (He.ga K "Look"))) (some false),
  fun K => eqB (PySem.W.subIn K (.ref (He.ga K "Now")) (.ref (He.ga K "Shift"))) (some false),
  fun K => eqB (PySem.W.subIn K (.ref (He.ga K "Shift")) (.ref (He.ga K "Earlier"))) (some false),
  fun K => eqB (PySem.W.subIn K (.ref (He.ga K "Shift")) (.ref (He.ga K "Either"))) (some false),
  fun K => eqB (PySem.W.subIn K (.ref (He.ga K "Shift")) (.ref (He.ga K "Later"))) (some false),
  fun K => eqB (PySem.W.subIn K (.ref (He.ga K "Shift")) (.ref (He.ga K "Look"))) (some false),
  fun K => eqB (PySem.W.subIn K (.ref (He.ga K "Shift")) (.ref (He.ga K "Now"))) (some false),
  fun K => He.eqO (PySem.W.findIn K (.ref (He.ga K "World")) "__getitem__") (some (some (.ref (He.fAd K ("World", some "__getitem__"))))),
  fun K => PySem.W.fnIn K (He.fAd K ("World", some "__getitem__")),
  fun K => PySem.W.isFn K (.ref (He.fAd K ("World", some "__getitem__"))),
  fun K => eqB (PySem.W.kitOne K (.ref (He.ga K "Earlier")) (.ref (He.ga K "Either"))) (some false),
  fun K => eqB (PySem.W.kitOne K (.ref (He.ga K "Earlier")) (.ref (He.ga K "Later"))) (some false),
  fun K => eqB (PySem.W.kitOne K (.ref (He.ga K "Earlier")) (.ref (He.ga K "Look"))) (some false),
  fun K => eqB (PySem.W.kitOne K (.ref (He.ga K "Earlier")) (.ref (He.ga K "Now"))) (some false),
  fun K => eqB (PySem.W.kitOne K (.ref (He.ga K "Earlier")) (.ref (He.ga K "Shift"))) (some false),
  fun K => eqB (PySem.W.kitOne K (.ref (He.ga K "Earlier")) (.ref (He.ga K "Term"))) (some true),
  fun K => eqB (PySem.W.kitOne K (.ref (He.ga K "Either")) (.ref (He.ga K "Either"))) (some true),
  fun K => eqB (PySem.W.kitOne K (.ref (He.ga K "Either")) (.ref (He.ga K "Later"))) (some false),
  fun K => eqB (PySem.W.kitOne K (.ref (He.ga K "Either")) (.ref (He.ga K "Look"))) (some false)]
def cks7 : List (PySem.W.Frag → Bool) := [fun K => eqB (PySem.W.kitOne K (.ref (He.ga K "Either")) (.ref (He.ga K "Now"))) (some false),
  fun K => eqB (PySem.W.kitOne K (.ref (He.ga K "Either")) (.ref (He.ga K "Shift"))) (some false),
  fun K => eqB (PySem.W.kitOne K (.ref (He.ga K "Either")) (.ref (He.ga K "Term"))) (some true),
  fun K => eqB (PySem.W.kitOne K (.ref (He.ga K "Later")) (.ref (He.ga K "Either"))) (some false),
  fun K => eqB (PySem.W.kitOne K (.ref (He.ga K "Later")) (.ref (He.ga K "Later"))) (some true),
  fun K => eqB (PySem.W.kitOne K (.ref (He.ga K "Later")) (.ref (He.ga K "Look"))) (some false),
  fun K => eqB (PySem.W.kitOne K (.ref (He.ga K "Later")) (.ref (He.ga K "Now"))) (some false),
  fun K => eqB (PySem.W.kitOne K (.ref (He.ga K "Later")) (.ref (He.ga K "Shift"))) (some false),
  fun K => eqB (PySem.W.kitOne K (.ref (He.ga K "Later")) (.ref (He.ga K "Term"))) (some true),
  fun K => eqB (PySem.W.kitOne K (.ref (He.ga K "Look")) (.ref (He.ga K "Either"))) (some false),
  fun K => eqB (PySem.W.kitOne K (.ref (He.ga K "Look")) (.ref (He.ga K "Later"))) (some false),
  fun K => eqB (PySem.W.kitOne K (.ref (He.ga K "Look")) (.ref (He.ga K "Look"))) (some true),
  fun K => eqB (PySem.W.kitOne K (.ref (He.ga K "Look")) (.ref (He.ga K "Now"))) (some false),
  fun K => eqB (PySem.W.kitOne K (.ref (He.ga K "Look")) (.ref (He.ga K "Shift"))) (some false),
  fun K => eqB (PySem.W.kitOne K (.ref (He.ga K "Look")) (.ref (He.ga K "Term"))) (some true),
  fun K => eqB (PySem.W.kitOne K (.ref (He.ga K "Now")) (.ref (He.ga K "Either"))) (some false),
  fun K => eqB (PySem.W.kitOne K (.ref (He.ga K "Now")) (.ref (He.ga K "Later"))) (some false),
  fun K => eqB (PySem.W.kitOne K (.ref (He.ga K "Now")) (.ref (He.ga K "Look"))) (some false),
  fun K => eqB (PySem.W.kitOne K (.ref (He.ga K "Now")) (.ref (He.ga K "Now"))) (some true),
  fun K => eqB (PySem.W.kitOne K (.ref (He.ga K "Now")) (.ref (He.ga K "Shift"))) (some false),
  fun K => eqB (PySem.W.kitOne K (.ref (He.ga K "Now")) (.ref (He.ga K "Term"))) (some true),
  fun K => eqB (PySem.W.kitOne K (.ref (He.ga K "Shift")) (.ref (He.ga K "Either"))) (some false),
  fun K => eqB (PySem.W.kitOne K (.ref (He.ga K "Shift")) (.ref (He.ga K "Later"))) (some false),
  fun K => eqB (PySem.W.kitOne K (.ref (He.ga K "Shift")) (.ref (He.ga K "Look"))) (some false),
  fun K => eqB (PySem.W.kitOne K (.ref (He.ga K "Shift")) (.ref (He.ga K "Now"))) (some false),
  fun K => eqB (PySem.W.kitOne K (.ref (He.ga K "Shift")) (.ref (He.ga K "Shift"))) (some true),
  fun K => eqB (PySem.W.kitOne K (.ref (He.ga K "Shift")) (.ref (He.ga K "Term"))) (some true),
  fun K => eqB (PySem.W.kitOne K (.ref (He.ga K "World")) (.ref (He.ga K "World"))) (some true),
  fun K => eqB (PySem.W.kitAny K (.ref (He.ga K "Earlier")) [.ref (He.ga K "Look"), .ref (He.ga K "Later"), .ref (He.ga K "Earlier")]) (some true),
  fun K => eqB (PySem.W.kitAny K (.ref (He.ga K "Either")) [.ref (He.ga K "Look"), .ref (He.ga K "Later"), .ref (He.ga K "Earlier")]) (some false),
  fun K => eqB (PySem.W.kitAny K (.ref (He.ga K "Later")) [.ref (He.ga K "Look"), .ref (He.ga K "Later"), .ref (He.ga K "Earlier")]) (some true),
  fun K => eqB (PySem.W.kitAny K (.ref (He.ga K "Look")) [.ref (He.ga K "Look"), .ref (He.ga K "Later"), .ref (He.ga K "Earlier")]) (some true),
  fun K => eqB (PySem.W.kitAny K (.ref (He.ga K "Now")) [.ref (He.ga K "Look"), .ref (He.ga K "Later"), .ref (He.ga K "Earlier")]) (some false),
  fun K => eqB (PySem.W.kitAny K (.ref (He.ga K "Shift")) [.ref (He.ga K "Look"), .ref (He.ga K "Later"), .ref (He.ga K "Earlier")]) (some false),
  fun K => He.eqO (PySem.W.findIn K (.ref (He.ga K "Earlier")) "__call__") (some (some (.ref (He.fAd K ("Term", some "__call__"))))),
  fun K => PySem.W.isFn K (.ref (He.fAd K ("Term", some "__call__"))),
  fun K => PySem.W.fnIn K (He.fAd K ("Term", some "__call__")),
  fun K => He.eqO (PySem.W.findIn K (.ref (He.ga K "Either")) "__call__") (some (some (.ref (He.fAd K ("Term", some "__call__"))))),
  fun K => He.eqO (PySem.W.findIn K (.ref (He.ga K "Later")) "__call__") (some (some (.ref (He.fAd K ("Term", some "__call__"))))),
  fun K => He.eqO (PySem.W.findIn K (.ref (He.ga K "Look")) "__call__") (some (some (.ref (He.fAd K ("Term", some "__call__"))))),
  fun K => He.eqO (PySem.W.findIn K (.ref (He.ga K "Now")) "__call__") (some (some (.ref (He.fAd K ("Term", some "__call__"))))),
  fun K => He.eqO (PySem.W.findIn K (.ref (He.ga K "Shift")) "__call__") (some (some (.ref (He.fAd K ("Term", some "__call__"))))),
  fun K => He.eqO (PySem.W.nsIn K mainGlobals "isinstance") (some none),
  fun K => He.eqO (PySem.W.nsIn K mainGlobals "bool") (some none),
  fun K => He.eqO (PySem.W.nsIn K mainGlobals "int") (some none),
  fun K => He.eqO (PySem.W.nsIn K mainGlobals "len") (some none),
  fun K => He.eqO (PySem.W.nsIn K mainGlobals "str") (some none),
  fun K => He.eqO (PySem.W.nsIn K mainGlobals "set") (some none),
  fun K => He.eqO (PySem.W.nsIn K mainGlobals "list") (some none),
  fun K => He.eqO (PySem.W.nsIn K mainGlobals "sorted") (some none),
  fun K => He.eqO (PySem.W.nsIn K mainGlobals "sum") (some none),
  fun K => He.eqO (PySem.W.nsIn K mainGlobals "max") (some none),
  fun K => He.eqO (PySem.W.nsIn K mainGlobals "min") (some none),
  fun K => He.eqO (PySem.W.nsIn K mainGlobals "abs") (some none),
  fun K => He.eqO (PySem.W.nsIn K mainGlobals "enumerate") (some none),
  fun K => He.eqO (PySem.W.nsIn K mainGlobals "range") (some none),
  fun K => He.eqO (PySem.W.nsIn K mainGlobals "tuple") (some none)]
def css : List (List (PySem.W.Frag → Bool)) := [cks0, cks1, cks2, cks3, cks4, cks5, cks6, cks7]
abbrev Rw : PySem.W.OpenRow := PySem.W.OpenLaw.row PySem.Challenge.rw_pastlooks_k24_whole_moved_and_mirrored
def asL0 : List Addr := [3, 2, 6, 4, 21, 31, 51, 70, 89, 108, 127, 146, 165, 177, 186, 193, 198, 205, 212, 219, 226, 233, 240, 245, 252, 257, 370, 381, 382, 509, 532, 581, 638, 673, 706, 739, 772, 781, 788, 793, 800, 807, 814, 821, 828, 835, 842, 849, 856, 863, 870, 877, 884, 891, 898, 905, 912, 919, 926, 933, 940, 947, 954, 961, 968, 975, 980, 987, 994, 1001, 1008, 1015, 1022, 1029, 1036, 1043, 1050, 1057, 1064, 1069, 1076, 1083, 1090, 1095, 0, 20, 30, 50, 69, 88, 107, 126, 145, 164, 176, 185, 192, 197, 204, 211]
def asL1 : List Addr := [218, 225, 232, 239, 244, 251, 256, 369, 380, 508, 531, 580, 637, 672, 705, 738, 771, 780, 787, 792, 799, 806, 813, 820, 827, 834, 841, 848, 855, 862, 869, 876, 883, 890, 897, 904, 911, 918, 925, 932, 939, 946, 953, 960, 967, 974, 979, 986, 993, 1000, 1007, 1014, 1021, 1028, 1035, 1042, 1049, 1056, 1063, 1068, 1075, 1082, 1089, 1094, 15, 16, 17, 18, 19, 29, 32, 48, 49, 67, 68, 86, 87, 105, 106, 124, 125, 143, 144, 162, 163, 175, 180, 181, 182, 183, 184, 187, 188, 189, 190, 191, 194, 195, 196, 199]
def asL2 : List Addr := [200, 201, 202, 203, 206, 207, 208, 209, 210, 213, 214, 215, 216, 217, 220, 221, 222, 223, 224, 227, 228, 229, 230, 231, 234, 235, 236, 237, 238, 241, 242, 243, 246, 247, 248, 249, 250, 253, 254, 255, 272, 281, 287, 292, 299, 306, 313, 320, 327, 334, 339, 346, 353, 360, 367, 368, 371, 372, 375, 376, 377, 378, 379, 394, 401, 408, 415, 422, 429, 436, 443, 450, 457, 464, 471, 478, 485, 492, 499, 506, 507, 510, 511, 529, 530, 550, 557, 564, 571, 578, 579, 600, 607, 614, 621, 628, 635, 636, 656, 663]
def asL3 : List Addr := [670, 671, 689, 696, 703, 704, 722, 729, 736, 737, 755, 762, 769, 770, 775, 776, 777, 778, 779, 782, 783, 784, 785, 786, 789, 790, 791, 794, 795, 796, 797, 798, 801, 802, 803, 804, 805, 808, 809, 810, 811, 812, 815, 816, 817, 818, 819, 822, 823, 824, 825, 826, 829, 830, 831, 832, 833, 836, 837, 838, 839, 840, 843, 844, 845, 846, 847, 850, 851, 852, 853, 854, 857, 858, 859, 860, 861, 864, 865, 866, 867, 868, 871, 872, 873, 874, 875, 878, 879, 880, 881, 882, 885, 886, 887, 888, 889, 892, 893, 894]
def asL4 : List Addr := [895, 896, 899, 900, 901, 902, 903, 906, 907, 908, 909, 910, 913, 914, 915, 916, 917, 920, 921, 922, 923, 924, 927, 928, 929, 930, 931, 934, 935, 936, 937, 938, 941, 942, 943, 944, 945, 948, 949, 950, 951, 952, 955, 956, 957, 958, 959, 962, 963, 964, 965, 966, 969, 970, 971, 972, 973, 976, 977, 978, 981, 982, 983, 984, 985, 988, 989, 990, 991, 992, 995, 996, 997, 998, 999, 1002, 1003, 1004, 1005, 1006, 1009, 1010, 1011, 1012, 1013, 1016, 1017, 1018, 1019, 1020, 1023, 1024, 1025, 1026, 1027, 1030, 1031, 1032, 1033, 1034]
def asL5 : List Addr := [1037, 1038, 1039, 1040, 1041, 1044, 1045, 1046, 1047, 1048, 1051, 1052, 1053, 1054, 1055, 1058, 1059, 1060, 1061, 1062, 1065, 1066, 1067, 1070, 1071, 1072, 1073, 1074, 1077, 1078, 1079, 1080, 1081, 1084, 1085, 1086, 1087, 1088, 1091, 1092, 1093, 47, 66, 85, 104, 123, 142, 161, 271, 265, 279, 280, 286, 291, 298, 305, 312, 319, 326, 333, 338, 345, 352, 359, 366, 393, 400, 407, 414, 421, 428, 435, 442, 449, 456, 463, 470, 477, 484, 491, 498, 505, 528, 517, 549, 538, 556, 563, 570, 577, 599, 592, 587, 606, 613, 620, 627, 634, 655, 644]
def asL6 : List Addr := [662, 669, 688, 695, 702, 721, 728, 735, 754, 761, 768, 42, 43, 44, 45, 46, 61, 62, 63, 64, 65, 80, 81, 82, 83, 84, 99, 100, 101, 102, 103, 118, 119, 120, 121, 122, 137, 138, 139, 140, 141, 156, 157, 158, 159, 160, 266, 267, 268, 269, 270, 278, 282, 283, 284, 285, 288, 289, 290, 293, 294, 295, 296, 297, 300, 301, 302, 303, 304, 307, 308, 309, 310, 311, 314, 315, 316, 317, 318, 321, 322, 323, 324, 325, 328, 329, 330, 331, 332, 335, 336, 337, 340, 341, 342, 343, 344, 347, 348, 349]
def asL7 : List Addr := [350, 351, 354, 355, 356, 357, 358, 361, 362, 363, 364, 365, 390, 391, 392, 395, 396, 397, 398, 399, 402, 403, 404, 405, 406, 409, 410, 411, 412, 413, 416, 417, 418, 419, 420, 423, 424, 425, 426, 427, 430, 431, 432, 433, 434, 437, 438, 439, 440, 441, 444, 445, 446, 447, 448, 451, 452, 453, 454, 455, 458, 459, 460, 461, 462, 465, 466, 467, 468, 469, 472, 473, 474, 475, 476, 479, 480, 481, 482, 483, 486, 487, 488, 489, 490, 493, 494, 495, 496, 497, 500, 501, 502, 503, 504, 523, 524, 525, 526, 527]
def asL8 : List Addr := [544, 545, 546, 547, 548, 551, 552, 553, 554, 555, 558, 559, 560, 561, 562, 565, 566, 567, 568, 569, 572, 573, 574, 575, 576, 594, 595, 596, 597, 598, 601, 602, 603, 604, 605, 608, 609, 610, 611, 612, 615, 616, 617, 618, 619, 622, 623, 624, 625, 626, 629, 630, 631, 632, 633, 650, 651, 652, 653, 654, 657, 658, 659, 660, 661, 664, 665, 666, 667, 668, 683, 684, 685, 686, 687, 690, 691, 692, 693, 694, 697, 698, 699, 700, 701, 716, 717, 718, 719, 720, 723, 724, 725, 726, 727, 730, 731, 732, 733, 734]
def asL9 : List Addr := [749, 750, 751, 752, 753, 756, 757, 758, 759, 760, 763, 764, 765, 766, 767]
def asL : List Addr := asL0 ++ asL1 ++ asL2 ++ asL3 ++ asL4 ++ asL5 ++ asL6 ++ asL7 ++ asL8 ++ asL9
abbrev hk : PySem.W.Hook := hookP asL css.flatten fns
def ob (s : PySem.W.SharedT) : AlP := obsPG asL css.flatten fns (HandSHeadRun.getT s)
theorem ob_eq (s : PySem.W.SharedT) : ob s = hk.obs s.abs := obsPG_eq (HandSHeadRun.getT_eq s)
abbrev kf (s : PySem.W.SharedT) : PySem.W.Frag := He.frG (HandSHeadRun.getT s) asL
noncomputable abbrev En (w : World) (os : OsState) : Option PySem.W.SharedT := HandSHeadRun.endF (HandSHeadRun.stepQ (HandSHeadRun.denQ HandSHeadRun.tabQ) Rw.prog w) 60000 Rw.prog w os
abbrev qv : Program := PySem.W.view Rw.prog [90]
open PySem.W in
theorem run0 (w : World) (os : OsState) : (En w os).map (fun s => (HandSHeadRun.looksF Rw.prog (boot_heap w.params) s.abs, HandSHeadRun.seenQ qv loose (importedModules Rw.prog.main.body) (fun s => xlAt qv [] s && recOk Rw.toRowW.records s) s.abs)) = some (true, openGood qv loose) := by
  kernel_rfl
theorem runF (w : World) (os : OsState) : (En w os).map (fun s => fns.map fun d => fnOb (kf s) d.at_) = some (fns.map ObD.val) := by
  kernel_rfl
theorem runC0 (w : World) (os : OsState) : (En w os).map (fun s => cks0.all fun f => f (kf s)) = some true := by
  kernel_rfl
theorem runC1 (w : World) (os : OsState) : (En w os).map (fun s => cks1.all fun f => f (kf s)) = some true := by
  kernel_rfl
theorem runC2 (w : World) (os : OsState) : (En w os).map (fun s => cks2.all fun f => f (kf s)) = some true := by
  kernel_rfl
theorem runC3 (w : World) (os : OsState) : (En w os).map (fun s => cks3.all fun f => f (kf s)) = some true := by
  kernel_rfl
theorem runC4 (w : World) (os : OsState) : (En w os).map (fun s => cks4.all fun f => f (kf s)) = some true := by
  kernel_rfl
theorem runC5 (w : World) (os : OsState) : (En w os).map (fun s => cks5.all fun f => f (kf s)) = some true := by
  kernel_rfl
theorem runC6 (w : World) (os : OsState) : (En w os).map (fun s => cks6.all fun f => f (kf s)) = some true := by
  kernel_rfl
theorem runC7 (w : World) (os : OsState) : (En w os).map (fun s => cks7.all fun f => f (kf s)) = some true := by
  kernel_rfl
theorem run (w : World) : HandSHeadRun.RunEq Rw qv hk ob 60000 loose w := by
  intro os
  refine run_join (css := css) (fn := fns) (kf := kf) (run0 w os) (runF w os) fun c hc => ?_
  simp only [css, List.mem_cons, List.not_mem_nil, or_false] at hc
  rcases hc with rfl | rfl | rfl | rfl | rfl | rfl | rfl | rfl
  · exact runC0 w os
  · exact runC1 w os
  · exact runC2 w os
  · exact runC3 w os
  · exact runC4 w os
  · exact runC5 w os
  · exact runC6 w os
  · exact runC7 w os
set_option maxHeartbeats 40000000 in
theorem facts {K : PySem.W.Frag} {h : Heap} {mg : Str → Option Value} {fa : Addr} (X : K.In h) (G : h.Ns mainGlobals mg) (hfa : mg "law" = some (.ref fa)) (c : SaysP css.flatten fns K) :
    ∃ T : Txt PySem.Challenge.rw_pastlooks_k24_whole_moved_and_mirrored.prog K mg, T.law.f = fa ∧ ∀ (s : Shared) (v : Value), BindsTo s T.law.fd ⟨[v], []⟩ [("_law_script", v)] := by
  have e := hfa.symm.trans (PySem.W.mg_of X G (He.eqO_ok (c.ck2 2 11 rfl rfl)))
  cases e
  have hfile : ((PySem.Challenge.rw_pastlooks_k24_whole_moved_and_mirrored.prog.main.file : Str) == fileS) = true := by first | rfl | decide +kernel
  have htop : (PySem.Challenge.rw_pastlooks_k24_whole_moved_and_mirrored.prog.main.scope.names.lookup ("super" : Str)).isSome = false := by first | rfl | decide +kernel
  obtain ⟨u_DEEPEST, k_DEEPEST⟩ := He.int_ok X G (x := "DEEPEST") (i := 12) (c.ck2 0 11 rfl rfl)
  obtain ⟨u_LETTERS, k_LETTERS⟩ := He.str_ok X G (x := "LETTERS") (z := "abcdefghijklmnopqrstuvwxyz") (c.ck2 0 12 rfl rfl)
  obtain ⟨u_MOST_LOOKS, k_MOST_LOOKS⟩ := He.int_ok X G (x := "MOST_LOOKS") (i := 12) (c.ck2 0 13 rfl rfl)
  obtain ⟨u_MOST_PARTS, k_MOST_PARTS⟩ := He.int_ok X G (x := "MOST_PARTS") (i := 40) (c.ck2 0 14 rfl rfl)
  obtain ⟨u_MOST_ROWS, k_MOST_ROWS⟩ := He.int_ok X G (x := "MOST_ROWS") (i := 300) (c.ck2 0 15 rfl rfl)
  obtain ⟨fd0, F0⟩ := ob_fun (c.de 0 (d := ⟨("is_integer", none), "is_integer", "is_integer", s_is_integer, []⟩) rfl) rfl (c.ck2 0 16 rfl rfl)
  have b0 := F0.binds (ps := ["value"]) fun _ _ _ _ _ _ us hl => match us, hl with | [_], _ => rfl
  obtain ⟨fd1, F1⟩ := ob_fun (c.de 1 (d := ⟨("is_from_zero", none), "is_from_zero", "is_from_zero", s_is_from_zero, []⟩) rfl) rfl (c.ck2 0 18 rfl rfl)
  have b1 := F1.binds (ps := ["value"]) fun _ _ _ _ _ _ us hl => match us, hl with | [_], _ => rfl
  obtain ⟨fd2, F2⟩ := ob_fun (c.de 2 (d := ⟨("is_name", none), "is_name", "is_name", s_is_name, []⟩) rfl) rfl (c.ck2 0 20 rfl rfl)
  have b2 := F2.binds (ps := ["name"]) fun _ _ _ _ _ _ us hl => match us, hl with | [_], _ => rfl
  obtain ⟨fd3, F3⟩ := ob_fun (c.de 3 (d := ⟨("check_name", none), "check_name", "check_name", s_check_name, []⟩) rfl) rfl (c.ck2 0 22 rfl rfl)
  have b3 := F3.binds (ps := ["name"]) fun _ _ _ _ _ _ us hl => match us, hl with | [_], _ => rfl
  obtain ⟨fd4, F4⟩ := ob_fun (c.de 4 (d := ⟨("check_moment", none), "check_moment", "check_moment", s_check_moment, []⟩) rfl) rfl (c.ck2 0 24 rfl rfl)
  have b4 := F4.binds (ps := ["value"]) fun _ _ _ _ _ _ us hl => match us, hl with | [_], _ => rfl
  obtain ⟨fd5, F5⟩ := ob_fun (c.de 5 (d := ⟨("check_bound", none), "check_bound", "check_bound", s_check_bound, []⟩) rfl) rfl (c.ck2 0 26 rfl rfl)
  have b5 := F5.binds (ps := ["value"]) fun _ _ _ _ _ _ us hl => match us, hl with | [_], _ => rfl
  obtain ⟨fd6, F6⟩ := ob_fun (c.de 6 (d := ⟨("check_limit", none), "check_limit", "check_limit", s_check_limit, []⟩) rfl) rfl (c.ck2 0 28 rfl rfl)
  have b6 := F6.binds (ps := ["value"]) fun _ _ _ _ _ _ us hl => match us, hl with | [_], _ => rfl
  obtain ⟨fd7, F7⟩ := ob_fun (c.de 7 (d := ⟨("check_rows", none), "check_rows", "check_rows", s_check_rows, []⟩) rfl) rfl (c.ck2 0 30 rfl rfl)
  have b7 := F7.binds (ps := ["name", "moments"]) fun _ _ _ _ _ _ us hl => match us, hl with | [_, _], _ => rfl
  obtain ⟨fd8, F8⟩ := ob_fun (c.de 8 (d := ⟨("limited", none), "limited", "limited", s_limited, []⟩) rfl) rfl (c.ck2 0 32 rfl rfl)
  have b8 := F8.binds (ps := ["pairs"]) fun _ _ _ _ _ _ us hl => match us, hl with | [_], _ => rfl
  obtain ⟨fd9, F9⟩ := ob_fun (c.de 9 (d := ⟨("checked_pairs", none), "checked_pairs", "checked_pairs", s_checked_pairs, []⟩) rfl) rfl (c.ck2 0 34 rfl rfl)
  have b9 := F9.binds (ps := ["rows"]) fun _ _ _ _ _ _ us hl => match us, hl with | [_], _ => rfl
  obtain ⟨fd10, F10⟩ := ob_fun (c.de 10 (d := ⟨("check_world", none), "check_world", "check_world", s_check_world, []⟩) rfl) rfl (c.ck2 0 36 rfl rfl)
  have b10 := F10.binds (ps := ["value"]) fun _ _ _ _ _ _ us hl => match us, hl with | [_], _ => rfl
  obtain ⟨fd11, F11⟩ := ob_fun (c.de 11 (d := ⟨("shifted", none), "shifted", "shifted", s_shifted, []⟩) rfl) rfl (c.ck2 0 38 rfl rfl)
  have b11 := F11.binds (ps := ["term", "amount"]) fun _ _ _ _ _ _ us hl => match us, hl with | [_, _], _ => rfl
  obtain ⟨fd12, F12⟩ := ob_fun (c.de 12 (d := ⟨("fits", none), "fits", "fits", s_fits, []⟩) rfl) rfl (c.ck2 0 40 rfl rfl)
  have b12 := F12.binds (ps := ["row", "moment", "way"]) fun _ _ _ _ _ _ us hl => match us, hl with | [_, _, _], _ => rfl
  obtain ⟨fd13, F13⟩ := ob_fun (c.de 13 (d := ⟨("looked_up", none), "looked_up", "looked_up", s_looked_up, []⟩) rfl) rfl (c.ck2 0 42 rfl rfl)
  have b13 := F13.binds (ps := ["moments", "moment", "way", "within"]) fun _ _ _ _ _ _ us hl => match us, hl with | [_, _, _, _], _ => rfl
  obtain ⟨fd14, F14⟩ := ob_fun (c.de 14 (d := ⟨("check_term", none), "check_term", "check_term", s_check_term, []⟩) rfl) rfl (c.ck2 0 44 rfl rfl)
  have b14 := F14.binds (ps := ["value"]) fun _ _ _ _ _ _ us hl => match us, hl with | [_], _ => rfl
  obtain ⟨fd15, F15⟩ := ob_fun (c.de 15 (d := ⟨("told", none), "told", "told", s_told, []⟩) rfl) rfl (c.ck2 0 46 rfl rfl)
  have b15 := F15.binds (ps := ["term", "world", "now"]) fun _ _ _ _ _ _ us hl => match us, hl with | [_, _, _], _ => rfl
  obtain ⟨fd16, F16⟩ := ob_fun (c.de 16 (d := ⟨("greater_first", none), "greater_first", "greater_first", s_greater_first, []⟩) rfl) rfl (c.ck2 0 48 rfl rfl)
  have b16 := F16.binds (ps := ["one", "other"]) fun _ _ _ _ _ _ us hl => match us, hl with | [_, _], _ => rfl
  obtain ⟨fd17, F17⟩ := ob_fun (c.de 17 (d := ⟨("lesser_last", none), "lesser_last", "lesser_last", s_lesser_last, []⟩) rfl) rfl (c.ck2 0 50 rfl rfl)
  have b17 := F17.binds (ps := ["one", "other"]) fun _ _ _ _ _ _ us hl => match us, hl with | [_, _], _ => rfl
  obtain ⟨fd18, F18⟩ := ob_fun (c.de 18 (d := ⟨("is_stretch", none), "is_stretch", "is_stretch", s_is_stretch, []⟩) rfl) rfl (c.ck2 0 52 rfl rfl)
  have b18 := F18.binds (ps := ["first", "last"]) fun _ _ _ _ _ _ us hl => match us, hl with | [_, _], _ => rfl
  obtain ⟨fd19, F19⟩ := ob_fun (c.de 19 (d := ⟨("moved", none), "moved", "moved", s_moved, []⟩) rfl) rfl (c.ck2 0 54 rfl rfl)
  have b19 := F19.binds (ps := ["bound", "amount"]) fun _ _ _ _ _ _ us hl => match us, hl with | [_, _], _ => rfl
  obtain ⟨fd20, F20⟩ := ob_fun (c.de 20 (d := ⟨("clipped", none), "clipped", "clipped", s_clipped, []⟩) rfl) rfl (c.ck2 0 56 rfl rfl)
  have b20 := F20.binds (ps := ["rows", "first", "last"]) fun _ _ _ _ _ _ us hl => match us, hl with | [_, _, _], _ => rfl
  obtain ⟨fd21, F21⟩ := ob_fun (c.de 21 (d := ⟨("added", none), "added", "added", s_added, []⟩) rfl) rfl (c.ck2 0 58 rfl rfl)
  have b21 := F21.binds (ps := ["rows", "amount"]) fun _ _ _ _ _ _ us hl => match us, hl with | [_, _], _ => rfl
  obtain ⟨fd22, F22⟩ := ob_fun (c.de 22 (d := ⟨("span", none), "span", "span", s_span, []⟩) rfl) rfl (c.ck2 1 0 rfl rfl)
  have b22 := F22.binds (ps := ["moments", "index", "way", "within"]) fun _ _ _ _ _ _ us hl => match us, hl with | [_, _, _, _], _ => rfl
  obtain ⟨fd23, F23⟩ := ob_fun (c.de 23 (d := ⟨("look_table", none), "look_table", "look_table", s_look_table, []⟩) rfl) rfl (c.ck2 1 2 rfl rfl)
  have b23 := F23.binds (ps := ["moments", "way", "within"]) fun _ _ _ _ _ _ us hl => match us, hl with | [_, _, _], _ => rfl
  obtain ⟨fd24, F24⟩ := ob_fun (c.de 24 (d := ⟨("look_pieces", none), "look_pieces", "look_pieces", s_look_pieces, []⟩) rfl) rfl (c.ck2 1 4 rfl rfl)
  have b24 := F24.binds (ps := ["term", "world"]) fun _ _ _ _ _ _ us hl => match us, hl with | [_, _], _ => rfl
  obtain ⟨fd25, F25⟩ := ob_fun (c.de 25 (d := ⟨("overlaid", none), "overlaid", "overlaid", s_overlaid, []⟩) rfl) rfl (c.ck2 1 6 rfl rfl)
  have b25 := F25.binds (ps := ["rows", "others"]) fun _ _ _ _ _ _ us hl => match us, hl with | [_, _], _ => rfl
  obtain ⟨fd26, F26⟩ := ob_fun (c.de 26 (d := ⟨("cut", none), "cut", "cut", s_cut, []⟩) rfl) rfl (c.ck2 1 8 rfl rfl)
  have b26 := F26.binds (ps := ["first", "last", "moment", "ahead", "behind"]) fun _ _ _ _ _ _ us hl => match us, hl with | [_, _, _, _, _], _ => rfl
  obtain ⟨fd27, F27⟩ := ob_fun (c.de 27 (d := ⟨("chosen", none), "chosen", "chosen", s_chosen, []⟩) rfl) rfl (c.ck2 1 10 rfl rfl)
  have b27 := F27.binds (ps := ["first", "last", "form", "other", "later"]) fun _ _ _ _ _ _ us hl => match us, hl with | [_, _, _, _, _], _ => rfl
  obtain ⟨fd28, F28⟩ := ob_fun (c.de 28 (d := ⟨("raw_pieces", none), "raw_pieces", "raw_pieces", s_raw_pieces, []⟩) rfl) rfl (c.ck2 1 12 rfl rfl)
  have b28 := F28.binds (ps := ["term", "world"]) fun _ _ _ _ _ _ us hl => match us, hl with | [_, _], _ => rfl
  obtain ⟨fd29, F29⟩ := ob_fun (c.de 29 (d := ⟨("meeting", none), "meeting", "meeting", s_meeting, []⟩) rfl) rfl (c.ck2 1 14 rfl rfl)
  have b29 := F29.binds (ps := ["form", "other"]) fun _ _ _ _ _ _ us hl => match us, hl with | [_, _], _ => rfl
  obtain ⟨fd30, F30⟩ := ob_fun (c.de 30 (d := ⟨("reach", none), "reach", "reach", s_reach, []⟩) rfl) rfl (c.ck2 1 16 rfl rfl)
  have b30 := F30.binds (ps := ["rows", "at", "start", "form"]) fun _ _ _ _ _ _ us hl => match us, hl with | [_, _, _, _], _ => rfl
  obtain ⟨fd31, F31⟩ := ob_fun (c.de 31 (d := ⟨("forms_at", none), "forms_at", "forms_at", s_forms_at, []⟩) rfl) rfl (c.ck2 1 18 rfl rfl)
  have b31 := F31.binds (ps := ["piece", "start"]) fun _ _ _ _ _ _ us hl => match us, hl with | [_, _], _ => rfl
  obtain ⟨fd32, F32⟩ := ob_fun (c.de 32 (d := ⟨("farthest", none), "farthest", "farthest", s_farthest, []⟩) rfl) rfl (c.ck2 1 20 rfl rfl)
  have b32 := F32.binds (ps := ["rows"]) fun _ _ _ _ _ _ us hl => match us, hl with | [_], _ => rfl
  obtain ⟨fd33, F33⟩ := ob_fun (c.de 33 (d := ⟨("pieces", none), "pieces", "pieces", s_pieces, []⟩) rfl) rfl (c.ck2 1 22 rfl rfl)
  have b33 := F33.binds (ps := ["term", "world"]) fun _ _ _ _ _ _ us hl => match us, hl with | [_, _], _ => rfl
  obtain ⟨fd34, F34⟩ := ob_fun (c.de 34 (d := ⟨("unequal", none), "unequal", "unequal", s_unequal, []⟩) rfl) rfl (c.ck2 1 24 rfl rfl)
  have b34 := F34.binds (ps := ["first", "last", "form", "other"]) fun _ _ _ _ _ _ us hl => match us, hl with | [_, _, _, _], _ => rfl
  obtain ⟨fd35, F35⟩ := ob_fun (c.de 35 (d := ⟨("differences", none), "differences", "differences", s_differences, []⟩) rfl) rfl (c.ck2 1 26 rfl rfl)
  have b35 := F35.binds (ps := ["term", "world", "other"]) fun _ _ _ _ _ _ us hl => match us, hl with | [_, _, _], _ => rfl
  obtain ⟨fd36, F36⟩ := ob_fun (c.de 36 (d := ⟨("_law_open", none), "_law_open", "_law_open", s_law_open, []⟩) rfl) rfl (c.ck2 1 28 rfl rfl)
  have b36 := F36.binds (ps := ["_law_script"]) fun _ _ _ _ _ _ us hl => match us, hl with | [_], _ => rfl
  obtain ⟨fd37, F37⟩ := ob_fun (c.de 37 (d := ⟨("_law_pick", none), "_law_pick", "_law_pick", s_law_pick, []⟩) rfl) rfl (c.ck2 1 30 rfl rfl)
  have b37 := F37.binds (ps := ["_law_box", "_law_many"]) fun _ _ _ _ _ _ us hl => match us, hl with | [_, _], _ => rfl
  obtain ⟨fd38, F38⟩ := ob_fun (c.de 38 (d := ⟨("_law_number", none), "_law_number", "_law_number", s_law_number, []⟩) rfl) rfl (c.ck2 1 32 rfl rfl)
  have b38 := F38.binds (ps := ["_law_box"]) fun _ _ _ _ _ _ us hl => match us, hl with | [_], _ => rfl
  obtain ⟨fd39, F39⟩ := ob_fun (c.de 39 (d := ⟨("_law_limit", none), "_law_limit", "_law_limit", s_law_limit, []⟩) rfl) rfl (c.ck2 1 34 rfl rfl)
  have b39 := F39.binds (ps := ["_law_box"]) fun _ _ _ _ _ _ us hl => match us, hl with | [_], _ => rfl
  obtain ⟨fd40, F40⟩ := ob_fun (c.de 40 (d := ⟨("_law_names", none), "_law_names", "_law_names", s_law_names, []⟩) rfl) rfl (c.ck2 1 36 rfl rfl)
  have b40 := F40.binds (ps := ["_law_box", "_law_many"]) fun _ _ _ _ _ _ us hl => match us, hl with | [_, _], _ => rfl
  obtain ⟨fd41, F41⟩ := ob_fun (c.de 41 (d := ⟨("_law_shift", none), "_law_shift", "_law_shift", s_law_shift, []⟩) rfl) rfl (c.ck2 1 38 rfl rfl)
  have b41 := F41.binds (ps := ["_law_tree_here", "_law_amount"]) fun _ _ _ _ _ _ us hl => match us, hl with | [_, _], _ => rfl
  obtain ⟨fd42, F42⟩ := ob_fun (c.de 42 (d := ⟨("_law_tree", none), "_law_tree", "_law_tree", s_law_tree, []⟩) rfl) rfl (c.ck2 1 40 rfl rfl)
  have b42 := F42.binds (ps := ["_law_box", "_law_names_here", "_law_looks", "_law_joins"]) fun _ _ _ _ _ _ us hl => match us, hl with | [_, _, _, _], _ => rfl
  obtain ⟨fd43, F43⟩ := ob_fun (c.de 43 (d := ⟨("_law_term", none), "_law_term", "_law_term", s_law_term, []⟩) rfl) rfl (c.ck2 1 42 rfl rfl)
  have b43 := F43.binds (ps := ["_law_tree_here"]) fun _ _ _ _ _ _ us hl => match us, hl with | [_], _ => rfl
  obtain ⟨fd44, F44⟩ := ob_fun (c.de 44 (d := ⟨("_law_moments", none), "_law_moments", "_law_moments", s_law_moments, []⟩) rfl) rfl (c.ck2 1 44 rfl rfl)
  have b44 := F44.binds (ps := ["_law_box", "_law_most"]) fun _ _ _ _ _ _ us hl => match us, hl with | [_, _], _ => rfl
  obtain ⟨fd45, F45⟩ := ob_fun (c.de 45 (d := ⟨("_law_rows", none), "_law_rows", "_law_rows", s_law_rows, []⟩) rfl) rfl (c.ck2 1 46 rfl rfl)
  have b45 := F45.binds (ps := ["_law_box", "_law_names_here", "_law_most"]) fun _ _ _ _ _ _ us hl => match us, hl with | [_, _, _], _ => rfl
  obtain ⟨fd46, F46⟩ := ob_fun (c.de 46 (d := ⟨("_law_copy", none), "_law_copy", "_law_copy", s_law_copy, []⟩) rfl) rfl (c.ck2 1 48 rfl rfl)
  have b46 := F46.binds (ps := ["_law_rows_here"]) fun _ _ _ _ _ _ us hl => match us, hl with | [_], _ => rfl
  obtain ⟨fd47, F47⟩ := ob_fun (c.de 47 (d := ⟨("_law_world", none), "_law_world", "_law_world", s_law_world, []⟩) rfl) rfl (c.ck2 1 50 rfl rfl)
  have b47 := F47.binds (ps := ["_law_rows_here"]) fun _ _ _ _ _ _ us hl => match us, hl with | [_], _ => rfl
  obtain ⟨fd48, F48⟩ := ob_fun (c.de 48 (d := ⟨("_law_pairs", none), "_law_pairs", "_law_pairs", s_law_pairs, []⟩) rfl) rfl (c.ck2 1 52 rfl rfl)
  have b48 := F48.binds (ps := ["_law_rows_here"]) fun _ _ _ _ _ _ us hl => match us, hl with | [_], _ => rfl
  obtain ⟨fd49, F49⟩ := ob_fun (c.de 49 (d := ⟨("_law_is_integer", none), "_law_is_integer", "_law_is_integer", s_law_is_integer, []⟩) rfl) rfl (c.ck2 1 54 rfl rfl)
  have b49 := F49.binds (ps := ["_law_thing"]) fun _ _ _ _ _ _ us hl => match us, hl with | [_], _ => rfl
  obtain ⟨fd50, F50⟩ := ob_fun (c.de 50 (d := ⟨("_law_answer", none), "_law_answer", "_law_answer", s_law_answer, []⟩) rfl) rfl (c.ck2 1 56 rfl rfl)
  have b50 := F50.binds (ps := ["_law_thing", "_law_due"]) fun _ _ _ _ _ _ us hl => match us, hl with | [_, _], _ => rfl
  obtain ⟨fd51, F51⟩ := ob_fun (c.de 51 (d := ⟨("_law_equal", none), "_law_equal", "_law_equal", s_law_equal, []⟩) rfl) rfl (c.ck2 1 58 rfl rfl)
  have b51 := F51.binds (ps := ["_law_one", "_law_other"]) fun _ _ _ _ _ _ us hl => match us, hl with | [_, _], _ => rfl
  obtain ⟨fd52, F52⟩ := ob_fun (c.de 52 (d := ⟨("_law_mirror", none), "_law_mirror", "_law_mirror", s_law_mirror, []⟩) rfl) rfl (c.ck2 2 0 rfl rfl)
  have b52 := F52.binds (ps := ["_law_tree_here"]) fun _ _ _ _ _ _ us hl => match us, hl with | [_], _ => rfl
  obtain ⟨fd53, F53⟩ := ob_fun (c.de 53 (d := ⟨("_law_moved", none), "_law_moved", "_law_moved", s_law_moved, []⟩) rfl) rfl (c.ck2 2 2 rfl rfl)
  have b53 := F53.binds (ps := ["_law_rows_here", "_law_sign", "_law_amount"]) fun _ _ _ _ _ _ us hl => match us, hl with | [_, _, _], _ => rfl
  obtain ⟨fd54, F54⟩ := ob_fun (c.de 54 (d := ⟨("_law_minus", none), "_law_minus", "_law_minus", s_law_minus, []⟩) rfl) rfl (c.ck2 2 4 rfl rfl)
  have b54 := F54.binds (ps := ["_law_value"]) fun _ _ _ _ _ _ us hl => match us, hl with | [_], _ => rfl
  obtain ⟨fd55, F55⟩ := ob_fun (c.de 55 (d := ⟨("_law_renamed", none), "_law_renamed", "_law_renamed", s_law_renamed, []⟩) rfl) rfl (c.ck2 2 6 rfl rfl)
  have b55 := F55.binds (ps := ["_law_tree_here", "_law_words"]) fun _ _ _ _ _ _ us hl => match us, hl with | [_, _], _ => rfl
  obtain ⟨fd56, F56⟩ := ob_fun (c.de 56 (d := ⟨("_law_moved_piece", none), "_law_moved_piece", "_law_moved_piece", s_law_moved_piece, []⟩) rfl) rfl (c.ck2 2 8 rfl rfl)
  have b56 := F56.binds (ps := ["_law_piece", "_law_amount"]) fun _ _ _ _ _ _ us hl => match us, hl with | [_, _], _ => rfl
  obtain ⟨fd57, F57⟩ := ob_fun (c.de 57 (d := ⟨("law", none), "law", "law", s_law, []⟩) rfl) rfl (c.ck2 2 10 rfl rfl)
  have b57 := F57.binds (ps := ["_law_script"]) fun _ _ _ _ _ _ us hl => match us, hl with | [_], _ => rfl
  obtain ⟨fd58, FD58⟩ := ob_dfl (c.de 58 (d := ⟨("World", some "__init__"), "__init__", "World.__init__", s_World_init, []⟩) rfl) rfl (c.ck2 2 12 rfl rfl)
  obtain ⟨ds58, rd58, bd58⟩ := FD58.binds1 (ps := ["self", "rows"]) 2 1 (by simp) rfl (fun _ _ _ _ _ _ _ us its h1 h2 => match us, its, h1, h2 with | [_, _], [_], _, _ => ⟨_, rfl, rfl⟩)
  cases rd58
  have ex58 : ∃ (oc : Value) (od : Option Addr) (dV kV doc pm : Value) (an : Option Addr) (cdv ct : Value) (osl : Array (Option Value)), fd58 = PySem.W.fnOf "__init__" "World.__init__" (defArgs s_World_init) (defBody s_World_init) (defScope s_World_init) dV kV doc pm an cdv ct ∧ K.lookup (He.fAd K ("World", some "__init__")) = some ⟨oc, od, .func fd58, osl⟩ ∧ PySem.W.codeIn K cdv "World.__init__" = true := by obtain ⟨⟨oc, od, dV, kV, doc, pm, an, cdv, ct, osl, e1, e2, e3, _, _⟩, _⟩ := FD58; exact ⟨oc, od, dV, kV, doc, pm, an, cdv, ct, osl, e1, e2, e3⟩
  obtain ⟨fd59, F59⟩ := ob_fun (c.de 59 (d := ⟨("World", some "__getitem__"), "__getitem__", "World.__getitem__", s_World_getitem, []⟩) rfl) rfl (c.ck2 2 13 rfl rfl)
  have b59 := F59.binds (ps := ["self", "name"]) fun _ _ _ _ _ _ us hl => match us, hl with | [_, _], _ => rfl
  obtain ⟨fd60, F60⟩ := ob_fun (c.de 60 (d := ⟨("World", some "rows"), "rows", "World.rows", s_World_rows, []⟩) rfl) rfl (c.ck2 2 14 rfl rfl)
  have b60 := F60.binds (ps := ["self"]) fun _ _ _ _ _ _ us hl => match us, hl with | [_], _ => rfl
  obtain ⟨fd61, F61⟩ := ob_fun (c.de 61 (d := ⟨("Term", some "__init__"), "__init__", "Term.__init__", s_Term_init, []⟩) rfl) rfl (c.ck2 2 15 rfl rfl)
  obtain ⟨fd62, F62⟩ := ob_fun (c.de 62 (d := ⟨("Term", some "__add__"), "__add__", "Term.__add__", s_Term_add, []⟩) rfl) rfl (c.ck2 2 16 rfl rfl)
  have b62 := F62.binds (ps := ["self", "amount"]) fun _ _ _ _ _ _ us hl => match us, hl with | [_, _], _ => rfl
  obtain ⟨fd63, F63⟩ := ob_fun (c.de 63 (d := ⟨("Term", some "__sub__"), "__sub__", "Term.__sub__", s_Term_sub, []⟩) rfl) rfl (c.ck2 2 17 rfl rfl)
  have b63 := F63.binds (ps := ["self", "amount"]) fun _ _ _ _ _ _ us hl => match us, hl with | [_, _], _ => rfl
  obtain ⟨fd64, F64⟩ := ob_fun (c.de 64 (d := ⟨("Term", some "__or__"), "__or__", "Term.__or__", s_Term_or, []⟩) rfl) rfl (c.ck2 2 18 rfl rfl)
  have b64 := F64.binds (ps := ["self", "other"]) fun _ _ _ _ _ _ us hl => match us, hl with | [_, _], _ => rfl
  obtain ⟨fd65, F65⟩ := ob_fun (c.de 65 (d := ⟨("Term", some "__eq__"), "__eq__", "Term.__eq__", s_Term_eq, []⟩) rfl) rfl (c.ck2 2 19 rfl rfl)
  have b65 := F65.binds (ps := ["self", "other"]) fun _ _ _ _ _ _ us hl => match us, hl with | [_, _], _ => rfl
  obtain ⟨fd66, F66⟩ := ob_fun (c.de 66 (d := ⟨("Term", some "__call__"), "__call__", "Term.__call__", s_Term_call, []⟩) rfl) rfl (c.ck2 2 20 rfl rfl)
  have b66 := F66.binds (ps := ["self", "world", "now"]) fun _ _ _ _ _ _ us hl => match us, hl with | [_, _, _], _ => rfl
  obtain ⟨fd67, F67⟩ := ob_fun (c.de 67 (d := ⟨("Term", some "later"), "later", "Term.later", s_Term_later, []⟩) rfl) rfl (c.ck2 2 21 rfl rfl)
  have b67 := F67.binds (ps := ["self", "other"]) fun _ _ _ _ _ _ us hl => match us, hl with | [_, _], _ => rfl
  obtain ⟨fd68, F68⟩ := ob_fun (c.de 68 (d := ⟨("Term", some "earlier"), "earlier", "Term.earlier", s_Term_earlier, []⟩) rfl) rfl (c.ck2 2 22 rfl rfl)
  have b68 := F68.binds (ps := ["self", "other"]) fun _ _ _ _ _ _ us hl => match us, hl with | [_, _], _ => rfl
  obtain ⟨fd69, F69⟩ := ob_fun (c.de 69 (d := ⟨("Term", some "form"), "form", "Term.form", s_Term_form, []⟩) rfl) rfl (c.ck2 2 23 rfl rfl)
  have b69 := F69.binds (ps := ["self"]) fun _ _ _ _ _ _ us hl => match us, hl with | [_], _ => rfl
  obtain ⟨fd70, F70⟩ := ob_fun (c.de 70 (d := ⟨("Term", some "answer_in"), "answer_in", "Term.answer_in", s_Term_answer_in, []⟩) rfl) rfl (c.ck2 2 24 rfl rfl)
  have b70 := F70.binds (ps := ["self", "world", "now"]) fun _ _ _ _ _ _ us hl => match us, hl with | [_, _, _], _ => rfl
  obtain ⟨cc71, cd71, lk71, hc71, kp71, ce71, co71⟩ := ob_sup (D := "Now") (file := fileS) (c.de 71 (d := ⟨("Now", some "__init__"), "__init__", "Now.__init__", s_Now_init, [("__class__" : Str)]⟩) rfl) rfl (c.ck2 2 25 rfl rfl)
  obtain ⟨x1_71, x2_71, x3_71, x4_71, x5_71, y1_71, y2_71⟩ := co71
  obtain ⟨cc72, cd72, lk72, hc72, kp72, ce72, co72⟩ := ob_sup (D := "Shift") (file := fileS) (c.de 72 (d := ⟨("Shift", some "__init__"), "__init__", "Shift.__init__", s_Shift_init, [("__class__" : Str)]⟩) rfl) rfl (c.ck2 2 31 rfl rfl)
  obtain ⟨x1_72, x2_72, x3_72, x4_72, x5_72, y1_72, y2_72⟩ := co72
  obtain ⟨fd73, F73⟩ := ob_fun (c.de 73 (d := ⟨("Shift", some "form"), "form", "Shift.form", s_Shift_form, []⟩) rfl) rfl (c.ck2 2 33 rfl rfl)
  have b73 := F73.binds (ps := ["self"]) fun _ _ _ _ _ _ us hl => match us, hl with | [_], _ => rfl
  obtain ⟨fd74, F74⟩ := ob_fun (c.de 74 (d := ⟨("Shift", some "answer_in"), "answer_in", "Shift.answer_in", s_Shift_answer_in, []⟩) rfl) rfl (c.ck2 2 34 rfl rfl)
  have b74 := F74.binds (ps := ["self", "world", "now"]) fun _ _ _ _ _ _ us hl => match us, hl with | [_, _, _], _ => rfl
  obtain ⟨cc75, cd75, lk75, hc75, kp75, ce75, co75⟩ := ob_sup (D := "Look") (file := fileS) (c.de 75 (d := ⟨("Look", some "__init__"), "__init__", "Look.__init__", s_Look_init, [("__class__" : Str)]⟩) rfl) rfl (c.ck2 2 35 rfl rfl)
  obtain ⟨x1_75, x2_75, x3_75, x4_75, x5_75, y1_75, y2_75⟩ := co75
  obtain ⟨fd76, F76⟩ := ob_fun (c.de 76 (d := ⟨("Look", some "form"), "form", "Look.form", s_Look_form, []⟩) rfl) rfl (c.ck2 2 37 rfl rfl)
  have b76 := F76.binds (ps := ["self"]) fun _ _ _ _ _ _ us hl => match us, hl with | [_], _ => rfl
  obtain ⟨fd77, F77⟩ := ob_fun (c.de 77 (d := ⟨("Look", some "answer_in"), "answer_in", "Look.answer_in", s_Look_answer_in, []⟩) rfl) rfl (c.ck2 2 38 rfl rfl)
  have b77 := F77.binds (ps := ["self", "world", "now"]) fun _ _ _ _ _ _ us hl => match us, hl with | [_, _, _], _ => rfl
  obtain ⟨cc78, cd78, lk78, hc78, kp78, ce78, co78⟩ := ob_sup (D := "Pair") (file := fileS) (c.de 78 (d := ⟨("Pair", some "__init__"), "__init__", "Pair.__init__", s_Pair_init, [("__class__" : Str)]⟩) rfl) rfl (c.ck2 2 39 rfl rfl)
  obtain ⟨x1_78, x2_78, x3_78, x4_78, x5_78, y1_78, y2_78⟩ := co78
  obtain ⟨fd79, F79⟩ := ob_fun (c.de 79 (d := ⟨("Either", some "form"), "form", "Either.form", s_Either_form, []⟩) rfl) rfl (c.ck2 2 41 rfl rfl)
  have b79 := F79.binds (ps := ["self"]) fun _ _ _ _ _ _ us hl => match us, hl with | [_], _ => rfl
  obtain ⟨fd80, F80⟩ := ob_fun (c.de 80 (d := ⟨("Either", some "answer_in"), "answer_in", "Either.answer_in", s_Either_answer_in, []⟩) rfl) rfl (c.ck2 2 42 rfl rfl)
  have b80 := F80.binds (ps := ["self", "world", "now"]) fun _ _ _ _ _ _ us hl => match us, hl with | [_, _, _], _ => rfl
  obtain ⟨fd81, F81⟩ := ob_fun (c.de 81 (d := ⟨("Later", some "form"), "form", "Later.form", s_Later_form, []⟩) rfl) rfl (c.ck2 2 43 rfl rfl)
  have b81 := F81.binds (ps := ["self"]) fun _ _ _ _ _ _ us hl => match us, hl with | [_], _ => rfl
  obtain ⟨fd82, F82⟩ := ob_fun (c.de 82 (d := ⟨("Later", some "answer_in"), "answer_in", "Later.answer_in", s_Later_answer_in, []⟩) rfl) rfl (c.ck2 2 44 rfl rfl)
  have b82 := F82.binds (ps := ["self", "world", "now"]) fun _ _ _ _ _ _ us hl => match us, hl with | [_, _, _], _ => rfl
  obtain ⟨fd83, F83⟩ := ob_fun (c.de 83 (d := ⟨("Earlier", some "form"), "form", "Earlier.form", s_Earlier_form, []⟩) rfl) rfl (c.ck2 2 45 rfl rfl)
  have b83 := F83.binds (ps := ["self"]) fun _ _ _ _ _ _ us hl => match us, hl with | [_], _ => rfl
  obtain ⟨fd84, F84⟩ := ob_fun (c.de 84 (d := ⟨("Earlier", some "answer_in"), "answer_in", "Earlier.answer_in", s_Earlier_answer_in, []⟩) rfl) rfl (c.ck2 2 46 rfl rfl)
  have b84 := F84.binds (ps := ["self", "world", "now"]) fun _ _ _ _ _ _ us hl => match us, hl with | [_, _, _], _ => rfl
  have bl : ∀ (s : Shared) (v : Value), BindsTo s fd57 ⟨[v], []⟩ [("_law_script", v)] := by
    obtain ⟨_, _, _, _, _, _, _, _, _, e, _⟩ := F57.ex
    rw [e]
    exact fun s v => .of_eq rfl
  exact ⟨⟨(He.ga K "World"),
    PySem.W.mg_of X G (He.eqO_ok (c.ck2 0 0 rfl rfl)),
    (He.ga K "Term"),
    PySem.W.mg_of X G (He.eqO_ok (c.ck2 0 1 rfl rfl)),
    (He.ga K "Now"),
    PySem.W.mg_of X G (He.eqO_ok (c.ck2 0 2 rfl rfl)),
    (He.ga K "Shift"),
    PySem.W.mg_of X G (He.eqO_ok (c.ck2 0 3 rfl rfl)),
    (He.ga K "Look"),
    PySem.W.mg_of X G (He.eqO_ok (c.ck2 0 4 rfl rfl)),
    (He.ga K "Pair"),
    PySem.W.mg_of X G (He.eqO_ok (c.ck2 0 5 rfl rfl)),
    (He.ga K "Either"),
    PySem.W.mg_of X G (He.eqO_ok (c.ck2 0 6 rfl rfl)),
    (He.ga K "Later"),
    PySem.W.mg_of X G (He.eqO_ok (c.ck2 0 7 rfl rfl)),
    (He.ga K "Earlier"),
    PySem.W.mg_of X G (He.eqO_ok (c.ck2 0 8 rfl rfl)),
    (He.ga K "WAYS"),
    PySem.W.mg_of X G (He.eqO_ok (c.ck2 0 9 rfl rfl)),
    fun H => He.tupB_ok (vs := [.str "at", .str "before", .str "since", .str "after"]) (c.ck2 0 10 rfl rfl) H,
    u_DEEPEST,
    k_DEEPEST,
    u_LETTERS,
    k_LETTERS,
    u_MOST_LOOKS,
    k_MOST_LOOKS,
    u_MOST_PARTS,
    k_MOST_PARTS,
    u_MOST_ROWS,
    k_MOST_ROWS,
    ⟨(He.fAd K ("is_integer", none)), fd0, F0, b0, PySem.W.mg_of X G (He.eqO_ok (c.ck2 0 17 rfl rfl))⟩,
    ⟨(He.fAd K ("is_from_zero", none)), fd1, F1, b1, PySem.W.mg_of X G (He.eqO_ok (c.ck2 0 19 rfl rfl))⟩,
    ⟨(He.fAd K ("is_name", none)), fd2, F2, b2, PySem.W.mg_of X G (He.eqO_ok (c.ck2 0 21 rfl rfl))⟩,
    ⟨(He.fAd K ("check_name", none)), fd3, F3, b3, PySem.W.mg_of X G (He.eqO_ok (c.ck2 0 23 rfl rfl))⟩,
    ⟨(He.fAd K ("check_moment", none)), fd4, F4, b4, PySem.W.mg_of X G (He.eqO_ok (c.ck2 0 25 rfl rfl))⟩,
    ⟨(He.fAd K ("check_bound", none)), fd5, F5, b5, PySem.W.mg_of X G (He.eqO_ok (c.ck2 0 27 rfl rfl))⟩,
    ⟨(He.fAd K ("check_limit", none)), fd6, F6, b6, PySem.W.mg_of X G (He.eqO_ok (c.ck2 0 29 rfl rfl))⟩,
    ⟨(He.fAd K ("check_rows", none)), fd7, F7, b7, PySem.W.mg_of X G (He.eqO_ok (c.ck2 0 31 rfl rfl))⟩,
    ⟨(He.fAd K ("limited", none)), fd8, F8, b8, PySem.W.mg_of X G (He.eqO_ok (c.ck2 0 33 rfl rfl))⟩,
    ⟨(He.fAd K ("checked_pairs", none)), fd9, F9, b9, PySem.W.mg_of X G (He.eqO_ok (c.ck2 0 35 rfl rfl))⟩,
    ⟨(He.fAd K ("check_world", none)), fd10, F10, b10, PySem.W.mg_of X G (He.eqO_ok (c.ck2 0 37 rfl rfl))⟩,
    ⟨(He.fAd K ("shifted", none)), fd11, F11, b11, PySem.W.mg_of X G (He.eqO_ok (c.ck2 0 39 rfl rfl))⟩,
    ⟨(He.fAd K ("fits", none)), fd12, F12, b12, PySem.W.mg_of X G (He.eqO_ok (c.ck2 0 41 rfl rfl))⟩,
    ⟨(He.fAd K ("looked_up", none)), fd13, F13, b13, PySem.W.mg_of X G (He.eqO_ok (c.ck2 0 43 rfl rfl))⟩,
    ⟨(He.fAd K ("check_term", none)), fd14, F14, b14, PySem.W.mg_of X G (He.eqO_ok (c.ck2 0 45 rfl rfl))⟩,
    ⟨(He.fAd K ("told", none)), fd15, F15, b15, PySem.W.mg_of X G (He.eqO_ok (c.ck2 0 47 rfl rfl))⟩,
    ⟨(He.fAd K ("greater_first", none)), fd16, F16, b16, PySem.W.mg_of X G (He.eqO_ok (c.ck2 0 49 rfl rfl))⟩,
    ⟨(He.fAd K ("lesser_last", none)), fd17, F17, b17, PySem.W.mg_of X G (He.eqO_ok (c.ck2 0 51 rfl rfl))⟩,
    ⟨(He.fAd K ("is_stretch", none)), fd18, F18, b18, PySem.W.mg_of X G (He.eqO_ok (c.ck2 0 53 rfl rfl))⟩,
    ⟨(He.fAd K ("moved", none)), fd19, F19, b19, PySem.W.mg_of X G (He.eqO_ok (c.ck2 0 55 rfl rfl))⟩,
    ⟨(He.fAd K ("clipped", none)), fd20, F20, b20, PySem.W.mg_of X G (He.eqO_ok (c.ck2 0 57 rfl rfl))⟩,
    ⟨(He.fAd K ("added", none)), fd21, F21, b21, PySem.W.mg_of X G (He.eqO_ok (c.ck2 0 59 rfl rfl))⟩,
    ⟨(He.fAd K ("span", none)), fd22, F22, b22, PySem.W.mg_of X G (He.eqO_ok (c.ck2 1 1 rfl rfl))⟩,
    ⟨(He.fAd K ("look_table", none)), fd23, F23, b23, PySem.W.mg_of X G (He.eqO_ok (c.ck2 1 3 rfl rfl))⟩,
    ⟨(He.fAd K ("look_pieces", none)), fd24, F24, b24, PySem.W.mg_of X G (He.eqO_ok (c.ck2 1 5 rfl rfl))⟩,
    ⟨(He.fAd K ("overlaid", none)), fd25, F25, b25, PySem.W.mg_of X G (He.eqO_ok (c.ck2 1 7 rfl rfl))⟩,
    ⟨(He.fAd K ("cut", none)), fd26, F26, b26, PySem.W.mg_of X G (He.eqO_ok (c.ck2 1 9 rfl rfl))⟩,
    ⟨(He.fAd K ("chosen", none)), fd27, F27, b27, PySem.W.mg_of X G (He.eqO_ok (c.ck2 1 11 rfl rfl))⟩,
    ⟨(He.fAd K ("raw_pieces", none)), fd28, F28, b28, PySem.W.mg_of X G (He.eqO_ok (c.ck2 1 13 rfl rfl))⟩,
    ⟨(He.fAd K ("meeting", none)), fd29, F29, b29, PySem.W.mg_of X G (He.eqO_ok (c.ck2 1 15 rfl rfl))⟩,
    ⟨(He.fAd K ("reach", none)), fd30, F30, b30, PySem.W.mg_of X G (He.eqO_ok (c.ck2 1 17 rfl rfl))⟩,
    ⟨(He.fAd K ("forms_at", none)), fd31, F31, b31, PySem.W.mg_of X G (He.eqO_ok (c.ck2 1 19 rfl rfl))⟩,
    ⟨(He.fAd K ("farthest", none)), fd32, F32, b32, PySem.W.mg_of X G (He.eqO_ok (c.ck2 1 21 rfl rfl))⟩,
    ⟨(He.fAd K ("pieces", none)), fd33, F33, b33, PySem.W.mg_of X G (He.eqO_ok (c.ck2 1 23 rfl rfl))⟩,
    ⟨(He.fAd K ("unequal", none)), fd34, F34, b34, PySem.W.mg_of X G (He.eqO_ok (c.ck2 1 25 rfl rfl))⟩,
    ⟨(He.fAd K ("differences", none)), fd35, F35, b35, PySem.W.mg_of X G (He.eqO_ok (c.ck2 1 27 rfl rfl))⟩,
    ⟨(He.fAd K ("_law_open", none)), fd36, F36, b36, PySem.W.mg_of X G (He.eqO_ok (c.ck2 1 29 rfl rfl))⟩,
    ⟨(He.fAd K ("_law_pick", none)), fd37, F37, b37, PySem.W.mg_of X G (He.eqO_ok (c.ck2 1 31 rfl rfl))⟩,
    ⟨(He.fAd K ("_law_number", none)), fd38, F38, b38, PySem.W.mg_of X G (He.eqO_ok (c.ck2 1 33 rfl rfl))⟩,
    ⟨(He.fAd K ("_law_limit", none)), fd39, F39, b39, PySem.W.mg_of X G (He.eqO_ok (c.ck2 1 35 rfl rfl))⟩,
    ⟨(He.fAd K ("_law_names", none)), fd40, F40, b40, PySem.W.mg_of X G (He.eqO_ok (c.ck2 1 37 rfl rfl))⟩,
    ⟨(He.fAd K ("_law_shift", none)), fd41, F41, b41, PySem.W.mg_of X G (He.eqO_ok (c.ck2 1 39 rfl rfl))⟩,
    ⟨(He.fAd K ("_law_tree", none)), fd42, F42, b42, PySem.W.mg_of X G (He.eqO_ok (c.ck2 1 41 rfl rfl))⟩,
    ⟨(He.fAd K ("_law_term", none)), fd43, F43, b43, PySem.W.mg_of X G (He.eqO_ok (c.ck2 1 43 rfl rfl))⟩,
    ⟨(He.fAd K ("_law_moments", none)), fd44, F44, b44, PySem.W.mg_of X G (He.eqO_ok (c.ck2 1 45 rfl rfl))⟩,
    ⟨(He.fAd K ("_law_rows", none)), fd45, F45, b45, PySem.W.mg_of X G (He.eqO_ok (c.ck2 1 47 rfl rfl))⟩,
    ⟨(He.fAd K ("_law_copy", none)), fd46, F46, b46, PySem.W.mg_of X G (He.eqO_ok (c.ck2 1 49 rfl rfl))⟩,
    ⟨(He.fAd K ("_law_world", none)), fd47, F47, b47, PySem.W.mg_of X G (He.eqO_ok (c.ck2 1 51 rfl rfl))⟩,
    ⟨(He.fAd K ("_law_pairs", none)), fd48, F48, b48, PySem.W.mg_of X G (He.eqO_ok (c.ck2 1 53 rfl rfl))⟩,
    ⟨(He.fAd K ("_law_is_integer", none)), fd49, F49, b49, PySem.W.mg_of X G (He.eqO_ok (c.ck2 1 55 rfl rfl))⟩,
    ⟨(He.fAd K ("_law_answer", none)), fd50, F50, b50, PySem.W.mg_of X G (He.eqO_ok (c.ck2 1 57 rfl rfl))⟩,
    ⟨(He.fAd K ("_law_equal", none)), fd51, F51, b51, PySem.W.mg_of X G (He.eqO_ok (c.ck2 1 59 rfl rfl))⟩,
    ⟨(He.fAd K ("_law_mirror", none)), fd52, F52, b52, PySem.W.mg_of X G (He.eqO_ok (c.ck2 2 1 rfl rfl))⟩,
    ⟨(He.fAd K ("_law_moved", none)), fd53, F53, b53, PySem.W.mg_of X G (He.eqO_ok (c.ck2 2 3 rfl rfl))⟩,
    ⟨(He.fAd K ("_law_minus", none)), fd54, F54, b54, PySem.W.mg_of X G (He.eqO_ok (c.ck2 2 5 rfl rfl))⟩,
    ⟨(He.fAd K ("_law_renamed", none)), fd55, F55, b55, PySem.W.mg_of X G (He.eqO_ok (c.ck2 2 7 rfl rfl))⟩,
    ⟨(He.fAd K ("_law_moved_piece", none)), fd56, F56, b56, PySem.W.mg_of X G (He.eqO_ok (c.ck2 2 9 rfl rfl))⟩,
    ⟨(He.fAd K ("law", none)), fd57, F57, b57, PySem.W.mg_of X G (He.eqO_ok (c.ck2 2 11 rfl rfl))⟩,
    ⟨(He.fAd K ("World", some "__init__")), fd58, ex58, bd58⟩,
    ⟨(He.fAd K ("World", some "__getitem__")), fd59, F59, b59⟩,
    ⟨(He.fAd K ("World", some "rows")), fd60, F60, b60⟩,
    ⟨(He.fAd K ("Term", some "__init__")), fd61, F61⟩,
    ⟨(He.fAd K ("Term", some "__add__")), fd62, F62, b62⟩,
    ⟨(He.fAd K ("Term", some "__sub__")), fd63, F63, b63⟩,
    ⟨(He.fAd K ("Term", some "__or__")), fd64, F64, b64⟩,
    ⟨(He.fAd K ("Term", some "__eq__")), fd65, F65, b65⟩,
    ⟨(He.fAd K ("Term", some "__call__")), fd66, F66, b66⟩,
    ⟨(He.fAd K ("Term", some "later")), fd67, F67, b67⟩,
    ⟨(He.fAd K ("Term", some "earlier")), fd68, F68, b68⟩,
    ⟨(He.fAd K ("Term", some "form")), fd69, F69, b69⟩,
    ⟨(He.fAd K ("Term", some "answer_in")), fd70, F70, b70⟩,
    ⟨(He.fAd K ("Now", some "__init__")), cc71, cd71, lk71, hc71, kp71, ⟨rfl, ce71, Option.isSome_iff_exists.mp (c.ck2 2 26 rfl rfl), ⟨_, _, _, _, _, _, y1_71, y2_71, hfile⟩, He.eqO_ok (c.ck2 2 27 rfl rfl), He.eqO_ok (c.ck2 2 28 rfl rfl), of_decide_eq_true (c.ck2 2 29 rfl rfl), (c.ck2 2 30 rfl rfl), htop, (by show (defScope s_Now_init).names.lookup ("super" : Str) = _; decide +kernel), (by show (defScope s_Now_init).names.lookup ("__class__" : Str) = _; decide +kernel), by decide⟩⟩,
    ⟨(He.fAd K ("Shift", some "__init__")), cc72, cd72, lk72, hc72, kp72, ⟨rfl, ce72, Option.isSome_iff_exists.mp (c.ck2 2 32 rfl rfl), ⟨_, _, _, _, _, _, y1_72, y2_72, hfile⟩, He.eqO_ok (c.ck2 2 27 rfl rfl), He.eqO_ok (c.ck2 2 28 rfl rfl), of_decide_eq_true (c.ck2 2 29 rfl rfl), (c.ck2 2 30 rfl rfl), htop, (by show (defScope s_Shift_init).names.lookup ("super" : Str) = _; decide +kernel), (by show (defScope s_Shift_init).names.lookup ("__class__" : Str) = _; decide +kernel), by decide⟩⟩,
    ⟨(He.fAd K ("Shift", some "form")), fd73, F73, b73⟩,
    ⟨(He.fAd K ("Shift", some "answer_in")), fd74, F74, b74⟩,
    ⟨(He.fAd K ("Look", some "__init__")), cc75, cd75, lk75, hc75, kp75, ⟨rfl, ce75, Option.isSome_iff_exists.mp (c.ck2 2 36 rfl rfl), ⟨_, _, _, _, _, _, y1_75, y2_75, hfile⟩, He.eqO_ok (c.ck2 2 27 rfl rfl), He.eqO_ok (c.ck2 2 28 rfl rfl), of_decide_eq_true (c.ck2 2 29 rfl rfl), (c.ck2 2 30 rfl rfl), htop, (by show (defScope s_Look_init).names.lookup ("super" : Str) = _; decide +kernel), (by show (defScope s_Look_init).names.lookup ("__class__" : Str) = _; decide +kernel), by decide⟩⟩,
    ⟨(He.fAd K ("Look", some "form")), fd76, F76, b76⟩,
    ⟨(He.fAd K ("Look", some "answer_in")), fd77, F77, b77⟩,
    ⟨(He.fAd K ("Pair", some "__init__")), cc78, cd78, lk78, hc78, kp78, ⟨rfl, ce78, Option.isSome_iff_exists.mp (c.ck2 2 40 rfl rfl), ⟨_, _, _, _, _, _, y1_78, y2_78, hfile⟩, He.eqO_ok (c.ck2 2 27 rfl rfl), He.eqO_ok (c.ck2 2 28 rfl rfl), of_decide_eq_true (c.ck2 2 29 rfl rfl), (c.ck2 2 30 rfl rfl), htop, (by show (defScope s_Pair_init).names.lookup ("super" : Str) = _; decide +kernel), (by show (defScope s_Pair_init).names.lookup ("__class__" : Str) = _; decide +kernel), by decide⟩⟩,
    ⟨(He.fAd K ("Either", some "form")), fd79, F79, b79⟩,
    ⟨(He.fAd K ("Either", some "answer_in")), fd80, F80, b80⟩,
    ⟨(He.fAd K ("Later", some "form")), fd81, F81, b81⟩,
    ⟨(He.fAd K ("Later", some "answer_in")), fd82, F82, b82⟩,
    ⟨(He.fAd K ("Earlier", some "form")), fd83, F83, b83⟩,
    ⟨(He.fAd K ("Earlier", some "answer_in")), fd84, F84, b84⟩,
    ⟨⟨(c.ck2 2 47 rfl rfl), (c.ck2 2 48 rfl rfl), (c.ck2 2 49 rfl rfl), (He.eqO_ok (c.ck2 2 50 rfl rfl))⟩, (He.eqO_ok (c.ck2 2 51 rfl rfl)), (He.eqO_ok (c.ck2 2 52 rfl rfl)), (eqB_ok (c.ck2 2 53 rfl rfl)), (eqB_ok (c.ck2 2 54 rfl rfl))⟩,
    ⟨⟨(c.ck2 2 55 rfl rfl), (c.ck2 2 56 rfl rfl), (c.ck2 2 57 rfl rfl), (He.eqO_ok (c.ck2 2 58 rfl rfl))⟩, (He.eqO_ok (c.ck2 2 59 rfl rfl)), (He.eqO_ok (c.ck2 2 52 rfl rfl)), (eqB_ok (c.ck2 2 53 rfl rfl)), (eqB_ok (c.ck2 3 0 rfl rfl))⟩,
    ⟨⟨(c.ck2 3 1 rfl rfl), (c.ck2 3 2 rfl rfl), (c.ck2 3 3 rfl rfl), (He.eqO_ok (c.ck2 3 4 rfl rfl))⟩, (He.eqO_ok (c.ck2 3 5 rfl rfl)), (He.eqO_ok (c.ck2 2 52 rfl rfl)), (eqB_ok (c.ck2 2 53 rfl rfl)), (eqB_ok (c.ck2 3 6 rfl rfl))⟩,
    ⟨⟨(c.ck2 3 7 rfl rfl), (c.ck2 3 8 rfl rfl), (c.ck2 3 9 rfl rfl), (He.eqO_ok (c.ck2 3 10 rfl rfl))⟩, (He.eqO_ok (c.ck2 3 11 rfl rfl)), (He.eqO_ok (c.ck2 2 52 rfl rfl)), (eqB_ok (c.ck2 2 53 rfl rfl)), (eqB_ok (c.ck2 3 12 rfl rfl))⟩,
    ⟨⟨(c.ck2 3 13 rfl rfl), (c.ck2 3 14 rfl rfl), (c.ck2 3 15 rfl rfl), (He.eqO_ok (c.ck2 3 16 rfl rfl))⟩, (He.eqO_ok (c.ck2 3 17 rfl rfl)), (He.eqO_ok (c.ck2 2 52 rfl rfl)), (eqB_ok (c.ck2 2 53 rfl rfl)), (eqB_ok (c.ck2 3 18 rfl rfl))⟩,
    ⟨⟨(c.ck2 3 19 rfl rfl), (c.ck2 3 20 rfl rfl), (c.ck2 3 21 rfl rfl), (He.eqO_ok (c.ck2 3 22 rfl rfl))⟩, (He.eqO_ok (c.ck2 3 23 rfl rfl)), (He.eqO_ok (c.ck2 2 52 rfl rfl)), (eqB_ok (c.ck2 2 53 rfl rfl)), (eqB_ok (c.ck2 3 24 rfl rfl))⟩,
    ⟨⟨(c.ck2 3 25 rfl rfl), (c.ck2 3 26 rfl rfl), (c.ck2 3 27 rfl rfl), (He.eqO_ok (c.ck2 3 28 rfl rfl))⟩, (He.eqO_ok (c.ck2 3 29 rfl rfl)), (He.eqO_ok (c.ck2 2 52 rfl rfl)), (eqB_ok (c.ck2 2 53 rfl rfl)), (eqB_ok (c.ck2 3 30 rfl rfl))⟩,
    ⟨(c.ck2 3 31 rfl rfl), (He.eqO_ok (c.ck2 3 32 rfl rfl)), (c.ck2 3 33 rfl rfl), (c.ck2 3 34 rfl rfl)⟩,
    ⟨(c.ck2 3 35 rfl rfl), (He.eqO_ok (c.ck2 3 36 rfl rfl)), (c.ck2 3 33 rfl rfl), (c.ck2 3 37 rfl rfl)⟩,
    ⟨(c.ck2 3 38 rfl rfl), (He.eqO_ok (c.ck2 3 39 rfl rfl)), (c.ck2 3 33 rfl rfl), (c.ck2 3 40 rfl rfl)⟩,
    ⟨(c.ck2 3 41 rfl rfl), (He.eqO_ok (c.ck2 3 42 rfl rfl)), (c.ck2 3 43 rfl rfl), (c.ck2 3 44 rfl rfl)⟩,
    ⟨(c.ck2 3 45 rfl rfl), (He.eqO_ok (c.ck2 3 46 rfl rfl)), (c.ck2 3 47 rfl rfl), (c.ck2 3 48 rfl rfl)⟩,
    ⟨(c.ck2 3 49 rfl rfl), (He.eqO_ok (c.ck2 3 50 rfl rfl)), (c.ck2 3 51 rfl rfl), (c.ck2 3 52 rfl rfl)⟩,
    ⟨(c.ck2 3 53 rfl rfl), (He.eqO_ok (c.ck2 3 54 rfl rfl)), (c.ck2 3 55 rfl rfl), (c.ck2 3 56 rfl rfl)⟩,
    ⟨(He.eqO_ok (c.ck2 3 57 rfl rfl)), (c.ck2 3 58 rfl rfl), (c.ck2 3 59 rfl rfl)⟩,
    ⟨(He.eqO_ok (c.ck2 4 0 rfl rfl)), (c.ck2 4 1 rfl rfl), (c.ck2 4 2 rfl rfl)⟩,
    ⟨(He.eqO_ok (c.ck2 4 3 rfl rfl)), (c.ck2 4 4 rfl rfl), (c.ck2 4 5 rfl rfl)⟩,
    ⟨(He.eqO_ok (c.ck2 4 6 rfl rfl)), (c.ck2 4 7 rfl rfl), (c.ck2 4 8 rfl rfl)⟩,
    ⟨(He.eqO_ok (c.ck2 4 9 rfl rfl)), (c.ck2 4 10 rfl rfl), (c.ck2 4 11 rfl rfl)⟩,
    ⟨(He.eqO_ok (c.ck2 4 12 rfl rfl)), (c.ck2 4 1 rfl rfl), (c.ck2 4 2 rfl rfl)⟩,
    ⟨(He.eqO_ok (c.ck2 4 13 rfl rfl)), (c.ck2 4 14 rfl rfl), (c.ck2 4 15 rfl rfl)⟩,
    ⟨(He.eqO_ok (c.ck2 4 16 rfl rfl)), (c.ck2 4 7 rfl rfl), (c.ck2 4 8 rfl rfl)⟩,
    ⟨(He.eqO_ok (c.ck2 4 17 rfl rfl)), (c.ck2 4 18 rfl rfl), (c.ck2 4 19 rfl rfl)⟩,
    ⟨(He.eqO_ok (c.ck2 4 20 rfl rfl)), (c.ck2 4 1 rfl rfl), (c.ck2 4 2 rfl rfl)⟩,
    ⟨(He.eqO_ok (c.ck2 4 21 rfl rfl)), (c.ck2 4 22 rfl rfl), (c.ck2 4 23 rfl rfl)⟩,
    ⟨(He.eqO_ok (c.ck2 4 24 rfl rfl)), (c.ck2 4 7 rfl rfl), (c.ck2 4 8 rfl rfl)⟩,
    ⟨(He.eqO_ok (c.ck2 4 25 rfl rfl)), (c.ck2 4 26 rfl rfl), (c.ck2 4 27 rfl rfl)⟩,
    ⟨(He.eqO_ok (c.ck2 4 28 rfl rfl)), (c.ck2 4 1 rfl rfl), (c.ck2 4 2 rfl rfl)⟩,
    ⟨(He.eqO_ok (c.ck2 4 29 rfl rfl)), (c.ck2 4 30 rfl rfl), (c.ck2 4 31 rfl rfl)⟩,
    ⟨(He.eqO_ok (c.ck2 4 32 rfl rfl)), (c.ck2 4 7 rfl rfl), (c.ck2 4 8 rfl rfl)⟩,
    ⟨(He.eqO_ok (c.ck2 4 33 rfl rfl)), (c.ck2 4 34 rfl rfl), (c.ck2 4 35 rfl rfl)⟩,
    ⟨(He.eqO_ok (c.ck2 4 36 rfl rfl)), (c.ck2 4 1 rfl rfl), (c.ck2 4 2 rfl rfl)⟩,
    ⟨(He.eqO_ok (c.ck2 4 37 rfl rfl)), (c.ck2 4 38 rfl rfl), (c.ck2 4 39 rfl rfl)⟩,
    ⟨(He.eqO_ok (c.ck2 4 40 rfl rfl)), (c.ck2 4 7 rfl rfl), (c.ck2 4 8 rfl rfl)⟩,
    ⟨(He.eqO_ok (c.ck2 4 41 rfl rfl)), (c.ck2 4 42 rfl rfl), (c.ck2 4 43 rfl rfl)⟩,
    ⟨(He.eqO_ok (c.ck2 4 44 rfl rfl)), (c.ck2 4 1 rfl rfl), (c.ck2 4 2 rfl rfl)⟩,
    ⟨(He.eqO_ok (c.ck2 4 45 rfl rfl)), (c.ck2 4 46 rfl rfl), (c.ck2 4 47 rfl rfl)⟩,
    ⟨(He.eqO_ok (c.ck2 4 48 rfl rfl)), (c.ck2 4 7 rfl rfl), (c.ck2 4 8 rfl rfl)⟩,
    (He.eqO_ok (c.ck2 4 49 rfl rfl)),
    (He.eqO_ok (c.ck2 4 50 rfl rfl)),
    (He.eqO_ok (c.ck2 4 51 rfl rfl)),
    (He.eqO_ok (c.ck2 4 52 rfl rfl)),
    (He.eqO_ok (c.ck2 4 53 rfl rfl)),
    (He.eqO_ok (c.ck2 4 54 rfl rfl)),
    (He.eqO_ok (c.ck2 4 55 rfl rfl)),
    (He.eqO_ok (c.ck2 4 56 rfl rfl)),
    (He.eqO_ok (c.ck2 4 57 rfl rfl)),
    (He.eqO_ok (c.ck2 4 58 rfl rfl)),
    (He.eqO_ok (c.ck2 4 59 rfl rfl)),
    (He.eqO_ok (c.ck2 5 0 rfl rfl)),
    (He.eqO_ok (c.ck2 5 1 rfl rfl)),
    (He.eqO_ok (c.ck2 5 2 rfl rfl)),
    (He.eqO_ok (c.ck2 5 3 rfl rfl)),
    (He.eqO_ok (c.ck2 5 4 rfl rfl)),
    (He.eqO_ok (c.ck2 5 5 rfl rfl)),
    (He.eqO_ok (c.ck2 5 6 rfl rfl)),
    (He.eqO_ok (c.ck2 5 7 rfl rfl)),
    (He.eqO_ok (c.ck2 5 8 rfl rfl)),
    (He.eqO_ok (c.ck2 5 9 rfl rfl)),
    (He.eqO_ok (c.ck2 5 10 rfl rfl)),
    (He.eqO_ok (c.ck2 5 11 rfl rfl)),
    (He.eqO_ok (c.ck2 5 12 rfl rfl)),
    (He.eqO_ok (c.ck2 5 13 rfl rfl)),
    (He.eqO_ok (c.ck2 5 14 rfl rfl)),
    (He.eqO_ok (c.ck2 5 15 rfl rfl)),
    (He.eqO_ok (c.ck2 5 16 rfl rfl)),
    (He.eqO_ok (c.ck2 5 17 rfl rfl)),
    (He.eqO_ok (c.ck2 5 18 rfl rfl)),
    (He.eqO_ok (c.ck2 5 19 rfl rfl)),
    (He.eqO_ok (c.ck2 5 20 rfl rfl)),
    (He.eqO_ok (c.ck2 5 21 rfl rfl)),
    (He.eqO_ok (c.ck2 5 22 rfl rfl)),
    (He.eqO_ok (c.ck2 5 23 rfl rfl)),
    (He.eqO_ok (c.ck2 5 24 rfl rfl)),
    (He.eqO_ok (c.ck2 5 25 rfl rfl)),
    ⟨(eqB_ok (c.ck2 5 26 rfl rfl)), (He.eqO_ok (c.ck2 5 27 rfl rfl))⟩,
    ⟨(eqB_ok (c.ck2 5 28 rfl rfl)), (He.eqO_ok (c.ck2 5 29 rfl rfl))⟩,
    ⟨(eqB_ok (c.ck2 5 30 rfl rfl)), (He.eqO_ok (c.ck2 5 31 rfl rfl))⟩,
    ⟨(eqB_ok (c.ck2 5 32 rfl rfl)), (He.eqO_ok (c.ck2 5 33 rfl rfl))⟩,
    ⟨(eqB_ok (c.ck2 5 34 rfl rfl)), (He.eqO_ok (c.ck2 5 35 rfl rfl))⟩,
    ⟨(eqB_ok (c.ck2 5 36 rfl rfl)), (He.eqO_ok (c.ck2 5 37 rfl rfl))⟩,
    ⟨(c.ck2 5 38 rfl rfl), (He.eqO_ok (c.ck2 5 39 rfl rfl)), (c.ck2 5 40 rfl rfl), (He.eqO_ok (c.ck2 5 41 rfl rfl)), (c.ck2 5 42 rfl rfl), (c.ck2 5 43 rfl rfl), (eqB_ok (c.ck2 5 44 rfl rfl))⟩,
    ⟨(c.ck2 5 45 rfl rfl), (He.eqO_ok (c.ck2 5 46 rfl rfl)), (c.ck2 5 40 rfl rfl), (He.eqO_ok (c.ck2 5 47 rfl rfl)), (c.ck2 5 42 rfl rfl), (c.ck2 5 43 rfl rfl), (eqB_ok (c.ck2 5 48 rfl rfl))⟩,
    ⟨(c.ck2 5 49 rfl rfl), (He.eqO_ok (c.ck2 5 50 rfl rfl)), (c.ck2 5 40 rfl rfl), (He.eqO_ok (c.ck2 5 51 rfl rfl)), (c.ck2 5 42 rfl rfl), (c.ck2 5 43 rfl rfl), (eqB_ok (c.ck2 5 52 rfl rfl))⟩,
    ⟨(c.ck2 5 53 rfl rfl), (He.eqO_ok (c.ck2 5 54 rfl rfl)), (c.ck2 5 40 rfl rfl), (He.eqO_ok (c.ck2 5 55 rfl rfl)), (c.ck2 5 42 rfl rfl), (c.ck2 5 43 rfl rfl), (eqB_ok (c.ck2 5 56 rfl rfl))⟩,
    ⟨(c.ck2 5 57 rfl rfl), (He.eqO_ok (c.ck2 5 58 rfl rfl)), (c.ck2 5 40 rfl rfl), (He.eqO_ok (c.ck2 5 59 rfl rfl)), (c.ck2 5 42 rfl rfl), (c.ck2 5 43 rfl rfl), (eqB_ok (c.ck2 6 0 rfl rfl))⟩,
    ⟨(c.ck2 6 1 rfl rfl), (He.eqO_ok (c.ck2 6 2 rfl rfl)), (c.ck2 5 40 rfl rfl), (He.eqO_ok (c.ck2 6 3 rfl rfl)), (c.ck2 5 42 rfl rfl), (c.ck2 5 43 rfl rfl), (eqB_ok (c.ck2 6 4 rfl rfl))⟩,
    ⟨(c.ck2 5 38 rfl rfl), (He.eqO_ok (c.ck2 6 5 rfl rfl)), (c.ck2 6 6 rfl rfl), (He.eqO_ok (c.ck2 6 7 rfl rfl))⟩,
    ⟨(c.ck2 5 45 rfl rfl), (He.eqO_ok (c.ck2 6 8 rfl rfl)), (c.ck2 6 6 rfl rfl), (He.eqO_ok (c.ck2 6 9 rfl rfl))⟩,
    ⟨(c.ck2 5 49 rfl rfl), (He.eqO_ok (c.ck2 6 10 rfl rfl)), (c.ck2 6 6 rfl rfl), (He.eqO_ok (c.ck2 6 11 rfl rfl))⟩,
    ⟨(c.ck2 5 53 rfl rfl), (He.eqO_ok (c.ck2 6 12 rfl rfl)), (c.ck2 6 6 rfl rfl), (He.eqO_ok (c.ck2 6 13 rfl rfl))⟩,
    ⟨(c.ck2 5 57 rfl rfl), (He.eqO_ok (c.ck2 6 14 rfl rfl)), (c.ck2 6 6 rfl rfl), (He.eqO_ok (c.ck2 6 15 rfl rfl))⟩,
    ⟨(c.ck2 6 1 rfl rfl), (He.eqO_ok (c.ck2 6 16 rfl rfl)), (c.ck2 6 6 rfl rfl), (He.eqO_ok (c.ck2 6 17 rfl rfl))⟩,
    (eqB_ok (c.ck2 6 18 rfl rfl)),
    (eqB_ok (c.ck2 6 19 rfl rfl)),
    (eqB_ok (c.ck2 6 20 rfl rfl)),
    (eqB_ok (c.ck2 6 21 rfl rfl)),
    (eqB_ok (c.ck2 6 22 rfl rfl)),
    (eqB_ok (c.ck2 6 23 rfl rfl)),
    (eqB_ok (c.ck2 6 24 rfl rfl)),
    (eqB_ok (c.ck2 6 25 rfl rfl)),
    (eqB_ok (c.ck2 6 26 rfl rfl)),
    (eqB_ok (c.ck2 6 27 rfl rfl)),
    (eqB_ok (c.ck2 6 28 rfl rfl)),
    (eqB_ok (c.ck2 6 29 rfl rfl)),
    (eqB_ok (c.ck2 6 30 rfl rfl)),
    (eqB_ok (c.ck2 6 31 rfl rfl)),
    (eqB_ok (c.ck2 6 32 rfl rfl)),
    (eqB_ok (c.ck2 6 33 rfl rfl)),
    (eqB_ok (c.ck2 6 34 rfl rfl)),
    (eqB_ok (c.ck2 6 35 rfl rfl)),
    (eqB_ok (c.ck2 6 36 rfl rfl)),
    (eqB_ok (c.ck2 6 37 rfl rfl)),
    (eqB_ok (c.ck2 6 38 rfl rfl)),
    (eqB_ok (c.ck2 6 39 rfl rfl)),
    (eqB_ok (c.ck2 6 40 rfl rfl)),
    (eqB_ok (c.ck2 6 41 rfl rfl)),
    (eqB_ok (c.ck2 6 42 rfl rfl)),
    (eqB_ok (c.ck2 6 43 rfl rfl)),
    (eqB_ok (c.ck2 6 44 rfl rfl)),
    (eqB_ok (c.ck2 6 45 rfl rfl)),
    (eqB_ok (c.ck2 6 46 rfl rfl)),
    (eqB_ok (c.ck2 6 47 rfl rfl)),
    ⟨(He.eqO_ok (c.ck2 6 48 rfl rfl)), (c.ck2 6 49 rfl rfl), (c.ck2 6 50 rfl rfl)⟩,
    (eqB_ok (c.ck2 6 51 rfl rfl)),
    (eqB_ok (c.ck2 6 52 rfl rfl)),
    (eqB_ok (c.ck2 6 53 rfl rfl)),
    (eqB_ok (c.ck2 6 54 rfl rfl)),
    (eqB_ok (c.ck2 6 55 rfl rfl)),
    (eqB_ok (c.ck2 6 56 rfl rfl)),
    (eqB_ok (c.ck2 6 57 rfl rfl)),
    (eqB_ok (c.ck2 6 58 rfl rfl)),
    (eqB_ok (c.ck2 6 59 rfl rfl)),
    (eqB_ok (c.ck2 7 0 rfl rfl)),
    (eqB_ok (c.ck2 7 1 rfl rfl)),
    (eqB_ok (c.ck2 7 2 rfl rfl)),
    (eqB_ok (c.ck2 7 3 rfl rfl)),
    (eqB_ok (c.ck2 7 4 rfl rfl)),
    (eqB_ok (c.ck2 7 5 rfl rfl)),
    (eqB_ok (c.ck2 7 6 rfl rfl)),
    (eqB_ok (c.ck2 7 7 rfl rfl)),
    (eqB_ok (c.ck2 7 8 rfl rfl)),
    (eqB_ok (c.ck2 7 9 rfl rfl)),
    (eqB_ok (c.ck2 7 10 rfl rfl)),
    (eqB_ok (c.ck2 7 11 rfl rfl)),
    (eqB_ok (c.ck2 7 12 rfl rfl)),
    (eqB_ok (c.ck2 7 13 rfl rfl)),
    (eqB_ok (c.ck2 7 14 rfl rfl)),
    (eqB_ok (c.ck2 7 15 rfl rfl)),
    (eqB_ok (c.ck2 7 16 rfl rfl)),
    (eqB_ok (c.ck2 7 17 rfl rfl)),
    (eqB_ok (c.ck2 7 18 rfl rfl)),
    (eqB_ok (c.ck2 7 19 rfl rfl)),
    (eqB_ok (c.ck2 7 20 rfl rfl)),
    (eqB_ok (c.ck2 7 21 rfl rfl)),
    (eqB_ok (c.ck2 7 22 rfl rfl)),
    (eqB_ok (c.ck2 7 23 rfl rfl)),
    (eqB_ok (c.ck2 7 24 rfl rfl)),
    (eqB_ok (c.ck2 7 25 rfl rfl)),
    (eqB_ok (c.ck2 7 26 rfl rfl)),
    (eqB_ok (c.ck2 7 27 rfl rfl)),
    (eqB_ok (c.ck2 7 28 rfl rfl)),
    (eqB_ok (c.ck2 7 29 rfl rfl)),
    (eqB_ok (c.ck2 7 30 rfl rfl)),
    (eqB_ok (c.ck2 7 31 rfl rfl)),
    (eqB_ok (c.ck2 7 32 rfl rfl)),
    (eqB_ok (c.ck2 7 33 rfl rfl)),
    ⟨(He.eqO_ok (c.ck2 7 34 rfl rfl)), (c.ck2 7 35 rfl rfl), (c.ck2 7 36 rfl rfl)⟩,
    ⟨(He.eqO_ok (c.ck2 7 37 rfl rfl)), (c.ck2 7 35 rfl rfl), (c.ck2 7 36 rfl rfl)⟩,
    ⟨(He.eqO_ok (c.ck2 7 38 rfl rfl)), (c.ck2 7 35 rfl rfl), (c.ck2 7 36 rfl rfl)⟩,
    ⟨(He.eqO_ok (c.ck2 7 39 rfl rfl)), (c.ck2 7 35 rfl rfl), (c.ck2 7 36 rfl rfl)⟩,
    ⟨(He.eqO_ok (c.ck2 7 40 rfl rfl)), (c.ck2 7 35 rfl rfl), (c.ck2 7 36 rfl rfl)⟩,
    ⟨(He.eqO_ok (c.ck2 7 41 rfl rfl)), (c.ck2 7 35 rfl rfl), (c.ck2 7 36 rfl rfl)⟩,
    PySem.W.mg_none_of X G (He.eqO_ok (c.ck2 7 42 rfl rfl)),
    PySem.W.mg_none_of X G (He.eqO_ok (c.ck2 7 43 rfl rfl)),
    PySem.W.mg_none_of X G (He.eqO_ok (c.ck2 7 44 rfl rfl)),
    PySem.W.mg_none_of X G (He.eqO_ok (c.ck2 7 45 rfl rfl)),
    PySem.W.mg_none_of X G (He.eqO_ok (c.ck2 7 46 rfl rfl)),
    PySem.W.mg_none_of X G (He.eqO_ok (c.ck2 7 47 rfl rfl)),
    PySem.W.mg_none_of X G (He.eqO_ok (c.ck2 7 48 rfl rfl)),
    PySem.W.mg_none_of X G (He.eqO_ok (c.ck2 7 49 rfl rfl)),
    PySem.W.mg_none_of X G (He.eqO_ok (c.ck2 7 50 rfl rfl)),
    PySem.W.mg_none_of X G (He.eqO_ok (c.ck2 7 51 rfl rfl)),
    PySem.W.mg_none_of X G (He.eqO_ok (c.ck2 2 27 rfl rfl)),
    PySem.W.mg_none_of X G (He.eqO_ok (c.ck2 7 52 rfl rfl)),
    PySem.W.mg_none_of X G (He.eqO_ok (c.ck2 7 53 rfl rfl)),
    PySem.W.mg_none_of X G (He.eqO_ok (c.ck2 7 54 rfl rfl)),
    PySem.W.mg_none_of X G (He.eqO_ok (c.ck2 7 55 rfl rfl)),
    PySem.W.mg_none_of X G (He.eqO_ok (c.ck2 7 56 rfl rfl))⟩, rfl, bl⟩
-- END RUN
-- LAWIX: 90
end Pl

set_option Elab.async false
set_option linter.all false
set_option maxRecDepth 100000
set_option maxHeartbeats 4000000
/-! sorted over data, max with a default, C() -/
namespace Pl
open PySem PySem.Spec PyProof.Rows L2
section
variable {X : Cx}
/-- xs reads as data, item by item -/
def RdAll (K : PySem.W.Frag) (H : Hp) {β : Type} (enc : β → PyData) (vs : List V) (bs : List β) : Prop := vs.length = bs.length ∧ ∀ (i : Nat) (v : V) (b : β), vs[i]? = some v → bs[i]? = some b → Dp K H v (enc b)
theorem each_of {R : Value → β → Prop} : ∀ {us : List Value} {bs : List β}, us.length = bs.length → (∀ (i : Nat) u b, us[i]? = some u → bs[i]? = some b → R u b) → PySem.W.EachIs R us bs
  | [], [], _, _ => .nil
  | u :: us, b :: bs, hl, h => .cons (h 0 u b rfl rfl) (each_of (Nat.succ.inj hl) fun i u b h1 h2 => h (i + 1) u b h1 h2)
theorem each_at {R : Value → β → Prop} : ∀ {us : List Value} {bs : List β}, PySem.W.EachIs R us bs → ∀ (i : Nat) u b, us[i]? = some u → bs[i]? = some b → R u b
  | _, _, .cons r _, 0, u, b, h1, h2 => by
    cases h1
    cases h2
    exact r
  | _, _, .cons _ t, i + 1, u, b, h1, h2 => each_at t i u b h1 h2
  | _, _, .nil, _, u, b, h1, _ => by simp at h1
theorem vals_of : ∀ {vs : List V} {us : List Value}, PySem.W.EachIs (fun u v => RelV v u) us vs → Vals vs us
  | _, _, .nil => .nil
  | _, _, .cons r t => .cons r (vals_of t)
theorem each_fst {β : Type} : ∀ {us : List Value} {ps : List (V × β)}, PySem.W.EachIs (fun u (p : V × β) => RelV p.1 u) us ps → Vals (ps.map (·.1)) us
  | _, _, .nil => .nil
  | _, _, .cons r t => .cons r (each_fst t)
/-- sorted(xs): xs a list that reads as alike data -/
def rSortD (K : PySem.W.Frag) {β : Type} (enc : β → PyData) : List V → Hp → VK → Prop := fun xs H Q => ∃ (a : Addr) (ps : List (V × β)), xs = [V.ref a] ∧ SqL K H a (ps.map (·.1)) ∧ ps.length ≤ 100000 ∧ (∀ p ∈ ps, Dp K H p.1 (enc p.2)) ∧
  PySem.W.AllAlike ((ps.map (·.2)).map enc) ∧ PySem.W.Sortable ((ps.map (·.2)).map enc) ∧ (∀ p ∈ ps, (enc p.2).depth ≤ 10) ∧ ∀ q, H q = none → Q (.ref q) (upd H q (.lst ((ps.mergeSort (PySem.W.dataLe false fun p => enc p.2)).map (·.1))))
theorem cr_sortD {β : Type} {enc : β → PyData} (hu : X.A.units + 64 < cLine) : CallR X (.builtin "sorted") (rSortD X.K enc) := by
  intro pins s σ H xs us Q I r h
  obtain ⟨a, ps, rfl, hs, hl, hd, hal, hsr, hdp, q⟩ := h
  obtain ⟨its, rv, hli, _⟩ := I.list hs
  rw [Vals.ref1 r]
  have hle : its.length = ps.length := by rw [← rv.length, List.length_map]
  have rel : ∀ (i : Nat) u p, its[i]? = some u → ps[i]? = some p → RelV p.1 u := fun i u p h1 h2 => by
    obtain ⟨u', hu', r'⟩ := rv.get (i := i) (x := p.1) (by rw [List.getElem?_map, h2]; rfl)
    rw [h1] at hu'
    cases hu'
    exact r'
  have e1 : PySem.W.EachIs (fun u (p : V × β) => RelV p.1 u) its ps := each_of hle rel
  have e2 : PySem.W.EachIs (fun u (p : V × β) => ∃ as, Reads s.heap u (enc p.2) as) its ps := each_of hle fun i u p h1 h2 => Dp.reads I _ _ _ (hd p (List.mem_of_getElem? h2)) (rel i u p h1 h2)
  have em : (ps.map (·.2)).map enc = ps.map fun p => enc p.2 := by rw [List.map_map]; rfl
  refine PySem.W.sorted_data (bs := ps) (enc := fun p => enc p.2) hli.isList e1 e2 (by rw [← em]; exact hal) (by rw [← em]; exact hsr) (Nat.le_trans hl (by decide)) (fun p hp => by have := hdp p hp; show X.A.units + 2 + (enc p.2).depth < cLine; omega) fun out ho eo => ?_
  obtain ⟨c, hc⟩ := sortedAll_at s.heap its out.toArray
  have fr : H (s.heap.objs.size + 1) = none := I.hok.fresh (Nat.le_succ _)
  refine ⟨.ref (s.heap.objs.size + 1), _, I.laid (t' := s.toks) (fun _ _ => sortedAll_old) (Nat.le_succ _) ?_, rfl, q _ fr⟩
  have hv := each_fst eo
  refine ⟨?_, out, c, hv, hc⟩
  rw [List.length_map, List.length_mergeSort]
  exact Nat.le_trans hl (by decide)
def mxD (d : Int) : List Int → Int
  | [] => d
  | n :: r => r.foldl max n
/-- max(xs, default=d): a list of numbers -/
def rMaxDef (K : PySem.W.Frag) : List V → List V → Hp → VK → Prop := fun xs zs H Q => ∃ (a : Addr) (ns : List Int) (d : Int), xs = [V.ref a] ∧ zs = [V.int d] ∧ SqL K H a (ns.map V.int) ∧ Q (.int (mxD d ns)) H
theorem dp_ints {K : PySem.W.Frag} {H : Hp} : ∀ ns : List Int, DpAll K H (ns.map V.int) (ns.map PyData.int)
  | [] => .nil
  | n :: ns => .cons (.int n) (dp_ints ns)
theorem crk_maxDef (hc : X.calm = true) (hu : X.A.units + 64 < cLine) : CallRK X (.builtin "max") [("default" : Str)] (rMaxDef X.K) := by
  intro pins s σ H xs zs us ws Q I r1 r2 h
  obtain ⟨a, ns, d, rfl, rfl, hs, q⟩ := h
  obtain ⟨its, rv, hli, _⟩ := I.list hs
  rw [Vals.ref1 r1]
  obtain ⟨w, rfl, rw'⟩ := r2.one
  obtain ⟨t, rfl⟩ := (show ∃ t, w = Value.int d t from rw')
  obtain ⟨as, hr⟩ := Dp.readsAll I _ _ _ (dp_ints ns) rv
  have hdp := PySem.W.depth_ints ns
  refine PySem.W.max_list_default (A := X.A) (xs := ns.map PyData.int) (vs := its.toArray) (I.ok.hd hc) hli.isList hr ?_ ?_ ?_ ?_
  · refine ⟨fun x hx y hy => ?_, fun x hx => ?_⟩
    · obtain ⟨i, _, rfl⟩ := List.mem_map.mp hx
      obtain ⟨j, _, rfl⟩ := List.mem_map.mp hy
      rfl
    · obtain ⟨i, _, rfl⟩ := List.mem_map.mp hx
      intro z
      cases z
  · rw [hdp]
    omega
  · intro e h' tk hk
    have e' : ns = [] := List.map_eq_nil_iff.mp e
    subst e'
    exact ⟨.int d, H, I.kept hk, ⟨_, rfl⟩, q⟩
  · intro y ys i v h' tk bs e hv hr' hk
    cases ns with
    | nil => cases e
    | cons n r =>
      cases e
      rw [PySem.W.maxD_ints] at hr'
      cases hr'
      exact ⟨.int _, H, I.kept hk, ⟨_, rfl⟩, q⟩
/-- C() by a positional promise -/
theorem pe_makeR0 {CX : CXT} {k : Nat} {f C : Addr} {sp : Sp} {E : XK} {x : Str} {p pos : Pos} (M : Mk X.K C f) (F : FnR X.prog X.w X.K X.mg X.base CX k f sp) (hr : Room (k + 1) X.A) (hg : Gl X x) (hm : X.mg x = some (.ref C)) (hx : Passes CX X E) (hdb : (x == ("__debug__" : Str)) = false := by decide) :
    PE X (.Call (.Name x p) [] [] pos) (StX.tMakeR C sp E tNil) := by
  refine ⟨fun pins s σ H Q I h => ?_⟩
  refine wpAny_Call_Name_kw (ld_glob I hg hm ?_ hdb)
  exact PySem.W.callWith_K0 I.kIn M.kp (StX.run_makeR (us := []) M F hr hx I .nil h)
end
end Pl

set_option Elab.async false
set_option linter.all false
set_option maxRecDepth 100000
set_option maxHeartbeats 4000000
/-! Looks and rows in plain words; comprehensions that only read. -/
namespace Pl
open PySem L2
/-! ### looks -/
def fitsB (row m : Int) (way : Str) : Bool := if way = "at" then decide (row ≤ m) else if way = "before" then decide (row < m) else if way = "since" then decide (row ≥ m) else decide (row > m)
def isBack (way : Str) : Bool := decide (way = "at") || decide (way = "before")
def tooFar (row m : Int) : Option Int → Bool
  | none => false
  | some l => decide ((if row - m < 0 then -(row - m) else row - m) > l)
def lookedUp (ms : List Int) (m : Int) (way : Str) (lim : Option Int) : Option Int :=
  match ms.filter (fitsB · m way) with
  | [] => none
  | r :: rs => if tooFar (if isBack way then (r :: rs).getLast (by simp) else r) m lim then none else some (if isBack way then (r :: rs).getLast (by simp) else r)
/-- the row that a look takes -/
structure Best (ms : List Int) (m : Int) (way : Str) (x : Int) : Prop where
  mem : x ∈ ms
  fit : fitsB x m way = true
  top : ∀ y ∈ ms, fitsB y m way = true → if isBack way then y ≤ x else x ≤ y
theorem Best.uniq {ms ms' : List Int} {m : Int} {way : Str} {x y : Int} (h : Best ms m way x) (g : Best ms' m way y) (e : ∀ z, z ∈ ms ↔ z ∈ ms') : x = y := by
  have h1 := h.top y ((e y).mpr g.mem) g.fit
  have h2 := g.top x ((e x).mp h.mem) h.fit
  split at h1
  · rename_i q; rw [if_pos q] at h2; omega
  · rename_i q; rw [if_neg q] at h2; omega
theorem sorted_last {l : List Int} (h : l.Pairwise (· ≤ ·)) (hn : l ≠ []) : ∀ y ∈ l, y ≤ l.getLast hn := by
  induction l with
  | nil => exact absurd rfl hn
  | cons a l ih =>
    cases l with
    | nil =>
      intro y hy
      simp at hy
      subst hy
      exact Int.le_refl _
    | cons b l =>
      rw [List.getLast_cons (by simp)]
      intro y hy
      rw [List.pairwise_cons] at h
      rcases List.mem_cons.mp hy with rfl | hy
      · exact h.1 _ (List.getLast_mem _)
      · exact ih h.2 (by simp) y hy
theorem lookedUp_cases {ms : List Int} (hs : ms.Pairwise (· ≤ ·)) (m : Int) (way : Str) (lim : Option Int) :
    ((∀ y ∈ ms, fitsB y m way = false) ∧ lookedUp ms m way lim = none) ∨ ∃ x, Best ms m way x ∧ lookedUp ms m way lim = if tooFar x m lim then none else some x := by
  unfold lookedUp
  have hf : (ms.filter (fitsB · m way)).Pairwise (· ≤ ·) := hs.filter _
  have hm : ∀ y, y ∈ ms.filter (fitsB · m way) ↔ y ∈ ms ∧ fitsB y m way = true := fun y => List.mem_filter
  generalize ms.filter (fitsB · m way) = l at hf hm
  cases l with
  | nil =>
    refine .inl ⟨fun y hy => ?_, rfl⟩
    cases e : fitsB y m way with
    | false => rfl
    | true => exact absurd ((hm y).mpr ⟨hy, e⟩) (by simp)
  | cons r rs =>
    refine .inr ⟨if isBack way then (r :: rs).getLast (by simp) else r, ?_, rfl⟩
    by_cases hb : isBack way = true
    · rw [if_pos hb]
      have h1 := (hm _).mp (List.getLast_mem (l := r :: rs) (by simp))
      refine ⟨h1.1, h1.2, fun y hy hyf => ?_⟩
      rw [if_pos hb]
      exact sorted_last hf (by simp) y ((hm y).mpr ⟨hy, hyf⟩)
    · rw [if_neg hb]
      have h1 := (hm r).mp (by simp)
      refine ⟨h1.1, h1.2, fun y hy hyf => ?_⟩
      rw [if_neg hb]
      rcases List.mem_cons.mp ((hm y).mpr ⟨hy, hyf⟩) with e | e
      · rw [e]; exact Int.le_refl _
      · exact (List.pairwise_cons.mp hf).1 y e
theorem lookedUp_congr {l l' : List Int} (h : l.Pairwise (· ≤ ·)) (h' : l'.Pairwise (· ≤ ·)) (e : ∀ z, z ∈ l ↔ z ∈ l') (m : Int) (way : Str) (lim : Option Int) : lookedUp l m way lim = lookedUp l' m way lim := by
  rcases lookedUp_cases h m way lim with ⟨a1, a2⟩ | ⟨x, bx, ex⟩
  · rcases lookedUp_cases h' m way lim with ⟨b1, b2⟩ | ⟨y, by_, ey⟩
    · rw [a2, b2]
    · have := a1 y ((e y).mpr by_.mem)
      rw [by_.fit] at this
      cases this
  · rcases lookedUp_cases h' m way lim with ⟨b1, b2⟩ | ⟨y, by_, ey⟩
    · have := b1 x ((e x).mp bx.mem)
      rw [bx.fit] at this
      cases this
    · rw [ex, ey, bx.uniq by_ e]
theorem fits_back {y m : Int} {way : Str} (h : fitsB y m way = true) (hb : isBack way = true) : y ≤ m := by
  unfold fitsB at h
  unfold isBack at hb
  split at h
  · exact of_decide_eq_true h
  · split at h
    · have := of_decide_eq_true h; omega
    · rename_i h1 h2; simp [h1, h2] at hb
theorem fits_fore {y m : Int} {way : Str} (h : fitsB y m way = true) (hb : ¬ isBack way = true) : m ≤ y := by
  unfold fitsB at h
  unfold isBack at hb
  split at h
  · rename_i h1; simp [h1] at hb
  · split at h
    · rename_i h1; simp [h1] at hb
    · split at h
      · have := of_decide_eq_true h; omega
      · have := of_decide_eq_true h; omega
/-! ### rows -/
def rowsOf (ps : List (Str × Int)) (s : Str) : List Int := (ps.filter fun p => decide (p.1 = s)).map (·.2)
def encP : Str × Int → PyData := fun p => .tuple [.str p.1, .int p.2]
def sortP (ps : List (Str × Int)) : List (Str × Int) := ps.mergeSort (PySem.W.dataLe false encP)
def leP (p q : Str × Int) : Prop := p.1.cps.toList < q.1.cps.toList ∨ (p.1 = q.1 ∧ p.2 ≤ q.2)
theorem str_ext {a b : Str} (h : a.cps.toList = b.cps.toList) : a = b := by
  cases a; cases b
  simp only at h
  rw [Array.toList_inj] at h
  rw [h]
theorem dataLt_si (x x' : Str) (y y' : Int) : PySem.W.dataLt (.tuple [.str x, .int y]) (.tuple [.str x', .int y']) = decide (x.cps.toList < x'.cps.toList ∨ (x = x' ∧ y < y')) := by
  rw [PySem.W.dataLt_pair (by simp [PySem.W.alike]) (by simp [PySem.W.alike]), PySem.W.dataLt_int, PySem.W.dataLt_str]
  simp only [PyData.eqv, beq_iff_eq]
  by_cases h1 : x = x'
  · subst h1
    by_cases h2 : y = y' <;> simp [h2, List.lt_irrefl]
  · simp [h1]
theorem dataLe_si (p q : Str × Int) : PySem.W.dataLe false encP p q = true ↔ leP p q := by
  show (!PySem.W.dataLt (.tuple [.str q.1, .int q.2]) (.tuple [.str p.1, .int p.2])) = true ↔ _
  rw [dataLt_si]
  simp only [Bool.not_eq_true', decide_eq_false_iff_not]
  unfold leP
  constructor
  · intro h
    by_cases e : p.1 = q.1
    · exact .inr ⟨e, by
        have : ¬ (q.1 = p.1 ∧ q.2 < p.2) := fun z => h (.inr z)
        have : ¬ q.2 < p.2 := fun z => this ⟨e.symm, z⟩
        omega⟩
    · refine .inl ?_
      have h1 : ¬ q.1.cps.toList < p.1.cps.toList := fun z => h (.inl z)
      have h2 : p.1.cps.toList ≤ q.1.cps.toList := List.not_lt.mp h1
      rcases List.le_iff_lt_or_eq.mp h2 with z | z
      · exact z
      · exact absurd (str_ext z) e
  · rintro (h | ⟨h1, h2⟩) (g | ⟨g1, g2⟩)
    · exact List.lt_irrefl _ (List.lt_trans h g)
    · rw [g1] at h; exact List.lt_irrefl _ h
    · rw [h1] at g; exact List.lt_irrefl _ g
    · omega
theorem leP_trans {p q r : Str × Int} (h : leP p q) (g : leP q r) : leP p r := by
  rcases h with h | ⟨h1, h2⟩
  · rcases g with g | ⟨g1, g2⟩
    · exact .inl (List.lt_trans h g)
    · rw [g1] at h; exact .inl h
  · rcases g with g | ⟨g1, g2⟩
    · rw [← h1] at g; exact .inl g
    · exact .inr ⟨h1.trans g1, by omega⟩
theorem leP_total (p q : Str × Int) : leP p q ∨ leP q p := by
  by_cases e : p.1 = q.1
  · rcases Int.le_total p.2 q.2 with h | h
    · exact .inl (.inr ⟨e, h⟩)
    · exact .inr (.inr ⟨e.symm, h⟩)
  · by_cases h : p.1.cps.toList < q.1.cps.toList
    · exact .inl (.inl h)
    · have h2 : q.1.cps.toList ≤ p.1.cps.toList := List.not_lt.mp h
      rcases List.le_iff_lt_or_eq.mp h2 with z | z
      · exact .inr (.inl z)
      · exact absurd (str_ext z).symm e
theorem sortP_perm (ps : List (Str × Int)) : (sortP ps).Perm ps := List.mergeSort_perm _ _
theorem sortP_pw (ps : List (Str × Int)) : (sortP ps).Pairwise leP := by
  have h := List.pairwise_mergeSort (le := PySem.W.dataLe false encP) (fun a b c h1 h2 => (dataLe_si a c).mpr (leP_trans ((dataLe_si a b).mp h1) ((dataLe_si b c).mp h2))) (fun a b => by
    rw [Bool.or_eq_true]
    rcases leP_total a b with h | h
    · exact .inl ((dataLe_si a b).mpr h)
    · exact .inr ((dataLe_si b a).mpr h)) ps
  exact h.imp fun h => (dataLe_si _ _).mp h
theorem sortP_len (ps : List (Str × Int)) : (sortP ps).length = ps.length := (sortP_perm ps).length_eq
theorem rowsOf_sorted {ps : List (Str × Int)} (h : ps.Pairwise leP) (s : Str) : (rowsOf ps s).Pairwise (· ≤ ·) := by
  unfold rowsOf
  rw [List.pairwise_map]
  refine (List.Pairwise.and_mem.mp (h.filter _)).imp ?_
  rintro a b ⟨ha, hb, hab⟩
  have e1 : a.1 = s := of_decide_eq_true (List.mem_filter.mp ha).2
  have e2 : b.1 = s := of_decide_eq_true (List.mem_filter.mp hb).2
  rcases hab with h | h
  · rw [e1, e2] at h
    exact absurd h (List.lt_irrefl _)
  · exact h.2
theorem rowsOf_perm {ps qs : List (Str × Int)} (h : ps.Perm qs) (s : Str) : (rowsOf ps s).Perm (rowsOf qs s) := (h.filter _).map _
theorem mem_rowsOf {ps : List (Str × Int)} {s : Str} {x : Int} : x ∈ rowsOf ps s ↔ (s, x) ∈ ps := by
  unfold rowsOf
  rw [List.mem_map]
  constructor
  · rintro ⟨⟨a, b⟩, h, rfl⟩
    obtain ⟨h1, h2⟩ := List.mem_filter.mp h
    have : a = s := of_decide_eq_true h2
    subst this
    exact h1
  · intro h
    exact ⟨(s, x), List.mem_filter.mpr ⟨h, decide_eq_true rfl⟩, rfl⟩
/-! ### names, ways, limits, rows as the heap has them -/
abbrev letters : Str := "abcdefghijklmnopqrstuvwxyz"
def goodName (z : Str) : Prop := 1 ≤ z.length ∧ z.length ≤ 12 ∧ ∀ c ∈ z.cps.toList, c ∈ letters.cps.toList
abbrev ways : List Str := ["at", "before", "since", "after"]
def limOk : Option Int → Prop
  | none => True
  | some l => 0 ≤ l
/-- rows: names and lists of numbers -/
abbrev Rws := List (Str × List Int)
def EntAt (H : Hp) (kv : Key × V) (r : Str × List Int) : Prop := kv.1 = .inr r.1 ∧ ∃ a, kv.2 = .ref a ∧ H a = some (.lst (r.2.map V.int))
def EntsAt (H : Hp) (kvs : List (Key × V)) (rs : Rws) : Prop := kvs.length = rs.length ∧ ∀ (i : Nat) kv r, kvs[i]? = some kv → rs[i]? = some r → EntAt H kv r
theorem EntsAt.same {H H' : Hp} {kvs : List (Key × V)} {rs : Rws} (s : Same H H') (h : EntsAt H kvs rs) : EntsAt H' kvs rs := ⟨h.1, fun i kv r h1 h2 => by
  obtain ⟨e, a, e2, ha⟩ := h.2 i kv r h1 h2
  exact ⟨e, a, e2, s _ _ ha⟩⟩
def goodRows (rs : Rws) : Prop := (∀ r ∈ rs, goodName r.1 ∧ r.2.Nodup ∧ r.2.length ≤ 300) ∧ (rs.map fun r => r.2.length).sum ≤ 300
/-- the pairs of a row -/
def prsOf (r : Str × List Int) : List (Str × Int) := r.2.map fun m => (r.1, m)
def PrsAt (H : Hp) (vs : List V) (ps : List (Str × Int)) : Prop := vs.length = ps.length ∧ ∀ (i : Nat) p, ps[i]? = some p → ∃ t, vs[i]? = some (.ref t) ∧ H t = some (.tup [.str p.1, .int p.2])
theorem PrsAt.same {H H' : Hp} {vs : List V} {ps : List (Str × Int)} (s : Same H H') (h : PrsAt H vs ps) : PrsAt H' vs ps := ⟨h.1, fun i p e => by
  obtain ⟨t, e1, e2⟩ := h.2 i p e
  exact ⟨t, e1, s _ _ e2⟩⟩
theorem PrsAt.app {H : Hp} {vs us : List V} {ps qs : List (Str × Int)} (h : PrsAt H vs ps) (g : PrsAt H us qs) : PrsAt H (vs ++ us) (ps ++ qs) := by
  refine ⟨by rw [List.length_append, List.length_append, h.1, g.1], fun i p e => ?_⟩
  rw [List.getElem?_append] at e ⊢
  by_cases hl : i < ps.length
  · rw [if_pos hl] at e
    rw [if_pos (by rw [h.1]; exact hl)]
    exact h.2 i p e
  · rw [if_neg hl] at e
    rw [if_neg (by rw [h.1]; exact hl), h.1]
    exact g.2 _ p e
theorem PrsAt.put {H : Hp} {vs xs : List V} {ps : List (Str × Int)} {D : Addr} {o : HO} (hD : H D = some (.lst xs)) (h : PrsAt H vs ps) : PrsAt (upd H D o) vs ps := ⟨h.1, fun i p e => by
  obtain ⟨t, e1, e2⟩ := h.2 i p e
  refine ⟨t, e1, ?_⟩
  rw [upd_ne (fun z => by rw [z, hD] at e2; cases e2)]
  exact e2⟩
/-- the rows of a name -/
def getR (rs : Rws) (z : Str) : List Int := match rs.find? (fun r => decide (r.1 = z)) with
  | none => []
  | some r => r.2
def wRows (rs : Rws) : List (Str × Int) := sortP (rs.flatMap prsOf)
theorem mem_prs {rs : Rws} {z : Str} {x : Int} : (z, x) ∈ rs.flatMap prsOf ↔ ∃ r ∈ rs, r.1 = z ∧ x ∈ r.2 := by
  rw [List.mem_flatMap]
  constructor
  · rintro ⟨r, h1, h2⟩
    obtain ⟨y, h3, h4⟩ := List.mem_map.mp h2
    cases h4
    exact ⟨r, h1, rfl, h3⟩
  · rintro ⟨r, h1, rfl, h3⟩
    exact ⟨r, h1, List.mem_map.mpr ⟨x, h3, rfl⟩⟩
theorem mem_getR {rs : Rws} (hn : (rs.map (·.1)).Nodup) {z : Str} {x : Int} : x ∈ getR rs z ↔ ∃ r ∈ rs, r.1 = z ∧ x ∈ r.2 := by
  unfold getR
  constructor
  · intro h
    cases e : rs.find? (fun r => decide (r.1 = z)) with
    | none => rw [e] at h; cases h
    | some r =>
      rw [e] at h
      exact ⟨r, List.mem_of_find?_eq_some e, of_decide_eq_true (List.find?_some (p := fun r : Str × List Int => decide (r.1 = z)) e), h⟩
  · rintro ⟨r, h1, h2, h3⟩
    cases e : rs.find? (fun r => decide (r.1 = z)) with
    | none =>
      have := List.find?_eq_none.mp e r h1
      simp [h2] at this
    | some q =>
      have hq := List.mem_of_find?_eq_some e
      have eq : q.1 = z := of_decide_eq_true (List.find?_some (p := fun r : Str × List Int => decide (r.1 = z)) e)
      have : q = r := by
        obtain ⟨i, hi⟩ := List.mem_iff_getElem?.mp hq
        obtain ⟨j, hj⟩ := List.mem_iff_getElem?.mp h1
        have a1 : (rs.map (·.1))[i]? = some z := by rw [List.getElem?_map, hi, ← eq]; rfl
        have a2 : (rs.map (·.1))[j]? = some z := by rw [List.getElem?_map, hj, ← h2]; rfl
        have hl1 := List.getElem?_eq_some_iff.mp a1
        have hl2 := List.getElem?_eq_some_iff.mp a2
        have : i = j := by
          rcases Nat.lt_trichotomy i j with h | h | h
          · exact absurd (hl1.2.trans hl2.2.symm) (List.pairwise_iff_getElem.mp hn i j hl1.1 hl2.1 h)
          · exact h
          · exact absurd (hl2.2.trans hl1.2.symm) (List.pairwise_iff_getElem.mp hn j i hl2.1 hl1.1 h)
        subst this
        rw [hi] at hj
        exact Option.some.inj hj
      rw [this]
      exact h3
theorem mem_world {rs : Rws} (hn : (rs.map (·.1)).Nodup) (z : Str) (x : Int) : x ∈ rowsOf (wRows rs) z ↔ x ∈ getR rs z := by
  rw [mem_rowsOf, mem_getR hn, ← mem_prs]
  exact (sortP_perm _).mem_iff
theorem world_sorted (rs : Rws) (z : Str) : (rowsOf (wRows rs) z).Pairwise (· ≤ ·) := rowsOf_sorted (sortP_pw _) z
theorem wRows_len (rs : Rws) : (wRows rs).length = (rs.map fun r => r.2.length).sum := by
  unfold wRows
  rw [sortP_len]
  induction rs with
  | nil => rfl
  | cons x rs ih =>
    simp only [List.flatMap_cons, List.length_append, List.map_cons, List.sum_cons, ih]
    simp [prsOf]
theorem prs_sort {H : Hp} {us : List V} {ps : List (Str × Int)} (h : PrsAt H us ps) : PrsAt H (((us.zip ps).mergeSort (PySem.W.dataLe false fun p => encP p.2)).map (·.1)) (sortP ps) := by
  have e2 : (us.zip ps).map (·.2) = ps := List.map_snd_zip (by rw [h.1]; exact Nat.le_refl _)
  have e3 : sortP ps = ((us.zip ps).mergeSort (PySem.W.dataLe false fun p => encP p.2)).map (·.2) := by
    have z := List.map_mergeSort (r := PySem.W.dataLe false fun p : V × (Str × Int) => encP p.2) (s := PySem.W.dataLe false encP) (f := fun p : V × (Str × Int) => p.2) (l := us.zip ps) (fun a _ b _ => rfl)
    rw [z, e2]
    rfl
  rw [e3]
  refine ⟨by rw [List.length_map, List.length_map], fun i p e => ?_⟩
  rw [List.getElem?_map] at e ⊢
  cases hz : ((us.zip ps).mergeSort (PySem.W.dataLe false fun p => encP p.2))[i]? with
  | none => rw [hz] at e; cases e
  | some z =>
    rw [hz] at e
    obtain ⟨v, q⟩ := z
    have eq : q = p := Option.some.inj e
    subst eq
    have hm := List.mem_mergeSort.mp (List.mem_of_getElem? hz)
    obtain ⟨j, hj⟩ := List.mem_iff_getElem?.mp hm
    rw [List.getElem?_zip_eq_some] at hj
    obtain ⟨t, t1, t2⟩ := h.2 j q hj.2
    rw [hj.1] at t1
    exact ⟨t, t1, t2⟩
/-! ### what stands beside the box -/
def mn (S : List Addr) (H : Hp) : Hp := fun a => if a ∈ S then none else H a
theorem mn_at {S : List Addr} {H : Hp} {a : Addr} (h : a ∉ S) : mn S H a = H a := if_neg h
theorem mn_in {S : List Addr} {H : Hp} {a : Addr} (h : a ∈ S) : mn S H a = none := if_pos h
theorem mn_same {S : List Addr} {H : Hp} : Same (mn S H) H := fun a o e => by
  unfold mn at e
  split at e
  · cases e
  · exact e
theorem same_mn {S : List Addr} {G H : Hp} (s : Same G H) (h : ∀ a ∈ S, G a = none) : Same G (mn S H) := fun a o e => by
  rw [mn_at (fun z => by rw [h a z] at e; cases e)]
  exact s a o e
/-- S: lists -/
def Lsts (S : List Addr) (H : Hp) : Prop := ∀ a ∈ S, ∃ xs, H a = some (.lst xs)
theorem mn_nl {S : List Addr} {H : Hp} {a : Addr} {o : HO} (hS : Lsts S H) (h : H a = some o) (ho : ∀ xs, o ≠ .lst xs) : mn S H a = some o := by
  rw [mn_at (fun z => by obtain ⟨xs, e⟩ := hS a z; rw [h] at e; exact ho xs (Option.some.inj e))]
  exact h
theorem PrsAt.mn {S : List Addr} {H : Hp} (hS : Lsts S H) {vs : List V} {ps : List (Str × Int)} (h : PrsAt H vs ps) : PrsAt (mn S H) vs ps := ⟨h.1, fun i p e => by
  obtain ⟨t, e1, e2⟩ := h.2 i p e
  exact ⟨t, e1, mn_nl hS e2 (fun _ z => nomatch z)⟩⟩
theorem Wd.lsts {b c : Addr} {G H : Hp} (W : Wd b c G H) : Lsts [b, c] H := fun a ha => by
  obtain ⟨_, cs, k, b1, b2, _⟩ := W.box
  simp only [List.mem_cons, List.not_mem_nil, or_false] at ha
  rcases ha with rfl | rfl
  · exact ⟨_, b1⟩
  · exact ⟨_, b2⟩
theorem Wd.sm {b c : Addr} {G H H' : Hp} (W : Wd b c G H) (s : Same H H') : Wd b c G H' := ⟨W.box.same s, W.gh.trans s, W.gb, W.gc⟩
/-- all but the box is taken among what stays -/
theorem Wd.all {b c : Addr} {G H : Hp} (W : Wd b c G H) : Wd b c (mn [b, c] H) H := ⟨W.box, mn_same, mn_in (by simp), mn_in (by simp)⟩
theorem Wd.allS {b c : Addr} {G H : Hp} (W : Wd b c G H) : Same G (mn [b, c] H) := same_mn W.gh fun a ha => by
  simp only [List.mem_cons, List.not_mem_nil, or_false] at ha
  rcases ha with rfl | rfl
  · exact W.gb
  · exact W.gc
theorem Wd.weak {b c : Addr} {G G' H : Hp} (x : Wd b c G' H) (s : Same G G') : Wd b c G H := ⟨x.box, s.trans x.gh, s.free x.gb, s.free x.gc⟩
/-- what stands at p is taken among what stays -/
theorem Wd.keep {b c p : Addr} {G H : Hp} {o : HO} (x : Wd b c G H) (h : H p = some o) (hb : p ≠ b) (hc : p ≠ c) : Wd b c (upd G p o) H :=
  ⟨x.box, fun a u e => by
    by_cases q : a = p
    · subst q; rw [upd_same] at e; cases e; exact h
    · rw [upd_ne q] at e; exact x.gh a u e, by rw [upd_ne (Ne.symm hb)]; exact x.gb, by rw [upd_ne (Ne.symm hc)]; exact x.gc⟩
theorem Wd.nb {b c p : Addr} {G H : Hp} (x : Wd b c G H) (h : H p = none) : p ≠ b ∧ p ≠ c := by
  obtain ⟨_, h1⟩ := x.box.b
  obtain ⟨_, h2⟩ := x.box.c
  exact ⟨fun e => (by rw [e, h1] at h; cases h), fun e => (by rw [e, h2] at h; cases h)⟩
/-! ### comprehensions that only read and make -/
theorem lc_pure {K : PySem.W.Frag} {a : Addr} {xs : List V} {g : TG} {tt : TT} {te : TE} {vs : List Nat} {σ : St} {H1 : Hp} {D : Addr} {Qd : Hp → Prop} (F : V → Option V) (hS : SqL K H1 a xs) (hD : H1 D = none) (hz : xs.length ≤ 100000)
    (hs : ∀ x H (N : V → Hp → Prop) (N' : Hp → Prop), x ∈ xs → Same H1 H → (∀ y H', Same H H' → F x = some y → N y H') → (∀ H', Same H H' → F x = none → N' H') → g x (wipe σ vs) H fun σ2 H2 => wipe σ2 vs = wipe σ vs ∧ tt σ2 H2 fun b H3 => if b = true then te σ2 H3 N else N' H3)
    (hd : ∀ H', Same H1 H' → H' D = some (.lst (xs.filterMap F)) → Qd H') :
    ∃ W : Nat → Nat → Hp → Prop, (∃ m, W 0 m (upd H1 D (.lst []))) ∧ ∀ i m H, W i m H →
      ((Itl K a).stop i H ∧ Qd H) ∨ ((Itl K a).go i H ∧ ∃ Nx : Hp → Prop, (∀ H', Nx H' → ∃ m', m' < m ∧ W (i + 1) m' H') ∧ ∀ x H', (Itl K a).yld i H x H' → g x (wipe σ vs) H' fun σ2 H2 => wipe σ2 vs = wipe σ vs ∧ tt σ2 H2 fun b H3 =>
        if b = true then te σ2 H3 fun y H4 => ∃ acc, H4 D = some (.lst acc) ∧ acc.length < sizeLine ∧ Nx (upd H4 D (.lst (acc ++ [y]))) else Nx H3) := by
  refine lc_list (K := K) (a := a) (xs := xs) (fun i H' => Same H1 H' ∧ H' D = some (.lst ((xs.take i).filterMap F))) ⟨same_upd hD, upd_same⟩ (fun i H' _ pp => pp.1.seq hS) (fun i x H' hx pp => ?_) (fun H' pp => ?_)
  · obtain ⟨s1, hd1⟩ := pp
    have ht : xs.take (i + 1) = xs.take i ++ [x] := by rw [List.take_add_one, hx]; rfl
    refine hs x H' _ _ (List.mem_of_getElem? hx) s1 (fun y H4 s4 ey => ⟨_, s4 _ _ hd1, ?_, ?_, ?_⟩) (fun H4 s4 ey => ⟨s1.trans s4, ?_⟩)
    · have h1 := List.length_filterMap_le F (xs.take i)
      rw [List.length_take] at h1
      have h2 := (List.getElem?_eq_some_iff.mp hx).1
      exact szl (by omega)
    · exact same_mut (s1.trans s4) hD
    · rw [upd_same, ht, List.filterMap_append]
      simp [List.filterMap, ey]
    · rw [s4 _ _ hd1, ht, List.filterMap_append]
      simp [List.filterMap, ey]
  · rw [List.take_of_length_le (Nat.le_refl _)] at pp
    exact hd H' pp.1 pp.2
end Pl

namespace Pl
open PySem L2
/-! ### tests whose answer is known -/
theorem iT {c : Bool} {A B : Prop} (h : c = true) (x : A) : if c = true then A else B := by rw [if_pos h]; exact x
theorem iF {c : Bool} {A B : Prop} (h : c = false) (x : B) : if c = true then A else B := by rw [if_neg (by rw [h]; exact Bool.false_ne_true)]; exact x
theorem yes_if {σ : St} {H : Hp} {A B : Hp → Prop} (h : A H) : tYes σ H (fun b H3 => if b = true then A H3 else B H3) := by
  show if true = true then A H else B H
  rw [if_pos rfl]
  exact h
def oV : Option Int → V
  | none => .non
  | some x => .int x
def H0 : Hp := fun _ => none
theorem same0 (H : Hp) : Same H0 H := fun _ _ h => nomatch h
theorem Wd.begin {b c : Addr} {H : Hp} (x : BoxAt b c H) : Wd b c H0 H := ⟨x, same0 H, rfl, rfl⟩
section
variable {P : Program} {w : World} {K : PySem.W.Frag} {mg : Str → Option Value} {base : Heap}
def spIsInteger : Sp := fun vs H Q _ => ∃ (v : V) (t : String), vs = [v] ∧ Ty H v t ∧ Q (.bl (isInt v)) H
theorem ok_is_integer (T : Txt P K mg) {k : Nat} : FnOk P w K mg base CX0 (k + 1) T.is_integer.f T.is_integer.fd ["value"] spIsInteger := by
  refine T.is_integer.F.ok sc_is_integer (fun vs H Q E h => ?_) (fun cdv A outer s H vs Q E hr h => ?_)
  · obtain ⟨v, t, rfl, _⟩ := h
    rfl
  · obtain ⟨v, t, rfl, ty, q⟩ := h
    refine ⟨_, (pss_one (ps_ret (pe_and (pe_callB call_isi (by rfl) T.n_isinstance (by decide +kernel) (pa_cons (pv 0) (pa_cons (pe_bltn (v := .ty "int") (by rfl) T.n_int (by decide +kernel) rfl) pa_nil))) (pe_one (pe_not (pe_callB call_isi (by rfl) T.n_isinstance (by decide +kernel) (pa_cons (pv 0) (pa_cons (pe_bltn (v := .ty "bool") (by rfl) T.n_bool (by decide +kernel) rfl) pa_nil)))))))), ?_⟩
    refine ⟨v, rfl, _, _, _, _, _, rfl, .ty "int", ty.x, isI_int ty, _, rfl, ?_⟩
    rw [← isInt_of ty] at q
    cases h1 : tyB t "int" with
    | false =>
      rw [h1] at q
      exact iF rfl q
    | true =>
      rw [h1] at q
      refine iT rfl ⟨v, rfl, _, _, _, _, _, rfl, .ty "bool", ty.x, isI_bool ty, _, rfl, ?_⟩
      rw [Bool.true_and] at q
      exact q
/-- check_moment of a number -/
def spCkMoment : Sp := fun vs H Q _ => ∃ i : Int, vs = [.int i] ∧ Q .non H
theorem ok_check_moment (T : Txt P K mg) {k : Nat} : FnOk P w K mg base CX0 (k + 2) T.check_moment.f T.check_moment.fd ["value"] spCkMoment := by
  have G_is_integer : FnOk P w K mg base CX0 (k + 1) T.is_integer.f T.is_integer.fd ["value"] spIsInteger := ok_is_integer T
  refine T.check_moment.F.ok sc_check_moment (fun vs H Q E h => ?_) (fun cdv A outer s H vs Q E hr h => ?_)
  · obtain ⟨i, rfl, _⟩ := h
    rfl
  · obtain ⟨i, rfl, q⟩ := h
    refine ⟨_, (pss_one (ps_if (pt_not (pt_val (pe_call G_is_integer (hr.mono (by omega)) (by rfl) T.is_integer.g T.is_integer.F.kp T.is_integer.b .nil pass0 (pa_cons (pv 0) pa_nil)))) (pss_one ps_never) pss_nil)), ?_⟩
    refine ⟨.int i, rfl, .int i, "int", rfl, .int i, _, rfl, ?_⟩
    exact iF rfl q
end
end Pl

namespace Pl
open PySem L2
/-! ### terms and their sizes -/
inductive Tm
  | now
  | shift (m : Tm) (n : Int)
  | look (s : Str) (m : Tm) (way : Str) (lim : Option Int)
  | either (a b : Tm)
  | later (a b : Tm)
  | earlier (a b : Tm)
def Tm.depth : Tm → Nat
  | .now => 1
  | .shift m _ => 1 + m.depth
  | .look _ m _ _ => 1 + m.depth
  | .either a b => 1 + max a.depth b.depth
  | .later a b => 1 + max a.depth b.depth
  | .earlier a b => 1 + max a.depth b.depth
def Tm.parts : Tm → Nat
  | .now => 1
  | .shift m _ => 1 + m.parts
  | .look _ m _ _ => 1 + m.parts
  | .either a b => 1 + (a.parts + b.parts)
  | .later a b => 1 + (a.parts + b.parts)
  | .earlier a b => 1 + (a.parts + b.parts)
def Tm.looks : Tm → Nat
  | .now => 0
  | .shift m _ => m.looks
  | .look _ m _ _ => m.looks + 1
  | .either a b => a.looks + b.looks
  | .later a b => a.looks + b.looks
  | .earlier a b => a.looks + b.looks
def Tm.choices : Tm → Nat
  | .now => 0
  | .shift m _ => m.choices
  | .look _ m _ _ => m.choices + 1
  | .either a b => a.choices + b.choices
  | .later a b => a.choices + b.choices + 1
  | .earlier a b => a.choices + b.choices + 1
def Tm.fits (t : Tm) : Prop := t.depth ≤ 12 ∧ t.parts ≤ 40 ∧ t.looks ≤ 12
/-- the fields of a term's object -/
def szF (t : Tm) : List (Str × V) := [("depth", .int t.depth), ("parts", .int t.parts), ("looks", .int t.looks), ("choices", .int t.choices)]
/-- the classes' places -/
structure CA where
  now : Addr
  shift : Addr
  look : Addr
  either : Addr
  later : Addr
  earlier : Addr
def shF (b : Addr) (n : Int) : List (Str × V) := [("moment", .ref b), ("amount", .int n)]
def loF (s : Str) (b : Addr) (wy : Str) (lim : Option Int) : List (Str × V) := [("stream", .str s), ("moment", .ref b), ("way", .str wy), ("within", oV lim)]
def paF (b d : Addr) : List (Str × V) := [("first", .ref b), ("second", .ref d)]
def TmAt (c : CA) (H : Hp) : Tm → Addr → Prop
  | .now, a => ∃ dx, H a = some (.ins c.now dx (szF .now))
  | .shift m n, a => ∃ dx b, H a = some (.ins c.shift dx (shF b n ++ szF (.shift m n))) ∧ TmAt c H m b
  | .look s m wy lim, a => ∃ dx b, H a = some (.ins c.look dx (loF s b wy lim ++ szF (.look s m wy lim))) ∧ TmAt c H m b
  | .either x y, a => ∃ dx b d, H a = some (.ins c.either dx (paF b d ++ szF (.either x y))) ∧ TmAt c H x b ∧ TmAt c H y d
  | .later x y, a => ∃ dx b d, H a = some (.ins c.later dx (paF b d ++ szF (.later x y))) ∧ TmAt c H x b ∧ TmAt c H y d
  | .earlier x y, a => ∃ dx b d, H a = some (.ins c.earlier dx (paF b d ++ szF (.earlier x y))) ∧ TmAt c H x b ∧ TmAt c H y d
theorem TmAt.same {c : CA} {H H' : Hp} (s : Same H H') : ∀ {t : Tm} {a : Addr}, TmAt c H t a → TmAt c H' t a
  | .now, _, ⟨dx, h⟩ => ⟨dx, s _ _ h⟩
  | .shift _ _, _, ⟨dx, b, h, h1⟩ => ⟨dx, b, s _ _ h, h1.same s⟩
  | .look _ _ _ _, _, ⟨dx, b, h, h1⟩ => ⟨dx, b, s _ _ h, h1.same s⟩
  | .either _ _, _, ⟨dx, b, d, h, h1, h2⟩ => ⟨dx, b, d, s _ _ h, h1.same s, h2.same s⟩
  | .later _ _, _, ⟨dx, b, d, h, h1, h2⟩ => ⟨dx, b, d, s _ _ h, h1.same s, h2.same s⟩
  | .earlier _ _, _, ⟨dx, b, d, h, h1, h2⟩ => ⟨dx, b, d, s _ _ h, h1.same s, h2.same s⟩

/-- the object of a term, its class and sizes -/
def Tm.cls (c : CA) : Tm → Addr
  | .now => c.now
  | .shift _ _ => c.shift
  | .look _ _ _ _ => c.look
  | .either _ _ => c.either
  | .later _ _ => c.later
  | .earlier _ _ => c.earlier
theorem TmAt.obj {c : CA} {H : Hp} {t : Tm} {a : Addr} (h : TmAt c H t a) : ∃ dx fs, H a = some (.ins (t.cls c) dx fs) ∧ fs.lookup ("depth" : Str) = some (.int t.depth) ∧ fs.lookup ("parts" : Str) = some (.int t.parts) ∧ fs.lookup ("looks" : Str) = some (.int t.looks) ∧ fs.lookup ("choices" : Str) = some (.int t.choices) ∧
    fs.lookup ("form" : Str) = none ∧ fs.lookup ("answer_in" : Str) = none := by
  cases t with
  | now => obtain ⟨dx, h⟩ := h; exact ⟨dx, _, h, rfl, rfl, rfl, rfl, rfl, rfl⟩
  | shift m n => obtain ⟨dx, b, h, _⟩ := h; exact ⟨dx, _, h, rfl, rfl, rfl, rfl, rfl, rfl⟩
  | look s m wy lim => obtain ⟨dx, b, h, _⟩ := h; exact ⟨dx, _, h, rfl, rfl, rfl, rfl, rfl, rfl⟩
  | either x y => obtain ⟨dx, b, d, h, _⟩ := h; exact ⟨dx, _, h, rfl, rfl, rfl, rfl, rfl, rfl⟩
  | later x y => obtain ⟨dx, b, d, h, _⟩ := h; exact ⟨dx, _, h, rfl, rfl, rfl, rfl, rfl, rfl⟩
  | earlier x y => obtain ⟨dx, b, d, h, _⟩ := h; exact ⟨dx, _, h, rfl, rfl, rfl, rfl, rfl, rfl⟩
def Tm.kids : Tm → List Tm
  | .now => []
  | .shift m _ => [m]
  | .look _ m _ _ => [m]
  | .either a b => [a, b]
  | .later a b => [a, b]
  | .earlier a b => [a, b]
def Tm.isLook : Tm → Bool
  | .look _ _ _ _ => true
  | _ => false
def Tm.chooses : Tm → Bool
  | .look _ _ _ _ => true
  | .later _ _ => true
  | .earlier _ _ => true
  | _ => false
theorem Tm.depth_kids (t : Tm) : (t.depth : Int) = 1 + mxD 0 (t.kids.map fun k => (k.depth : Int)) := by
  cases t <;> simp only [Tm.depth, Tm.kids, List.map, mxD, List.foldl] <;> omega
theorem Tm.parts_kids (t : Tm) : (t.parts : Int) = 1 + (t.kids.map fun k => (k.parts : Int)).sum := by
  cases t <;> simp only [Tm.parts, Tm.kids, List.map, List.sum_cons, List.sum_nil] <;> omega
theorem Tm.looks_kids (t : Tm) : (t.looks : Int) = (t.kids.map fun k => (k.looks : Int)).sum + (if t.isLook then 1 else 0) := by
  cases t <;> simp [Tm.looks, Tm.kids, Tm.isLook, List.map, List.sum_cons, List.sum_nil]
theorem Tm.choices_kids (t : Tm) : (t.choices : Int) = (t.kids.map fun k => (k.choices : Int)).sum + (if t.chooses then 1 else 0) := by
  cases t <;> simp [Tm.choices, Tm.kids, Tm.chooses, List.map, List.sum_cons, List.sum_nil]
/-- terms stand at places -/
def KidsAt (c : CA) (H : Hp) : List Tm → List Addr → Prop
  | [], [] => True
  | t :: ts, a :: as => TmAt c H t a ∧ KidsAt c H ts as
  | _, _ => False
theorem KidsAt.same {c : CA} {H H' : Hp} (s : Same H H') : ∀ {ts : List Tm} {as : List Addr}, KidsAt c H ts as → KidsAt c H' ts as
  | [], [], _ => trivial
  | _ :: _, _ :: _, ⟨h1, h2⟩ => ⟨h1.same s, KidsAt.same s h2⟩
theorem KidsAt.len {c : CA} {H : Hp} : ∀ {ts : List Tm} {as : List Addr}, KidsAt c H ts as → as.length = ts.length
  | [], [], _ => rfl
  | _ :: _, _ :: _, ⟨_, h2⟩ => congrArg Nat.succ h2.len
theorem KidsAt.at {c : CA} {H : Hp} : ∀ {ts : List Tm} {as : List Addr}, KidsAt c H ts as → ∀ (i : Nat) (a : Addr), as[i]? = some a → ∃ t, ts[i]? = some t ∧ TmAt c H t a
  | _ :: _, _ :: _, ⟨h1, _⟩, 0, a, e => by cases e; exact ⟨_, rfl, h1⟩
  | _ :: _, _ :: _, ⟨_, h2⟩, i + 1, a, e => KidsAt.at h2 i a e
  | [], [], _, _, _, e => by simp at e
end Pl

namespace Pl
open PySem L2
/-! ### what the text has of the terms' classes -/
section
variable {P : Program} {w : World} {K : PySem.W.Frag} {mg : Str → Option Value} {base : Heap}
def Txt.ca (T : Txt P K mg) : CA := ⟨T.c_Now, T.c_Shift, T.c_Look, T.c_Either, T.c_Later, T.c_Earlier⟩
structure KCls (T : Txt P K mg) (t : Tm) : Prop where
  o : OCls K (t.cls T.ca)
  nd : NoAttr K (t.cls T.ca) "depth"
  np : NoAttr K (t.cls T.ca) "parts"
  nl : NoAttr K (t.cls T.ca) "looks"
  nc : NoAttr K (t.cls T.ca) "choices"
  kt : PySem.W.kitOne K (.ref (t.cls T.ca)) (.ref T.c_Term) = some true
  kl : PySem.W.kitOne K (.ref (t.cls T.ca)) (.ref T.c_Look) = some t.isLook
  ka : PySem.W.kitAny K (.ref (t.cls T.ca)) [.ref T.c_Look, .ref T.c_Later, .ref T.c_Earlier] = some t.chooses
theorem Txt.kc (T : Txt P K mg) (t : Tm) : KCls T t := by
  cases t with
  | now => exact ⟨T.o_Now, T.n_Now_depth, T.n_Now_parts, T.n_Now_looks, T.n_Now_choices, T.k1_Now_Term, T.k1_Now_Look, T.ka_Now_Look_Later_Earlier⟩
  | shift => exact ⟨T.o_Shift, T.n_Shift_depth, T.n_Shift_parts, T.n_Shift_looks, T.n_Shift_choices, T.k1_Shift_Term, T.k1_Shift_Look, T.ka_Shift_Look_Later_Earlier⟩
  | look => exact ⟨T.o_Look, T.n_Look_depth, T.n_Look_parts, T.n_Look_looks, T.n_Look_choices, T.k1_Look_Term, T.k1_Look_Look, T.ka_Look_Look_Later_Earlier⟩
  | either => exact ⟨T.o_Either, T.n_Either_depth, T.n_Either_parts, T.n_Either_looks, T.n_Either_choices, T.k1_Either_Term, T.k1_Either_Look, T.ka_Either_Look_Later_Earlier⟩
  | later => exact ⟨T.o_Later, T.n_Later_depth, T.n_Later_parts, T.n_Later_looks, T.n_Later_choices, T.k1_Later_Term, T.k1_Later_Look, T.ka_Later_Look_Later_Earlier⟩
  | earlier => exact ⟨T.o_Earlier, T.n_Earlier_depth, T.n_Earlier_parts, T.n_Earlier_looks, T.n_Earlier_choices, T.k1_Earlier_Term, T.k1_Earlier_Look, T.ka_Earlier_Look_Later_Earlier⟩
/-- all but x is as it was -/
def But (x : Addr) (H H' : Hp) : Prop := ∀ b o, b ≠ x → H b = some o → H' b = some o
/-- [child.f for child in children]: a list of the children's sizes -/
theorem lc_kids (T : Txt P K mg) {s0 s1 s2 s3 : Option V} {H1 : Hp} {D p : Addr} {as : List Addr} {ts : List Tm} {f : Str} {g : Tm → Nat} {Qd : Hp → Prop} (hD : H1 D = none) (hp : H1 p = some (.tup (as.map V.ref))) (hk : KidsAt T.ca H1 ts as) (hl : as.length ≤ 2)
    (hf : ∀ t : Tm, NoAttr K (t.cls T.ca) f) (hg : ∀ {H : Hp} {t : Tm} {a : Addr}, TmAt T.ca H t a → ∃ dx fs, H a = some (.ins (t.cls T.ca) dx fs) ∧ fs.lookup f = some (.int (g t)))
    (q : ∀ H', Same H1 H' → H' D = some (.lst ((ts.map fun t => (g t : Int)).map V.int)) → Qd H') :
    ∃ W : Nat → Nat → Hp → Prop, (∃ m, W 0 m (upd H1 D (.lst []))) ∧ ∀ i m H, W i m H →
      ((Itt K p).stop i H ∧ Qd H) ∨ ((Itt K p).go i H ∧ ∃ Nx : Hp → Prop, (∀ H', Nx H' → ∃ m', m' < m ∧ W (i + 1) m' H') ∧ ∀ x H', (Itt K p).yld i H x H' → gName 3 x (wipe [s0, s1, s2, s3] [3]) H' fun σ2 H2 => wipe σ2 [3] = wipe [s0, s1, s2, s3] [3] ∧ tYes σ2 H2 fun b H3 =>
        if b = true then tFld K (tVar 3) f σ2 H3 fun y H4 => ∃ acc, H4 D = some (.lst acc) ∧ acc.length < sizeLine ∧ Nx (upd H4 D (.lst (acc ++ [y]))) else Nx H3) := by
  have hlen := hk.len
  refine lc_tup (K := K) (a := p) (xs := as.map V.ref) (fun i H' => Same H1 H' ∧ H' D = some (.lst (((ts.take i).map fun t => (g t : Int)).map V.int))) ⟨same_upd hD, upd_same⟩ (fun i H' _ pp => SqT.of (pp.1 _ _ hp)) (fun i x H' hx pp => ?_) (fun H' pp => ?_)
  · obtain ⟨s1, hd⟩ := pp
    obtain ⟨a, ha, rfl⟩ : ∃ a, as[i]? = some a ∧ x = .ref a := by
      rw [List.getElem?_map] at hx
      cases e : as[i]? with
      | none => rw [e] at hx; cases hx
      | some a => rw [e] at hx; exact ⟨a, rfl, (Option.some.inj hx).symm⟩
    obtain ⟨t, ht, hta⟩ := hk.at i a ha
    obtain ⟨dx, fs, ho, hfs⟩ := hg (hta.same s1)
    refine ⟨rfl, yes_if ⟨.ref a, rfl, a, _, dx, fs, _, rfl, ho, (T.kc t).o.cl, hf t, hfs, _, hd, ?_, ?_, ?_⟩⟩
    · rw [List.length_map, List.length_map, List.length_take]
      have := (List.getElem?_eq_some_iff.mp ht).1
      exact szl (by omega)
    · exact same_mut s1 hD
    · rw [upd_same, List.take_add_one, ht, List.map_append, List.map_append]
      rfl
  · rw [List.length_map, hlen, List.take_of_length_le (Nat.le_refl _)] at pp
    exact q H' pp.1 pp.2
end
end Pl

namespace Pl
open PySem L2
section
variable {P : Program} {w : World} {K : PySem.W.Frag} {mg : Str → Option Value} {base : Heap}
def szP (t : Tm) (fs : List (Str × V)) : List (Str × V) := putF "choices" (.int t.choices) (putF "looks" (.int t.looks) (putF "parts" (.int t.parts) (putF "depth" (.int t.depth) fs)))
/-- Term.__init__(self, *children): x gets its sizes -/
def spTI0 (T : Txt P K mg) : Sp := fun vs H Q _ => ∃ (G : Hp) (t : Tm) (x p dx : Addr) (fs : List (Str × V)) (as : List Addr), vs = [.ref x, .ref p] ∧ Same G H ∧ G x = none ∧ G p = some (.tup (as.map V.ref)) ∧ KidsAt T.ca G t.kids as ∧ H x = some (.ins (t.cls T.ca) dx fs) ∧ fs.length ≤ 10 ∧ t.fits ∧
  ∀ H', Same G H' → But x H H' → H' x = some (.ins (t.cls T.ca) dx (szP t fs)) → Q .non H'
def spTInit (T : Txt P K mg) : Sp := fun vs H Q _ => ∃ (G : Hp) (t : Tm) (x dx : Addr) (fs : List (Str × V)) (as : List Addr), vs = .ref x :: as.map V.ref ∧ Same G H ∧ G x = none ∧ KidsAt T.ca G t.kids as ∧ H x = some (.ins (t.cls T.ca) dx fs) ∧ fs.length ≤ 10 ∧ t.fits ∧
  ∀ H', Same G H' → But x H H' → H' x = some (.ins (t.cls T.ca) dx (szP t fs)) → Q .non H'
theorem But.refl (x : Addr) (H : Hp) : But x H H := fun _ _ _ h => h
theorem But.trans {x : Addr} {H H1 H2 : Hp} (a : But x H H1) (b : But x H1 H2) : But x H H2 := fun c o n h => b c o n (a c o n h)
theorem But.of {x : Addr} {H H1 : Hp} (s : Same H H1) : But x H H1 := fun b o _ h => s b o h
theorem But.put {x : Addr} {H H1 : Hp} {o : HO} (s : But x H H1) : But x H (upd H1 x o) := fun b u n h => by rw [upd_ne n]; exact s b u n h
theorem kids2 (t : Tm) : t.kids.length ≤ 2 := by cases t <;> simp [Tm.kids]
theorem length_putF_le (f : Str) (y : V) (fs : List (Str × V)) : (putF f y fs).length ≤ fs.length + 1 := by
  have := length_putF f y fs
  omega
theorem ok_term_init (T : Txt P K mg) {k : Nat} : FnR P w K mg base CX0 (k + 1) T.Term_init.f (spTInit T) := by
  obtain ⟨oc, od, kV, doc, pm, an, cdv, ct, osl, efd, lk, hcd⟩ := T.Term_init.F.ex
  rw [efd] at lk
  have F := StX.fn_star (P := P) (w := w) (mg := mg) (base := base) (CX := CX0) (k := k) (ps := ["self"]) (pv := "children") (sp := spTI0 T) lk hcd sc_Term_init StX.cxUp_none (StX.bind_star1 (B := fun l => bindArgs (PySem.W.fnOf "__init__" "Term.__init__" (defArgs s_Term_init) (defBody s_Term_init) (defScope s_Term_init) Value.none kV doc pm an cdv ct) ⟨l, []⟩) (fun a => rfl) (fun a r rs => rfl)) (fun A outer s H vs Q E hr h => by
    obtain ⟨G, t, x, p, dx, fs, as, rfl, sG, xG, pG, hk, hx, hl, hfit, q⟩ := h
    have kc := T.kc t
    have hle := hk.len
    have hl2 : as.length ≤ 2 := by rw [hle]; exact kids2 t
    refine ⟨_, (pss_cons (ps_fld (pv 0) (pe_op op_add pe_int (pe_callBK (crk_maxDef rfl hr.units) (by rfl) T.n_max (by decide +kernel) (pa_cons (pe_lc (own := [("child", 3)]) (g := gName 3) (tt := tYes) (te := (tFld K (tVar 3) "depth")) rfl sc_Term_init.nd (pi_tup (pv 1)) (blkOk_by (own := [("child", 3)]) (N := N_Term_init) (sc := defScope s_Term_init) (by decide +kernel)) (fun _ _ _ _ _ => (pg_name (i := 3) sc_Term_init.nd rfl (.inl rfl))) (fun _ _ _ _ _ => pts_nil) (fun _ _ _ _ _ => (pe_fld (pv 3) rfl))) pa_nil) (pk_cons pe_int pk_nil))) rfl)
  (pss_cons (ps_fld (pv 0) (pe_op op_add pe_int (pe_callB (cr_sum rfl) (by rfl) T.n_sum (by decide +kernel) (pa_cons (pe_lc (own := [("child", 3)]) (g := gName 3) (tt := tYes) (te := (tFld K (tVar 3) "parts")) rfl sc_Term_init.nd (pi_tup (pv 1)) (blkOk_by (own := [("child", 3)]) (N := N_Term_init) (sc := defScope s_Term_init) (by decide +kernel)) (fun _ _ _ _ _ => (pg_name (i := 3) sc_Term_init.nd rfl (.inl rfl))) (fun _ _ _ _ _ => pts_nil) (fun _ _ _ _ _ => (pe_fld (pv 3) rfl))) pa_nil))) rfl)
  (pss_cons (ps_fld (pv 0) (pe_op op_add (pe_callB (cr_sum rfl) (by rfl) T.n_sum (by decide +kernel) (pa_cons (pe_lc (own := [("child", 3)]) (g := gName 3) (tt := tYes) (te := (tFld K (tVar 3) "looks")) rfl sc_Term_init.nd (pi_tup (pv 1)) (blkOk_by (own := [("child", 3)]) (N := N_Term_init) (sc := defScope s_Term_init) (by decide +kernel)) (fun _ _ _ _ _ => (pg_name (i := 3) sc_Term_init.nd rfl (.inl rfl))) (fun _ _ _ _ _ => pts_nil) (fun _ _ _ _ _ => (pe_fld (pv 3) rfl))) pa_nil)) (pe_callTy call_int1 (by rfl) T.n_int (by decide +kernel) (pa_cons (pe_callB call_isi (by rfl) T.n_isinstance (by decide +kernel) (pa_cons (pv 0) (pa_cons (pe_glob (v := .ref T.c_Look) (by rfl) T.g_Look rfl) pa_nil))) pa_nil))) rfl)
  (pss_cons (ps_set (i := 2) sc_Term_init.nd rfl (.inl rfl) (pe_callB call_isiT (by rfl) T.n_isinstance (by decide +kernel) (pa_cons (pv 0) (pa_cons (pe_tup (pa_cons (pe_glob (v := .ref T.c_Look) (by rfl) T.g_Look rfl) (pa_cons (pe_glob (v := .ref T.c_Later) (by rfl) T.g_Later rfl) (pa_cons (pe_glob (v := .ref T.c_Earlier) (by rfl) T.g_Earlier rfl) pa_nil)))) pa_nil))))
  (pss_cons (ps_fld (pv 0) (pe_op op_add (pe_callB (cr_sum rfl) (by rfl) T.n_sum (by decide +kernel) (pa_cons (pe_lc (own := [("child", 3)]) (g := gName 3) (tt := tYes) (te := (tFld K (tVar 3) "choices")) rfl sc_Term_init.nd (pi_tup (pv 1)) (blkOk_by (own := [("child", 3)]) (N := N_Term_init) (sc := defScope s_Term_init) (by decide +kernel)) (fun _ _ _ _ _ => (pg_name (i := 3) sc_Term_init.nd rfl (.inl rfl))) (fun _ _ _ _ _ => pts_nil) (fun _ _ _ _ _ => (pe_fld (pv 3) rfl))) pa_nil)) (pe_callTy call_int1 (by rfl) T.n_int (by decide +kernel) (pa_cons (pv 2) pa_nil))) rfl)
  (pss_one (ps_if (PW.pt (pw_or (pt_cmpR op_gt (pe_fld (pv 0) rfl) (pe_glob (v := .int 12) (by rfl) T.k_DEEPEST ⟨_, rfl⟩) (nomark _)) (pw_or (pt_cmpR op_gt (pe_fld (pv 0) rfl) (pe_glob (v := .int 40) (by rfl) T.k_MOST_PARTS ⟨_, rfl⟩) (nomark _)) (pw_or1 (pt_cmpR op_gt (pe_fld (pv 0) rfl) (pe_glob (v := .int 12) (by rfl) T.k_MOST_LOOKS ⟨_, rfl⟩) (nomark _)))))) (pss_one ps_never) pss_nil))))))), ?_⟩
    refine ⟨.ref p, rfl, p, rfl, ⟨_, SqT.of (sG _ _ pG)⟩, fun D1 hD1 => ?_⟩
    refine lc_kids T (f := "depth") (g := Tm.depth) hD1 (sG _ _ pG) (hk.same sG) hl2 (fun t => (T.kc t).nd) (fun ht => by obtain ⟨dx, fs, h1, h2, _⟩ := ht.obj; exact ⟨dx, fs, h1, h2⟩) (fun H1 s1 d1 => ?_)
    refine ⟨D1, _, 0, rfl, rfl, SqL.of d1, _, _, rfl, rfl, .ref x, rfl, x, _, dx, fs, rfl, s1 _ _ hx, kc.o.cl, kc.nd, by omega, ?_⟩
    -- parts
    have e1 : (1 + mxD 0 (t.kids.map fun t => (t.depth : Int))) = (t.depth : Int) := (Tm.depth_kids t).symm
    have hx1 := upd_same (H := H1) (a := x) (o := HO.ins (t.cls T.ca) dx (putF "depth" (.int t.depth) fs))
    have sG1 : Same G (upd H1 x (.ins (t.cls T.ca) dx (putF "depth" (.int t.depth) fs))) := same_mut (sG.trans s1) xG
    have b1 : But x H (upd H1 x (.ins (t.cls T.ca) dx (putF "depth" (.int t.depth) fs))) := (But.of s1).put
    dsimp only
    rw [e1]
    have l1 := length_putF_le "depth" (.int t.depth) fs
    generalize upd H1 x (.ins (t.cls T.ca) dx (putF "depth" (.int t.depth) fs)) = H2 at hx1 sG1 b1 ⊢
    refine ⟨.ref p, rfl, p, rfl, ⟨_, SqT.of (sG1 _ _ pG)⟩, fun D2 hD2 => ?_⟩
    refine lc_kids T (f := "parts") (g := Tm.parts) hD2 (sG1 _ _ pG) (hk.same sG1) hl2 (fun t => (T.kc t).np) (fun ht => by obtain ⟨dx, fs, h1, _, h2, _⟩ := ht.obj; exact ⟨dx, fs, h1, h2⟩) (fun H3 s3 d3 => ?_)
    refine ⟨D2, _, rfl, SqL.of d3, _, _, rfl, rfl, .ref x, rfl, x, _, dx, _, rfl, s3 _ _ hx1, kc.o.cl, kc.np, by omega, ?_⟩
    have e2 : (1 + (t.kids.map fun t => (t.parts : Int)).sum) = (t.parts : Int) := (Tm.parts_kids t).symm
    dsimp only
    rw [e2]
    have hx2 := upd_same (H := H3) (a := x) (o := HO.ins (t.cls T.ca) dx (putF "parts" (.int t.parts) (putF "depth" (.int t.depth) fs)))
    have sG2 : Same G (upd H3 x (.ins (t.cls T.ca) dx (putF "parts" (.int t.parts) (putF "depth" (.int t.depth) fs)))) := same_mut (sG1.trans s3) xG
    have b2 : But x H (upd H3 x (.ins (t.cls T.ca) dx (putF "parts" (.int t.parts) (putF "depth" (.int t.depth) fs)))) := (b1.trans (But.of s3)).put
    have l2 := length_putF_le "parts" (.int t.parts) (putF "depth" (.int t.depth) fs)
    generalize upd H3 x (.ins (t.cls T.ca) dx (putF "parts" (.int t.parts) (putF "depth" (.int t.depth) fs))) = H4 at hx2 sG2 b2 ⊢
    -- looks
    refine ⟨.ref p, rfl, p, rfl, ⟨_, SqT.of (sG2 _ _ pG)⟩, fun D3 hD3 => ?_⟩
    refine lc_kids T (f := "looks") (g := Tm.looks) hD3 (sG2 _ _ pG) (hk.same sG2) hl2 (fun t => (T.kc t).nl) (fun ht => by obtain ⟨dx, fs, h1, _, _, h2, _⟩ := ht.obj; exact ⟨dx, fs, h1, h2⟩) (fun H5 s5 d5 => ?_)
    refine ⟨D3, _, rfl, SqL.of d5, .ref x, rfl, _, _, _, _, _, rfl, .own _, kc.o.ty (s5 _ _ hx2), kc.kl, .inr ⟨_, rfl, _, _, rfl, rfl, .ref x, rfl, x, _, dx, _, rfl, s5 _ _ hx2, kc.o.cl, kc.nl, by omega, ?_⟩⟩
    have e3 : ((t.kids.map fun t => (t.looks : Int)).sum + (if t.isLook then 1 else 0)) = (t.looks : Int) := (Tm.looks_kids t).symm
    dsimp only
    rw [e3]
    have hx3 := upd_same (H := H5) (a := x) (o := HO.ins (t.cls T.ca) dx (putF "looks" (.int t.looks) (putF "parts" (.int t.parts) (putF "depth" (.int t.depth) fs))))
    have sG3 : Same G (upd H5 x (.ins (t.cls T.ca) dx (putF "looks" (.int t.looks) (putF "parts" (.int t.parts) (putF "depth" (.int t.depth) fs))))) := same_mut (sG2.trans s5) xG
    have b3 : But x H (upd H5 x (.ins (t.cls T.ca) dx (putF "looks" (.int t.looks) (putF "parts" (.int t.parts) (putF "depth" (.int t.depth) fs))))) := (b2.trans (But.of s5)).put
    have l3 := length_putF_le "looks" (.int t.looks) (putF "parts" (.int t.parts) (putF "depth" (.int t.depth) fs))
    generalize upd H5 x (.ins (t.cls T.ca) dx (putF "looks" (.int t.looks) (putF "parts" (.int t.parts) (putF "depth" (.int t.depth) fs)))) = H6 at hx3 sG3 b3 ⊢
    -- chooses
    refine ⟨.ref x, rfl, sz (by show 3 ≤ 100000; decide), fun r hr0 => ?_⟩
    have s6 : Same H6 (upd H6 r (.tup [.ref T.c_Look, .ref T.c_Later, .ref T.c_Earlier])) := same_upd hr0
    refine ⟨_, r, _, _, _, _, rfl, upd_same, .cons (.own _) (.cons (.own _) (.cons (.own _) .nil)), kc.o.ty (s6 _ _ hx3), kc.ka, ?_⟩
    have hx4 := s6 _ _ hx3
    have sG4 := sG3.trans s6
    have b4 := b3.trans (But.of s6)
    generalize upd H6 r (.tup [.ref T.c_Look, .ref T.c_Later, .ref T.c_Earlier]) = H7 at hx4 sG4 b4 ⊢
    refine ⟨.ref p, rfl, p, rfl, ⟨_, SqT.of (sG4 _ _ pG)⟩, fun D4 hD4 => ?_⟩
    refine lc_kids T (f := "choices") (g := Tm.choices) hD4 (sG4 _ _ pG) (hk.same sG4) hl2 (fun t => (T.kc t).nc) (fun ht => by obtain ⟨dx, fs, h1, _, _, _, h2, _⟩ := ht.obj; exact ⟨dx, fs, h1, h2⟩) (fun H8 s8 d8 => ?_)
    refine ⟨D4, _, rfl, SqL.of d8, .bl t.chooses, rfl, .inr ⟨_, rfl, _, _, rfl, rfl, .ref x, rfl, x, _, dx, _, rfl, s8 _ _ hx4, kc.o.cl, kc.nc, by omega, ?_⟩⟩
    have e4 : ((t.kids.map fun t => (t.choices : Int)).sum + (if t.chooses then 1 else 0)) = (t.choices : Int) := (Tm.choices_kids t).symm
    dsimp only
    rw [e4]
    have hx5 := upd_same (H := H8) (a := x) (o := HO.ins (t.cls T.ca) dx (szP t fs))
    have sG5 : Same G (upd H8 x (.ins (t.cls T.ca) dx (szP t fs))) := same_mut (sG4.trans s8) xG
    have b5 : But x H (upd H8 x (.ins (t.cls T.ca) dx (szP t fs))) := (b4.trans (But.of s8)).put
    show _
    change _
    obtain ⟨f1, f2, f3⟩ := hfit
    have k1 : (szP t fs).lookup ("depth" : Str) = some (.int t.depth) := by
      unfold szP
      rw [lookup_putF, if_neg (by decide +kernel), lookup_putF, if_neg (by decide +kernel), lookup_putF, if_neg (by decide +kernel), lookup_putF, if_pos rfl]
    have k2 : (szP t fs).lookup ("parts" : Str) = some (.int t.parts) := by
      unfold szP
      rw [lookup_putF, if_neg (by decide +kernel), lookup_putF, if_neg (by decide +kernel), lookup_putF, if_pos rfl]
    have k3 : (szP t fs).lookup ("looks" : Str) = some (.int t.looks) := by
      unfold szP
      rw [lookup_putF, if_neg (by decide +kernel), lookup_putF, if_pos rfl]
    refine ⟨.ref x, rfl, x, _, dx, _, _, rfl, hx5, kc.o.cl, kc.nd, k1, _, _, rfl, rfl, _, rfl, iF (decide_eq_false (by omega)) ?_⟩
    refine ⟨.ref x, rfl, x, _, dx, _, _, rfl, hx5, kc.o.cl, kc.np, k2, _, _, rfl, rfl, _, rfl, iF (decide_eq_false (by omega)) ?_⟩
    refine ⟨.ref x, rfl, x, _, dx, _, _, rfl, hx5, kc.o.cl, kc.nl, k3, _, _, rfl, rfl, _, rfl, iF (decide_eq_false (by omega)) ?_⟩
    exact q _ sG5 b5 hx5)
  refine F.imp fun vs H Q E h => ?_
  obtain ⟨G, t, x, dx, fs, as, rfl, sG, xG, hk, hx, hl, hfit, q⟩ := h
  refine ⟨[.ref x], as.map V.ref, rfl, rfl, ?_, fun p hp => ?_⟩
  · rw [List.length_map, hk.len]
    exact Nat.le_trans (kids2 t) (by decide)
  · refine ⟨upd G p (.tup (as.map V.ref)), t, x, p, dx, fs, as, rfl, same_both sG, ?_, upd_same, hk.same (same_upd (sG.free hp)), ?_, hl, hfit, fun H' s' b' h' => ?_⟩
    · rw [upd_ne (ne_of_none hx hp)]
      exact xG
    · rw [upd_ne (ne_of_none hx hp)]
      exact hx
    · exact q H' ((same_upd (sG.free hp)).trans s') (fun b o n e => b' b o n (by rw [upd_ne (ne_of_none e hp)]; exact e)) h'
end
end Pl

namespace Pl
open PySem L2
section
variable {P : Program} {w : World} {K : PySem.W.Frag} {mg : Str → Option Value} {base : Heap}
/-- Now.__init__(self) -/
def spNowInit (T : Txt P K mg) : Sp := fun vs H Q _ => ∃ (G : Hp) (x dx : Addr), vs = [.ref x] ∧ Same G H ∧ G x = none ∧ H x = some (.ins T.c_Now dx []) ∧ ∀ H', Same G H' → TmAt T.ca H' .now x → Q .non H'
theorem ok_now_init (T : Txt P K mg) {k : Nat} : FnR P w K mg base CX0 (k + 2) T.Now_init.f (spNowInit T) := by
  refine T.Now_init.ok0 (pre := []) rfl sc_Now_init rfl rfl (by decide +kernel) (by decide) rfl T.n_super (fun _ _ _ _ _ _ _ us hl => match us, hl with | [_], _ => rfl) (ok_term_init T (k := k)) (fun vs H Q E h => ?_) (fun A outer s H vs Q E hr h => ?_)
  · obtain ⟨G, x, dx, rfl, _⟩ := h
    rfl
  · obtain ⟨G, x, dx, rfl, sG, xG, hx, q⟩ := h
    refine ⟨_, pss_nil, ?_⟩
    refine ⟨x, _, dx, [], rfl, rfl, hx, T.s_Now_Now, G, .now, x, dx, [], [], rfl, sG, xG, trivial, hx, by decide, ⟨by decide, by decide, by decide⟩, fun H' s' b' h' => q H' s' ⟨dx, h'⟩⟩
/-- Shift.__init__(self, moment, amount) -/
def spShiftInit (T : Txt P K mg) : Sp := fun vs H Q _ => ∃ (G : Hp) (m : Tm) (n : Int) (x a dx : Addr), vs = [.ref x, .ref a, .int n] ∧ Same G H ∧ G x = none ∧ TmAt T.ca G m a ∧ (Tm.shift m n).fits ∧ H x = some (.ins T.c_Shift dx []) ∧ ∀ H', Same G H' → TmAt T.ca H' (.shift m n) x → Q .non H'
theorem ok_shift_init (T : Txt P K mg) {k : Nat} : FnR P w K mg base CX0 (k + 2) T.Shift_init.f (spShiftInit T) := by
  refine T.Shift_init.ok (pre := (defBody s_Shift_init).take 2) rfl sc_Shift_init rfl rfl (by decide +kernel) (by decide) rfl T.n_super (fun _ _ _ _ _ _ _ us hl => match us, hl with | [_, _, _], _ => rfl) (ok_term_init T (k := k)) (fun vs H Q E h => ?_) (fun A outer s H vs Q E hr h => ?_)
  · obtain ⟨G, m, n, x, a, dx, rfl, _⟩ := h
    rfl
  · obtain ⟨G, m, n, x, a, dx, rfl, sG, xG, hm, hfit, hx, q⟩ := h
    refine ⟨_, _, (pss_cons (ps_fld (pv 0) (pv 1) rfl)
  (pss_one (ps_fld (pv 0) (pv 2) rfl))), (pa_cons (pv 1) pa_nil), ?_⟩
    refine ⟨.ref a, rfl, .ref x, rfl, x, _, dx, [], rfl, hx, T.o_Shift.cl, T.n_Shift_moment, by decide, ?_⟩
    refine ⟨.int n, rfl, .ref x, rfl, x, _, dx, _, rfl, upd_same, T.o_Shift.cl, T.n_Shift_amount, (by show 1 < 1000; decide), ?_⟩
    rw [upd_upd]
    have sG1 : Same G (upd H x (.ins T.c_Shift dx (putF "amount" (.int n) (putF "moment" (.ref a) [])))) := same_mut sG xG
    refine ⟨x, _, dx, _, rfl, rfl, upd_same, T.s_Shift_Shift, .ref a, rfl, G, .shift m n, x, dx, shF a n, [a], rfl, sG1, xG, ⟨hm, trivial⟩, upd_same, (by show 2 ≤ 10; decide), hfit, fun H' s' b' h' => q H' s' ⟨dx, a, h', hm.same s'⟩⟩
end
end Pl

namespace Pl
open PySem L2
/-! ### what a term's form reads as -/
inductive Kd
  | now | shift | look | either | later | earlier
def Tm.kind : Tm → Kd
  | .now => .now
  | .shift _ _ => .shift
  | .look _ _ _ _ => .look
  | .either _ _ => .either
  | .later _ _ => .later
  | .earlier _ _ => .earlier
def oD : Option Int → PyData
  | none => .none
  | some i => .int i
def Tm.data : Tm → PyData
  | .now => .tuple [.str "now"]
  | .shift m n => .tuple [.str "shift", .int n, m.data]
  | .look s m wy lim => .tuple [.str wy, .str s, oD lim, m.data]
  | .either a b => .tuple [.str "either", a.data, b.data]
  | .later a b => .tuple [.str "later", a.data, b.data]
  | .earlier a b => .tuple [.str "earlier", a.data, b.data]
mutual
theorem Dp.same {K : PySem.W.Frag} {H H' : Hp} (s : Same H H') : ∀ (d : PyData) (v : V), Dp K H v d → Dp K H' v d
  | .none, _, h => by cases h; exact .non
  | .bool b, _, h => by cases h; exact .bl b
  | .int i, _, h => by cases h; exact .int i
  | .str x, _, h => by cases h; exact .str x
  | .list ds, _, h => by
    cases h with
    | lst hs ha => exact .lst (s.seq hs) (DpAll.same s ds _ ha)
  | .tuple ds, _, h => by
    cases h with
    | tup hs ha => exact .tup (Same.tup s hs) (DpAll.same s ds _ ha)
  | .dict _, _, h => by cases h
theorem DpAll.same {K : PySem.W.Frag} {H H' : Hp} (s : Same H H') : ∀ (ds : List PyData) (vs : List V), DpAll K H vs ds → DpAll K H' vs ds
  | [], _, h => by cases h; exact .nil
  | d :: ds, _, h => by
    cases h with
    | cons h1 h2 => exact .cons (Dp.same s d _ h1) (DpAll.same s ds _ h2)
end
theorem dp_oV {K : PySem.W.Frag} {H : Hp} (o : Option Int) : Dp K H (oV o) (oD o) := by
  cases o
  · exact .non
  · exact .int _
section
variable {P : Program} {w : World} {K : PySem.W.Frag} {mg : Str → Option Value} {base : Heap}
def Txt.formF (T : Txt P K mg) : Kd → Addr
  | .now => T.Term_form.f
  | .shift => T.Shift_form.f
  | .look => T.Look_form.f
  | .either => T.Either_form.f
  | .later => T.Later_form.f
  | .earlier => T.Earlier_form.f
theorem Txt.formM (T : Txt P K mg) (t : Tm) : Meth K (t.cls T.ca) "form" (T.formF t.kind) := by
  cases t
  · exact T.m_Now_form
  · exact T.m_Shift_form
  · exact T.m_Look_form
  · exact T.m_Either_form
  · exact T.m_Later_form
  · exact T.m_Earlier_form
def spForm (T : Txt P K mg) (n : Nat) (kd : Kd) : Sp := fun vs H Q _ => ∃ (t : Tm) (a : Addr), vs = [.ref a] ∧ t.kind = kd ∧ t.depth ≤ n ∧ TmAt T.ca H t a ∧ ∀ r H', Same H H' → Dp K H' (.ref r) t.data → Q (.ref r) H'
/-- o.form() -/
theorem rd_form (T : Txt P K mg) {n : Nat} {σ : St} {H : Hp} {Q : VK} {ta : TE} {t : Tm} {a : Addr} (hd : t.depth ≤ n) (hta : TmAt T.ca H t a) (q : ∀ r H', Same H H' → Dp K H' (.ref r) t.data → Q (.ref r) H') :
    ∃ a' C dx fs i, V.ref a = .ref a' ∧ H a' = some (.ins C dx fs) ∧ fs.lookup ("form" : Str) = none ∧ Cls K C ∧ Meth K C "form" (T.formF i) ∧ tNil σ H fun vs H2 => spForm T n i (.ref a :: vs) H2 Q E0 := by
  obtain ⟨dx, fs, h1, _, _, _, _, h2, _⟩ := hta.obj
  exact ⟨a, _, dx, fs, t.kind, rfl, h1, h2, (T.kc t).o.cl, T.formM t, t, a, rfl, rfl, hd, hta, q⟩
theorem depth_pos (t : Tm) : 0 < t.depth := by cases t <;> simp only [Tm.depth] <;> omega
theorem ok_form (T : Txt P K mg) {k : Nat} : ∀ (n : Nat) (kd : Kd), FnR P w K mg base CX0 (k + n) (T.formF kd) (spForm T n kd)
  | 0, kd => fun A outer s H us vs Q E hr e0 r h => by
    obtain ⟨t, a, _, _, hd, _⟩ := h
    have := depth_pos t
    omega
  | n + 1, kd => by
    have G_form : ∀ kd, FnR P w K mg base CX0 (k + n) (T.formF kd) (spForm T n kd) := fun kd => ok_form T n kd
    cases kd with
    | now =>
      refine toR (T.Term_form.F.ok (k := k + n) sc_Term_form (fun vs H Q E h => ?_) (fun cdv A outer s H vs Q E hr h => ?_)) T.Term_form.b
      · obtain ⟨t, a, rfl, _⟩ := h
        rfl
      · obtain ⟨t, a, rfl, hk, hd, hta, q⟩ := h
        cases t with
        | now =>
          refine ⟨_, (pss_one (ps_ret (pe_tup (pa_cons pe_str pa_nil)))), ?_⟩
          refine ⟨sz (by show 1 ≤ 100000; decide), fun p hp => ?_⟩
          exact q p _ (same_upd hp) (.tup (SqT.of upd_same) (.cons (.str _) .nil))
        | _ => cases hk
    | shift =>
      refine toR (T.Shift_form.F.ok (k := k + n) sc_Shift_form (fun vs H Q E h => ?_) (fun cdv A outer s H vs Q E hr h => ?_)) T.Shift_form.b
      · obtain ⟨t, a, rfl, _⟩ := h
        rfl
      · obtain ⟨t, a, rfl, hk, hd, hta, q⟩ := h
        cases t with
        | shift m i =>
          obtain ⟨dx, b, ha, hm⟩ := hta
          have hd' : m.depth ≤ n := by simp only [Tm.depth] at hd; omega
          refine ⟨_, (pss_one (ps_ret (pe_tup (pa_cons pe_str (pa_cons (pe_fld (pv 0) rfl) (pa_cons (pe_methV0 (pe_fld (pv 0) rfl) G_form (hr.mono (by omega)) pass0) pa_nil)))))), ?_⟩
          refine ⟨.ref a, rfl, a, _, dx, _, _, rfl, ha, T.o_Shift.cl, T.n_Shift_amount, rfl, .ref a, rfl, a, _, dx, _, _, rfl, ha, T.o_Shift.cl, T.n_Shift_moment, rfl, ?_⟩
          refine rd_form T (ta := tVar 0) hd' hm fun r H' s' hr' => ?_
          refine ⟨sz (by show 3 ≤ 100000; decide), fun p hp => ?_⟩
          exact q p _ (s'.trans (same_upd hp)) (.tup (SqT.of upd_same) (.cons (.str _) (.cons (.int _) (.cons (Dp.same (same_upd hp) _ _ hr') .nil))))
        | _ => cases hk
    | look =>
      refine toR (T.Look_form.F.ok (k := k + n) sc_Look_form (fun vs H Q E h => ?_) (fun cdv A outer s H vs Q E hr h => ?_)) T.Look_form.b
      · obtain ⟨t, a, rfl, _⟩ := h
        rfl
      · obtain ⟨t, a, rfl, hk, hd, hta, q⟩ := h
        cases t with
        | look st m wy lim =>
          obtain ⟨dx, b, ha, hm⟩ := hta
          have hd' : m.depth ≤ n := by simp only [Tm.depth] at hd; omega
          refine ⟨_, (pss_one (ps_ret (pe_tup (pa_cons (pe_fld (pv 0) rfl) (pa_cons (pe_fld (pv 0) rfl) (pa_cons (pe_fld (pv 0) rfl) (pa_cons (pe_methV0 (pe_fld (pv 0) rfl) G_form (hr.mono (by omega)) pass0) pa_nil))))))), ?_⟩
          refine ⟨.ref a, rfl, a, _, dx, _, _, rfl, ha, T.o_Look.cl, T.n_Look_way, rfl, .ref a, rfl, a, _, dx, _, _, rfl, ha, T.o_Look.cl, T.n_Look_stream, rfl, .ref a, rfl, a, _, dx, _, _, rfl, ha, T.o_Look.cl, T.n_Look_within, rfl, .ref a, rfl, a, _, dx, _, _, rfl, ha, T.o_Look.cl, T.n_Look_moment, rfl, ?_⟩
          refine rd_form T (ta := tVar 0) hd' hm fun r H' s' hr' => ?_
          refine ⟨sz (by show 4 ≤ 100000; decide), fun p hp => ?_⟩
          exact q p _ (s'.trans (same_upd hp)) (.tup (SqT.of upd_same) (.cons (.str _) (.cons (.str _) (.cons (dp_oV _) (.cons (Dp.same (same_upd hp) _ _ hr') .nil)))))
        | _ => cases hk
    | either =>
      refine toR (T.Either_form.F.ok (k := k + n) sc_Either_form (fun vs H Q E h => ?_) (fun cdv A outer s H vs Q E hr h => ?_)) T.Either_form.b
      · obtain ⟨t, a, rfl, _⟩ := h
        rfl
      · obtain ⟨t, a, rfl, hk, hd, hta, q⟩ := h
        cases t with
        | either x y =>
          obtain ⟨dx, b, d, ha, hx, hy⟩ := hta
          have hd1 : x.depth ≤ n := by simp only [Tm.depth] at hd; omega
          have hd2 : y.depth ≤ n := by simp only [Tm.depth] at hd; omega
          refine ⟨_, (pss_one (ps_ret (pe_tup (pa_cons pe_str (pa_cons (pe_methV0 (pe_fld (pv 0) rfl) G_form (hr.mono (by omega)) pass0) (pa_cons (pe_methV0 (pe_fld (pv 0) rfl) G_form (hr.mono (by omega)) pass0) pa_nil)))))), ?_⟩
          refine ⟨.ref a, rfl, a, _, dx, _, _, rfl, ha, T.o_Either.cl, T.n_Either_first, rfl, ?_⟩
          refine rd_form T (ta := tVar 0) hd1 hx fun r1 H1 s1 hr1 => ?_
          refine ⟨.ref a, rfl, a, _, dx, _, _, rfl, s1 _ _ ha, T.o_Either.cl, T.n_Either_second, rfl, ?_⟩
          refine rd_form T (ta := tVar 0) hd2 (hy.same s1) fun r2 H2 s2 hr2 => ?_
          refine ⟨sz (by show 3 ≤ 100000; decide), fun p hp => ?_⟩
          exact q p _ ((s1.trans s2).trans (same_upd hp)) (.tup (SqT.of upd_same) (.cons (.str _) (.cons (Dp.same (s2.trans (same_upd hp)) _ _ hr1) (.cons (Dp.same (same_upd hp) _ _ hr2) .nil))))
        | _ => cases hk
    | later =>
      refine toR (T.Later_form.F.ok (k := k + n) sc_Later_form (fun vs H Q E h => ?_) (fun cdv A outer s H vs Q E hr h => ?_)) T.Later_form.b
      · obtain ⟨t, a, rfl, _⟩ := h
        rfl
      · obtain ⟨t, a, rfl, hk, hd, hta, q⟩ := h
        cases t with
        | later x y =>
          obtain ⟨dx, b, d, ha, hx, hy⟩ := hta
          have hd1 : x.depth ≤ n := by simp only [Tm.depth] at hd; omega
          have hd2 : y.depth ≤ n := by simp only [Tm.depth] at hd; omega
          refine ⟨_, (pss_one (ps_ret (pe_tup (pa_cons pe_str (pa_cons (pe_methV0 (pe_fld (pv 0) rfl) G_form (hr.mono (by omega)) pass0) (pa_cons (pe_methV0 (pe_fld (pv 0) rfl) G_form (hr.mono (by omega)) pass0) pa_nil)))))), ?_⟩
          refine ⟨.ref a, rfl, a, _, dx, _, _, rfl, ha, T.o_Later.cl, T.n_Later_first, rfl, ?_⟩
          refine rd_form T (ta := tVar 0) hd1 hx fun r1 H1 s1 hr1 => ?_
          refine ⟨.ref a, rfl, a, _, dx, _, _, rfl, s1 _ _ ha, T.o_Later.cl, T.n_Later_second, rfl, ?_⟩
          refine rd_form T (ta := tVar 0) hd2 (hy.same s1) fun r2 H2 s2 hr2 => ?_
          refine ⟨sz (by show 3 ≤ 100000; decide), fun p hp => ?_⟩
          exact q p _ ((s1.trans s2).trans (same_upd hp)) (.tup (SqT.of upd_same) (.cons (.str _) (.cons (Dp.same (s2.trans (same_upd hp)) _ _ hr1) (.cons (Dp.same (same_upd hp) _ _ hr2) .nil))))
        | _ => cases hk
    | earlier =>
      refine toR (T.Earlier_form.F.ok (k := k + n) sc_Earlier_form (fun vs H Q E h => ?_) (fun cdv A outer s H vs Q E hr h => ?_)) T.Earlier_form.b
      · obtain ⟨t, a, rfl, _⟩ := h
        rfl
      · obtain ⟨t, a, rfl, hk, hd, hta, q⟩ := h
        cases t with
        | earlier x y =>
          obtain ⟨dx, b, d, ha, hx, hy⟩ := hta
          have hd1 : x.depth ≤ n := by simp only [Tm.depth] at hd; omega
          have hd2 : y.depth ≤ n := by simp only [Tm.depth] at hd; omega
          refine ⟨_, (pss_one (ps_ret (pe_tup (pa_cons pe_str (pa_cons (pe_methV0 (pe_fld (pv 0) rfl) G_form (hr.mono (by omega)) pass0) (pa_cons (pe_methV0 (pe_fld (pv 0) rfl) G_form (hr.mono (by omega)) pass0) pa_nil)))))), ?_⟩
          refine ⟨.ref a, rfl, a, _, dx, _, _, rfl, ha, T.o_Earlier.cl, T.n_Earlier_first, rfl, ?_⟩
          refine rd_form T (ta := tVar 0) hd1 hx fun r1 H1 s1 hr1 => ?_
          refine ⟨.ref a, rfl, a, _, dx, _, _, rfl, s1 _ _ ha, T.o_Earlier.cl, T.n_Earlier_second, rfl, ?_⟩
          refine rd_form T (ta := tVar 0) hd2 (hy.same s1) fun r2 H2 s2 hr2 => ?_
          refine ⟨sz (by show 3 ≤ 100000; decide), fun p hp => ?_⟩
          exact q p _ ((s1.trans s2).trans (same_upd hp)) (.tup (SqT.of upd_same) (.cons (.str _) (.cons (Dp.same (s2.trans (same_upd hp)) _ _ hr1) (.cons (Dp.same (same_upd hp) _ _ hr2) .nil))))
        | _ => cases hk
end
end Pl

namespace Pl
open PySem L2
/-- the term plus an amount -/
def Tm.plus : Tm → Int → Tm
  | .shift m n, k => if k = 0 then .shift m n else if k + n = 0 then m else .shift m (k + n)
  | t, k => if k = 0 then t else .shift t k
def Tm.sok : Tm → Prop
  | .now => True
  | .shift m _ => m.sok
  | .look s m wy _ => PyData.strOk s = true ∧ PyData.strOk wy = true ∧ m.sok
  | .either a b => a.sok ∧ b.sok
  | .later a b => a.sok ∧ b.sok
  | .earlier a b => a.sok ∧ b.sok
theorem oD_ok (o : Option Int) : (oD o).canLay0 = true ∧ (oD o).depth = 0 := by cases o <;> simp [oD, PyData.canLay0, PyData.depth]
theorem Tm.canLay : ∀ (t : Tm), t.sok → t.data.canLay0 = true
  | .now, _ => by simp only [Tm.data, PyData.canLay0, PyData.canLayAll0]; decide +kernel
  | .shift m n, h => by
    have := Tm.canLay m h
    simp only [Tm.data, PyData.canLay0, PyData.canLayAll0, this, Bool.and_true, Bool.true_and]
    decide +kernel
  | .look s m wy lim, ⟨h1, h2, h3⟩ => by
    have := Tm.canLay m h3
    simp only [Tm.data, PyData.canLay0, PyData.canLayAll0, this, h1, h2, (oD_ok lim).1, Bool.and_true, Bool.true_and]
  | .either a b, ⟨h1, h2⟩ => by
    have e1 := Tm.canLay a h1
    have e2 := Tm.canLay b h2
    simp only [Tm.data, PyData.canLay0, PyData.canLayAll0, e1, e2, Bool.and_true, Bool.true_and]
    decide +kernel
  | .later a b, ⟨h1, h2⟩ => by
    have e1 := Tm.canLay a h1
    have e2 := Tm.canLay b h2
    simp only [Tm.data, PyData.canLay0, PyData.canLayAll0, e1, e2, Bool.and_true, Bool.true_and]
    decide +kernel
  | .earlier a b, ⟨h1, h2⟩ => by
    have e1 := Tm.canLay a h1
    have e2 := Tm.canLay b h2
    simp only [Tm.data, PyData.canLay0, PyData.canLayAll0, e1, e2, Bool.and_true, Bool.true_and]
    decide +kernel
theorem Tm.dataDepth : ∀ (t : Tm), t.data.depth = t.depth
  | .now => by simp [Tm.data, PyData.depth, PyData.depthAll, Tm.depth]
  | .shift m n => by
    have := Tm.dataDepth m
    simp only [Tm.data, PyData.depth, PyData.depthAll, Tm.depth, this]
    omega
  | .look s m wy lim => by
    have := Tm.dataDepth m
    simp only [Tm.data, PyData.depth, PyData.depthAll, Tm.depth, this, (oD_ok lim).2]
    omega
  | .either a b => by
    have e1 := Tm.dataDepth a
    have e2 := Tm.dataDepth b
    simp only [Tm.data, PyData.depth, PyData.depthAll, Tm.depth, e1, e2]
    omega
  | .later a b => by
    have e1 := Tm.dataDepth a
    have e2 := Tm.dataDepth b
    simp only [Tm.data, PyData.depth, PyData.depthAll, Tm.depth, e1, e2]
    omega
  | .earlier a b => by
    have e1 := Tm.dataDepth a
    have e2 := Tm.dataDepth b
    simp only [Tm.data, PyData.depth, PyData.depthAll, Tm.depth, e1, e2]
    omega
theorem Tm.shaped {t : Tm} (h : t.sok) (hd : t.depth ≤ 12) : SeqAt.shaped t.data = true := by
  unfold SeqAt.shaped
  rw [t.canLay h, t.dataDepth]
  simp only [Bool.true_and, decide_eq_true_eq]
  omega
section
variable {P : Program} {w : World} {K : PySem.W.Frag} {mg : Str → Option Value} {base : Heap}
theorem Txt.ks (T : Txt P K mg) (t : Tm) : PySem.W.kitOne K (.ref (t.cls T.ca)) (.ref T.c_Shift) = some (match t with | .shift _ _ => true | _ => false) := by
  cases t
  · exact T.k1_Now_Shift
  · exact T.k1_Shift_Shift
  · exact T.k1_Look_Shift
  · exact T.k1_Either_Shift
  · exact T.k1_Later_Shift
  · exact T.k1_Earlier_Shift
theorem TmAt.ty {T : Txt P K mg} {H : Hp} {t : Tm} {a : Addr} (h : TmAt T.ca H t a) : TyX K H (.ref a) (.ref (t.cls T.ca)) := by
  obtain ⟨dx, fs, h1, _⟩ := h.obj
  exact (T.kc t).o.ty h1
/-- Term.__eq__ -/
def spTEq (T : Txt P K mg) : Sp := fun vs H Q _ => ∃ (t u : Tm) (a b : Addr), vs = [.ref a, .ref b] ∧ TmAt T.ca H t a ∧ TmAt T.ca H u b ∧ t.sok ∧ u.sok ∧ t.depth ≤ 12 ∧ u.depth ≤ 12 ∧ ∀ H', Same H H' → Q (.bl (PyData.eqv t.data u.data)) H'
theorem ok_term_eq (T : Txt P K mg) {k : Nat} : FnR P w K mg base CX0 (k + 13) T.Term_eq.f (spTEq T) := by
  have G_form : ∀ kd, FnR P w K mg base CX0 (k + 12) (T.formF kd) (spForm T 12 kd) := fun kd => ok_form T 12 kd
  refine toR (T.Term_eq.F.ok (k := k + 12) sc_Term_eq (fun vs H Q E h => ?_) (fun cdv A outer s H vs Q E hr h => ?_)) T.Term_eq.b
  · obtain ⟨t, u, a, b, rfl, _⟩ := h
    rfl
  · obtain ⟨t, u, a, b, rfl, ht, hu, st, su, dt, du, q⟩ := h
    refine ⟨_, (pss_one (ps_ret (pe_and (pe_callB call_isi (by rfl) T.n_isinstance (by decide +kernel) (pa_cons (pv 1) (pa_cons (pe_glob (v := .ref T.c_Term) (by rfl) T.g_Term rfl) pa_nil))) (pe_one (pe_cmpR (op_eqD hr.units) (pe_methV0 (pv 0) G_form (hr.mono (by omega)) pass0) (pe_methV0 (pv 1) G_form (hr.mono (by omega)) pass0) (nomark _)))))), ?_⟩
    refine ⟨.ref b, rfl, _, _, _, _, _, rfl, .own _, hu.ty, (T.kc u).kt, _, rfl, iT rfl ⟨.ref a, rfl, ?_⟩⟩
    refine rd_form T (ta := tVar 0) dt ht fun r1 H1 s1 hr1 => ?_
    refine ⟨.ref b, rfl, ?_⟩
    refine rd_form T (ta := tVar 1) du (hu.same s1) fun r2 H2 s2 hr2 => ?_
    exact ⟨_, _, Dp.same s2 _ _ hr1, hr2, Tm.shaped st dt, Tm.shaped su du, q H2 (s1.trans s2)⟩
/-- shifted(term, amount) -/
def spShifted (T : Txt P K mg) : Sp := fun vs H Q _ => ∃ (t : Tm) (a : Addr) (k : Int), vs = [.ref a, .int k] ∧ TmAt T.ca H t a ∧ (t.plus k).fits ∧ ∀ r H', Same H H' → TmAt T.ca H' (t.plus k) r → Q (.ref r) H'
theorem ok_shifted (T : Txt P K mg) {k : Nat} : FnOk P w K mg base CX0 (k + 4) T.shifted.f T.shifted.fd ["term", "amount"] (spShifted T) := by
  have G_Shift_init : FnR P w K mg base CX0 (k + 2) T.Shift_init.f (spShiftInit T) := ok_shift_init T
  refine T.shifted.F.ok (k := k + 3) sc_shifted (fun vs H Q E h => ?_) (fun cdv A outer s H vs Q E hr h => ?_)
  · obtain ⟨t, a, k, rfl, _⟩ := h
    rfl
  · obtain ⟨t, a, n, rfl, ht, hf, q⟩ := h
    refine ⟨_, (pss_cons (ps_if (PW.pt (pw_and (pt_val (pe_callB call_isi (by rfl) T.n_isinstance (by decide +kernel) (pa_cons (pv 0) (pa_cons (pe_glob (v := .ref T.c_Shift) (by rfl) T.g_Shift rfl) pa_nil)))) (pw_and1 (pt_cmpR op_ne (pv 1) pe_int (nomark _))))) (pss_cons (ps_set (i := 1) sc_shifted.nd rfl (.inl rfl) (pe_op op_add (pv 1) (pe_fld (pv 0) rfl)))
  (pss_one (ps_set (i := 0) sc_shifted.nd rfl (.inl rfl) (pe_fld (pv 0) rfl)))) pss_nil)
  (pss_cons (ps_if (pt_cmpR op_eq (pv 1) pe_int (nomark _)) (pss_one (ps_ret (pv 0))) pss_nil)
  (pss_one (ps_ret (StX.pe_makeR T.mk_Shift G_Shift_init (hr.mono (by omega)) (by rfl) T.g_Shift pass0 (pa_cons (pv 0) (pa_cons (pv 1) pa_nil))))))), ?_⟩
    have mk : ∀ (m : Tm) (b : Addr) (n : Int) (H : Hp) (Q : VK), TmAt T.ca H m b → (Tm.shift m n).fits → (∀ r H', Same H H' → TmAt T.ca H' (.shift m n) r → Q (.ref r) H') → ∀ x dx, H x = none → H dx = none → dx ≠ x →
        spShiftInit T [.ref x, .ref b, .int n] (upd (upd H dx (.own x)) x (.ins T.c_Shift dx [])) (fun v H2 => v = .non ∧ Q (.ref x) H2) E0 := fun m b n H Q hm hf q x dx hx hdx hne => by
      have s1 : Same H (upd (upd H dx (.own x)) x (.ins T.c_Shift dx [])) := fun c o e => by
        rw [upd_ne (ne_of_none e hx), upd_ne (ne_of_none e hdx)]
        exact e
      exact ⟨H, m, n, x, b, dx, rfl, s1, hx, hm, hf, upd_same, fun H' s' h' => ⟨rfl, q x H' s' h'⟩⟩
    by_cases hs : ∃ m i, t = .shift m i
    · obtain ⟨m, i, rfl⟩ := hs
      obtain ⟨dx, b, ha, hm⟩ := id ht
      refine ⟨.ref a, rfl, _, _, _, _, _, rfl, .own _, ht.ty, T.k1_Shift_Shift, _, rfl, iT rfl ⟨.int n, rfl, rfl, _, rfl, ?_⟩⟩
      by_cases n0 : n = 0
      · subst n0
        refine iF rfl ?_
        refine ⟨.int 0, rfl, rfl, _, rfl, iT rfl ⟨.ref a, rfl, ?_⟩⟩
        exact q a H (Same.refl H) ht
      · refine iT (by simp [n0]) ?_
        refine ⟨.int n, rfl, .ref a, rfl, a, _, dx, _, _, rfl, ha, T.o_Shift.cl, T.n_Shift_amount, rfl, _, _, rfl, rfl, .ref a, rfl, a, _, dx, _, _, rfl, ha, T.o_Shift.cl, T.n_Shift_moment, rfl, ?_⟩
        refine ⟨.int (n + i), rfl, rfl, _, rfl, ?_⟩
        by_cases e : n + i = 0
        · have ep : (Tm.shift m i).plus n = m := by simp only [Tm.plus]; rw [if_neg n0, if_pos e]
          rw [ep] at q
          exact iT (decide_eq_true (by rw [e])) ⟨.ref b, rfl, q b H (Same.refl H) hm⟩
        · have ep : (Tm.shift m i).plus n = .shift m (n + i) := by simp only [Tm.plus]; rw [if_neg n0, if_neg e]
          rw [ep] at q hf
          exact iF (decide_eq_false (fun h => e (V.int.inj h))) ⟨.ref b, rfl, .int (n + i), rfl, mk m b (n + i) H Q hm hf q⟩
    · have ek : PySem.W.kitOne K (.ref (t.cls T.ca)) (.ref T.c_Shift) = some false := by
        have := T.ks t
        cases t with
        | shift m i => exact absurd ⟨m, i, rfl⟩ hs
        | _ => exact this
      refine ⟨.ref a, rfl, _, _, _, _, _, rfl, .own _, ht.ty, ek, _, rfl, iF rfl ?_⟩
      refine ⟨.int n, rfl, rfl, _, rfl, ?_⟩
      have ep : t.plus n = if n = 0 then t else .shift t n := by
        cases t with
        | shift m i => exact absurd ⟨m, i, rfl⟩ hs
        | _ => rfl
      rw [ep] at q hf
      by_cases n0 : n = 0
      · rw [if_pos n0] at q
        exact iT (decide_eq_true (by rw [n0])) ⟨.ref a, rfl, q a H (Same.refl H) ht⟩
      · rw [if_neg n0] at q hf
        exact iF (decide_eq_false (fun h => n0 (V.int.inj h))) ⟨.ref a, rfl, .int n, rfl, mk t a n H Q ht hf q⟩
/-- Term.__add__, Term.__sub__ -/
def spTAdd (T : Txt P K mg) (sg : Int) : Sp := fun vs H Q _ => ∃ (t : Tm) (a : Addr) (k : Int), vs = [.ref a, .int k] ∧ TmAt T.ca H t a ∧ (t.plus (sg * k)).fits ∧ ∀ r H', Same H H' → TmAt T.ca H' (t.plus (sg * k)) r → Q (.ref r) H'
theorem ok_term_add (T : Txt P K mg) {k : Nat} : FnR P w K mg base CX0 (k + 5) T.Term_add.f (spTAdd T 1) := by
  have G_check_moment : FnOk P w K mg base CX0 (k + 2) T.check_moment.f T.check_moment.fd ["value"] spCkMoment := ok_check_moment T
  have G_shifted : FnOk P w K mg base CX0 (k + 4) T.shifted.f T.shifted.fd ["term", "amount"] (spShifted T) := ok_shifted T
  refine toR (T.Term_add.F.ok (k := k + 4) sc_Term_add (fun vs H Q E h => ?_) (fun cdv A outer s H vs Q E hr h => ?_)) T.Term_add.b
  · obtain ⟨t, a, k, rfl, _⟩ := h
    rfl
  · obtain ⟨t, a, n, rfl, ht, hf, q⟩ := h
    rw [Int.one_mul] at hf q
    refine ⟨_, (pss_cons (ps_expr (pe_call G_check_moment (hr.mono (by omega)) (by rfl) T.check_moment.g T.check_moment.F.kp T.check_moment.b .nil pass0 (pa_cons (pv 1) pa_nil)))
  (pss_one (ps_ret (pe_call G_shifted (hr.mono (by omega)) (by rfl) T.shifted.g T.shifted.F.kp T.shifted.b .nil pass0 (pa_cons (pv 0) (pa_cons (pv 1) pa_nil)))))), ?_⟩
    exact ⟨.int n, rfl, n, rfl, .ref a, rfl, .int n, rfl, t, a, n, rfl, ht, hf, q⟩
theorem ok_term_sub (T : Txt P K mg) {k : Nat} : FnR P w K mg base CX0 (k + 5) T.Term_sub.f (spTAdd T (-1)) := by
  have G_check_moment : FnOk P w K mg base CX0 (k + 2) T.check_moment.f T.check_moment.fd ["value"] spCkMoment := ok_check_moment T
  have G_shifted : FnOk P w K mg base CX0 (k + 4) T.shifted.f T.shifted.fd ["term", "amount"] (spShifted T) := ok_shifted T
  refine toR (T.Term_sub.F.ok (k := k + 4) sc_Term_sub (fun vs H Q E h => ?_) (fun cdv A outer s H vs Q E hr h => ?_)) T.Term_sub.b
  · obtain ⟨t, a, k, rfl, _⟩ := h
    rfl
  · obtain ⟨t, a, n, rfl, ht, hf, q⟩ := h
    rw [show -1 * n = -n by omega] at hf q
    refine ⟨_, (pss_cons (ps_expr (pe_call G_check_moment (hr.mono (by omega)) (by rfl) T.check_moment.g T.check_moment.F.kp T.check_moment.b .nil pass0 (pa_cons (pv 1) pa_nil)))
  (pss_one (ps_ret (pe_call G_shifted (hr.mono (by omega)) (by rfl) T.shifted.g T.shifted.F.kp T.shifted.b .nil pass0 (pa_cons (pv 0) (pa_cons (pe_un un_neg (pv 1)) pa_nil)))))), ?_⟩
    exact ⟨.int n, rfl, n, rfl, .ref a, rfl, .int n, rfl, n, rfl, t, a, -n, rfl, ht, hf, q⟩
/-- check_term of a term -/
def spCkTerm (T : Txt P K mg) : Sp := fun vs H Q _ => ∃ (t : Tm) (a : Addr), vs = [.ref a] ∧ TmAt T.ca H t a ∧ Q .non H
theorem ok_check_term (T : Txt P K mg) {k : Nat} : FnOk P w K mg base CX0 (k + 1) T.check_term.f T.check_term.fd ["value"] (spCkTerm T) := by
  refine T.check_term.F.ok (k := k) sc_check_term (fun vs H Q E h => ?_) (fun cdv A outer s H vs Q E hr h => ?_)
  · obtain ⟨t, a, rfl, _⟩ := h
    rfl
  · obtain ⟨t, a, rfl, ht, q⟩ := h
    refine ⟨_, (pss_one (ps_if (pt_not (pt_val (pe_callB call_isi (by rfl) T.n_isinstance (by decide +kernel) (pa_cons (pv 0) (pa_cons (pe_glob (v := .ref T.c_Term) (by rfl) T.g_Term rfl) pa_nil))))) (pss_one ps_never) pss_nil)), ?_⟩
    exact ⟨.ref a, rfl, _, _, _, _, _, rfl, .own _, ht.ty, (T.kc t).kt, _, rfl, iF rfl q⟩
/-- a world's object -/
def WoIs (T : Txt P K mg) (H : Hp) (a : Addr) : Prop := ∃ dx fs, H a = some (.ins T.c_World dx fs)
/-- a world at a, its list of pairs at l, its rows ps -/
def WoA (T : Txt P K mg) (H : Hp) (a l : Addr) (ps : List (Str × Int)) : Prop := ∃ dx vs, H a = some (.ins T.c_World dx [("pairs", .ref l)]) ∧ H l = some (.lst vs) ∧ PrsAt H vs ps
theorem WoA.same {T : Txt P K mg} {H H' : Hp} {a l : Addr} {ps : List (Str × Int)} (s : Same H H') (h : WoA T H a l ps) : WoA T H' a l ps := by
  obtain ⟨dx, vs, h1, h2, h3⟩ := h
  exact ⟨dx, vs, s _ _ h1, s _ _ h2, h3.same s⟩
theorem WoA.is {T : Txt P K mg} {H : Hp} {a l : Addr} {ps : List (Str × Int)} (h : WoA T H a l ps) : WoIs T H a := by
  obtain ⟨dx, vs, h1, _⟩ := h
  exact ⟨dx, _, h1⟩
theorem WoA.mn {T : Txt P K mg} {S : List Addr} {H : Hp} {a l : Addr} {ps : List (Str × Int)} (hS : Lsts S H) (hl : l ∉ S) (h : WoA T H a l ps) : WoA T (mn S H) a l ps := by
  obtain ⟨dx, vs, h1, h2, h3⟩ := h
  exact ⟨dx, vs, mn_nl hS h1 (fun _ z => nomatch z), by rw [mn_at hl]; exact h2, h3.mn hS⟩
theorem TmAt.mn {c : CA} {S : List Addr} {H : Hp} (hS : Lsts S H) : ∀ {t : Tm} {a : Addr}, TmAt c H t a → TmAt c (mn S H) t a := by
  have key : ∀ {a C dx : Addr} {fs : List (Str × V)}, H a = some (.ins C dx fs) → Pl.mn S H a = some (.ins C dx fs) := fun {a C dx fs} h => mn_nl hS h (fun _ z => nomatch z)
  intro t
  induction t with
  | now => intro a ⟨dx, h⟩; exact ⟨dx, key h⟩
  | shift m n ih => intro a ⟨dx, b, h, h1⟩; exact ⟨dx, b, key h, ih h1⟩
  | look s m wy lim ih => intro a ⟨dx, b, h, h1⟩; exact ⟨dx, b, key h, ih h1⟩
  | either x y i1 i2 => intro a ⟨dx, b, d, h, h1, h2⟩; exact ⟨dx, b, d, key h, i1 h1, i2 h2⟩
  | later x y i1 i2 => intro a ⟨dx, b, d, h, h1, h2⟩; exact ⟨dx, b, d, key h, i1 h1, i2 h2⟩
  | earlier x y i1 i2 => intro a ⟨dx, b, d, h, h1, h2⟩; exact ⟨dx, b, d, key h, i1 h1, i2 h2⟩
def spCkWorld (T : Txt P K mg) : Sp := fun vs H Q _ => ∃ (a : Addr), vs = [.ref a] ∧ WoIs T H a ∧ Q .non H
theorem ok_check_world (T : Txt P K mg) {k : Nat} : FnOk P w K mg base CX0 (k + 1) T.check_world.f T.check_world.fd ["value"] (spCkWorld T) := by
  refine T.check_world.F.ok (k := k) sc_check_world (fun vs H Q E h => ?_) (fun cdv A outer s H vs Q E hr h => ?_)
  · obtain ⟨a, rfl, _⟩ := h
    rfl
  · obtain ⟨a, rfl, ⟨dx, fs, ha⟩, q⟩ := h
    refine ⟨_, (pss_one (ps_if (pt_not (pt_val (pe_callB call_isi (by rfl) T.n_isinstance (by decide +kernel) (pa_cons (pv 0) (pa_cons (pe_glob (v := .ref T.c_World) (by rfl) T.g_World rfl) pa_nil))))) (pss_one ps_never) pss_nil)), ?_⟩
    exact ⟨.ref a, rfl, _, _, _, _, _, rfl, .own _, T.o_World.ty ha, T.k1_World_World, _, rfl, iF rfl q⟩
end
end Pl

namespace Pl
open PySem L2
section
variable {P : Program} {w : World} {K : PySem.W.Frag} {mg : Str → Option Value} {base : Heap}
def spIsName : Sp := fun vs H Q _ => ∃ z : Str, vs = [.str z] ∧ goodName z ∧ ∀ H', Same H H' → Q (.bl true) H'
theorem ok_is_name (T : Txt P K mg) {k : Nat} : FnOk P w K mg base CX0 (k + 1) T.is_name.f T.is_name.fd ["name"] spIsName := by
  refine T.is_name.F.ok (k := k) sc_is_name (fun vs H Q E h => ?_) (fun cdv A outer s H vs Q E hr h => ?_)
  · obtain ⟨z, rfl, _⟩ := h
    rfl
  · obtain ⟨z, rfl, ⟨g1, g2, g3⟩, q⟩ := h
    refine ⟨_, (pss_cons (ps_if (PW.pt (pw_or (pt_not (pt_val (pe_callB call_isi (by rfl) T.n_isinstance (by decide +kernel) (pa_cons (pv 0) (pa_cons (pe_bltn (v := .ty "str") (by rfl) T.n_str (by decide +kernel) rfl) pa_nil))))) (pw_or1 (pt_not (pt_chain op_le op_le pe_int (pe_callB call_len_str (by rfl) T.n_len PySem.boot_len (pa_cons (pv 0) pa_nil)) pe_int))))) (pss_one (ps_ret pe_bl)) pss_nil)
  (pss_one (ps_ret (pe_cmpR op_eq (pe_callB call_len_seq (by rfl) T.n_len PySem.boot_len (pa_cons (pe_lc (own := [("letter", 1)]) (g := gName 1) (tt := (tTest (tOp _ (tVar 1) (tC _)))) (te := (tVar 1)) rfl sc_is_name.nd (pi_str (pv 0)) (blkOk_by (own := [("letter", 1)]) (N := N_is_name) (sc := defScope s_is_name) (by decide +kernel)) (fun _ _ _ _ _ => (pg_name (i := 1) sc_is_name.nd rfl (.inl rfl))) (fun _ _ _ _ _ => (pts_one (pt_cmpR op_notIn_sign (pv 1) (pe_glob (v := .str "abcdefghijklmnopqrstuvwxyz") (by rfl) T.k_LETTERS ⟨_, rfl⟩) (by with_unfolding_all rfl)))) (fun _ _ _ _ _ => (pv 1))) pa_nil)) pe_int (nomark _))))), ?_⟩
    have ty : Ty H (.str z) "str" := .str z
    have hz : z.length ≤ sizeLine := Nat.le_trans g2 (by decide)
    refine ⟨.str z, rfl, _, _, _, _, _, rfl, .ty "str", ty.x, isI_str ty, _, rfl, iF (by unfold tyB; rw [kb_str_str]; rfl) ?_⟩
    refine ⟨.str z, rfl, z, rfl, hz, ?_⟩
    refine ⟨_, _, rfl, rfl, _, rfl, iT (decide_eq_true (by omega)) ⟨_, _, rfl, rfl, _, rfl, iF (by rw [decide_eq_true (by omega : ((z.length : Nat) : Int) ≤ 12)]; rfl) ?_⟩⟩
    refine ⟨.str z, rfl, z, rfl, fun D hD => ?_⟩
    refine lc_it (walk_str (z := z)) (fun i H' => Same H H' ∧ H' D = some (.lst [])) ⟨same_upd hD, upd_same⟩ (fun _ _ _ _ => trivial) (fun i x H1 H2 hi pp y => ?_) (fun H' pp => ?_)
    · obtain ⟨rfl, c, hc, rfl⟩ := y
      refine ⟨rfl, ?_⟩
      refine ⟨.str ⟨#[c]⟩, rfl, c, _, rfl, rfl, _, rfl, ?_⟩
      have hin : c ∈ letters.cps.toList := g3 c (by
        have := Array.mem_of_getElem? hc
        exact Array.mem_toList_iff.mpr this)
      exact iF (by rw [decide_eq_true hin]; rfl) pp
    · exact ⟨D, _, rfl, .inl (SqL.of pp.2), rfl, q H' pp.1⟩
def spCkName : Sp := fun vs H Q _ => ∃ z : Str, vs = [.str z] ∧ goodName z ∧ ∀ H', Same H H' → Q .non H'
theorem ok_check_name (T : Txt P K mg) {k : Nat} : FnOk P w K mg base CX0 (k + 2) T.check_name.f T.check_name.fd ["name"] spCkName := by
  have G_is_name : FnOk P w K mg base CX0 (k + 1) T.is_name.f T.is_name.fd ["name"] spIsName := ok_is_name T
  refine T.check_name.F.ok (k := k + 1) sc_check_name (fun vs H Q E h => ?_) (fun cdv A outer s H vs Q E hr h => ?_)
  · obtain ⟨z, rfl, _⟩ := h
    rfl
  · obtain ⟨z, rfl, g, q⟩ := h
    refine ⟨_, (pss_one (ps_if (pt_not (pt_val (pe_call G_is_name (hr.mono (by omega)) (by rfl) T.is_name.g T.is_name.F.kp T.is_name.b .nil pass0 (pa_cons (pv 0) pa_nil)))) (pss_one ps_never) pss_nil)), ?_⟩
    exact ⟨.str z, rfl, z, rfl, g, fun H' s' => ⟨_, rfl, iF rfl (q H' s')⟩⟩
/-- check_rows of a list of distinct numbers -/
def spCkRows : Sp := fun vs H Q _ => ∃ (v : V) (a : Addr) (ns : List Int), vs = [v, .ref a] ∧ H a = some (.lst (ns.map V.int)) ∧ ns.Nodup ∧ ns.length ≤ 300 ∧ Q .non H
theorem ok_check_rows (T : Txt P K mg) {k : Nat} : FnOk P w K mg base CX0 (k + 2) T.check_rows.f T.check_rows.fd ["name", "moments"] spCkRows := by
  have G_is_integer : FnOk P w K mg base CX0 (k + 1) T.is_integer.f T.is_integer.fd ["value"] spIsInteger := ok_is_integer T
  refine T.check_rows.F.ok (k := k + 1) sc_check_rows (fun vs H Q E h => ?_) (fun cdv A outer s H vs Q E hr h => ?_)
  · obtain ⟨v, a, ns, rfl, _⟩ := h
    rfl
  · obtain ⟨v, a, ns, rfl, ha, hnd, hl, q⟩ := h
    refine ⟨_, (pss_cons (ps_if (pt_not (pt_val (pe_callB call_isi (by rfl) T.n_isinstance (by decide +kernel) (pa_cons (pv 1) (pa_cons (pe_bltn (v := .ty "list") (by rfl) T.n_list (by decide +kernel) rfl) pa_nil))))) (pss_one ps_never) pss_nil)
  (pss_cons (ps_for PassesOwn.never rfl (pi_list (pv 1)) (pg_name (i := 2) sc_check_rows.nd rfl (.inl rfl))
   (pss_one (ps_if (pt_not (pt_val (pe_call G_is_integer (hr.mono (by omega)) (by rfl) T.is_integer.g T.is_integer.F.kp T.is_integer.b .nil pass0 (pa_cons (pv 2) pa_nil)))) (pss_one ps_never) pss_nil)))
  (pss_one (ps_if (pt_cmpR op_lt (RZ.pe_lenSetI (by rfl) T.n_len (by rfl) T.n_set (pv 1)) (pe_callB call_len_seq (by rfl) T.n_len PySem.boot_len (pa_cons (pv 1) pa_nil)) (nomark _)) (pss_one ps_never) pss_nil)))), ?_⟩
    have ty : Ty H (.ref a) "list" := .lst ha
    refine ⟨.ref a, rfl, _, _, _, _, _, rfl, .ty "list", ty.x, isI_list ty, _, rfl, iF (by unfold tyB; rw [kb_list_list]; rfl) ?_⟩
    refine ⟨.ref a, rfl, a, rfl, ⟨_, SqL.of ha⟩, ?_⟩
    refine for_list (K := K) (a := a) (xs := ns.map V.int) (fun i σ H' => H' = H ∧ ∃ u, σ = [some v, some (.ref a), u]) ⟨rfl, _, rfl⟩ (fun i σ H' _ pp => by rw [pp.1]; exact SqL.of ha) (fun i x σ H' hx pp => ?_) (fun σ H' pp => ?_)
    · obtain ⟨rfl, u, rfl⟩ := pp
      obtain ⟨j, rfl⟩ : ∃ j, x = V.int j := by
        rw [List.getElem?_map] at hx
        cases e : ns[i]? with
        | none => rw [e] at hx; cases hx
        | some j => rw [e] at hx; exact ⟨j, (Option.some.inj hx).symm⟩
      exact ⟨.int j, rfl, .int j, "int", rfl, .int j, _, rfl, iF rfl ⟨rfl, _, rfl⟩⟩
    · obtain ⟨rfl, u, rfl⟩ := pp
      refine ⟨.ref a, rfl, a, ns, rfl, SqL.of ha, hnd, by omega, .ref a, rfl, a, _, rfl, .inl (SqL.of ha), _, _, rfl, rfl, _, rfl, ?_⟩
      exact iF (decide_eq_false (by rw [List.length_map]; omega)) q
/-- limited(pairs) -/
def spLimited : Sp := fun vs H Q _ => ∃ (a : Addr) (xs : List V), vs = [.ref a] ∧ H a = some (.lst xs) ∧ xs.length ≤ 300 ∧ Q (.ref a) H
theorem ok_limited (T : Txt P K mg) {k : Nat} : FnOk P w K mg base CX0 (k + 1) T.limited.f T.limited.fd ["pairs"] spLimited := by
  refine T.limited.F.ok (k := k) sc_limited (fun vs H Q E h => ?_) (fun cdv A outer s H vs Q E hr h => ?_)
  · obtain ⟨a, xs, rfl, _⟩ := h
    rfl
  · obtain ⟨a, xs, rfl, ha, hl, q⟩ := h
    refine ⟨_, (pss_cons (ps_if (pt_cmpR op_gt (pe_callB call_len_seq (by rfl) T.n_len PySem.boot_len (pa_cons (pv 0) pa_nil)) (pe_glob (v := .int 300) (by rfl) T.k_MOST_ROWS ⟨_, rfl⟩) (nomark _)) (pss_one ps_never) pss_nil)
  (pss_one (ps_ret (pv 0)))), ?_⟩
    refine ⟨.ref a, rfl, a, _, rfl, .inl (SqL.of ha), _, _, rfl, rfl, _, rfl, iF (decide_eq_false (by omega)) ?_⟩
    exact ⟨.ref a, rfl, q⟩
end
end Pl

namespace Pl
open PySem L2
section
variable {P : Program} {w : World} {K : PySem.W.Frag} {mg : Str → Option Value} {base : Heap}
theorem prs_len {rs : Rws} (i : Nat) (r : Str × List Int) (h : rs[i]? = some r) : ((rs.take i).flatMap prsOf).length + (prsOf r).length ≤ (rs.map fun r => r.2.length).sum := by
  induction rs generalizing i with
  | nil => simp at h
  | cons x rs ih =>
    cases i with
    | zero =>
      have e : x = r := Option.some.inj h
      subst e
      simp [prsOf]
    | succ i =>
      have := ih i h
      simp only [List.take_succ_cons, List.flatMap_cons, List.length_append, List.map_cons, List.sum_cons]
      have e : (prsOf x).length = x.2.length := by simp [prsOf]
      omega
theorem prs_all (rs : Rws) : (rs.flatMap prsOf).length = (rs.map fun r => r.2.length).sum := by
  induction rs with
  | nil => rfl
  | cons x rs ih =>
    simp only [List.flatMap_cons, List.length_append, List.map_cons, List.sum_cons, ih]
    simp [prsOf]
/-- checked_pairs: the sorted pairs -/
def spChPairs : Sp := fun vs H Q _ => ∃ (d : Addr) (kvs : List (Key × V)) (rs : Rws), vs = [.ref d] ∧ H d = some (.dK kvs) ∧ EntsAt H kvs rs ∧ goodRows rs ∧
  ∀ (r : Addr) (H' : Hp) (us : List V), Same H H' → H r = none → H' r = some (.lst us) → PrsAt H' us (wRows rs) → Q (.ref r) H'
theorem ok_checked_pairs (T : Txt P K mg) {k : Nat} : FnOk P w K mg base CX0 (k + 3) T.checked_pairs.f T.checked_pairs.fd ["rows"] spChPairs := by
  have G_check_name : FnOk P w K mg base CX0 (k + 2) T.check_name.f T.check_name.fd ["name"] spCkName := ok_check_name T
  have G_check_rows : FnOk P w K mg base CX0 (k + 2) T.check_rows.f T.check_rows.fd ["name", "moments"] spCkRows := ok_check_rows T
  have G_limited : FnOk P w K mg base CX0 (k + 1) T.limited.f T.limited.fd ["pairs"] spLimited := ok_limited T
  refine T.checked_pairs.F.ok (k := k + 2) sc_checked_pairs (fun vs H Q E h => ?_) (fun cdv A outer s H vs Q E hr h => ?_)
  · obtain ⟨d, kvs, rs, rfl, _⟩ := h
    rfl
  · obtain ⟨d, kvs, rs, rfl, hd, he, hg, q⟩ := h
    refine ⟨_, (pss_cons (ps_set (i := 1) sc_checked_pairs.nd rfl (.inl rfl) (pe_lst pa_nil))
  (pss_cons (ps_lock (ps_for PassesOwn.never rfl (pi_items (pv 0)) (pg_tup rfl (pgs_cons (pg_name (i := 2) sc_checked_pairs.nd rfl (.inr rfl)) (pgs_cons (pg_name (i := 3) sc_checked_pairs.nd rfl (.inl rfl)) pgs_nil)))
   (pss_cons (ps_expr (pe_call G_check_name (hr.mono (by omega)) (by rfl) T.check_name.g T.check_name.F.kp T.check_name.b .nil pass0 (pa_cons (pv 2) pa_nil)))
  (pss_cons (ps_expr (pe_call G_check_rows (hr.mono (by omega)) (by rfl) T.check_rows.g T.check_rows.F.kp T.check_rows.b .nil pass0 (pa_cons (pv 2) (pa_cons (pv 3) pa_nil))))
  (pss_one (ps_aug (i := 1) sc_checked_pairs.nd rfl (.inl rfl) (pe_lc (own := [("moment", 4)]) (g := gName 4) (tt := tYes) (te := (tTup (tCons (tVar 2) (tCons (tVar 4) tNil)))) rfl sc_checked_pairs.nd (pi_list (pv 3)) (blkOk_by (own := [("moment", 4)]) (N := N_checked_pairs) (sc := defScope s_checked_pairs) (by decide +kernel)) (fun _ _ _ _ _ => (pg_name (i := 4) sc_checked_pairs.nd rfl (.inl rfl))) (fun _ _ _ _ _ => pts_nil) (fun _ _ _ _ _ => (pe_tup (pa_cons (pv 2) (pa_cons (pv 4) pa_nil))))) iop_ext))))))
  (pss_one (ps_ret (pe_call G_limited (hr.mono (by omega)) (by rfl) T.limited.g T.limited.F.kp T.limited.b .nil pass0 (pa_cons (pe_callB (cr_sortD (enc := fun p : Str × Int => .tuple [.str p.1, .int p.2]) hr.units) (by rfl) T.n_sorted (by decide +kernel) (pa_cons (pv 1) pa_nil)) pa_nil)))))), ?_⟩
    refine ⟨sz (by show 0 ≤ 100000; decide), fun l hl => ?_⟩
    have hd1 : upd H l (.lst []) d = some (.dK kvs) := by rw [upd_ne (ne_of_none hd hl)]; exact hd
    refine ⟨d, _, hd1, trivial, fun od => ?_⟩
    refine ⟨.ref d, rfl, d, od, kvs, rfl, upd_same, ?_⟩
    refine for_it (walk_items (d := d) (o := od) (kvs := kvs)) (fun i σ H' => ∃ (us : List V) (y2 y3 y4 : Option V), σ = [some (.ref d), some (.ref l), y2, y3, y4] ∧ (∀ b o, b ≠ d → H b = some o → H' b = some o) ∧ H' d = some (.frz od (.dK kvs)) ∧
      H' l = some (.lst us) ∧ PrsAt H' us ((rs.take i).flatMap prsOf)) ?_ (fun i σ H' _ pp => ?_) (fun i x σ H1 H2 hi pp y => ?_) (fun σ H' pp => ?_)
    · exact ⟨[], none, none, none, rfl, fun b o nb e => by rw [upd_ne nb, upd_ne (ne_of_none e hl)]; exact e, upd_same, by rw [upd_ne (ne_of_none hd hl).symm, upd_same], rfl, fun i p e => by simp at e⟩
    · obtain ⟨us, y2, y3, y4, _, _, h3, _⟩ := pp
      exact h3
    · obtain ⟨us, y2, y3, y4, rfl, hb, hdf, hlu, hpr⟩ := pp
      obtain ⟨t, xk, yv, rfl, hT, rfl, e1, e2⟩ := y
      obtain ⟨kv, hkv⟩ : ∃ kv, kvs[i]? = some kv := ⟨_, List.getElem?_eq_getElem hi⟩
      obtain ⟨r, hr0⟩ : ∃ r, rs[i]? = some r := ⟨_, List.getElem?_eq_getElem (by rw [← he.1]; exact hi)⟩
      obtain ⟨k1, a, k2, ha⟩ := he.2 i kv r hkv hr0
      dsimp only at e1 e2
      rw [hkv] at e1 e2
      have e1' : kV kv.1 = xk := Option.some.inj e1
      have e2' : kv.2 = yv := Option.some.inj e2
      rw [k1] at e1'
      rw [k2] at e2'
      subst e1' e2'
      obtain ⟨g1, g2, g3⟩ := hg.1 r (List.mem_of_getElem? hr0)
      have nad : a ≠ d := fun z => by rw [z, hd] at ha; cases ha
      have ha1 : H1 a = some (.lst (r.2.map V.int)) := hb a _ nad ha
      have s2 : Same H1 (upd H1 t (.tup [kV (.inr r.1), .ref a])) := same_upd hT
      refine ⟨t, _, rfl, SqT.of upd_same, rfl, _, _, rfl, _, _, rfl, rfl, ?_⟩
      refine ⟨.str r.1, rfl, r.1, rfl, g1, fun H3 s3 => ?_⟩
      have s23 := s2.trans s3
      refine ⟨.str r.1, rfl, .ref a, rfl, .str r.1, a, r.2, rfl, s23 _ _ ha1, g2, g3, ?_⟩
      refine ⟨.ref l, rfl, .ref a, rfl, a, rfl, ⟨_, SqL.of (s23 _ _ ha1)⟩, fun D hD => ?_⟩
      have hD1 : H1 D = none := s23.free hD
      refine lc_list (K := K) (a := a) (xs := r.2.map V.int) (fun j H' => Same H3 H' ∧ ∃ vs, H' D = some (.lst vs) ∧ PrsAt H' vs ((prsOf r).take j)) ⟨same_upd hD, [], upd_same, rfl, fun i p e => by simp at e⟩ (fun j H' _ pp => SqL.of (pp.1 _ _ (s23 _ _ ha1))) (fun j x H' hx pp => ?_) (fun H' pp => ?_)
      · obtain ⟨s4, vs, hv, hp4⟩ := pp
        obtain ⟨m, hm, rfl⟩ : ∃ m, r.2[j]? = some m ∧ x = V.int m := by
          rw [List.getElem?_map] at hx
          cases e : r.2[j]? with
          | none => rw [e] at hx; cases hx
          | some m => rw [e] at hx; exact ⟨m, rfl, (Option.some.inj hx).symm⟩
        have hj : j < r.2.length := (List.getElem?_eq_some_iff.mp hm).1
        refine ⟨rfl, yes_if ⟨.str r.1, rfl, .int m, rfl, sz (by show 2 ≤ 100000; decide), fun p hp => ?_⟩⟩
        have npD : D ≠ p := ne_of_none hv hp
        have hv5 : upd H' p (.tup [.str r.1, .int m]) D = some (.lst vs) := by rw [upd_ne npD]; exact hv
        have hlen : vs.length ≤ 300 := by
          have := hp4.1
          rw [List.length_take] at this
          have e : (prsOf r).length = r.2.length := by simp [prsOf]
          omega
        refine ⟨vs, hv5, szl (by omega), same_mut (s4.trans (same_upd hp)) hD, vs ++ [.ref p], upd_same, ?_⟩
        have hpm : (prsOf r)[j]? = some (r.1, m) := by
          unfold prsOf
          rw [List.getElem?_map, hm]
          rfl
        rw [List.take_add_one, hpm]
        refine PrsAt.put hv5 ((hp4.same (same_upd hp)).app ⟨rfl, fun i q e => ?_⟩)
        cases i with
        | zero =>
          cases e
          exact ⟨p, rfl, upd_same⟩
        | succ i => simp at e
      · obtain ⟨s4, vs, hv, hp4⟩ := pp
        have e : (prsOf r).length = r.2.length := by simp [prsOf]
        rw [List.length_map, List.take_of_length_le (by omega)] at hp4
        have s14 := s23.trans s4
        have hl4 := s14 _ _ hlu
        have hlen := prs_len i r hr0
        have nlD : l ≠ D := fun z => by rw [z] at hlu; rw [hD1] at hlu; cases hlu
        refine ⟨l, D, us, vs, rfl, rfl, hl4, hv, sz (by rw [hpr.1, hp4.1]; have := hg.2; omega), ?_⟩
        refine ⟨us ++ vs, _, _, _, rfl, fun b o nb eb => ?_, ?_, upd_same, ?_⟩
        · rw [upd_ne (ne_of_none eb hl)]
          exact s14 _ _ (hb b o nb eb)
        · rw [upd_ne (ne_of_none hd hl)]
          exact s14 _ _ hdf
        · rw [List.take_add_one, hr0]
          rw [show (rs.take i ++ (some r).toList) = rs.take i ++ [r] from rfl, List.flatMap_append, List.flatMap_cons, List.flatMap_nil, List.append_nil]
          exact PrsAt.put hl4 ((hpr.same s14).app hp4)
    · obtain ⟨us, y2, y3, y4, rfl, hb, hdf, hlu, hpr⟩ := pp
      rw [he.1, List.take_of_length_le (Nat.le_refl _)] at hpr
      refine ⟨hdf, ?_⟩
      have hl5 : upd H' d (.dK kvs) l = some (.lst us) := by rw [upd_ne (ne_of_none hd hl).symm]; exact hlu
      have sH : Same H (upd H' d (.dK kvs)) := fun b o e => by
        by_cases nb : b = d
        · subst nb
          rw [upd_same, ← hd, e]
        · rw [upd_ne nb]
          exact hb b o nb e
      have hpr5 : PrsAt (upd H' d (.dK kvs)) us (rs.flatMap prsOf) := ⟨hpr.1, fun i p e => by
        obtain ⟨t, t1, t2⟩ := hpr.2 i p e
        refine ⟨t, t1, ?_⟩
        rw [upd_ne (fun z => by rw [z, hdf] at t2; cases t2)]
        exact t2⟩
      have hlen : us.length ≤ 300 := by rw [hpr.1, prs_all]; exact hg.2
      generalize upd H' d (.dK kvs) = H5 at hl5 sH hpr5 ⊢
      have hz1 : (us.zip (rs.flatMap prsOf)).map (·.1) = us := List.map_fst_zip (by rw [hpr5.1]; exact Nat.le_refl _)
      refine ⟨.ref l, rfl, l, us.zip (rs.flatMap prsOf), rfl, by rw [hz1]; exact SqL.of hl5, by rw [List.length_zip]; omega, fun p hp => ?_, PySem.W.AllAlike.of fun b b' => rfl, PySem.W.Sortable.tuples fun b => ⟨_, _, rfl⟩, fun p hp => ?_, fun z hz => ?_⟩
      · obtain ⟨i, hi⟩ := List.mem_iff_getElem?.mp hp
        obtain ⟨v, q'⟩ := p
        rw [List.getElem?_zip_eq_some] at hi
        obtain ⟨t, t1, t2⟩ := hpr5.2 i q' hi.2
        rw [hi.1] at t1
        cases t1
        exact .tup (SqT.of t2) (.cons (.str _) (.cons (.int _) .nil))
      · show PyData.depth (.tuple [.str p.2.1, .int p.2.2]) ≤ 10
        simp [PyData.depth, PyData.depthAll]
      · refine ⟨z, _, rfl, upd_same, ?_, q z _ _ (sH.trans (same_upd hz)) (sH.free hz) upd_same ((prs_sort hpr5).same (same_upd hz))⟩
        rw [List.length_map, List.length_mergeSort, List.length_zip]
        omega
end
end Pl

namespace Pl
open PySem L2
section
variable {P : Program} {w : World} {K : PySem.W.Frag} {mg : Str → Option Value} {base : Heap}
/-- World.__init__(self, rows) -/
def spWInit (T : Txt P K mg) : Sp := fun vs H Q _ => ∃ (G : Hp) (x d dx : Addr) (kvs : List (Key × V)) (rs : Rws), vs = [.ref x, .ref d] ∧ Same G H ∧ G x = none ∧ H x = some (.ins T.c_World dx []) ∧ H d = some (.dK kvs) ∧ EntsAt H kvs rs ∧ goodRows rs ∧
  ∀ H' l, Same G H' → H l = none → WoA T H' x l (wRows rs) → Q .non H'
theorem ok_world_init (T : Txt P K mg) {k : Nat} : FnR P w K mg base CX0 (k + 4) T.World_init.f (spWInit T) := by
  have G_checked_pairs : FnOk P w K mg base CX0 (k + 3) T.checked_pairs.f T.checked_pairs.fd ["rows"] spChPairs := ok_checked_pairs T
  refine toR (T.World_init.ok (k := k + 3) sc_World_init (fun vs H Q E h => ?_) (fun cdv A outer s H vs Q E hr h => ?_)) T.World_init.b
  · obtain ⟨G, x, d, dx, kvs, rs, rfl, _⟩ := h
    rfl
  · obtain ⟨G, x, d, dx, kvs, rs, rfl, sG, xG, hx, hd, he, hg, q⟩ := h
    refine ⟨_, (pss_one (ps_if (pt_cmpR op_isN (pv 1) pe_non (nomark _)) (pss_one (ps_fld (pv 0) (pe_lst pa_nil) rfl)) (pss_one (ps_fld (pv 0) (pe_call G_checked_pairs (hr.mono (by omega)) (by rfl) T.checked_pairs.g T.checked_pairs.F.kp T.checked_pairs.b .nil pass0 (pa_cons (pv 1) pa_nil)) rfl)))), ?_⟩
    refine ⟨.ref d, rfl, rfl, _, rfl, iF (decide_eq_false (fun h => nomatch h)) ?_⟩
    refine ⟨.ref d, rfl, d, kvs, rs, rfl, hd, he, hg, fun r H1 us s1 r0 h1 h2 => ?_⟩
    refine ⟨.ref x, rfl, x, _, dx, [], rfl, s1 _ _ hx, T.o_World.cl, T.n_World_pairs, by decide, ?_⟩
    have hx1 := s1 _ _ hx
    have nrx : r ≠ x := fun e => by rw [e, hx1] at h1; cases h1
    refine q _ r (same_mut (sG.trans s1) xG) r0 ⟨dx, us, upd_same, by rw [upd_ne nrx]; exact h1, h2.1, fun i p e => ?_⟩
    obtain ⟨t, t1, t2⟩ := h2.2 i p e
    exact ⟨t, t1, by rw [upd_ne (fun z => by rw [z, hx1] at t2; cases t2)]; exact t2⟩
theorem inV_ints (x : Int) : ∀ ns : List Int, inV (.int x) (ns.map V.int) = decide (x ∈ ns)
  | [] => by simp [inV]
  | n :: ns => by
    have := inV_ints x ns
    unfold inV at this ⊢
    rw [List.map_cons, List.any_cons, this]
    show ((n == x) || _) = _
    by_cases e : n = x
    · subst e; simp
    · have e' : ¬ x = n := fun z => e z.symm
      simp [e, e', List.mem_cons]
theorem flat_ints : ∀ ns : List Int, (ns.map V.int).all flatV = true
  | [] => rfl
  | n :: ns => by
    rw [List.map_cons, List.all_cons, flat_ints ns]
    rfl
end
end Pl

namespace Pl
open PySem L2
section
variable {P : Program} {w : World} {K : PySem.W.Frag} {mg : Str → Option Value} {base : Heap}
theorem putK_new {kvs : List (Key × V)} {k : Key} {v : V} (h : ∀ kv ∈ kvs, kv.1 ≠ k) : putK kvs k v = kvs ++ [(k, v)] := by
  unfold putK
  rw [if_neg]
  intro e
  obtain ⟨kv, h1, h2⟩ := List.any_eq_true.mp e
  exact h kv h1 (of_decide_eq_true h2)
theorem EntsAt.snoc {H : Hp} {kvs : List (Key × V)} {rs : Rws} {z : Str} {ns : List Int} {a : Addr} (h : EntsAt H kvs rs) (ha : H a = some (.lst (ns.map V.int))) : EntsAt H (kvs ++ [(.inr z, .ref a)]) (rs ++ [(z, ns)]) := by
  refine ⟨by rw [List.length_append, List.length_append, h.1]; rfl, fun i kv r h1 h2 => ?_⟩
  rw [List.getElem?_append] at h1 h2
  by_cases hl : i < kvs.length
  · rw [if_pos hl] at h1
    rw [if_pos (by rw [← h.1]; exact hl)] at h2
    exact h.2 i kv r h1 h2
  · rw [if_neg hl] at h1
    rw [if_neg (by rw [← h.1]; exact hl), ← h.1] at h2
    cases e : i - kvs.length with
    | zero =>
      rw [e] at h1 h2
      cases h1
      cases h2
      exact ⟨rfl, a, rfl, ha⟩
    | succ j =>
      rw [e] at h1
      simp at h1
theorem EntsAt.keys {H : Hp} {kvs : List (Key × V)} {rs : Rws} (h : EntsAt H kvs rs) : ∀ kv ∈ kvs, ∃ r ∈ rs, kv.1 = .inr r.1 := fun kv hk => by
  obtain ⟨i, hi⟩ := List.mem_iff_getElem?.mp hk
  have hl : i < rs.length := by rw [← h.1]; exact (List.getElem?_eq_some_iff.mp hi).1
  obtain ⟨e, _⟩ := h.2 i kv rs[i] hi (List.getElem?_eq_getElem hl)
  exact ⟨_, List.getElem_mem hl, e⟩
end
end Pl

namespace Pl
open PySem L2
section
variable {P : Program} {w : World} {K : PySem.W.Frag} {mg : Str → Option Value} {base : Heap}
def spOpen (K : PySem.W.Frag) : Sp := fun vs H Q _ => ∃ (a : Addr) (ns : List Int), vs = [.ref a] ∧ SqL K H a (ns.map V.int) ∧ ns.length ≤ 63 ∧
  ∀ (b c : Addr) (H' : Hp), H b = none → H c = none → Same H H' → BoxAt b c H' → Q (.ref b) H'
theorem cut63 (ns : List Int) (h : ns.length ≤ 63) : cutV (ns.map V.int) none (some 63) = ns.map V.int := by
  unfold cutV
  rw [HT.sIx_none, show HT.sIx (ns.map V.int).length (ns.map V.int).length (some 63) = min 63 (ns.map V.int).length from HT.sIx_nat _ _ 63]
  rw [List.drop_zero, List.length_map, Nat.sub_zero]
  exact List.take_of_length_le (by rw [List.length_map]; omega)
theorem ok_law_open (T : Txt P K mg) {k : Nat} : FnOk P w K mg base CX0 (k + 1) T.law_open.f T.law_open.fd ["_law_script"] (spOpen K) := by
  refine T.law_open.F.ok sc_law_open (fun vs H Q E h => ?_) (fun cdv A outer s H vs Q E hr h => ?_)
  · obtain ⟨a, ns, rfl, _⟩ := h
    rfl
  · obtain ⟨a, ns, rfl, hS, hl, q⟩ := h
    refine ⟨_, (pss_cons (ps_set (i := 1) sc_law_open.nd rfl (.inl rfl) (pe_callTy call_list_of (by rfl) T.n_list (by decide +kernel) (pa_cons (pe_slice sl_list (pv 0) po_none (po_some pe_int)) pa_nil)))
  (pss_cons (ps_if (pt_cmpR op_eq (pe_callB call_len_seq (by rfl) T.n_len PySem.boot_len (pa_cons (pv 1) pa_nil)) pe_int (nomark _)) (pss_one (ps_expr (pe_bm PySem.F.plainAttrs_list PySem.F.slot_list_append PySem.F.type_list_append mt_append (pv 1) (pa_cons pe_int pa_nil)))) pss_nil)
  (pss_one (ps_ret (pe_lst (pa_cons (pv 1) (pa_cons pe_int pa_nil))))))), ?_⟩
    refine ⟨.ref a, rfl, 63, rfl, a, _, rfl, hS, fun p hp => ?_⟩
    rw [cut63 ns hl]
    refine ⟨p, _, rfl, .inl (SqL.of upd_same), fun c hc => ?_⟩
    have ncp : c ≠ p := fun e => by
      rw [e, upd_same] at hc
      cases hc
    have hc0 : H c = none := by rw [upd_ne ncp] at hc; exact hc
    have s1 : Same H (upd (upd H p (.lst (ns.map V.int))) c (.lst (ns.map V.int))) := (same_upd hp).trans (same_upd hc)
    refine ⟨.ref c, rfl, c, _, rfl, .inl (SqL.of upd_same), rfl, _, rfl, ite2 (fun e => ?_) (fun e => ?_)⟩
    · have e0 : ((ns.map V.int).length : Int) = 0 := V.int.inj (of_decide_eq_true e)
      have e1 : ns = [] := by
        cases ns with
        | nil => rfl
        | cons x r =>
          rw [List.length_map, List.length_cons] at e0
          omega
      subst e1
      refine ⟨.ref c, rfl, .inl ⟨rfl, _, SqL.of upd_same⟩, c, _, _, rfl, rfl, upd_same, szl (by show 0 < 100000; decide), ?_⟩
      rw [upd_upd]
      have s2 : Same H (upd (upd H p (.lst [])) c (.lst [.int 0])) := (same_upd hp).trans (same_upd hc)
      refine ⟨.ref c, rfl, sz (by show 2 ≤ 100000; decide), fun b hb => ?_⟩
      have nbc : b ≠ c := fun e => by
        rw [e, upd_same] at hb
        cases hb
      exact q b c _ (s2.free hb) hc0 (s2.trans (same_upd hb)) ⟨nbc, [0], 0, upd_same, by rw [upd_ne (Ne.symm nbc), upd_same]; rfl, by decide, by decide⟩
    · have h0 : 0 < ns.length := by
        cases ns with
        | nil => exact absurd (decide_eq_true rfl) e
        | cons x r => exact Nat.succ_pos _
      refine ⟨.ref c, rfl, sz (by show 2 ≤ 100000; decide), fun b hb => ?_⟩
      have nbc : b ≠ c := fun e => by
        rw [e, upd_same] at hb
        cases hb
      exact q b c _ (s1.free hb) hc0 (s1.trans (same_upd hb)) ⟨nbc, ns, 0, upd_same, by rw [upd_ne (Ne.symm nbc), upd_same], h0, by omega⟩
theorem nzA : (2147483647 : Int) ≠ 0 := by decide
theorem nzB : (2147483399 : Int) ≠ 0 := by decide
def spPick : Sp := fun vs H Q _ => ∃ (b c : Addr) (G : Hp) (m : Int), vs = [.ref b, .int m] ∧ Wd b c G H ∧ 0 < m ∧ m < 1073741824 ∧
  ∀ (i : Int) (H' : Hp), Wd b c G H' → 0 ≤ i → i < m → Q (.int i) H'
theorem box_cells {b c : Addr} {G H : Hp} {cs cs' : List Int} {k : Int} (nbc : b ≠ c) (x : Wd b c G H) (h : 0 < cs.length) (h' : cs.length ≤ 64) : Wd b c G (upd (upd H b (.lst [.ref c, .int k])) c (.lst (cs.map V.int))) :=
  ⟨⟨nbc, cs, k, by rw [upd_ne nbc, upd_same], upd_same, h, h'⟩, same_mut (same_mut x.gh x.gb) x.gc, x.gb, x.gc⟩
theorem ok_law_pick (T : Txt P K mg) {k : Nat} : FnOk P w K mg base CX0 (k + 1) T.law_pick.f T.law_pick.fd ["_law_box", "_law_many"] spPick := by
  refine T.law_pick.F.ok sc_law_pick (fun vs H Q E h => ?_) (fun cdv A outer s H vs Q E hr h => ?_)
  · obtain ⟨b, c, G, m, rfl, _⟩ := h
    rfl
  · obtain ⟨b, c, G, m, rfl, W, m0, m1, q⟩ := h
    obtain ⟨nbc, cs, k, hb, hc, l0, l1⟩ := W.box
    refine ⟨_, (pss_cons (ps_set (i := 2) sc_law_pick.nd rfl (.inl rfl) (pe_ix ix_list (pv 0) pe_int (fun _ _ => rfl)))
  (pss_cons (ps_set (i := 3) sc_law_pick.nd rfl (.inl rfl) (pe_ix ix_list (pv 0) pe_int (fun _ _ => rfl)))
  (pss_cons (ps_asg (pe_op op_add (pv 3) pe_int) (pg_sub (pv 0) pe_int set_list))
  (pss_cons (ps_set (i := 4) sc_law_pick.nd rfl (.inl rfl) (pe_op op_modN (pv 3) (pe_callB call_len_seq (by rfl) T.n_len PySem.boot_len (pa_cons (pv 2) pa_nil))))
  (pss_cons (ps_set (i := 5) sc_law_pick.nd rfl (.inl rfl) (pe_ix ix_list (pv 2) (pv 4) (fun _ _ => rfl)))
  (pss_cons (ps_if (pt_cmpR op_ge (pv 5) (pe_op op_pow pe_int pe_int) (nomark _)) (pss_cons (ps_asg (pe_op op_fdivN (pv 5) (pv 1)) (pg_sub (pv 2) (pv 4) set_list))
  (pss_one (ps_ret (pe_op op_modN (pe_callTy call_int1 (by rfl) T.n_int (by decide +kernel) (pa_cons (pv 5) pa_nil)) (pv 1))))) pss_nil)
  (pss_cons (ps_set (i := 6) sc_law_pick.nd rfl (.inl rfl) (pe_op op_modN (pe_callTy call_int1 (by rfl) T.n_int (by decide +kernel) (pa_cons (pe_op op_mul (pe_op op_add (pe_op op_add (pe_op op_modN (pe_callTy call_int1 (by rfl) T.n_int (by decide +kernel) (pa_cons (pv 5) pa_nil)) pe_int) (pe_op op_mul pe_int (pv 3))) pe_int) pe_int) pa_nil)) pe_int))
  (pss_cons (ps_set (i := 6) sc_law_pick.nd rfl (.inl rfl) (pe_op op_modN (pe_callTy call_int1 (by rfl) T.n_int (by decide +kernel) (pa_cons (pe_op op_mul (pv 6) (pe_op op_add (pe_op op_fdivN (pv 6) pe_int) pe_int)) pa_nil)) pe_int))
  (pss_cons (ps_set (i := 6) sc_law_pick.nd rfl (.inl rfl) (pe_op op_modN (pe_callTy call_int1 (by rfl) T.n_int (by decide +kernel) (pa_cons (pe_op op_mul (pv 6) (pe_op op_add (pe_op op_fdivN (pv 6) pe_int) pe_int)) pa_nil)) pe_int))
  (pss_one (ps_ret (pe_op op_modN (pe_callTy call_int1 (by rfl) T.n_int (by decide +kernel) (pa_cons (pe_op op_fdivN (pv 6) pe_int) pa_nil)) (pv 1))))))))))))), ?_⟩
    refine ⟨.ref b, rfl, b, _, 0, _, rfl, rfl, SqL.of hb, rfl, ?_⟩
    refine ⟨.ref b, rfl, b, _, 1, _, rfl, rfl, SqL.of hb, rfl, ?_⟩
    refine ⟨.int k, rfl, k, 1, rfl, rfl, .ref b, rfl, b, _, 1, 1, rfl, rfl, hb, rfl, ?_⟩
    show tSeq _ _ _ _ (upd H b (.lst [.ref c, .int (k + 1)]))
    have hc1 : upd H b (.lst [.ref c, .int (k + 1)]) c = some (.lst (cs.map V.int)) := by rw [upd_ne (Ne.symm nbc)]; exact hc
    have W1 : Wd b c G (upd H b (.lst [.ref c, .int (k + 1)])) := ⟨⟨nbc, cs, k + 1, upd_same, hc1, l0, l1⟩, same_mut W.gh W.gb, W.gb, W.gc⟩
    have ln : (0 : Int) < ((cs.map V.int).length : Int) := by rw [List.length_map]; omega
    refine ⟨.int k, rfl, .ref c, rfl, c, _, rfl, .inl (SqL.of hc1), k, _, rfl, rfl, by omega, ?_⟩
    have j0 := fm0 (a := k) ln
    have j1 := fm1 (a := k) ln
    dsimp only
    generalize ej : k.fmod ((cs.map V.int).length : Int) = j at j0 j1 ⊢
    have j2 : j < (cs.length : Int) := by rw [List.length_map] at j1; exact j1
    obtain ⟨x, hx⟩ := at_ints j0 j2
    refine ⟨.ref c, rfl, .int j, rfl, c, _, j, .int x, rfl, rfl, SqL.of hc1, hx, ?_⟩
    refine ⟨.int x, rfl, 10, 18, rfl, rfl, ⟨by decide, by decide, by decide⟩, x, _, rfl, rfl, _, rfl, ite2 (fun _ => ?_) (fun _ => ?_)⟩
    · refine ⟨.int x, rfl, .int m, rfl, x, m, rfl, rfl, ⟨by omega, by omega⟩, .ref c, rfl, .int j, rfl, c, _, j, j.toNat, rfl, rfl, hc1, ix_in j0 j1, ?_⟩
      refine ⟨.int x, rfl, .inl ⟨x, rfl, .int m, rfl, x, m, rfl, rfl, by omega, ?_⟩⟩
      refine q _ _ ?_ (fm0 m0) (fm1 m0)
      rw [← List.map_set]
      exact ⟨⟨nbc, cs.set j.toNat (x.fdiv m), k + 1, by rw [upd_ne nbc, upd_same], upd_same, by rw [List.length_set]; exact l0, by rw [List.length_set]; exact l1⟩, same_mut W1.gh W1.gc, W1.gb, W1.gc⟩
    · -- the number is mixed
      refine ⟨.int x, rfl, .inl ⟨x, rfl, x, 2147483647, rfl, rfl, nzA, .int k, rfl, 7919, k, rfl, rfl, .inl ⟨by decide, by decide⟩, _, _, rfl, rfl, _, 1, rfl, rfl, _, 48271, rfl, rfl, .inr ⟨by decide, by decide⟩, .inl ⟨_, rfl, _, 2147483647, rfl, rfl, nzA, ?_⟩⟩⟩
      have a0 := fm0 (a := (x.fmod 2147483647 + 7919 * k + 1) * 48271) (b := 2147483647) (by decide)
      have a1 := fm1 (a := (x.fmod 2147483647 + 7919 * k + 1) * 48271) (b := 2147483647) (by decide)
      dsimp only
      generalize ((x.fmod 2147483647 + 7919 * k + 1) * 48271).fmod 2147483647 = y at a0 a1 ⊢
      refine ⟨.int y, rfl, .int y, rfl, y, 1009, rfl, rfl, ⟨by decide, by decide⟩, _, 69621, rfl, rfl, y, _, rfl, rfl, .inl ⟨by omega, by omega⟩, .inl ⟨_, rfl, _, 2147483647, rfl, rfl, nzA, ?_⟩⟩
      have b0 := fm0 (a := y * (y.fdiv 1009 + 69621)) (b := 2147483647) (by decide)
      have b1 := fm1 (a := y * (y.fdiv 1009 + 69621)) (b := 2147483647) (by decide)
      dsimp only
      generalize (y * (y.fdiv 1009 + 69621)).fmod 2147483647 = z at b0 b1 ⊢
      refine ⟨.int z, rfl, .int z, rfl, z, 2003, rfl, rfl, ⟨by decide, by decide⟩, _, 40692, rfl, rfl, z, _, rfl, rfl, .inl ⟨by omega, by omega⟩, .inl ⟨_, rfl, _, 2147483399, rfl, rfl, nzB, ?_⟩⟩
      dsimp only
      generalize (z * (z.fdiv 2003 + 40692)).fmod 2147483399 = u
      refine ⟨.int u, rfl, u, 7, rfl, rfl, ⟨by decide, by decide⟩, .inl ⟨_, rfl, .int m, rfl, _, m, rfl, rfl, by omega, ?_⟩⟩
      exact q _ _ W1 (fm0 m0) (fm1 m0)
def spNumber : Sp := fun vs H Q _ => ∃ (b c : Addr) (G : Hp), vs = [.ref b] ∧ Wd b c G H ∧ ∀ (i : Int) (H' : Hp), Wd b c G H' → -100000000 * 10 ^ 32 ≤ i → i ≤ 100000001 * 10 ^ 32 → Q (.int i) H'
theorem ok_law_number (T : Txt P K mg) {k : Nat} : FnOk P w K mg base CX0 (k + 2) T.law_number.f T.law_number.fd ["_law_box"] spNumber := by
  have G_law_pick : FnOk P w K mg base CX0 (k + 1) T.law_pick.f T.law_pick.fd ["_law_box", "_law_many"] spPick := ok_law_pick T
  refine T.law_number.F.ok sc_law_number (fun vs H Q E h => ?_) (fun cdv A outer s H vs Q E hr h => ?_)
  · obtain ⟨b, c, G, rfl, _⟩ := h
    rfl
  · obtain ⟨b, c, G, rfl, W, q⟩ := h
    refine ⟨_, (pss_cons (ps_set (i := 1) sc_law_number.nd rfl (.inl rfl) (pe_call G_law_pick (hr.mono (by omega)) (by rfl) T.law_pick.g T.law_pick.F.kp T.law_pick.b .nil pass0 (pa_cons (pv 0) (pa_cons pe_int pa_nil))))
  (pss_cons (ps_if (pt_cmpR op_lt (pv 1) pe_int (nomark _)) (pss_one (ps_ret (pe_op op_sub (pe_call G_law_pick (hr.mono (by omega)) (by rfl) T.law_pick.g T.law_pick.F.kp T.law_pick.b .nil pass0 (pa_cons (pv 0) (pa_cons pe_int pa_nil))) pe_int))) pss_nil)
  (pss_cons (ps_if (pt_cmpR op_eq (pv 1) pe_int (nomark _)) (pss_one (ps_ret (pe_op op_sub (pe_call G_law_pick (hr.mono (by omega)) (by rfl) T.law_pick.g T.law_pick.F.kp T.law_pick.b .nil pass0 (pa_cons (pv 0) (pa_cons pe_int pa_nil))) pe_int))) pss_nil)
  (pss_cons (ps_if (pt_cmpR op_eq (pv 1) pe_int (nomark _)) (pss_one (ps_ret (pe_op op_sub (pe_call G_law_pick (hr.mono (by omega)) (by rfl) T.law_pick.g T.law_pick.F.kp T.law_pick.b .nil pass0 (pa_cons (pv 0) (pa_cons pe_int pa_nil))) pe_int))) pss_nil)
  (pss_one (ps_ret (pe_op op_add (pe_op op_mul (pe_op op_sub (pe_call G_law_pick (hr.mono (by omega)) (by rfl) T.law_pick.g T.law_pick.F.kp T.law_pick.b .nil pass0 (pa_cons (pv 0) (pa_cons pe_int pa_nil))) pe_int) (pe_op op_pow pe_int pe_int)) (pe_call G_law_pick (hr.mono (by omega)) (by rfl) T.law_pick.g T.law_pick.F.kp T.law_pick.b .nil pass0 (pa_cons (pv 0) (pa_cons pe_int pa_nil)))))))))), ?_⟩
    refine ⟨.ref b, rfl, b, c, G, 8, rfl, W, by decide, by decide, fun i H1 W1 i0 i1 => ?_⟩
    refine ⟨.int i, rfl, i, 5, rfl, rfl, _, rfl, ite2 (fun _ => ?_) (fun _ => ?_)⟩
    · refine ⟨.ref b, rfl, b, c, G, 9, rfl, W1, by decide, by decide, fun j H2 W2 j0 j1 => ?_⟩
      exact ⟨j, 4, rfl, rfl, q _ _ W2 (by omega) (by omega)⟩
    · refine ⟨.int i, rfl, rfl, _, rfl, ite2 (fun _ => ?_) (fun _ => ?_)⟩
      · refine ⟨.ref b, rfl, b, c, G, 41, rfl, W1, by decide, by decide, fun j H2 W2 j0 j1 => ?_⟩
        exact ⟨j, 20, rfl, rfl, q _ _ W2 (by omega) (by omega)⟩
      · refine ⟨.int i, rfl, rfl, _, rfl, ite2 (fun _ => ?_) (fun _ => ?_)⟩
        · refine ⟨.ref b, rfl, b, c, G, 2000001, rfl, W1, by decide, by decide, fun j H2 W2 j0 j1 => ?_⟩
          exact ⟨j, 1000000, rfl, rfl, q _ _ W2 (by omega) (by omega)⟩
        · refine ⟨.ref b, rfl, b, c, G, 200000001, rfl, W1, by decide, by decide, fun j H2 W2 j0 j1 => ?_⟩
          refine ⟨j, 100000000, rfl, rfl, 10, 32, rfl, rfl, ⟨by decide, by decide, by decide⟩, _, _, rfl, rfl, .inl ⟨by omega, by omega⟩, ?_⟩
          refine ⟨.ref b, rfl, b, c, G, 100000000, rfl, W2, by decide, by decide, fun l H3 W3 l0 l1 => ?_⟩
          refine ⟨_, l, rfl, rfl, q _ _ W3 ?_ ?_⟩
          · show -100000000 * 10 ^ 32 ≤ (j - 100000000) * (10 ^ 32 : Int) + l
            omega
          · show (j - 100000000) * (10 ^ 32 : Int) + l ≤ 100000001 * 10 ^ 32
            omega
end
end Pl

namespace Pl
open PySem L2
def inB (t : Nat) (x : Int) : Prop := -100000002 * 10 ^ 32 - 10 * (t : Int) ≤ x ∧ x ≤ 100000002 * 10 ^ 32 + 10 * (t : Int)
theorem inB.mono {t u : Nat} {x : Int} (h : inB t x) (l : t ≤ u) : inB u x := ⟨by have := h.1; omega, by have := h.2; omega⟩
theorem inB.big {t : Nat} {x : Int} (h : inB t x) (l : t ≤ 1000) : x.natAbs < 2 ^ 200 := by
  obtain ⟨h1, h2⟩ := h
  have : x.natAbs ≤ 200000000 * 10 ^ 32 := by omega
  exact Nat.lt_of_le_of_lt this (by decide)
section
variable {P : Program} {w : World} {K : PySem.W.Frag} {mg : Str → Option Value} {base : Heap}
/-- _law_moments: a list of distinct numbers -/
def spMomB : Sp := fun vs H Q _ => ∃ (b c : Addr) (G : Hp) (m : Nat), vs = [.ref b, .int (m : Nat)] ∧ Wd b c G H ∧ m ≤ 100 ∧
  ∀ (a : Addr) (ns : List Int) (H' : Hp), G a = none → Wd b c (upd G a (.lst (ns.map V.int))) H' → ns.Nodup → ns.length ≤ m → (∀ x ∈ ns, inB m x) → Q (.ref a) H'
theorem ok_law_momB (T : Txt P K mg) {k : Nat} : FnOk P w K mg base CX0 (k + 3) T.law_moments.f T.law_moments.fd ["_law_box", "_law_most"] spMomB := by
  have G_law_pick : FnOk P w K mg base CX0 (k + 2) T.law_pick.f T.law_pick.fd ["_law_box", "_law_many"] spPick := ok_law_pick T
  have G_law_number : FnOk P w K mg base CX0 (k + 2) T.law_number.f T.law_number.fd ["_law_box"] spNumber := ok_law_number T
  refine T.law_moments.F.ok (k := k + 2) sc_law_moments (fun vs H Q E h => ?_) (fun cdv A outer s H vs Q E hr h => ?_)
  · obtain ⟨b, c, G, m, rfl, _⟩ := h
    rfl
  · obtain ⟨b, c, G, m, rfl, W, m2, q⟩ := h
    refine ⟨_, (pss_cons (ps_set (i := 2) sc_law_moments.nd rfl (.inl rfl) (pe_lst pa_nil))
  (pss_cons (ps_set (i := 3) sc_law_moments.nd rfl (.inl rfl) (pe_call G_law_number (hr.mono (by omega)) (by rfl) T.law_number.g T.law_number.F.kp T.law_number.b .nil pass0 (pa_cons (pv 0) pa_nil)))
  (pss_cons (ps_for PassesOwn.never rfl (pi_range1 (by rfl) T.n_range (pa_cons (pe_call G_law_pick (hr.mono (by omega)) (by rfl) T.law_pick.g T.law_pick.F.kp T.law_pick.b .nil pass0 (pa_cons (pv 0) (pa_cons (pe_op op_add (pv 1) pe_int) pa_nil))) pa_nil)) (pg_name (i := 4) sc_law_moments.nd rfl (.inl rfl))
   (pss_cons (ps_if (pt_cmpR op_eq (pe_call G_law_pick (hr.mono (by omega)) (by rfl) T.law_pick.g T.law_pick.F.kp T.law_pick.b .nil pass0 (pa_cons (pv 0) (pa_cons pe_int pa_nil))) pe_int (nomark _)) (pss_one (ps_set (i := 3) sc_law_moments.nd rfl (.inl rfl) (pe_call G_law_number (hr.mono (by omega)) (by rfl) T.law_number.g T.law_number.F.kp T.law_number.b .nil pass0 (pa_cons (pv 0) pa_nil)))) (pss_one (ps_set (i := 3) sc_law_moments.nd rfl (.inl rfl) (pe_op op_sub (pe_op op_add (pv 3) (pe_call G_law_pick (hr.mono (by omega)) (by rfl) T.law_pick.g T.law_pick.F.kp T.law_pick.b .nil pass0 (pa_cons (pv 0) (pa_cons pe_int pa_nil)))) pe_int))))
  (pss_one (ps_if (pt_cmpR op_notIn_seq (pv 3) (pv 2) (by with_unfolding_all rfl)) (pss_one (ps_expr (pe_bm PySem.F.plainAttrs_list PySem.F.slot_list_append PySem.F.type_list_append mt_append (pv 2) (pa_cons (pv 3) pa_nil)))) pss_nil))))
  (pss_one (ps_ret (pv 2)))))), ?_⟩
    refine ⟨Nat.zero_le _, fun p hp => ?_⟩
    obtain ⟨pb, pc⟩ := W.nb hp
    have gp : G p = none := W.gh.free hp
    have W1 : Wd b c (upd G p (.lst [])) (upd H p (.lst [])) := (W.mut gp pb pc).keep upd_same pb pc
    refine ⟨_, rfl, b, c, _, rfl, W1, fun x0 H1 W2 xa xb => ?_⟩
    refine ⟨_, rfl, _, rfl, _, _, rfl, rfl, b, c, _, (m : Int) + 1, rfl, W2, by omega, by omega, fun r H2 W3 r0 r1 => ?_⟩
    refine ⟨r, rfl, by omega, by omega, ?_⟩
    refine for_range (lo := 0) (n := r.toNat) (fun t σ H' => ∃ (ns : List Int) (x : Int) (y4 : Option V), σ = [some (.ref b), some (.int (m : Nat)), some (.ref p), some (.int x), y4] ∧ Wd b c (upd G p (.lst (ns.map V.int))) H' ∧ ns.Nodup ∧ ns.length ≤ t ∧ inB t x ∧ ∀ y ∈ ns, inB t y)
      ⟨[], x0, none, rfl, W3, List.nodup_nil, Nat.le_refl _, ⟨by omega, by omega⟩, fun y h => nomatch h⟩ (fun t σ H' ht p2 => ?_) (fun σ H' p2 => ?_)
    · obtain ⟨ns, x, y4, rfl, W4, nd, hlen, hx, hys⟩ := p2
      refine ⟨_, rfl, b, c, _, 3, rfl, W4, by omega, by omega, fun i H5 W5 _ _ => ?_⟩
      refine ⟨rfl, _, rfl, ite2 (fun _ => ?_) (fun _ => ?_)⟩
      · refine ⟨_, rfl, b, c, _, rfl, W5, fun x1 H6 W6 xc xd => ?_⟩
        have hp6 := W6.gh _ _ upd_same
        refine ⟨.int x1, rfl, .ref p, rfl, p, ns.map V.int, rfl, .inl (SqL.of hp6), rfl, flat_ints ns, _, rfl, ?_⟩
        rw [inV_ints]
        by_cases hin : x1 ∈ ns
        · exact iF (by rw [decide_eq_true hin]; rfl) ⟨ns, x1, _, rfl, W6, nd, by omega, ⟨by omega, by omega⟩, fun y h => (hys y h).mono (Nat.le_succ t)⟩
        · refine iT (by rw [decide_eq_false hin]; rfl) ⟨.ref p, rfl, .inl ⟨rfl, _, SqL.of hp6⟩, .int x1, rfl, p, _, _, rfl, rfl, hp6, szl (by rw [List.length_map]; have : t < r.toNat := ht; omega), ?_⟩
          have e : ns.map V.int ++ [V.int x1] = (ns ++ [x1]).map V.int := by rw [List.map_append]; rfl
          rw [e]
          exact ⟨ns ++ [x1], x1, _, rfl, ((W6.weak (same_upd gp)).mut gp pb pc).keep upd_same pb pc, List.nodup_append.mpr ⟨nd, by simp, fun a ha b hb => by cases List.mem_singleton.mp hb; exact fun z => hin (z ▸ ha)⟩, by rw [List.length_append]; show ns.length + 1 ≤ t + 1; omega, ⟨by omega, by omega⟩, fun y h => (List.mem_append.mp h).elim (fun h => (hys y h).mono (Nat.le_succ t)) (fun h => by cases List.mem_singleton.mp h; exact ⟨by omega, by omega⟩)⟩
      · refine ⟨_, rfl, _, rfl, b, c, _, 7, rfl, W5, by omega, by omega, fun j H6 W6 j0 j1 => ?_⟩
        refine ⟨_, _, rfl, rfl, _, _, rfl, rfl, ?_⟩
        have hp6 := W6.gh _ _ upd_same
        refine ⟨.int (x + j - 2), rfl, .ref p, rfl, p, ns.map V.int, rfl, .inl (SqL.of hp6), rfl, flat_ints ns, _, rfl, ?_⟩
        rw [inV_ints]
        by_cases hin : (x + j - 2) ∈ ns
        · exact iF (by rw [decide_eq_true hin]; rfl) ⟨ns, x + j - 2, _, rfl, W6, nd, by omega, ⟨by have := hx.1; omega, by have := hx.2; omega⟩, fun y h => (hys y h).mono (Nat.le_succ t)⟩
        · refine iT (by rw [decide_eq_false hin]; rfl) ⟨.ref p, rfl, .inl ⟨rfl, _, SqL.of hp6⟩, .int (x + j - 2), rfl, p, _, _, rfl, rfl, hp6, szl (by rw [List.length_map]; have : t < r.toNat := ht; omega), ?_⟩
          have e : ns.map V.int ++ [V.int (x + j - 2)] = (ns ++ [x + j - 2]).map V.int := by rw [List.map_append]; rfl
          rw [e]
          exact ⟨ns ++ [x + j - 2], x + j - 2, _, rfl, ((W6.weak (same_upd gp)).mut gp pb pc).keep upd_same pb pc, List.nodup_append.mpr ⟨nd, by simp, fun a ha b hb => by cases List.mem_singleton.mp hb; exact fun z => hin (z ▸ ha)⟩, by rw [List.length_append]; show ns.length + 1 ≤ t + 1; omega, ⟨by have := hx.1; omega, by have := hx.2; omega⟩, fun y h => (List.mem_append.mp h).elim (fun h => (hys y h).mono (Nat.le_succ t)) (fun h => by cases List.mem_singleton.mp h; exact ⟨by have := hx.1; omega, by have := hx.2; omega⟩)⟩
    · obtain ⟨ns, x, y4, rfl, W4, nd, hlen, hx, hys⟩ := p2
      exact ⟨.ref p, rfl, q p ns H' gp W4 nd (by omega) (fun y h => (hys y h).mono (by show r.toNat ≤ m; omega))⟩
end
section
variable {P : Program} {w : World} {K : PySem.W.Frag} {mg : Str → Option Value} {base : Heap}
def spRowB : Sp := fun vs H Q _ => ∃ (b c nl : Addr) (G : Hp) (m : Nat) (zs : List Str), vs = [.ref b, .ref nl, .int (m : Nat)] ∧ Wd b c G H ∧ G nl = some (.lst (zs.map V.str)) ∧ m ≤ 100 ∧ zs.Nodup ∧ zs.length ≤ 10 ∧
  ∀ (d : Addr) (G' H' : Hp) (kvs : List (Key × V)) (rs : Rws), Same G G' → Wd b c G' H' → G' d = some (.dK kvs) → EntsAt G' kvs rs → rs.map (·.1) = zs → (∀ r ∈ rs, r.2.Nodup ∧ r.2.length ≤ m ∧ ∀ x ∈ r.2, inB m x) → Q (.ref d) H'
theorem ok_law_rowB (T : Txt P K mg) {k : Nat} : FnOk P w K mg base CX0 (k + 4) T.law_rows.f T.law_rows.fd ["_law_box", "_law_names_here", "_law_most"] spRowB := by
  have G_law_moments : FnOk P w K mg base CX0 (k + 3) T.law_moments.f T.law_moments.fd ["_law_box", "_law_most"] spMomB := ok_law_momB T
  refine T.law_rows.F.ok (k := k + 3) sc_law_rows (fun vs H Q E h => ?_) (fun cdv A outer s H vs Q E hr h => ?_)
  · obtain ⟨b, c, nl, G, m, zs, rfl, _⟩ := h
    rfl
  · obtain ⟨b, c, nl, G, m, zs, rfl, W, hn, m2, hnd, hz, q⟩ := h
    refine ⟨_, (pss_cons (ps_set (i := 3) sc_law_rows.nd rfl (.inl rfl) pe_dnewK)
  (pss_cons (ps_for PassesOwn.never rfl (pi_list (pv 1)) (pg_name (i := 4) sc_law_rows.nd rfl (.inl rfl))
   (pss_one (ps_asg (pe_call G_law_moments (hr.mono (by omega)) (by rfl) T.law_moments.g T.law_moments.F.kp T.law_moments.b .nil pass0 (pa_cons (pv 0) (pa_cons (pv 2) pa_nil))) (pg_sub (pv 3) (pv 4) (set_dict (hu_of hr))))))
  (pss_one (ps_ret (pv 3))))), ?_⟩
    intro d hd
    obtain ⟨db, dc⟩ := W.nb hd
    have gd : G d = none := W.gh.free hd
    have W1 : Wd b c (upd G d (.dK [])) (upd H d (.dK [])) := (W.mut gd db dc).keep upd_same db dc
    have hn1 : upd H d (.dK []) nl = some (.lst (zs.map V.str)) := W1.gh _ _ (by rw [upd_ne (ne_of_none hn gd)]; exact hn)
    refine ⟨.ref nl, rfl, nl, rfl, ⟨_, SqL.of hn1⟩, ?_⟩
    refine for_list (K := K) (a := nl) (xs := zs.map V.str) (fun i σ H' => ∃ (G1 : Hp) (kvs : List (Key × V)) (rs : Rws) (y4 : Option V), σ = [some (.ref b), some (.ref nl), some (.int (m : Nat)), some (.ref d), y4] ∧ Same G G1 ∧ G1 d = none ∧ Wd b c (upd G1 d (.dK kvs)) H' ∧
      EntsAt G1 kvs rs ∧ rs.map (·.1) = zs.take i ∧ ∀ r ∈ rs, r.2.Nodup ∧ r.2.length ≤ m ∧ ∀ x ∈ r.2, inB m x) ⟨G, [], [], none, rfl, Same.refl _, gd, W1, ⟨rfl, fun i kv r h => by simp at h⟩, rfl, fun r h => nomatch h⟩ (fun i σ H' _ pp => ?_) (fun i x σ H' hx pp => ?_) (fun σ H' pp => ?_)
    · obtain ⟨G1, kvs, rs, y4, _, s1, g1, W2, _⟩ := pp
      exact SqL.of (W2.gh _ _ (by rw [upd_ne (ne_of_none (s1 _ _ hn) g1)]; exact s1 _ _ hn))
    · obtain ⟨G1, kvs, rs, y4, rfl, s1, g1, W2, he, hk, hg⟩ := pp
      obtain ⟨z, hzi, rfl⟩ : ∃ z, zs[i]? = some z ∧ x = V.str z := by
        rw [List.getElem?_map] at hx
        cases e : zs[i]? with
        | none => rw [e] at hx; cases hx
        | some z => rw [e] at hx; exact ⟨z, rfl, (Option.some.inj hx).symm⟩
      refine ⟨.ref b, rfl, .int (m : Nat), rfl, b, c, _, m, rfl, W2, m2, fun a ns H3 ga W3 nd hl hb => ?_⟩
      have nad : a ≠ d := fun e => by rw [e, upd_same] at ga; cases ga
      have ga1 : G1 a = none := by rw [upd_ne nad] at ga; exact ga
      have hd3 : H3 d = some (.dK kvs) := W3.gh _ _ (by rw [upd_ne nad.symm, upd_same])
      have hlen : kvs.length ≤ 10 := by
        have := congrArg List.length hk
        rw [List.length_map, List.length_take] at this
        rw [he.1]
        omega
      refine ⟨.ref d, rfl, .str z, rfl, d, _, rfl, DPut.k (k := .inr z) hd3 (szl (by omega)), ?_⟩
      have hnew : ∀ kv ∈ kvs, kv.1 ≠ .inr z := fun kv hkv e => by
        obtain ⟨r, hr0, e2⟩ := he.keys kv hkv
        rw [e2] at e
        have e3 : r.1 = z := Sum.inr.inj e
        have hm : z ∈ zs.take i := by rw [← hk, ← e3]; exact List.mem_map.mpr ⟨r, hr0, rfl⟩
        obtain ⟨j, hj⟩ := List.mem_iff_getElem?.mp hm
        have hji : j < i := by
          have := (List.getElem?_eq_some_iff.mp hj).1
          rw [List.length_take] at this
          omega
        rw [List.getElem?_take_of_lt hji] at hj
        have hl1 := (List.getElem?_eq_some_iff.mp hj)
        have hl2 := (List.getElem?_eq_some_iff.mp hzi)
        exact List.pairwise_iff_getElem.mp hnd j i hl1.1 hl2.1 hji (hl1.2.trans hl2.2.symm)
      rw [putK_new hnew]
      have sA : Same (upd G1 a (.lst (ns.map V.int))) (upd (upd G1 d (.dK kvs)) a (.lst (ns.map V.int))) := fun y o e => by
        by_cases ya : y = a
        · subst ya; rw [upd_same] at e ⊢; exact e
        · rw [upd_ne ya] at e ⊢
          rw [upd_ne (ne_of_none e g1)]
          exact e
      have gd1 : upd G1 a (.lst (ns.map V.int)) d = none := by rw [upd_ne nad.symm]; exact g1
      refine ⟨upd G1 a (.lst (ns.map V.int)), _, rs ++ [(z, ns)], _, rfl, s1.trans (same_upd ga1), gd1, ((W3.weak sA).mut gd1 db dc).keep upd_same db dc, (he.same (same_upd ga1)).snoc upd_same, ?_, fun r hr0 => ?_⟩
      · rw [List.map_append, hk, List.take_add_one, hzi]
        rfl
      · rcases List.mem_append.mp hr0 with h | h
        · exact hg r h
        · cases List.mem_singleton.mp h
          exact ⟨nd, hl, hb⟩
    · obtain ⟨G1, kvs, rs, y4, rfl, s1, g1, W2, he, hk, hg⟩ := pp
      rw [List.length_map, List.take_of_length_le (Nat.le_refl _)] at hk
      exact ⟨.ref d, rfl, q d _ H' kvs rs (s1.trans (same_upd g1)) W2 upd_same (he.same (same_upd g1)) hk hg⟩
end
end Pl

namespace Pl
open PySem L2
section
variable {P : Program} {w : World} {K : PySem.W.Frag} {mg : Str → Option Value} {base : Heap}
theorem valV_at {H : Hp} : ∀ {kvs : List (Key × V)} {rs : Rws} (i : Nat) (kv : Key × V), kvs[i]? = some kv → (kvs.map (·.1)).Nodup → valV kvs kv.1 = some kv.2
  | [], _, i, kv, h, _ => by simp at h
  | x :: kvs, rs, 0, kv, h, _ => by
    cases h
    exact valV_pos rfl
  | x :: kvs, rs, i + 1, kv, h, nd => by
    have h' : kvs[i]? = some kv := h
    rw [List.map_cons, List.nodup_cons] at nd
    have hne : x.1 ≠ kv.1 := fun e => nd.1 (e ▸ List.mem_map.mpr ⟨kv, List.mem_of_getElem? h', rfl⟩)
    have := valV_at (H := H) (rs := rs) i kv h' nd.2
    simp only [valV, List.find?_cons] at this ⊢
    rw [show decide (x.1 = kv.1) = false from decide_eq_false hne]
    exact this
/-- _law_copy -/
def spCopy : Sp := fun vs H Q _ => ∃ (d : Addr) (kvs : List (Key × V)) (rs : Rws), vs = [.ref d] ∧ H d = some (.dK kvs) ∧ EntsAt H kvs rs ∧ (rs.map (·.1)).Nodup ∧ rs.length ≤ 10 ∧ (∀ r ∈ rs, r.2.length ≤ 300) ∧
  ∀ (e : Addr) (H' : Hp) (kvs' : List (Key × V)), Same H H' → H e = none → H' e = some (.dK kvs') → EntsAt H' kvs' rs → (∀ kv ∈ kvs', ∃ a, kv.2 = .ref a ∧ H a = none) → Q (.ref e) H'
theorem ok_law_copy (T : Txt P K mg) {k : Nat} : FnOk P w K mg base CX0 (k + 1) T.law_copy.f T.law_copy.fd ["_law_rows_here"] spCopy := by
  refine T.law_copy.F.ok (k := k) sc_law_copy (fun vs H Q E h => ?_) (fun cdv A outer s H vs Q E hr h => ?_)
  · obtain ⟨d, kvs, rs, rfl, _⟩ := h
    rfl
  · obtain ⟨d, kvs, rs, rfl, hd, he, hnd, hz, hl, q⟩ := h
    refine ⟨_, (pss_cons (ps_set (i := 1) sc_law_copy.nd rfl (.inl rfl) pe_dnewK)
  (pss_cons (ps_lock (ps_for PassesOwn.never rfl (pi_keys (pv 0)) (pg_name (i := 2) sc_law_copy.nd rfl (.inl rfl))
   (pss_one (ps_asg (pe_callTy call_list_of (by rfl) T.n_list (by decide +kernel) (pa_cons (pe_dget (hu_of hr) (pv 0) (pv 2) (fun _ _ => rfl)) pa_nil)) (pg_sub (pv 1) (pv 2) (set_dict (hu_of hr)))))))
  (pss_one (ps_ret (pv 1))))), ?_⟩
    intro e he0
    have nde : d ≠ e := ne_of_none hd he0
    have hd1 : upd H e (.dK []) d = some (.dK kvs) := by rw [upd_ne nde]; exact hd
    have knd : (kvs.map (·.1)).Nodup := by
      have ek : kvs.map (·.1) = (rs.map (·.1)).map Sum.inr := by
        refine List.ext_getElem? fun i => ?_
        rw [List.getElem?_map, List.getElem?_map, List.getElem?_map]
        by_cases hi : i < kvs.length
        · have h1 : kvs[i]? = some kvs[i] := List.getElem?_eq_getElem hi
          have h2 : rs[i]? = some (rs[i]'(by rw [← he.1]; exact hi)) := List.getElem?_eq_getElem _
          rw [h1, h2]
          obtain ⟨e1, _⟩ := he.2 i _ _ h1 h2
          show some (kvs[i].1) = some (Sum.inr _)
          rw [e1]
        · rw [List.getElem?_eq_none (by omega), List.getElem?_eq_none (by rw [← he.1]; omega)]
          rfl
      rw [ek]
      exact List.Pairwise.map _ (fun a b h z => h (Sum.inr.inj z)) hnd
    refine ⟨d, _, hd1, trivial, fun od => ?_⟩
    refine ⟨.ref d, rfl, d, od, rfl, .inl ⟨kvs, upd_same, ?_⟩⟩
    refine for_it (walk_keys (d := d) (o := od) (kvs := kvs)) (fun i σ H' => ∃ (kvs' : List (Key × V)) (y2 : Option V), σ = [some (.ref d), some (.ref e), y2] ∧ (∀ b o, b ≠ d → H b = some o → H' b = some o) ∧ H' d = some (.frz od (.dK kvs)) ∧
      H' e = some (.dK kvs') ∧ EntsAt H' kvs' (rs.take i) ∧ ∀ kv ∈ kvs', ∃ a, kv.2 = .ref a ∧ H a = none) ?_ (fun i σ H' _ pp => ?_) (fun i x σ H1 H2 hi pp y => ?_) (fun σ H' pp => ?_)
    · exact ⟨[], none, rfl, fun b o nb h => by rw [upd_ne nb, upd_ne (ne_of_none h he0)]; exact h, upd_same, by rw [upd_ne nde.symm, upd_same], ⟨by simp, fun i kv r h => by simp at h⟩, fun kv h => nomatch h⟩
    · obtain ⟨kvs', y2, _, _, h3, _⟩ := pp
      exact h3
    · obtain ⟨kvs', y2, rfl, hb, hdf, hee, hen, hfr⟩ := pp
      obtain ⟨rfl, k0, v0, hk, rfl⟩ := y
      obtain ⟨r, hr0⟩ : ∃ r, rs[i]? = some r := ⟨_, List.getElem?_eq_getElem (by rw [← he.1]; exact hi)⟩
      obtain ⟨k1, a, k2, ha⟩ := he.2 i (k0, v0) r hk hr0
      dsimp only at k1 k2
      subst k1 k2
      have nad : a ≠ d := fun z => by rw [z, hd] at ha; cases ha
      have ha1 : H2 a = some (.lst (r.2.map V.int)) := hb a _ nad ha
      refine ⟨.ref d, rfl, .str r.1, rfl, d, .ref a, rfl, .inl ⟨kvs, .inr r.1, .inr ⟨od, hdf⟩, rfl, (valV_at (H := H) (rs := rs) i _ hk knd).symm⟩, a, _, rfl, .inl (SqL.of ha1), fun p hp => ?_⟩
      have npe : e ≠ p := ne_of_none hee hp
      have npd : d ≠ p := ne_of_none hdf hp
      have hee1 : upd H2 p (.lst (r.2.map V.int)) e = some (.dK kvs') := by rw [upd_ne npe]; exact hee
      have hlk : kvs'.length ≤ 10 := by
        have := hen.1
        rw [List.length_take] at this
        omega
      refine ⟨.ref e, rfl, .str r.1, rfl, e, _, rfl, DPut.k (k := .inr r.1) hee1 (szl (by omega)), ?_⟩
      have hnew : ∀ kv ∈ kvs', kv.1 ≠ .inr r.1 := fun kv hkv z => by
        obtain ⟨r', hr', e2⟩ := hen.keys kv hkv
        rw [e2] at z
        have e3 : r'.1 = r.1 := Sum.inr.inj z
        obtain ⟨j, hj⟩ := List.mem_iff_getElem?.mp hr'
        have hji : j < i := by
          have := (List.getElem?_eq_some_iff.mp hj).1
          rw [List.length_take] at this
          omega
        rw [List.getElem?_take_of_lt hji] at hj
        have a1 : (rs.map (·.1))[j]? = some r'.1 := by rw [List.getElem?_map, hj]; rfl
        have a2 : (rs.map (·.1))[i]? = some r.1 := by rw [List.getElem?_map, hr0]; rfl
        have hl1 := (List.getElem?_eq_some_iff.mp a1)
        have hl2 := (List.getElem?_eq_some_iff.mp a2)
        exact List.pairwise_iff_getElem.mp hnd j i hl1.1 hl2.1 hji (hl1.2.trans (e3.trans hl2.2.symm))
      rw [putK_new hnew]
      have s1 : Same H2 (upd H2 p (.lst (r.2.map V.int))) := same_upd hp
      refine ⟨_, _, rfl, fun b o nb h => ?_, ?_, upd_same, ?_, fun kv hkv => ?_⟩
      · rw [upd_ne (ne_of_none h he0)]
        exact s1 _ _ (hb b o nb h)
      · rw [upd_ne nde]
        exact s1 _ _ hdf
      · rw [List.take_add_one, hr0]
        have hs := (hen.same s1).snoc (z := r.1) (ns := r.2) (a := p) upd_same
        refine ⟨hs.1, fun j kv r' h1 h2 => ?_⟩
        obtain ⟨x1, b', x2, x3⟩ := hs.2 j kv r' h1 h2
        refine ⟨x1, b', x2, ?_⟩
        rw [upd_ne (fun z => by rw [z, hee1] at x3; cases x3)]
        exact x3
      · rcases List.mem_append.mp hkv with h | h
        · exact hfr kv h
        · cases List.mem_singleton.mp h
          refine ⟨p, rfl, ?_⟩
          cases hpo : H p with
          | none => rfl
          | some o =>
            by_cases pd : p = d
            · rw [pd, hdf] at hp; cases hp
            · rw [hb p o pd hpo] at hp; cases hp
    · obtain ⟨kvs', y2, rfl, hb, hdf, hee, hen, hfr⟩ := pp
      rw [he.1, List.take_of_length_le (Nat.le_refl _)] at hen
      refine ⟨hdf, ?_⟩
      have sH : Same H (upd H' d (.dK kvs)) := fun b o h => by
        by_cases nb : b = d
        · subst nb
          rw [upd_same, ← hd, h]
        · rw [upd_ne nb]
          exact hb b o nb h
      refine ⟨.ref e, rfl, q e _ kvs' sH he0 (by rw [upd_ne nde.symm]; exact hee) ⟨hen.1, fun j kv r' h1 h2 => ?_⟩ hfr⟩
      obtain ⟨x1, b', x2, x3⟩ := hen.2 j kv r' h1 h2
      refine ⟨x1, b', x2, ?_⟩
      rw [upd_ne (fun z => by rw [z, hdf] at x3; cases x3)]
      exact x3
/-- _law_world -/
def spWorldL (T : Txt P K mg) : Sp := fun vs H Q _ => ∃ (d : Addr) (kvs : List (Key × V)) (rs : Rws), vs = [.ref d] ∧ H d = some (.dK kvs) ∧ EntsAt H kvs rs ∧ (rs.map (·.1)).Nodup ∧ rs.length ≤ 10 ∧ goodRows rs ∧
  ∀ (x l : Addr) (H' : Hp), Same H H' → H l = none → WoA T H' x l (wRows rs) → Q (.ref x) H'
theorem ok_law_world (T : Txt P K mg) {k : Nat} : FnOk P w K mg base CX0 (k + 6) T.law_world.f T.law_world.fd ["_law_rows_here"] (spWorldL T) := by
  have G_law_copy : FnOk P w K mg base CX0 (k + 1) T.law_copy.f T.law_copy.fd ["_law_rows_here"] spCopy := ok_law_copy T
  have G_World_init : FnR P w K mg base CX0 (k + 4) T.World_init.f (spWInit T) := ok_world_init T
  refine T.law_world.F.ok (k := k + 5) sc_law_world (fun vs H Q E h => ?_) (fun cdv A outer s H vs Q E hr h => ?_)
  · obtain ⟨d, kvs, rs, rfl, _⟩ := h
    rfl
  · obtain ⟨d, kvs, rs, rfl, hd, he, hnd, hz, hg, q⟩ := h
    refine ⟨_, (pss_one (ps_ret (StX.pe_makeR T.mk_World G_World_init (hr.mono (by omega)) (by rfl) T.g_World pass0 (pa_cons (pe_call G_law_copy (hr.mono (by omega)) (by rfl) T.law_copy.g T.law_copy.F.kp T.law_copy.b .nil pass0 (pa_cons (pv 0) pa_nil)) pa_nil)))), ?_⟩
    refine ⟨.ref d, rfl, d, kvs, rs, rfl, hd, he, hnd, hz, fun r hr0 => (hg.1 r hr0).2.2, fun e H1 kvs' s1 _ h1 h2 _ => ?_⟩
    intro x dx hx hdx hne
    have s2 : Same H1 (upd (upd H1 dx (.own x)) x (.ins T.c_World dx [])) := fun c o h => by
      rw [upd_ne (ne_of_none h hx), upd_ne (ne_of_none h hdx)]
      exact h
    exact ⟨H1, x, e, dx, kvs', rs, rfl, s2, hx, upd_same, s2 _ _ h1, h2.same s2, hg, fun H' l s' hl w' => ⟨rfl, q x l H' (s1.trans s') (s1.free (s2.free hl)) w'⟩⟩
end
end Pl

namespace Pl
open PySem L2
section
variable {P : Program} {w : World} {K : PySem.W.Frag} {mg : Str → Option Value} {base : Heap}
/-- _law_pairs: the ordered pairs of rows -/
def spPairsL : Sp := fun vs H Q _ => ∃ (d : Addr) (kvs : List (Key × V)) (rs : Rws), vs = [.ref d] ∧ H d = some (.dK kvs) ∧ EntsAt H kvs rs ∧ (rs.map (·.1)).Nodup ∧ (rs.map fun r => r.2.length).sum ≤ 300 ∧
  ∀ (r : Addr) (H' : Hp) (us : List V), Same H H' → H r = none → H' r = some (.lst us) → PrsAt H' us (wRows rs) → Q (.ref r) H'
theorem keys_nd {H : Hp} {kvs : List (Key × V)} {rs : Rws} (he : EntsAt H kvs rs) (hnd : (rs.map (·.1)).Nodup) : (kvs.map (·.1)).Nodup := by
  have ek : kvs.map (·.1) = (rs.map (·.1)).map Sum.inr := by
    refine List.ext_getElem? fun i => ?_
    rw [List.getElem?_map, List.getElem?_map, List.getElem?_map]
    by_cases hi : i < kvs.length
    · have h1 : kvs[i]? = some kvs[i] := List.getElem?_eq_getElem hi
      have h2 : rs[i]? = some (rs[i]'(by rw [← he.1]; exact hi)) := List.getElem?_eq_getElem _
      rw [h1, h2]
      obtain ⟨e1, _⟩ := he.2 i _ _ h1 h2
      show some (kvs[i].1) = some (Sum.inr _)
      rw [e1]
    · rw [List.getElem?_eq_none (by omega), List.getElem?_eq_none (by rw [← he.1]; omega)]
      rfl
  rw [ek]
  exact List.Pairwise.map _ (fun a b h z => h (Sum.inr.inj z)) hnd
theorem ok_law_pairs (T : Txt P K mg) {k : Nat} : FnOk P w K mg base CX0 (k + 1) T.law_pairs.f T.law_pairs.fd ["_law_rows_here"] spPairsL := by
  refine T.law_pairs.F.ok (k := k) sc_law_pairs (fun vs H Q E h => ?_) (fun cdv A outer s H vs Q E hr h => ?_)
  · obtain ⟨d, kvs, rs, rfl, _⟩ := h
    rfl
  · obtain ⟨d, kvs, rs, rfl, hd, he, hnd, hz, q⟩ := h
    refine ⟨_, (pss_cons (ps_set (i := 1) sc_law_pairs.nd rfl (.inl rfl) (pe_lst pa_nil))
  (pss_cons (ps_lock (ps_for PassesOwn.never rfl (pi_keys (pv 0)) (pg_name (i := 2) sc_law_pairs.nd rfl (.inl rfl))
   (pss_one (ps_for PassesOwn.never rfl (pi_list (pe_dget (hu_of hr) (pv 0) (pv 2) (fun _ _ => rfl))) (pg_name (i := 3) sc_law_pairs.nd rfl (.inl rfl))
   (pss_one (ps_expr (pe_bm PySem.F.plainAttrs_list PySem.F.slot_list_append PySem.F.type_list_append mt_append (pv 1) (pa_cons (pe_tup (pa_cons (pv 2) (pa_cons (pv 3) pa_nil))) pa_nil))))))))
  (pss_one (ps_ret (pe_callB (cr_sortD (enc := encP) hr.units) (by rfl) T.n_sorted (by decide +kernel) (pa_cons (pv 1) pa_nil)))))), ?_⟩
    have knd := keys_nd he hnd
    refine ⟨sz (by show 0 ≤ 100000; decide), fun l hl => ?_⟩
    have hd1 : upd H l (.lst []) d = some (.dK kvs) := by rw [upd_ne (ne_of_none hd hl)]; exact hd
    refine ⟨d, _, hd1, trivial, fun od => ?_⟩
    refine ⟨.ref d, rfl, d, od, rfl, .inl ⟨kvs, upd_same, ?_⟩⟩
    refine for_it (walk_keys (d := d) (o := od) (kvs := kvs)) (fun i σ H' => ∃ (us : List V) (y2 y3 : Option V), σ = [some (.ref d), some (.ref l), y2, y3] ∧ (∀ b o, b ≠ d → H b = some o → H' b = some o) ∧ H' d = some (.frz od (.dK kvs)) ∧
      H' l = some (.lst us) ∧ PrsAt H' us ((rs.take i).flatMap prsOf)) ?_ (fun i σ H' _ pp => ?_) (fun i x σ H1 H2 hi pp y => ?_) (fun σ H' pp => ?_)
    · exact ⟨[], none, none, rfl, fun b o nb e => by rw [upd_ne nb, upd_ne (ne_of_none e hl)]; exact e, upd_same, by rw [upd_ne (ne_of_none hd hl).symm, upd_same], rfl, fun i p e => by simp at e⟩
    · obtain ⟨us, y2, y3, _, _, h3, _⟩ := pp
      exact h3
    · obtain ⟨us, y2, y3, rfl, hb, hdf, hlu, hpr⟩ := pp
      obtain ⟨rfl, k0, v0, hk, rfl⟩ := y
      obtain ⟨r, hr0⟩ : ∃ r, rs[i]? = some r := ⟨_, List.getElem?_eq_getElem (by rw [← he.1]; exact hi)⟩
      obtain ⟨k1, a, k2, ha⟩ := he.2 i (k0, v0) r hk hr0
      dsimp only at k1 k2
      subst k1 k2
      have nad : a ≠ d := fun z => by rw [z, hd] at ha; cases ha
      have ha1 : H2 a = some (.lst (r.2.map V.int)) := hb a _ nad ha
      refine ⟨.ref d, rfl, .str r.1, rfl, d, .ref a, rfl, .inl ⟨kvs, .inr r.1, .inr ⟨od, hdf⟩, rfl, (valV_at (H := H) (rs := rs) i _ hk knd).symm⟩, a, rfl, ⟨_, SqL.of ha1⟩, ?_⟩
      have nal : a ≠ l := fun z => by rw [z, hl] at ha; cases ha
      have hlen := prs_len i r hr0
      refine for_list (K := K) (a := a) (xs := r.2.map V.int) (fun j σ H3 => ∃ (vs : List V) (z3 : Option V), σ = [some (.ref d), some (.ref l), some (.str r.1), z3] ∧ (∀ b o, b ≠ d → H b = some o → H3 b = some o) ∧ H3 d = some (.frz od (.dK kvs)) ∧ H3 l = some (.lst vs) ∧ PrsAt H3 vs ((rs.take i).flatMap prsOf ++ (prsOf r).take j)) ?_ (fun j σ H3 _ pp => ?_) (fun j x σ H3 hx pp => ?_) (fun σ H3 pp => ?_)
      · exact ⟨us, _, rfl, hb, hdf, hlu, by rw [List.take_zero, List.append_nil]; exact hpr⟩
      · obtain ⟨vs, z3, _, hb3, _⟩ := pp
        exact SqL.of (hb3 a _ nad ha)
      · obtain ⟨vs, z3, rfl, hb3, hdf3, hl3, hp3⟩ := pp
        obtain ⟨m, hm, rfl⟩ : ∃ m, r.2[j]? = some m ∧ x = V.int m := by
          rw [List.getElem?_map] at hx
          cases e : r.2[j]? with
          | none => rw [e] at hx; cases hx
          | some m => rw [e] at hx; exact ⟨m, rfl, (Option.some.inj hx).symm⟩
        have hj : j < r.2.length := (List.getElem?_eq_some_iff.mp hm).1
        refine ⟨.ref l, rfl, .inl ⟨rfl, _, SqL.of hl3⟩, _, rfl, _, rfl, sz (by show 2 ≤ 100000; decide), fun p hp => ?_⟩
        have s4 := same_upd (o := .tup [.str r.1, .int m]) hp
        have hl4 := s4 _ _ hl3
        have epr : (prsOf r).length = r.2.length := by simp [prsOf]
        have hvl : vs.length ≤ 300 := by
          have := hp3.1
          rw [List.length_append, List.length_take] at this
          omega
        refine ⟨l, vs, _, rfl, rfl, hl4, szl (by omega), vs ++ [.ref p], _, rfl, fun b o nb e => ?_, ?_, upd_same, ?_⟩
        · rw [upd_ne (ne_of_none e hl)]
          exact s4 _ _ (hb3 b o nb e)
        · rw [upd_ne (ne_of_none hd hl)]
          exact s4 _ _ hdf3
        · have hpm : (prsOf r)[j]? = some (r.1, m) := by
            unfold prsOf
            rw [List.getElem?_map, hm]
            rfl
          rw [List.take_add_one, hpm, ← List.append_assoc]
          refine PrsAt.put hl4 ((hp3.same s4).app ⟨rfl, fun i q e => ?_⟩)
          cases i with
          | zero => cases e; exact ⟨p, rfl, upd_same⟩
          | succ i => simp at e
      · obtain ⟨vs, z3, rfl, hb3, hdf3, hl3, hp3⟩ := pp
        have epr : (prsOf r).length = r.2.length := by simp [prsOf]
        rw [List.length_map, ← epr, List.take_length] at hp3
        refine ⟨vs, _, _, rfl, hb3, hdf3, hl3, ?_⟩
        rw [List.take_add_one, hr0, show (rs.take i ++ (some r).toList) = rs.take i ++ [r] from rfl, List.flatMap_append, List.flatMap_cons, List.flatMap_nil, List.append_nil]
        exact hp3
    · obtain ⟨us, y2, y3, rfl, hb, hdf, hlu, hpr⟩ := pp
      rw [he.1, List.take_of_length_le (Nat.le_refl _)] at hpr
      refine ⟨hdf, ?_⟩
      have hl5 : upd H' d (.dK kvs) l = some (.lst us) := by rw [upd_ne (ne_of_none hd hl).symm]; exact hlu
      have sH : Same H (upd H' d (.dK kvs)) := fun b o e => by
        by_cases nb : b = d
        · subst nb
          rw [upd_same, ← hd, e]
        · rw [upd_ne nb]
          exact hb b o nb e
      have hpr5 : PrsAt (upd H' d (.dK kvs)) us (rs.flatMap prsOf) := ⟨hpr.1, fun i p e => by
        obtain ⟨t, t1, t2⟩ := hpr.2 i p e
        refine ⟨t, t1, ?_⟩
        rw [upd_ne (fun z => by rw [z, hdf] at t2; cases t2)]
        exact t2⟩
      have hlen : us.length ≤ 300 := by rw [hpr.1, prs_all]; exact hz
      generalize upd H' d (.dK kvs) = H5 at hl5 sH hpr5 ⊢
      have hz1 : (us.zip (rs.flatMap prsOf)).map (·.1) = us := List.map_fst_zip (by rw [hpr5.1]; exact Nat.le_refl _)
      refine ⟨.ref l, rfl, l, us.zip (rs.flatMap prsOf), rfl, by rw [hz1]; exact SqL.of hl5, by rw [List.length_zip]; omega, fun p hp => ?_, PySem.W.AllAlike.of fun b b' => rfl, PySem.W.Sortable.tuples fun b => ⟨_, _, rfl⟩, fun p hp => ?_, fun z hz => ?_⟩
      · obtain ⟨i, hi⟩ := List.mem_iff_getElem?.mp hp
        obtain ⟨v, q'⟩ := p
        rw [List.getElem?_zip_eq_some] at hi
        obtain ⟨t, t1, t2⟩ := hpr5.2 i q' hi.2
        rw [hi.1] at t1
        cases t1
        exact .tup (SqT.of t2) (.cons (.str _) (.cons (.int _) .nil))
      · show PyData.depth (.tuple [.str p.2.1, .int p.2.2]) ≤ 10
        simp [PyData.depth, PyData.depthAll]
      · exact q z _ _ (sH.trans (same_upd hz)) (sH.free hz) upd_same ((prs_sort hpr5).same (same_upd hz))
/-- world.rows() -/
def spRowsM (T : Txt P K mg) : Sp := fun vs H Q _ => ∃ (a l : Addr) (ps : List (Str × Int)), vs = [.ref a] ∧ WoA T H a l ps ∧ ∀ r H' us, Same H H' → H r = none → H' r = some (.lst us) → PrsAt H' us ps → Q (.ref r) H'
theorem ok_world_rows (T : Txt P K mg) {k : Nat} : FnR P w K mg base CX0 (k + 1) T.World_rows.f (spRowsM T) := by
  refine toR (T.World_rows.F.ok (k := k) sc_World_rows (fun vs H Q E h => ?_) (fun cdv A outer s H vs Q E hr h => ?_)) T.World_rows.b
  · obtain ⟨a, l, ps, rfl, _⟩ := h
    rfl
  · obtain ⟨a, l, ps, rfl, ⟨dx, vs, h1, h2, h3⟩, q⟩ := h
    refine ⟨_, (pss_one (ps_ret (pe_callTy call_list_of (by rfl) T.n_list (by decide +kernel) (pa_cons (pe_fld (pv 0) rfl) pa_nil)))), ?_⟩
    refine ⟨_, rfl, a, _, dx, _, _, rfl, h1, T.o_World.cl, T.n_World_pairs, rfl, l, _, rfl, .inl (SqL.of h2), fun p hp => ?_⟩
    exact q p _ vs (same_upd hp) hp upd_same (h3.same (same_upd hp))
end
end Pl

namespace Pl
open PySem L2
section
variable {P : Program} {w : World} {K : PySem.W.Frag} {mg : Str → Option Value} {base : Heap}
def geZ : V → Bool
  | .int i => decide (i ≥ 0)
  | _ => false
def spFromZero : Sp := fun vs H Q _ => ∃ (v : V) (t : String), vs = [v] ∧ Ty H v t ∧ Q (.bl (geZ v)) H
theorem ok_is_from_zero (T : Txt P K mg) {k : Nat} : FnOk P w K mg base CX0 (k + 2) T.is_from_zero.f T.is_from_zero.fd ["value"] spFromZero := by
  have G_is_integer : FnOk P w K mg base CX0 (k + 1) T.is_integer.f T.is_integer.fd ["value"] spIsInteger := ok_is_integer T
  refine T.is_from_zero.F.ok (k := k + 1) sc_is_from_zero (fun vs H Q E h => ?_) (fun cdv A outer s H vs Q E hr h => ?_)
  · obtain ⟨v, t, rfl, _⟩ := h
    rfl
  · obtain ⟨v, t, rfl, ty, q⟩ := h
    refine ⟨_, (pss_one (ps_ret (pe_and (pe_call G_is_integer (hr.mono (by omega)) (by rfl) T.is_integer.g T.is_integer.F.kp T.is_integer.b .nil pass0 (pa_cons (pv 0) pa_nil)) (pe_one (pe_cmpR op_ge (pv 0) pe_int (nomark _)))))), ?_⟩
    refine ⟨v, rfl, v, t, rfl, ty, _, rfl, ?_⟩
    cases v with
    | int i => exact iT rfl ⟨.int i, rfl, i, 0, rfl, rfl, q⟩
    | _ => exact iF rfl q
def spCkBound : Sp := fun vs H Q _ => ∃ i : Int, vs = [.int i] ∧ 0 ≤ i ∧ Q .non H
theorem ok_check_bound (T : Txt P K mg) {k : Nat} : FnOk P w K mg base CX0 (k + 3) T.check_bound.f T.check_bound.fd ["value"] spCkBound := by
  have G_is_from_zero : FnOk P w K mg base CX0 (k + 2) T.is_from_zero.f T.is_from_zero.fd ["value"] spFromZero := ok_is_from_zero T
  refine T.check_bound.F.ok (k := k + 2) sc_check_bound (fun vs H Q E h => ?_) (fun cdv A outer s H vs Q E hr h => ?_)
  · obtain ⟨i, rfl, _⟩ := h
    rfl
  · obtain ⟨i, rfl, i0, q⟩ := h
    refine ⟨_, (pss_one (ps_if (pt_not (pt_val (pe_call G_is_from_zero (hr.mono (by omega)) (by rfl) T.is_from_zero.g T.is_from_zero.F.kp T.is_from_zero.b .nil pass0 (pa_cons (pv 0) pa_nil)))) (pss_one ps_never) pss_nil)), ?_⟩
    exact ⟨.int i, rfl, .int i, "int", rfl, .int i, _, rfl, iF (by rw [show geZ (.int i) = true from decide_eq_true i0]; rfl) q⟩
def spCkLimit : Sp := fun vs H Q _ => ∃ lim : Option Int, vs = [oV lim] ∧ limOk lim ∧ Q .non H
theorem ok_check_limit (T : Txt P K mg) {k : Nat} : FnOk P w K mg base CX0 (k + 4) T.check_limit.f T.check_limit.fd ["value"] spCkLimit := by
  have G_check_bound : FnOk P w K mg base CX0 (k + 3) T.check_bound.f T.check_bound.fd ["value"] spCkBound := ok_check_bound T
  refine T.check_limit.F.ok (k := k + 3) sc_check_limit (fun vs H Q E h => ?_) (fun cdv A outer s H vs Q E hr h => ?_)
  · obtain ⟨i, rfl, _⟩ := h
    rfl
  · obtain ⟨lim, rfl, h, q⟩ := h
    refine ⟨_, (pss_one (ps_if (pt_cmpR op_notN (pv 0) pe_non (nomark _)) (pss_one (ps_expr (pe_call G_check_bound (hr.mono (by omega)) (by rfl) T.check_bound.g T.check_bound.F.kp T.check_bound.b .nil pass0 (pa_cons (pv 0) pa_nil)))) pss_nil)), ?_⟩
    cases lim with
    | none => exact ⟨_, rfl, rfl, _, rfl, iF rfl q⟩
    | some i => exact ⟨_, rfl, rfl, _, rfl, iT rfl ⟨_, rfl, i, rfl, h, q⟩⟩
theorem inV_ways {z : Str} (h : z ∈ ways) : inV (.str z) [.str "at", .str "before", .str "since", .str "after"] = true := by
  simp only [ways, List.mem_cons, List.not_mem_nil, or_false] at h
  rcases h with rfl | rfl | rfl | rfl <;> decide +kernel
/-- Look.__init__(self, stream, moment, way, *, within) -/
def spLookInit (T : Txt P K mg) : Sp := fun vs H Q _ => ∃ (G : Hp) (m : Tm) (z wy : Str) (lim : Option Int) (x a dx : Addr), vs = [.ref x, .str z, .ref a, .str wy, oV lim] ∧ Same G H ∧ G x = none ∧ TmAt T.ca G m a ∧ goodName z ∧ wy ∈ ways ∧ limOk lim ∧ (Tm.look z m wy lim).fits ∧ H x = some (.ins T.c_Look dx []) ∧
  ∀ H', Same G H' → TmAt T.ca H' (.look z m wy lim) x → Q .non H'
theorem ok_look_init (T : Txt P K mg) {k : Nat} : ∃ fd, FnOk P w K mg base CX0 (k + 5) T.Look_init.f fd ["self", "stream", "moment", "way", "within"] (spLookInit T) ∧ KBn K fd ["self", "stream", "moment", "way", "within"] 4 ["within"] (fun us ws => us ++ ws) (fun vs zs => vs ++ zs) := by
  have G_check_name : FnOk P w K mg base CX0 (k + 2) T.check_name.f T.check_name.fd ["name"] spCkName := ok_check_name T
  have G_check_term : FnOk P w K mg base CX0 (k + 1) T.check_term.f T.check_term.fd ["value"] (spCkTerm T) := ok_check_term T
  have G_check_limit : FnOk P w K mg base CX0 (k + 4) T.check_limit.f T.check_limit.fd ["value"] spCkLimit := ok_check_limit T
  refine T.Look_init.okK (pre := (defBody s_Look_init).take 8) 4 ["within"] rfl sc_Look_init rfl rfl (by decide +kernel) (by decide) rfl T.n_super (fun _ _ _ _ _ _ _ us ws hl hl2 => match us, ws, hl, hl2 with | [_, _, _, _], [_], _, _ => rfl) ((ok_term_init T (k := k)).mono (show k + 1 ≤ k + 4 by omega)) (fun vs H Q E h => ?_) (fun A outer s H vs Q E hr h => ?_)
  · obtain ⟨G, m, z, wy, lim, x, a, dx, rfl, _⟩ := h
    rfl
  · obtain ⟨G, m, z, wy, lim, x, a, dx, rfl, sG, xG, hm, hz, hw, hlm, hfit, hx, q⟩ := h
    refine ⟨_, _, (pss_cons (ps_expr (pe_call G_check_name (hr.mono (by omega)) (by rfl) T.check_name.g T.check_name.F.kp T.check_name.b .nil pass0 (pa_cons (pv 1) pa_nil)))
  (pss_cons (ps_expr (pe_call G_check_term (hr.mono (by omega)) (by rfl) T.check_term.g T.check_term.F.kp T.check_term.b .nil pass0 (pa_cons (pv 2) pa_nil)))
  (pss_cons (ps_if (PW.pt (pw_or (pt_not (pt_val (pe_callB call_isi (by rfl) T.n_isinstance (by decide +kernel) (pa_cons (pv 3) (pa_cons (pe_bltn (v := .ty "str") (by rfl) T.n_str (by decide +kernel) rfl) pa_nil))))) (pw_or1 (pt_cmpR op_notIn_seq (pv 3) (pe_glob (v := .ref T.a_WAYS) (by rfl) T.k_WAYS rfl) (by with_unfolding_all rfl))))) (pss_one ps_never) pss_nil)
  (pss_cons (ps_expr (pe_call G_check_limit (hr.mono (by omega)) (by rfl) T.check_limit.g T.check_limit.F.kp T.check_limit.b .nil pass0 (pa_cons (pv 4) pa_nil)))
  (pss_cons (ps_fld (pv 0) (pv 1) rfl)
  (pss_cons (ps_fld (pv 0) (pv 2) rfl)
  (pss_cons (ps_fld (pv 0) (pv 3) rfl)
  (pss_one (ps_fld (pv 0) (pv 4) rfl))))))))), (pa_cons (pv 2) pa_nil), ?_⟩
    refine ⟨.str z, rfl, z, rfl, hz, fun H1 s1 => ?_⟩
    have sG1 := sG.trans s1
    have ty : Ty H1 (.str wy) "str" := .str wy
    refine ⟨.ref a, rfl, m, a, rfl, hm.same sG1, ?_⟩
    refine ⟨.str wy, rfl, _, _, _, _, _, rfl, .ty "str", ty.x, isI_str ty, _, rfl, iF (by unfold tyB; rw [kb_str_str]; rfl) ?_⟩
    refine ⟨.str wy, rfl, T.a_WAYS, _, rfl, .inr (T.t_WAYS H1), rfl, by decide +kernel, _, rfl, iF (by rw [inV_ways hw]; rfl) ?_⟩
    refine ⟨oV lim, rfl, lim, rfl, hlm, ?_⟩
    refine ⟨.str z, rfl, .ref x, rfl, x, _, dx, [], rfl, s1 _ _ hx, T.o_Look.cl, T.n_Look_stream, by decide, ?_⟩
    refine ⟨.ref a, rfl, .ref x, rfl, x, _, dx, _, rfl, upd_same, T.o_Look.cl, T.n_Look_moment, (by show 1 < 1000; decide), ?_⟩
    rw [upd_upd]
    refine ⟨.str wy, rfl, .ref x, rfl, x, _, dx, _, rfl, upd_same, T.o_Look.cl, T.n_Look_way, (by show 2 < 1000; decide), ?_⟩
    rw [upd_upd]
    refine ⟨oV lim, rfl, .ref x, rfl, x, _, dx, _, rfl, upd_same, T.o_Look.cl, T.n_Look_within, (by show 3 < 1000; decide), ?_⟩
    rw [upd_upd]
    have sG2 : Same G (upd H1 x (.ins T.c_Look dx (loF z a wy lim))) := same_mut sG1 xG
    refine ⟨x, _, dx, loF z a wy lim, rfl, rfl, upd_same, T.s_Look_Look, .ref a, rfl, G, .look z m wy lim, x, dx, loF z a wy lim, [a], rfl, sG2, xG, ⟨hm, trivial⟩, upd_same, (by show 4 ≤ 10; decide), hfit, fun H' s' b' h' => q H' s' ⟨dx, a, h', hm.same s'⟩⟩
/-- fits(row, moment, way) -/
def spFits : Sp := fun vs H Q _ => ∃ (r m : Int) (wy : Str), vs = [.int r, .int m, .str wy] ∧ Q (.bl (fitsB r m wy)) H
theorem dstr {a b : Str} : decide (V.str a = V.str b) = decide (a = b) := by
  by_cases h : a = b
  · subst h; simp
  · have : ¬ V.str a = V.str b := fun z => h (V.str.inj z)
    simp [h, this]
theorem ok_fits (T : Txt P K mg) {k : Nat} : FnOk P w K mg base CX0 (k + 1) T.fits.f T.fits.fd ["row", "moment", "way"] spFits := by
  refine T.fits.F.ok (k := k) sc_fits (fun vs H Q E h => ?_) (fun cdv A outer s H vs Q E hr h => ?_)
  · obtain ⟨r, m, wy, rfl, _⟩ := h
    rfl
  · obtain ⟨r, m, wy, rfl, q⟩ := h
    refine ⟨_, (pss_cons (ps_if (pt_cmpR op_eq (pv 2) pe_str (nomark _)) (pss_one (ps_ret (pe_cmpR op_le (pv 0) (pv 1) (nomark _)))) pss_nil)
  (pss_cons (ps_if (pt_cmpR op_eq (pv 2) pe_str (nomark _)) (pss_one (ps_ret (pe_cmpR op_lt (pv 0) (pv 1) (nomark _)))) pss_nil)
  (pss_cons (ps_if (pt_cmpR op_eq (pv 2) pe_str (nomark _)) (pss_one (ps_ret (pe_cmpR op_ge (pv 0) (pv 1) (nomark _)))) pss_nil)
  (pss_one (ps_ret (pe_cmpR op_gt (pv 0) (pv 1) (nomark _))))))), ?_⟩
    unfold fitsB at q
    refine ⟨.str wy, rfl, rfl, _, rfl, ?_⟩
    rw [dstr]
    by_cases h1 : wy = "at"
    · rw [if_pos h1] at q
      exact iT (decide_eq_true h1) ⟨_, rfl, _, rfl, r, m, rfl, rfl, q⟩
    rw [if_neg h1] at q
    refine iF (decide_eq_false h1) ⟨.str wy, rfl, rfl, _, rfl, ?_⟩
    rw [dstr]
    by_cases h2 : wy = "before"
    · rw [if_pos h2] at q
      exact iT (decide_eq_true h2) ⟨_, rfl, _, rfl, r, m, rfl, rfl, q⟩
    rw [if_neg h2] at q
    refine iF (decide_eq_false h2) ⟨.str wy, rfl, rfl, _, rfl, ?_⟩
    rw [dstr]
    by_cases h3 : wy = "since"
    · rw [if_pos h3] at q
      exact iT (decide_eq_true h3) ⟨_, rfl, _, rfl, r, m, rfl, rfl, q⟩
    rw [if_neg h3] at q
    exact iF (decide_eq_false h3) ⟨_, rfl, _, rfl, r, m, rfl, rfl, q⟩
def intF (p : Int → Bool) : V → Option V
  | .int r => if p r then some (.int r) else none
  | _ => none
theorem filt_ints (p : Int → Bool) : ∀ ns : List Int, (ns.map V.int).filterMap (intF p) = (ns.filter p).map V.int
  | [] => rfl
  | n :: ns => by
    rw [List.map_cons, List.filterMap_cons, filt_ints p ns]
    cases h : p n <;> simp [intF, h]
theorem mem_ints {x : V} {ns : List Int} (h : x ∈ ns.map V.int) : ∃ r, r ∈ ns ∧ x = .int r := by
  obtain ⟨r, h1, h2⟩ := List.mem_map.mp h
  exact ⟨r, h1, h2.symm⟩
/-- looked_up(moments, moment, way, within) -/
def spLookedUp (K : PySem.W.Frag) : Sp := fun vs H Q _ => ∃ (a : Addr) (ms : List Int) (m : Int) (wy : Str) (lim : Option Int), vs = [.ref a, .int m, .str wy, oV lim] ∧ SqL K H a (ms.map V.int) ∧ ms.length ≤ 1000 ∧ ∀ H', Same H H' → Q (oV (lookedUp ms m wy lim)) H'
theorem ok_looked_up (T : Txt P K mg) {k : Nat} : FnOk P w K mg base CX0 (k + 2) T.looked_up.f T.looked_up.fd ["moments", "moment", "way", "within"] (spLookedUp K) := by
  have G_fits : FnOk P w K mg base CX0 (k + 1) T.fits.f T.fits.fd ["row", "moment", "way"] spFits := ok_fits T
  refine T.looked_up.F.ok (k := k + 1) sc_looked_up (fun vs H Q E h => ?_) (fun cdv A outer s H vs Q E hr h => ?_)
  · obtain ⟨a, ms, m, wy, lim, rfl, _⟩ := h
    rfl
  · obtain ⟨a, ms, m, wy, lim, rfl, ha, hl, q⟩ := h
    refine ⟨_, (pss_cons (ps_setLc (i := 4) (own := [("row", 5)]) (g := gName 5) (tt := (tB (tCall _ _ _ (tCons (tVar 5) (tCons (tVar 1) (tCons (tVar 2) tNil)))))) (te := (tVar 5)) rfl sc_looked_up.nd rfl rfl (sw_true rfl rfl rfl (by decide +kernel)) (pi_list (pv 0)) (blkOk_by (own := [("row", 5)]) (N := N_looked_up) (sc := defScope s_looked_up) (by decide +kernel)) (fun _ _ _ _ _ => (pg_name (i := 5) sc_looked_up.nd rfl (.inl rfl))) (fun _ _ _ _ _ => (pts_one (pt_val (pe_call G_fits (hr.mono (by omega)) (by rfl) T.fits.g T.fits.F.kp T.fits.b .nil pass0 (pa_cons (pv 5) (pa_cons (pv 1) (pa_cons (pv 2) pa_nil))))))) (fun _ _ _ _ _ => (pv 5)))
  (pss_cons (ps_if (pt_cmpR op_eq (pe_callB call_len_seq (by rfl) T.n_len PySem.boot_len (pa_cons (pv 4) pa_nil)) pe_int (nomark _)) (pss_one (ps_ret pe_non)) pss_nil)
  (pss_cons (ps_set (i := 5) sc_looked_up.nd rfl (.inl rfl) (pe_ix ix_list (pv 4) pe_int (fun _ _ => rfl)))
  (Evl.pss_cut (ps_if (PW.pt (pw_or (pt_cmpR op_eq (pv 2) pe_str (nomark _)) (pw_or1 (pt_cmpR op_eq (pv 2) pe_str (nomark _))))) (pss_one (ps_set (i := 5) sc_looked_up.nd rfl (.inl rfl) (pe_ix ix_list (pv 4) (pe_un un_neg pe_int) (fun _ _ => rfl)))) pss_nil)
  (pss_cons (ps_if (PW.pt (pw_and (pt_cmpR op_notN (pv 3) pe_non (nomark _)) (pw_and1 (pt_cmpR op_gt (pe_callB call_abs (by rfl) T.n_abs (by decide +kernel) (pa_cons (pe_op op_sub (pv 5) (pv 1)) pa_nil)) (pv 3) (nomark _))))) (pss_one (ps_ret pe_non)) pss_nil)
  (pss_one (ps_ret (pv 5)))))))), ?_⟩
    refine ⟨.ref a, rfl, a, rfl, ⟨_, ha⟩, fun D hD => ?_⟩
    refine lc_pure (K := K) (a := a) (xs := ms.map V.int) (intF fun r => fitsB r m wy) ha hD (by rw [List.length_map]; omega) (fun x H1 N N' hx s1 n1 n2 => ?_) (fun H1 s1 hD1 => ?_)
    · obtain ⟨r, _, rfl⟩ := mem_ints hx
      refine ⟨rfl, .int r, rfl, .int m, rfl, .str wy, rfl, r, m, wy, rfl, _, rfl, ?_⟩
      cases hf : fitsB r m wy with
      | true => exact iT rfl ⟨.int r, rfl, n1 _ _ (Same.refl _) (by simp [intF, hf])⟩
      | false => exact iF rfl (n2 _ (Same.refl _) (by simp [intF, hf]))
    · rw [filt_ints] at hD1
      unfold lookedUp at q
      generalize ms.filter (fitsB · m wy) = l at q hD1
      refine ⟨.ref D, rfl, D, _, rfl, .inl (SqL.of hD1), rfl, _, rfl, ?_⟩
      cases l with
      | nil => exact iT rfl (q H1 s1)
      | cons r rs =>
        refine iF (decide_eq_false (fun e => by
          have := V.int.inj e
          simp at this
          omega)) ?_
        refine ⟨.ref D, rfl, D, _, 0, .int r, rfl, rfl, SqL.of hD1, at_ix (by decide) rfl, ?_⟩
        have hlast : atI ((r :: rs).map V.int) (-1) = some (.int ((r :: rs).getLast (by simp))) := by
          have e : (r :: rs).map V.int = ((r :: rs).dropLast).map V.int ++ [V.int ((r :: rs).getLast (by simp))] := by
            rw [← List.map_singleton, ← List.map_append, List.dropLast_concat_getLast]
          rw [e]
          exact atI_last _ _
        refine ⟨fun σ H2 => H2 = H1 ∧ σ = [some (.ref a), some (.int m), some (.str wy), some (oV lim), some (.ref D), some (.int (if isBack wy then (r :: rs).getLast (by simp) else r))], ?_, ?_⟩
        · refine ⟨.str wy, rfl, rfl, _, rfl, ?_⟩
          rw [dstr]
          by_cases h1 : wy = "at"
          · refine iT (decide_eq_true h1) (iT rfl ?_)
            refine ⟨.ref D, rfl, 1, rfl, D, _, -1, _, rfl, rfl, SqL.of hD1, hlast, ?_⟩
            rw [if_pos (by simp [isBack, h1])]
            exact ⟨rfl, rfl⟩
          · refine iF (decide_eq_false h1) ⟨.str wy, rfl, rfl, _, rfl, ?_⟩
            rw [dstr]
            by_cases h2 : wy = "before"
            · refine iT (decide_eq_true h2) ?_
              refine ⟨.ref D, rfl, 1, rfl, D, _, -1, _, rfl, rfl, SqL.of hD1, hlast, ?_⟩
              rw [if_pos (by simp [isBack, h2])]
              exact ⟨rfl, rfl⟩
            · refine iF (decide_eq_false h2) ?_
              rw [if_neg (by simp [isBack, h1, h2])]
              exact ⟨rfl, rfl⟩
        · rintro σ H2 ⟨rfl, rfl⟩
          dsimp only at q
          generalize (if isBack wy then (r :: rs).getLast (by simp) else r) = y at q ⊢
          cases lim with
          | none => exact ⟨_, rfl, rfl, _, rfl, iF rfl (iF rfl ⟨_, rfl, q _ s1⟩)⟩
          | some l =>
            refine ⟨_, rfl, rfl, _, rfl, iT rfl ⟨_, rfl, _, rfl, y, m, rfl, rfl, _, rfl, _, rfl, _, l, rfl, rfl, _, rfl, ?_⟩⟩
            cases hf : tooFar y m (some l) with
            | true =>
              rw [hf, if_pos rfl] at q
              exact iT hf (q _ s1)
            | false =>
              rw [hf, if_neg Bool.false_ne_true] at q
              exact iF hf ⟨_, rfl, q _ s1⟩
end
end Pl

namespace Pl
open PySem L2
local macro_rules | `(tactic| infer_instance) => `(tactic| first
  | with_reducible assumption
  | with_reducible exact Same.refl _
  | exact Wd.gh (by with_reducible assumption)
  | exact sm2 (by with_reducible assumption) (by infer_instance)
  | exact sm2 (same_upd (by with_reducible assumption)) (by infer_instance)
  | exact sm2 (Wd.gh (by with_reducible assumption)) (by infer_instance))
local macro_rules | `(tactic| trivial) => `(tactic| first
  | with_reducible assumption
  | with_reducible exact upd_same
  | exact at_same (by with_reducible assumption) (by trivial)
  | exact at_same (same_upd (by with_reducible assumption)) (by trivial)
  | exact at_same (Wd.gh (by with_reducible assumption)) (by trivial))
local macro_rules | `(tactic| ac_rfl) => `(tactic| first
  | exact Ty.int _
  | exact Ty.str _
  | exact Ty.non
  | exact Ty.bl _
  | exact Ty.tup (by trivial)
  | exact Ty.lst (by trivial))
local macro_rules | `(tactic| contradiction) => `(tactic| first
  | exact rfl
  | exact decide_eq_true (by first | assumption | omega)
  | exact decide_eq_false (by first | assumption | omega)
  | exact dI_t (by first | assumption | omega)
  | exact dI_f (by first | assumption | omega)
  | exact dS_t (by first | assumption | decide)
  | exact dS_f (by first | assumption | decide)
  | exact nI_t (by first | assumption | omega)
  | exact nI_f (by first | assumption | omega)
  | exact nS_t (by first | assumption | decide)
  | exact nS_f (by first | assumption | decide)
  | assumption
  | exact q_none_int | exact q_none_bool | exact q_none_tuple | exact q_none_list | exact q_none_str | exact q_bool_int | exact q_bool_bool | exact q_bool_tuple | exact q_bool_list | exact q_bool_str | exact q_int_int | exact q_int_bool | exact q_int_tuple | exact q_int_list | exact q_int_str | exact q_str_int | exact q_str_bool | exact q_str_tuple | exact q_str_list | exact q_str_str | exact q_list_int | exact q_list_bool | exact q_list_tuple | exact q_list_list | exact q_list_str | exact q_tuple_int | exact q_tuple_bool | exact q_tuple_tuple | exact q_tuple_list | exact q_tuple_str
  | exact nb_t (by contradiction)
  | exact nb_f (by contradiction))
local macro_rules | `(tactic| and_intros) => `(tactic| repeat (first
  | refine ⟨_, rfl, ?_⟩
  | refine ⟨_, _, rfl, rfl, ?_⟩
  | refine ⟨rfl, ?_⟩
  | refine ⟨_, _, _, _, rfl, rfl, SqT.of (by trivial), at_ix (by decide) rfl, ?_⟩
  | refine ⟨_, _, _, _, rfl, rfl, SqL.of (by trivial), at_ix (by decide) rfl, ?_⟩
  | refine ⟨_, _, rfl, Or.inl (SqL.of (by trivial)), ?_⟩
  | refine ⟨_, _, rfl, Or.inr (SqT.of (by trivial)), ?_⟩
  | refine ⟨_, _, _, _, _, rfl, (by trivial), (by trivial), (by trivial), rfl, ?_⟩
  | refine ⟨_, _, _, _, _, rfl, ClsV.ty _, Ty.x (by ac_rfl), isI_tuple (by ac_rfl), ?_⟩
  | refine ⟨_, _, _, _, _, rfl, ClsV.ty _, Ty.x (by ac_rfl), isI_list (by ac_rfl), ?_⟩
  | refine ⟨_, _, _, _, _, rfl, ClsV.ty _, Ty.x (by ac_rfl), isI_int (by ac_rfl), ?_⟩
  | refine ⟨_, _, _, _, _, rfl, ClsV.ty _, Ty.x (by ac_rfl), isI_bool (by ac_rfl), ?_⟩
  | refine ⟨_, _, _, _, _, rfl, ClsV.ty _, Ty.x (by ac_rfl), isI_str (by ac_rfl), ?_⟩
  | refine ⟨sz (Nat.le_of_ble_eq_true rfl), ?_⟩
  | refine ⟨Or.inl ⟨rfl, _, SqL.of (by trivial)⟩, ?_⟩
  | refine ⟨_, _, rfl, SqT.of (by trivial), rfl, _, _, rfl, _, _, rfl, _, _, rfl, _, _, rfl, rfl, ?_⟩
  | refine ⟨_, _, rfl, SqT.of (by trivial), rfl, _, _, rfl, _, _, rfl, _, _, rfl, rfl, ?_⟩
  | refine ⟨_, _, rfl, SqT.of (by trivial), rfl, _, _, rfl, _, _, rfl, rfl, ?_⟩
  | refine ⟨_, _, _, _, rfl, (by with_reducible assumption : Wd _ _ _ _), (by first | decide | omega), (by first | decide | omega), ?_⟩
  | refine ⟨_, _, _, rfl, (by with_reducible assumption : Wd _ _ _ _), ?_⟩
  | refine iT (by contradiction) ?_
  | refine iF (by contradiction) ?_))
-- USE RD
def movI (sg n x : Int) : Int := sg * x + n
def movR (sg n : Int) (rs : Rws) : Rws := rs.map fun r => (r.1, r.2.map (movI sg n))
def movV (sg n : Int) : V → Option V
  | .int x => some (.int (movI sg n x))
  | _ => none
theorem movV_ints (sg n : Int) (xs : List Int) : (xs.map V.int).filterMap (movV sg n) = (xs.map (movI sg n)).map V.int := by
  induction xs with
  | nil => rfl
  | cons x xs ih => rw [List.map_cons, List.filterMap_cons]; simp only [movV]; rw [ih]; rfl
section
variable {P : Program} {w : World} {K : PySem.W.Frag} {mg : Str → Option Value} {base : Heap}
def spMovD : Sp := fun vs H Q _ => ∃ (d : Addr) (kvs : List (Key × V)) (rs : Rws) (sg n : Int), vs = [.ref d, .int sg, .int n] ∧ H d = some (.dK kvs) ∧ EntsAt H kvs rs ∧ (rs.map (·.1)).Nodup ∧ rs.length ≤ 10 ∧ (∀ r ∈ rs, r.2.length ≤ 300) ∧ sg.natAbs ≤ 1 ∧ (∀ r ∈ rs, ∀ x ∈ r.2, x.natAbs < 2 ^ 200) ∧
  ∀ (e : Addr) (H' : Hp) (kvs' : List (Key × V)), Same H H' → H e = none → H' e = some (.dK kvs') → EntsAt H' kvs' (movR sg n rs) → Q (.ref e) H'
theorem ok_law_moved (T : Txt P K mg) {k : Nat} : FnOk P w K mg base CX0 (k + 1) T.law_moved.f T.law_moved.fd ["_law_rows_here", "_law_sign", "_law_amount"] spMovD := by
  refine T.law_moved.F.ok (k := k) sc_law_moved (fun vs H Q E h => ?_) (fun cdv A outer s H vs Q E hr h => ?_)
  · obtain ⟨d, kvs, rs, sg, n, rfl, _⟩ := h
    rfl
  · obtain ⟨d, kvs, rs, sg, n, rfl, hd, he, hnd, hz, hl, hsg, hbig, q⟩ := h
    refine ⟨_, (pss_cons (ps_set (i := 3) sc_law_moved.nd rfl (.inl rfl) pe_dnewK)
  (pss_cons (ps_lock (ps_for PassesOwn.never rfl (pi_keys (pv 0)) (pg_name (i := 4) sc_law_moved.nd rfl (.inl rfl))
   (pss_one (ps_asg (pe_lc (own := [("_law_moment", 5)]) (g := gName 5) (tt := tYes) (te := (tOp _ (tOp _ (tVar 1) (tVar 5)) (tVar 2))) rfl sc_law_moved.nd (pi_list (pe_dget (hu_of hr) (pv 0) (pv 4) (fun _ _ => rfl))) (blkOk_by (own := [("_law_moment", 5)]) (N := N_law_moved) (sc := defScope s_law_moved) (by decide +kernel)) (fun _ _ _ _ _ => (pg_name (i := 5) sc_law_moved.nd rfl (.inl rfl))) (fun _ _ _ _ _ => pts_nil) (fun _ _ _ _ _ => (pe_op op_add (pe_op op_mulW (pv 1) (pv 5)) (pv 2)))) (pg_sub (pv 3) (pv 4) (set_dict (hu_of hr)))))))
  (pss_one (ps_ret (pv 3))))), ?_⟩
    intro e he0
    have nde : d ≠ e := ne_of_none hd he0
    have hd1 : upd H e (.dK []) d = some (.dK kvs) := by rw [upd_ne nde]; exact hd
    have knd : (kvs.map (·.1)).Nodup := keys_nd he hnd
    refine ⟨d, _, hd1, trivial, fun od => ?_⟩
    refine ⟨.ref d, rfl, d, od, rfl, .inl ⟨kvs, upd_same, ?_⟩⟩
    refine for_it (walk_keys (d := d) (o := od) (kvs := kvs)) (fun i σ H' => ∃ (kvs' : List (Key × V)) (y2 y3 : Option V), σ = [some (.ref d), some (.int sg), some (.int n), some (.ref e), y2, y3] ∧ (∀ b o, b ≠ d → H b = some o → H' b = some o) ∧ H' d = some (.frz od (.dK kvs)) ∧
      H' e = some (.dK kvs') ∧ EntsAt H' kvs' (movR sg n (rs.take i))) ?_ (fun i σ H' _ pp => ?_) (fun i x σ H1 H2 hi pp y => ?_) (fun σ H' pp => ?_)
    · exact ⟨[], none, none, rfl, fun b o nb h => by rw [upd_ne nb, upd_ne (ne_of_none h he0)]; exact h, upd_same, by rw [upd_ne nde.symm, upd_same], ⟨by simp [movR], fun i kv r h => by simp at h⟩⟩
    · obtain ⟨kvs', y2, y3, _, _, h3, _⟩ := pp
      exact h3
    · obtain ⟨kvs', y2, y3, rfl, hb, hdf, hee, hen⟩ := pp
      obtain ⟨rfl, k0, v0, hk, rfl⟩ := y
      have hil : i < rs.length := by rw [← he.1]; exact hi
      obtain ⟨r, hr0⟩ : ∃ r, rs[i]? = some r := ⟨_, List.getElem?_eq_getElem hil⟩
      obtain ⟨k1, a, k2, ha⟩ := he.2 i (k0, v0) r hk hr0
      dsimp only at k1 k2
      subst k1 k2
      have nad : a ≠ d := fun z => by rw [z, hd] at ha; cases ha
      have ha2 : H2 a = some (.lst (r.2.map V.int)) := hb a _ nad ha
      have hrm := List.mem_of_getElem? hr0
      refine ⟨_, rfl, _, rfl, d, .ref a, rfl, .inl ⟨kvs, .inr r.1, .inr ⟨od, hdf⟩, rfl, (valV_at (H := H) (rs := rs) i _ hk knd).symm⟩, a, rfl, ⟨_, SqL.of ha2⟩, fun D hD => ?_⟩
      refine lc_pure (K := K) (a := a) (xs := r.2.map V.int) (movV sg n) (SqL.of ha2) hD (by rw [List.length_map]; have := hl r hrm; omega) (fun x1 H3 N N' hx1 s3 n1 n2 => ?_) (fun H3 s3 hD3 => ?_)
      · obtain ⟨x, hxm, rfl⟩ := mem_ints hx1
        refine ⟨rfl, yes_if ?_⟩
        and_intros
        refine ⟨wide_mul (a := 1) (b := 200) (by omega) (hbig r hrm x hxm) (by decide) (by decide) (by decide), ?_⟩
        exact ⟨_, rfl, _, _, rfl, rfl, n1 _ _ (Same.refl _) rfl⟩
      · rw [movV_ints] at hD3
        have hee3 := s3 _ _ hee
        have hdf3 := s3 _ _ hdf
        have nDe : D ≠ e := fun z => by rw [z, hee] at hD; cases hD
        have hlk : kvs'.length ≤ 10 := by
          have := hen.1
          simp only [movR, List.length_map, List.length_take] at this
          omega
        have hnew : ∀ kv ∈ kvs', kv.1 ≠ .inr r.1 := fun kv hkv z => by
          obtain ⟨r', hr', e2⟩ := hen.keys kv hkv
          rw [e2] at z
          have e3 : r'.1 = r.1 := Sum.inr.inj z
          obtain ⟨r0, hr00, e4⟩ := List.mem_map.mp hr'
          have hmem : r.1 ∈ (rs.map (·.1)).take i := by rw [← List.map_take, ← e3, ← e4]; exact List.mem_map.mpr ⟨r0, hr00, rfl⟩
          obtain ⟨j, hj⟩ := List.mem_iff_getElem?.mp hmem
          have hji : j < i := by
            have := (List.getElem?_eq_some_iff.mp hj).1
            rw [List.length_take] at this
            omega
          rw [List.getElem?_take_of_lt hji] at hj
          have a2 : (rs.map (·.1))[i]? = some r.1 := by rw [List.getElem?_map, hr0]; rfl
          have hl1 := (List.getElem?_eq_some_iff.mp hj)
          have hl2 := (List.getElem?_eq_some_iff.mp a2)
          exact List.pairwise_iff_getElem.mp hnd j i hl1.1 hl2.1 hji (hl1.2.trans hl2.2.symm)
        refine ⟨_, rfl, _, rfl, e, _, rfl, DPut.k (k := .inr r.1) hee3 (szl (by omega)), ?_⟩
        rw [putK_new hnew]
        refine ⟨_, _, _, rfl, fun b o nb h => ?_, ?_, upd_same, ?_⟩
        · rw [upd_ne (ne_of_none h he0)]
          exact s3 _ _ (hb b o nb h)
        · rw [upd_ne nde]
          exact hdf3
        · rw [List.take_add_one, hr0, movR, List.map_append]
          have hs := (hen.same s3).snoc (z := r.1) (ns := r.2.map (movI sg n)) (a := D) hD3
          refine ⟨hs.1, fun j kv r' h1 h2 => ?_⟩
          obtain ⟨x1, b', x2, x3⟩ := hs.2 j kv r' h1 h2
          refine ⟨x1, b', x2, ?_⟩
          rw [upd_ne (fun z => by rw [z, hee3] at x3; cases x3)]
          exact x3
    · obtain ⟨kvs', y2, y3, rfl, hb, hdf, hee, hen⟩ := pp
      rw [he.1, List.take_of_length_le (Nat.le_refl _)] at hen
      refine ⟨hdf, ?_⟩
      have sH : Same H (upd H' d (.dK kvs)) := fun b o h => by
        by_cases nb : b = d
        · subst nb
          rw [upd_same, ← hd, h]
        · rw [upd_ne nb]
          exact hb b o nb h
      refine ⟨.ref e, rfl, q e _ kvs' sH he0 (by rw [upd_ne nde.symm]; exact hee) ⟨hen.1, fun j kv r' h1 h2 => ?_⟩⟩
      obtain ⟨x1, b', x2, x3⟩ := hen.2 j kv r' h1 h2
      refine ⟨x1, b', x2, ?_⟩
      rw [upd_ne (fun z => by rw [z, hdf] at x3; cases x3)]
      exact x3
end
end Pl

namespace Pl
open PySem L2
theorem tl_flat : ∀ parts : List (List Nat), TL.joinL [] parts = parts.flatten
  | [] => rfl
  | [p] => by simp [TL.joinL]
  | p :: q :: ps => by
    have := tl_flat (q :: ps)
    simp only [TL.joinL, List.flatten_cons, List.append_nil, List.nil_append] at this ⊢
    rw [this]
theorem one_good {c : Nat} (h : c ∈ letters.cps.toList) : goodName ⟨#[c]⟩ := ⟨by show 1 ≤ 1; decide, by show 1 ≤ 12; decide, fun d hd => by
  have : d = c := by simpa using hd
  rw [this]; exact h⟩
theorem join_good {cs : List Nat} (h1 : 1 ≤ cs.length) (h2 : cs.length ≤ 12) (h : ∀ c ∈ cs, c ∈ letters.cps.toList) : goodName (Txt.join "" (cs.map fun c => (⟨#[c]⟩ : Str))) := by
  have e : (Txt.join "" (cs.map fun c => (⟨#[c]⟩ : Str))).cps.toList = cs := by
    rw [TL.join_eq]
    show TL.tl _ = cs
    rw [TL.tl_join, show TL.tl ("" : Str) = [] from by decide +kernel, tl_flat, List.map_map]
    clear h1 h2 h
    induction cs with
    | nil => rfl
    | cons c cs ih =>
      rw [List.map_cons, List.flatten_cons, ih]
      rfl
  have el : (Txt.join "" (cs.map fun c => (⟨#[c]⟩ : Str))).length = cs.length := by
    show (Txt.join "" (cs.map fun c => (⟨#[c]⟩ : Str))).cps.size = cs.length
    rw [← Array.length_toList, e]
  exact ⟨by rw [el]; exact h1, by rw [el]; exact h2, by rw [e]; exact h⟩
theorem let_at {i : Int} (h0 : 0 ≤ i) (h1 : i < 26) : ∃ c, atI letters.cps.toList i = some c ∧ c ∈ letters.cps.toList := by
  have hl : i.toNat < letters.cps.toList.length := by
    have : letters.cps.toList.length = 26 := by decide +kernel
    omega
  exact ⟨letters.cps.toList[i.toNat], at_ix2 h0 (List.getElem?_eq_getElem hl), List.getElem_mem hl⟩
theorem inV_strs (x : Str) : ∀ zs : List Str, inV (.str x) (zs.map V.str) = decide (x ∈ zs)
  | [] => by simp [inV]
  | n :: ns => by
    have := inV_strs x ns
    unfold inV at this ⊢
    rw [List.map_cons, List.any_cons, this]
    show ((n == x) || _) = _
    by_cases e : n = x
    · subst e; simp
    · have e' : ¬ x = n := fun z => e z.symm
      simp [e, e', List.mem_cons]
theorem flat_strs : ∀ zs : List Str, (zs.map V.str).all flatV = true
  | [] => rfl
  | n :: ns => by
    rw [List.map_cons, List.all_cons, flat_strs ns]
    rfl
abbrev abcd : List Str := ["a", "b", "c", "d"]
theorem spare {zs : List Str} (h : zs.length ≤ 3) : ∃ z r, abcd.filter (fun w => !decide (w ∈ zs)) = z :: r ∧ z ∈ abcd ∧ z ∉ zs := by
  cases e : abcd.filter (fun w => !decide (w ∈ zs)) with
  | cons z r =>
    have : z ∈ abcd.filter (fun w => !decide (w ∈ zs)) := by rw [e]; simp
    obtain ⟨m1, m2⟩ := List.mem_filter.mp this
    exact ⟨z, r, rfl, m1, by simpa using m2⟩
  | nil =>
    exfalso
    have hin : ∀ w ∈ abcd, w ∈ zs := fun w hw => by
      have := List.filter_eq_nil_iff.mp e w hw
      simpa using this
    have ha := hin "a" (by decide)
    have hb : ("b" : Str) ∈ zs.erase "a" := (List.mem_erase_of_ne (by decide)).mpr (hin "b" (by decide))
    have hc : ("c" : Str) ∈ (zs.erase "a").erase "b" := (List.mem_erase_of_ne (by decide)).mpr ((List.mem_erase_of_ne (by decide)).mpr (hin "c" (by decide)))
    have hd : ("d" : Str) ∈ ((zs.erase "a").erase "b").erase "c" := (List.mem_erase_of_ne (by decide)).mpr ((List.mem_erase_of_ne (by decide)).mpr ((List.mem_erase_of_ne (by decide)).mpr (hin "d" (by decide))))
    have l1 := List.length_erase_of_mem ha
    have l2 := List.length_erase_of_mem hb
    have l3 := List.length_erase_of_mem hc
    have l4 := List.length_pos_of_mem hd
    omega
theorem abcd_good {z : Str} (h : z ∈ abcd) : goodName z := by
  simp only [abcd, List.mem_cons, List.not_mem_nil, or_false] at h
  rcases h with rfl | rfl | rfl | rfl <;> exact ⟨by decide +kernel, by decide +kernel, by decide +kernel⟩
section
variable {P : Program} {w : World} {K : PySem.W.Frag} {mg : Str → Option Value} {base : Heap}
/-- _law_names: distinct names -/
def spNames : Sp := fun vs H Q _ => ∃ (b c : Addr) (G : Hp) (n : Nat), vs = [.ref b, .int (n : Nat)] ∧ Wd b c G H ∧ n ≤ 4 ∧
  ∀ (a : Addr) (zs : List Str) (H' : Hp), G a = none → a ≠ b → a ≠ c → Wd b c (upd G a (.lst (zs.map V.str))) H' → zs.Nodup → zs.length = n → (∀ z ∈ zs, goodName z) → Q (.ref a) H'
theorem ok_law_names (T : Txt P K mg) {k : Nat} : FnOk P w K mg base CX0 (k + 2) T.law_names.f T.law_names.fd ["_law_box", "_law_many"] spNames := by
  have G_law_pick : FnOk P w K mg base CX0 (k + 1) T.law_pick.f T.law_pick.fd ["_law_box", "_law_many"] spPick := ok_law_pick T
  refine T.law_names.F.ok (k := k + 1) sc_law_names (fun vs H Q E h => ?_) (fun cdv A outer s H vs Q E hr h => ?_)
  · obtain ⟨b, c, G, n, rfl, _⟩ := h
    rfl
  · obtain ⟨b, c, G, n, rfl, W, hn, q⟩ := h
    refine ⟨_, (pss_cons (ps_set (i := 2) sc_law_names.nd rfl (.inr rfl) pe_str)
  (pss_cons (ps_set (i := 3) sc_law_names.nd rfl (.inr rfl) (pe_lst pa_nil))
  (pss_cons (ps_for PassesOwn.never rfl (pi_range1 (by rfl) T.n_range (pa_cons (pv 1) pa_nil)) (pg_name (i := 4) sc_law_names.nd rfl (.inl rfl))
   (pss_cons (ps_set (i := 5) sc_law_names.nd rfl (.inl rfl) (pe_ix ix_str (pv 2) (pe_call G_law_pick (hr.mono (by omega)) (by rfl) T.law_pick.g T.law_pick.F.kp T.law_pick.b .nil pass0 (pa_cons (pv 0) (pa_cons pe_int pa_nil))) (fun _ _ => rfl)))
  (Evl.pss_cut (ps_if (pt_cmpR op_eq (pe_call G_law_pick (hr.mono (by omega)) (by rfl) T.law_pick.g T.law_pick.F.kp T.law_pick.b .nil pass0 (pa_cons (pv 0) (pa_cons pe_int pa_nil))) pe_int (nomark _)) (pss_one (ps_set (i := 5) sc_law_names.nd rfl (.inl rfl) (pe_join pe_str (pe_lc (own := [("_law_j", 6)]) (g := gName 6) (tt := tYes) (te := (tOp _ (tVar 2) (tCall _ _ _ (tCons (tVar 0) (tCons (tC _) tNil))))) rfl sc_law_names.nd (pi_range1 (by rfl) T.n_range (pa_cons (pe_op op_add pe_int (pe_call G_law_pick (hr.mono (by omega)) (by rfl) T.law_pick.g T.law_pick.F.kp T.law_pick.b .nil pass0 (pa_cons (pv 0) (pa_cons pe_int pa_nil)))) pa_nil)) (blkOk_by (own := [("_law_j", 6)]) (N := N_law_names) (sc := defScope s_law_names) (by decide +kernel)) (fun _ _ _ _ _ => (pg_name (i := 6) sc_law_names.nd rfl (.inl rfl))) (fun _ _ _ _ _ => pts_nil) (fun _ _ _ _ _ => (pe_ix ix_str (pv 2) (pe_call G_law_pick (hr.mono (by omega)) (by rfl) T.law_pick.g T.law_pick.F.kp T.law_pick.b .nil pass0 (pa_cons (pv 0) (pa_cons pe_int pa_nil))) (fun _ _ => rfl))))))) pss_nil)
  (Evl.pss_cut (ps_if (pt_cmpR op_in_seq (pv 5) (pv 3) (by with_unfolding_all rfl)) (pss_one (ps_set (i := 5) sc_law_names.nd rfl (.inl rfl) (pe_ix ix_list (pe_lc (own := [("_law_word", 7)]) (g := gName 7) (tt := (tTest (tOp (rIn K true) (tVar 7) (tVar 3)))) (te := (tVar 7)) rfl sc_law_names.nd (pi_list (pe_lst (pa_cons pe_str (pa_cons pe_str (pa_cons pe_str (pa_cons pe_str pa_nil)))))) (blkOk_by (own := [("_law_word", 7)]) (N := N_law_names) (sc := defScope s_law_names) (by decide +kernel)) (fun _ _ _ _ _ => (pg_name (i := 7) sc_law_names.nd rfl (.inl rfl))) (fun _ _ _ _ _ => (pts_one (pt_cmpR op_notIn_seq (pv 7) (pv 3) (by with_unfolding_all rfl)))) (fun _ _ _ _ _ => (pv 7))) pe_int (fun _ _ => rfl)))) pss_nil)
  (pss_one (ps_expr (pe_bm PySem.F.plainAttrs_list PySem.F.slot_list_append PySem.F.type_list_append mt_append (pv 3) (pa_cons (pv 5) pa_nil))))))))
  (pss_one (ps_ret (pv 3)))))), ?_⟩
    refine ⟨Nat.zero_le _, fun p hp => ?_⟩
    obtain ⟨pb, pc⟩ := W.nb hp
    have gp : G p = none := W.gh.free hp
    have W1 : Wd b c (upd G p (.lst [])) (upd H p (.lst [])) := (W.mut gp pb pc).keep upd_same pb pc
    refine ⟨_, rfl, (n : Nat), rfl, by omega, by omega, ?_⟩
    refine for_range (lo := 0) (n := ((n : Nat) : Int).toNat) (fun t σ H' => ∃ (zs : List Str) (y4 y5 : Option V), σ = [some (.ref b), some (.int (n : Nat)), some (.str letters), some (.ref p), y4, y5, none, none] ∧ Wd b c (upd G p (.lst (zs.map V.str))) H' ∧ zs.Nodup ∧ zs.length = t ∧ ∀ z ∈ zs, goodName z) ⟨[], none, none, rfl, W1, by simp, rfl, fun z h => nomatch h⟩ (fun t σ H' ht pp => ?_) (fun σ H' pp => ?_)
    · obtain ⟨zs, y4, y5, rfl, W2, nd, hl, hg⟩ := pp
      have ht : t < n := ht
      refine ⟨.str letters, rfl, .ref b, rfl, b, c, _, 3, rfl, W2, by decide, by decide, fun i H1 W3 i0 i1 => ?_⟩
      obtain ⟨ch, hch, hin⟩ := let_at i0 (by omega)
      refine ⟨letters, i, ch, rfl, rfl, by decide +kernel, hch, ?_⟩
      refine ⟨fun σ H2 => ∃ (z : Str) (x4 : Option V), goodName z ∧ σ = [some (.ref b), some (.int (n : Nat)), some (.str letters), some (.ref p), x4, some (.str z), none, none] ∧ Wd b c (upd G p (.lst (zs.map V.str))) H2, ?_, ?_⟩
      · refine ⟨.ref b, rfl, b, c, _, 2, rfl, W3, by decide, by decide, fun j H2 W4 j0 j1 => ?_⟩
        refine ⟨rfl, _, rfl, ite2 (fun _ => ?_) (fun _ => ?_)⟩
        · refine ⟨⟨_, rfl⟩, ?_⟩
          refine ⟨.ref b, rfl, b, c, _, 12, rfl, W4, by decide, by decide, fun m H3 W5 m0 m1 => ?_⟩
          refine ⟨1, m, rfl, rfl, 1 + m, rfl, by omega, by omega, fun D hD => ?_⟩
          obtain ⟨Db, Dc⟩ := W5.nb hD
          have gD : upd G p (.lst (zs.map V.str)) D = none := W5.gh.free hD
          refine lc_range (lo := 0) (n := (1 + m).toNat) (fun r H' => ∃ cs : List Nat, Wd b c (upd (upd G p (.lst (zs.map V.str))) D (.lst ((cs.map fun c => (⟨#[c]⟩ : Str)).map V.str))) H' ∧ cs.length = r ∧ ∀ c ∈ cs, c ∈ letters.cps.toList) ⟨[], (W5.mut gD Db Dc).keep upd_same Db Dc, rfl, fun c h => nomatch h⟩ (fun r H' hr' pp => ?_) (fun H' pp => ?_)
          · obtain ⟨cs, W6, hc, hcs⟩ := pp
            refine ⟨rfl, yes_if ?_⟩
            refine ⟨.str letters, rfl, .ref b, rfl, b, c, _, 26, rfl, W6, by decide, by decide, fun u H7 W7 u0 u1 => ?_⟩
            obtain ⟨d, hd, hdin⟩ := let_at u0 u1
            refine ⟨letters, u, d, rfl, rfl, by decide +kernel, hd, ?_⟩
            have hD7 := W7.gh _ _ (upd_same (H := upd G p (.lst (zs.map V.str))) (a := D))
            refine ⟨_, hD7, szl (by rw [List.length_map, List.length_map]; omega), cs ++ [d], ?_, by rw [List.length_append, hc]; rfl, fun x hx => ?_⟩
            · have e : (cs.map fun c => (⟨#[c]⟩ : Str)).map V.str ++ [V.str ⟨#[d]⟩] = ((cs ++ [d]).map fun c => (⟨#[c]⟩ : Str)).map V.str := by rw [List.map_append, List.map_append]; rfl
              rw [e]
              exact ((W7.weak (same_upd gD)).mut gD Db Dc).keep upd_same Db Dc
            · rcases List.mem_append.mp hx with h | h
              · exact hcs x h
              · cases List.mem_singleton.mp h
                exact hdin
          · obtain ⟨cs, W6, hc, hcs⟩ := pp
            have hD7 := W6.gh _ _ (upd_same (H := upd G p (.lst (zs.map V.str))) (a := D))
            refine ⟨_, D, cs.map fun c => (⟨#[c]⟩ : Str), rfl, rfl, .inl (SqL.of hD7), ?_, ?_⟩
            · rw [show (("" : Str)).length = 0 from rfl, Nat.mul_zero, Nat.add_zero, List.map_map]
              have : (cs.map ((fun x : Str => x.length) ∘ fun c => (⟨#[c]⟩ : Str))).sum = cs.length := by
                clear hD7 W6 hcs hc
                induction cs with
                | nil => rfl
                | cons x xs ih =>
                  rw [List.map_cons, List.sum_cons, ih, List.length_cons]
                  show 1 + xs.length = xs.length + 1
                  omega
              rw [this]
              omega
            · exact ⟨_, _, join_good (by omega) (by omega) hcs, rfl, W6.weak (same_upd gD)⟩
        · exact ⟨_, _, one_good hin, rfl, W4⟩
      · rintro σ H2 ⟨z, x4, gz, rfl, W4⟩
        refine ⟨fun σ H3 => ∃ (z : Str) (x4 : Option V), goodName z ∧ z ∉ zs ∧ σ = [some (.ref b), some (.int (n : Nat)), some (.str letters), some (.ref p), x4, some (.str z), none, none] ∧ Wd b c (upd G p (.lst (zs.map V.str))) H3, ?_, ?_⟩
        · have hp4 := W4.gh _ _ (upd_same (H := G) (a := p))
          refine ⟨.str z, rfl, .ref p, rfl, p, _, rfl, .inl (SqL.of hp4), rfl, flat_strs zs, _, rfl, ?_⟩
          rw [inV_strs]
          by_cases hz : z ∈ zs
          · refine iT (decide_eq_true hz) ⟨sz (by show 4 ≤ 100000; decide), fun L hL => ?_⟩
            have s5 : Same H2 (upd H2 L (.lst (abcd.map V.str))) := same_upd hL
            have W5 := W4.sm s5
            have hp5 := W5.gh _ _ (upd_same (H := G) (a := p))
            refine ⟨L, rfl, ⟨abcd.map V.str, SqL.of upd_same⟩, fun D hD => ?_⟩
            refine lc_pure (K := K) (a := L) (xs := abcd.map V.str) (fun v => match v with | .str r => if !decide (r ∈ zs) then some (V.str r) else none | _ => none) (SqL.of upd_same) hD (by decide) (fun x H6 N N' hx s6 n1 n2 => ?_) (fun H6 s6 hD6 => ?_)
            · obtain ⟨r, _, rfl⟩ := List.mem_map.mp hx
              refine ⟨rfl, .str r, rfl, .ref p, rfl, p, _, rfl, .inl (SqL.of (s6 _ _ hp5)), rfl, flat_strs zs, _, rfl, ?_⟩
              rw [inV_strs]
              cases hf : decide (r ∈ zs) with
              | true => exact iF rfl (n2 _ (Same.refl _) (by simp only [hf]; rfl))
              | false => exact iT rfl ⟨.str r, rfl, n1 _ _ (Same.refl _) (by simp only [hf]; rfl)⟩
            · obtain ⟨z2, r2, e2, m2, n2⟩ := spare (zs := zs) (by omega)
              have e3 : (abcd.map V.str).filterMap (fun v => match v with | .str r => if !decide (r ∈ zs) then some (V.str r) else none | _ => none) = (abcd.filter (fun w => !decide (w ∈ zs))).map V.str := by
                generalize abcd = l
                induction l with
                | nil => rfl
                | cons x l ih =>
                  rw [List.map_cons, List.filterMap_cons, List.filter_cons, ih]
                  by_cases hx : x ∈ zs <;> simp [hx]
              rw [e3, e2] at hD6
              refine ⟨D, _, 0, .str z2, rfl, rfl, SqL.of hD6, at_ix (by decide) rfl, ?_⟩
              exact ⟨z2, _, abcd_good m2, n2, rfl, W5.sm s6⟩
          · exact iF (decide_eq_false hz) ⟨z, _, gz, hz, rfl, W4⟩
        · rintro σ H3 ⟨z, x4, gz, hz, rfl, W5⟩
          have hp5 := W5.gh _ _ (upd_same (H := G) (a := p))
          refine ⟨.ref p, rfl, .inl ⟨rfl, _, SqL.of hp5⟩, .str z, rfl, p, _, _, rfl, rfl, hp5, szl (by rw [List.length_map]; omega), ?_⟩
          have e : zs.map V.str ++ [V.str z] = (zs ++ [z]).map V.str := by rw [List.map_append]; rfl
          rw [e]
          refine ⟨zs ++ [z], _, _, rfl, ((W5.weak (same_upd gp)).mut gp pb pc).keep upd_same pb pc, List.nodup_append.mpr ⟨nd, by simp, fun a ha b hb => by cases List.mem_singleton.mp hb; exact fun y => hz (y ▸ ha)⟩, by rw [List.length_append, hl]; rfl, fun y hy => ?_⟩
          rcases List.mem_append.mp hy with h | h
          · exact hg y h
          · cases List.mem_singleton.mp h
            exact gz
    · obtain ⟨zs, y4, y5, rfl, W2, nd, hl, hg⟩ := pp
      exact ⟨.ref p, rfl, q p zs H' gp pb pc W2 nd (by omega) hg⟩
/-- _law_limit -/
def spLimitL : Sp := fun vs H Q _ => ∃ (b c : Addr) (G : Hp), vs = [.ref b] ∧ Wd b c G H ∧ ∀ (lim : Option Int) (H' : Hp), limOk lim → Wd b c G H' → Q (oV lim) H'
theorem ok_law_limit (T : Txt P K mg) {k : Nat} : FnOk P w K mg base CX0 (k + 3) T.law_limit.f T.law_limit.fd ["_law_box"] spLimitL := by
  have G_law_pick : FnOk P w K mg base CX0 (k + 1) T.law_pick.f T.law_pick.fd ["_law_box", "_law_many"] spPick := ok_law_pick T
  have G_law_number : FnOk P w K mg base CX0 (k + 2) T.law_number.f T.law_number.fd ["_law_box"] spNumber := ok_law_number T
  refine T.law_limit.F.ok (k := k + 2) sc_law_limit (fun vs H Q E h => ?_) (fun cdv A outer s H vs Q E hr h => ?_)
  · obtain ⟨b, c, G, rfl, _⟩ := h
    rfl
  · obtain ⟨b, c, G, rfl, W, q⟩ := h
    refine ⟨_, (pss_cons (ps_set (i := 1) sc_law_limit.nd rfl (.inl rfl) (pe_call G_law_pick (hr.mono (by omega)) (by rfl) T.law_pick.g T.law_pick.F.kp T.law_pick.b .nil pass0 (pa_cons (pv 0) (pa_cons pe_int pa_nil))))
  (pss_cons (ps_if (pt_cmpR op_lt (pv 1) pe_int (nomark _)) (pss_one (ps_ret pe_non)) pss_nil)
  (pss_cons (ps_if (pt_cmpR op_lt (pv 1) pe_int (nomark _)) (pss_one (ps_ret (pe_call G_law_pick (hr.mono (by omega)) (by rfl) T.law_pick.g T.law_pick.F.kp T.law_pick.b .nil pass0 (pa_cons (pv 0) (pa_cons pe_int pa_nil))))) pss_nil)
  (pss_one (ps_ret (pe_callB call_abs (by rfl) T.n_abs (by decide +kernel) (pa_cons (pe_call G_law_number (hr.mono (by omega)) (by rfl) T.law_number.g T.law_number.F.kp T.law_number.b .nil pass0 (pa_cons (pv 0) pa_nil)) pa_nil))))))), ?_⟩
    refine ⟨.ref b, rfl, b, c, G, 5, rfl, W, by decide, by decide, fun i H1 W1 i0 i1 => ?_⟩
    refine ⟨.int i, rfl, i, 2, rfl, rfl, _, rfl, ite2 (fun _ => q none H1 trivial W1) (fun _ => ?_)⟩
    refine ⟨.int i, rfl, i, 4, rfl, rfl, _, rfl, ite2 (fun _ => ?_) (fun _ => ?_)⟩
    · exact ⟨.ref b, rfl, b, c, G, 7, rfl, W1, by decide, by decide, fun j H2 W2 j0 j1 => q (some j) H2 j0 W2⟩
    · refine ⟨.ref b, rfl, b, c, G, rfl, W1, fun j H2 W2 _ _ => ⟨j, rfl, ?_⟩⟩
      exact q (some (if j < 0 then -j else j)) H2 (by show 0 ≤ (if j < 0 then -j else j); split <;> omega) W2
end
end Pl

namespace Pl
open PySem L2
section
variable {P : Program} {w : World} {K : PySem.W.Frag} {mg : Str → Option Value} {base : Heap}
def Tm.isPair : Tm → Option (Tm × Tm)
  | .either a b => some (a, b)
  | .later a b => some (a, b)
  | .earlier a b => some (a, b)
  | _ => none
/-- Pair.__init__(self, first, second) -/
def spPairInit (T : Txt P K mg) : Sp := fun vs H Q _ => ∃ (G : Hp) (t u1 u2 : Tm) (x a d dx : Addr), vs = [.ref x, .ref a, .ref d] ∧ t.isPair = some (u1, u2) ∧ Same G H ∧ G x = none ∧ TmAt T.ca G u1 a ∧ TmAt T.ca G u2 d ∧ t.fits ∧ H x = some (.ins (t.cls T.ca) dx []) ∧ ∀ H', Same G H' → TmAt T.ca H' t x → Q .non H'
structure PCls (T : Txt P K mg) (t : Tm) : Prop where
  cl : Cls K (t.cls T.ca)
  n1 : NoAttr K (t.cls T.ca) "first"
  n2 : NoAttr K (t.cls T.ca) "second"
  sup : SupC K (t.cls T.ca) T.c_Pair T.Term_init.f "__init__"
theorem Txt.pc (T : Txt P K mg) {t u1 u2 : Tm} (h : t.isPair = some (u1, u2)) : PCls T t := by
  cases t with
  | either => exact ⟨T.o_Either.cl, T.n_Either_first, T.n_Either_second, T.s_Either_Pair⟩
  | later => exact ⟨T.o_Later.cl, T.n_Later_first, T.n_Later_second, T.s_Later_Pair⟩
  | earlier => exact ⟨T.o_Earlier.cl, T.n_Earlier_first, T.n_Earlier_second, T.s_Earlier_Pair⟩
  | _ => cases h
theorem ok_pair_init (T : Txt P K mg) {k : Nat} : FnR P w K mg base CX0 (k + 2) T.Pair_init.f (spPairInit T) := by
  refine T.Pair_init.ok (pre := (defBody s_Pair_init).take 2) rfl sc_Pair_init rfl rfl (by decide +kernel) (by decide) rfl T.n_super (fun _ _ _ _ _ _ _ us hl => match us, hl with | [_, _, _], _ => rfl) (ok_term_init T (k := k)) (fun vs H Q E h => ?_) (fun A outer s H vs Q E hr h => ?_)
  · obtain ⟨G, t, u1, u2, x, a, d, dx, rfl, _⟩ := h
    rfl
  · obtain ⟨G, t, u1, u2, x, a, d, dx, rfl, hp, sG, xG, h1, h2, hfit, hx, q⟩ := h
    have pc := T.pc hp
    refine ⟨_, _, (pss_cons (ps_fld (pv 0) (pv 1) rfl)
  (pss_one (ps_fld (pv 0) (pv 2) rfl))), (pa_cons (pv 1) (pa_cons (pv 2) pa_nil)), ?_⟩
    refine ⟨.ref a, rfl, .ref x, rfl, x, _, dx, [], rfl, hx, pc.cl, pc.n1, by decide, ?_⟩
    refine ⟨.ref d, rfl, .ref x, rfl, x, _, dx, _, rfl, upd_same, pc.cl, pc.n2, (by show 1 < 1000; decide), ?_⟩
    rw [upd_upd]
    have sG1 : Same G (upd H x (.ins (t.cls T.ca) dx (paF a d))) := same_mut sG xG
    have hk : KidsAt T.ca G t.kids [a, d] := by
      cases t with
      | either => cases hp; exact ⟨h1, h2, trivial⟩
      | later => cases hp; exact ⟨h1, h2, trivial⟩
      | earlier => cases hp; exact ⟨h1, h2, trivial⟩
      | _ => cases hp
    refine ⟨x, _, dx, paF a d, rfl, rfl, upd_same, pc.sup, .ref a, rfl, .ref d, rfl, G, t, x, dx, paF a d, [a, d], rfl, sG1, xG, hk, upd_same, (by show 2 ≤ 10; decide), hfit, fun H' s' b' h' => q H' s' ?_⟩
    cases t with
    | either => cases hp; exact ⟨dx, a, d, h', h1.same s', h2.same s'⟩
    | later => cases hp; exact ⟨dx, a, d, h', h1.same s', h2.same s'⟩
    | earlier => cases hp; exact ⟨dx, a, d, h', h1.same s', h2.same s'⟩
    | _ => cases hp
theorem mk_same {H : Hp} {x dx C : Addr} {fs : List (Str × V)} (hx : H x = none) (hdx : H dx = none) : Same H (upd (upd H dx (.own x)) x (.ins C dx fs)) := fun c o h => by
  rw [upd_ne (ne_of_none h hx), upd_ne (ne_of_none h hdx)]
  exact h
/-- one | other, one.later(other), one.earlier(other) -/
def spJoin (T : Txt P K mg) (f : Tm → Tm → Tm) : Sp := fun vs H Q _ => ∃ (t u : Tm) (a d : Addr), vs = [.ref a, .ref d] ∧ TmAt T.ca H t a ∧ TmAt T.ca H u d ∧ (f t u).fits ∧ ∀ r H', Same H H' → TmAt T.ca H' (f t u) r → Q (.ref r) H'
theorem ok_term_or (T : Txt P K mg) {k : Nat} : FnR P w K mg base CX0 (k + 4) T.Term_or.f (spJoin T .either) := by
  have G_check_term : FnOk P w K mg base CX0 (k + 1) T.check_term.f T.check_term.fd ["value"] (spCkTerm T) := ok_check_term T
  have G_Either_init : FnR P w K mg base CX0 (k + 2) T.Pair_init.f (spPairInit T) := ok_pair_init T
  refine toR (T.Term_or.F.ok (k := k + 3) sc_Term_or (fun vs H Q E h => ?_) (fun cdv A outer s H vs Q E hr h => ?_)) T.Term_or.b
  · obtain ⟨t, u, a, d, rfl, _⟩ := h
    rfl
  · obtain ⟨t, u, a, d, rfl, h1, h2, hf, q⟩ := h
    refine ⟨_, (pss_cons (ps_expr (pe_call G_check_term (hr.mono (by omega)) (by rfl) T.check_term.g T.check_term.F.kp T.check_term.b .nil pass0 (pa_cons (pv 1) pa_nil)))
  (pss_one (ps_ret (StX.pe_makeR T.mk_Either G_Either_init (hr.mono (by omega)) (by rfl) T.g_Either pass0 (pa_cons (pv 0) (pa_cons (pv 1) pa_nil)))))), ?_⟩
    refine ⟨.ref d, rfl, u, d, rfl, h2, .ref a, rfl, .ref d, rfl, fun x dx hx hdx _ => ?_⟩
    exact ⟨H, .either t u, t, u, x, a, d, dx, rfl, rfl, mk_same hx hdx, hx, h1, h2, hf, upd_same, fun H' s' h' => ⟨rfl, q x H' s' h'⟩⟩
theorem ok_term_later (T : Txt P K mg) {k : Nat} : FnR P w K mg base CX0 (k + 4) T.Term_later.f (spJoin T .later) := by
  have G_check_term : FnOk P w K mg base CX0 (k + 1) T.check_term.f T.check_term.fd ["value"] (spCkTerm T) := ok_check_term T
  have G_Later_init : FnR P w K mg base CX0 (k + 2) T.Pair_init.f (spPairInit T) := ok_pair_init T
  refine toR (T.Term_later.F.ok (k := k + 3) sc_Term_later (fun vs H Q E h => ?_) (fun cdv A outer s H vs Q E hr h => ?_)) T.Term_later.b
  · obtain ⟨t, u, a, d, rfl, _⟩ := h
    rfl
  · obtain ⟨t, u, a, d, rfl, h1, h2, hf, q⟩ := h
    refine ⟨_, (pss_cons (ps_expr (pe_call G_check_term (hr.mono (by omega)) (by rfl) T.check_term.g T.check_term.F.kp T.check_term.b .nil pass0 (pa_cons (pv 1) pa_nil)))
  (pss_one (ps_ret (StX.pe_makeR T.mk_Later G_Later_init (hr.mono (by omega)) (by rfl) T.g_Later pass0 (pa_cons (pv 0) (pa_cons (pv 1) pa_nil)))))), ?_⟩
    refine ⟨.ref d, rfl, u, d, rfl, h2, .ref a, rfl, .ref d, rfl, fun x dx hx hdx _ => ?_⟩
    exact ⟨H, .later t u, t, u, x, a, d, dx, rfl, rfl, mk_same hx hdx, hx, h1, h2, hf, upd_same, fun H' s' h' => ⟨rfl, q x H' s' h'⟩⟩
theorem ok_term_earlier (T : Txt P K mg) {k : Nat} : FnR P w K mg base CX0 (k + 4) T.Term_earlier.f (spJoin T .earlier) := by
  have G_check_term : FnOk P w K mg base CX0 (k + 1) T.check_term.f T.check_term.fd ["value"] (spCkTerm T) := ok_check_term T
  have G_Earlier_init : FnR P w K mg base CX0 (k + 2) T.Pair_init.f (spPairInit T) := ok_pair_init T
  refine toR (T.Term_earlier.F.ok (k := k + 3) sc_Term_earlier (fun vs H Q E h => ?_) (fun cdv A outer s H vs Q E hr h => ?_)) T.Term_earlier.b
  · obtain ⟨t, u, a, d, rfl, _⟩ := h
    rfl
  · obtain ⟨t, u, a, d, rfl, h1, h2, hf, q⟩ := h
    refine ⟨_, (pss_cons (ps_expr (pe_call G_check_term (hr.mono (by omega)) (by rfl) T.check_term.g T.check_term.F.kp T.check_term.b .nil pass0 (pa_cons (pv 1) pa_nil)))
  (pss_one (ps_ret (StX.pe_makeR T.mk_Earlier G_Earlier_init (hr.mono (by omega)) (by rfl) T.g_Earlier pass0 (pa_cons (pv 0) (pa_cons (pv 1) pa_nil)))))), ?_⟩
    refine ⟨.ref d, rfl, u, d, rfl, h2, .ref a, rfl, .ref d, rfl, fun x dx hx hdx _ => ?_⟩
    exact ⟨H, .earlier t u, t, u, x, a, d, dx, rfl, rfl, mk_same hx hdx, hx, h1, h2, hf, upd_same, fun H' s' h' => ⟨rfl, q x H' s' h'⟩⟩
/-- how | finds its def -/
theorem Txt.bc (T : Txt P K mg) (t : Tm) : BinC K (t.cls T.ca) T.Term_or.f .BitOr := by
  cases t
  · exact T.bc_Now_BitOr
  · exact T.bc_Shift_BitOr
  · exact T.bc_Look_BitOr
  · exact T.bc_Either_BitOr
  · exact T.bc_Later_BitOr
  · exact T.bc_Earlier_BitOr
theorem Txt.sb (T : Txt P K mg) (t u : Tm) : t.cls T.ca = u.cls T.ca ∨ PySem.W.subIn K (.ref (u.cls T.ca)) (.ref (t.cls T.ca)) = some false := by
  cases t <;> cases u <;> first
    | exact .inl rfl
    | exact .inr T.sb_Now_Shift | exact .inr T.sb_Now_Look | exact .inr T.sb_Now_Either | exact .inr T.sb_Now_Later | exact .inr T.sb_Now_Earlier
    | exact .inr T.sb_Shift_Now | exact .inr T.sb_Shift_Look | exact .inr T.sb_Shift_Either | exact .inr T.sb_Shift_Later | exact .inr T.sb_Shift_Earlier
    | exact .inr T.sb_Look_Now | exact .inr T.sb_Look_Shift | exact .inr T.sb_Look_Either | exact .inr T.sb_Look_Later | exact .inr T.sb_Look_Earlier
    | exact .inr T.sb_Either_Now | exact .inr T.sb_Either_Shift | exact .inr T.sb_Either_Look | exact .inr T.sb_Either_Later | exact .inr T.sb_Either_Earlier
    | exact .inr T.sb_Later_Now | exact .inr T.sb_Later_Shift | exact .inr T.sb_Later_Look | exact .inr T.sb_Later_Either | exact .inr T.sb_Later_Earlier
    | exact .inr T.sb_Earlier_Now | exact .inr T.sb_Earlier_Shift | exact .inr T.sb_Earlier_Look | exact .inr T.sb_Earlier_Either | exact .inr T.sb_Earlier_Later
theorem Txt.laterM (T : Txt P K mg) (t : Tm) : Meth K (t.cls T.ca) "later" T.Term_later.f := by
  cases t
  · exact T.m_Now_later
  · exact T.m_Shift_later
  · exact T.m_Look_later
  · exact T.m_Either_later
  · exact T.m_Later_later
  · exact T.m_Earlier_later
theorem Txt.earlierM (T : Txt P K mg) (t : Tm) : Meth K (t.cls T.ca) "earlier" T.Term_earlier.f := by
  cases t
  · exact T.m_Now_earlier
  · exact T.m_Shift_earlier
  · exact T.m_Look_earlier
  · exact T.m_Either_earlier
  · exact T.m_Later_earlier
  · exact T.m_Earlier_earlier
/-- an attribute that no term has -/
theorem TmAt.ins {c : CA} {H : Hp} {t : Tm} {a : Addr} (h : TmAt c H t a) : ∃ dx fs, H a = some (.ins (t.cls c) dx fs) ∧ fs.lookup ("later" : Str) = none ∧ fs.lookup ("earlier" : Str) = none ∧ fs.lookup ("streams" : Str) = none ∧ fs.lookup ("look_streams" : Str) = none ∧ fs.lookup ("children" : Str) = none ∧ fs.lookup ("part_at" : Str) = none ∧ fs.lookup ("part_paths" : Str) = none ∧ fs.lookup ("with_part" : Str) = none ∧ fs.lookup ("with_child" : Str) = none ∧ fs.lookup ("both" : Str) = none := by
  cases t with
  | now => obtain ⟨dx, h⟩ := h; exact ⟨dx, _, h, rfl, rfl, rfl, rfl, rfl, rfl, rfl, rfl, rfl, rfl⟩
  | shift m n => obtain ⟨dx, b, h, _⟩ := h; exact ⟨dx, _, h, rfl, rfl, rfl, rfl, rfl, rfl, rfl, rfl, rfl, rfl⟩
  | look s m wy lim => obtain ⟨dx, b, h, _⟩ := h; exact ⟨dx, _, h, rfl, rfl, rfl, rfl, rfl, rfl, rfl, rfl, rfl, rfl⟩
  | either x y => obtain ⟨dx, b, d, h, _⟩ := h; exact ⟨dx, _, h, rfl, rfl, rfl, rfl, rfl, rfl, rfl, rfl, rfl, rfl⟩
  | later x y => obtain ⟨dx, b, d, h, _⟩ := h; exact ⟨dx, _, h, rfl, rfl, rfl, rfl, rfl, rfl, rfl, rfl, rfl, rfl⟩
  | earlier x y => obtain ⟨dx, b, d, h, _⟩ := h; exact ⟨dx, _, h, rfl, rfl, rfl, rfl, rfl, rfl, rfl, rfl, rfl, rfl⟩
end
end Pl

namespace Pl
open PySem L2
/-! ### what a term answers -/
def Tm.ans (rows : Str → List Int) (now : Int) : Tm → Option Int
  | .now => some now
  | .shift m n => match m.ans rows now with
    | none => none
    | some x => some (x + n)
  | .look s m wy lim => match m.ans rows now with
    | none => none
    | some x => lookedUp (rows s) x wy lim
  | .either a b => match a.ans rows now with
    | none => b.ans rows now
    | some x => some x
  | .later a b => match a.ans rows now, b.ans rows now with
    | some x, some y => some (if y > x then y else x)
    | _, _ => none
  | .earlier a b => match a.ans rows now, b.ans rows now with
    | some x, some y => some (if y < x then y else x)
    | _, _ => none
/-- names, ways and limits are good -/
def Tm.wf : Tm → Prop
  | .now => True
  | .shift m _ => m.wf
  | .look s m wy lim => goodName s ∧ wy ∈ ways ∧ limOk lim ∧ m.wf
  | .either a b => a.wf ∧ b.wf
  | .later a b => a.wf ∧ b.wf
  | .earlier a b => a.wf ∧ b.wf
section
variable {P : Program} {w : World} {K : PySem.W.Frag} {mg : Str → Option Value} {base : Heap}
def rowF (H : Hp) (z : Str) : V → Option V
  | .ref t => match H t with
    | some (.tup [.str s, .int m]) => if s = z then some (.int m) else none
    | _ => none
  | _ => none
theorem rowF_all {H : Hp} {z : Str} : ∀ {vs : List V} {ps : List (Str × Int)}, PrsAt H vs ps → vs.filterMap (rowF H z) = (rowsOf ps z).map V.int
  | [], [], _ => rfl
  | v :: vs, p :: ps, h => by
    obtain ⟨t, e1, e2⟩ := h.2 0 p rfl
    cases e1
    have ih := rowF_all (z := z) (vs := vs) (ps := ps) ⟨Nat.succ.inj h.1, fun i q e => h.2 (i + 1) q e⟩
    unfold rowsOf at ih ⊢
    rw [List.filterMap_cons, List.filter_cons]
    have e3 : rowF H z (.ref t) = if p.1 = z then some (.int p.2) else none := by
      simp only [rowF, e2]
    rw [e3]
    by_cases hz : p.1 = z
    · rw [if_pos hz, if_pos (decide_eq_true hz), List.map_cons, List.map_cons, ih]
    · rw [if_neg hz, if_neg (by simp [hz]), ih]
  | [], _ :: _, h => nomatch h.1
  | _ :: _, [], h => nomatch h.1
/-- world[name] -/
def spGetItem (T : Txt P K mg) : Sp := fun vs H Q _ => ∃ (a l : Addr) (z : Str) (ps : List (Str × Int)), vs = [.ref a, .str z] ∧ WoA T H a l ps ∧ goodName z ∧ ps.length ≤ 1000 ∧ ∀ r H', Same H H' → H r = none → H' r = some (.lst ((rowsOf ps z).map V.int)) → Q (.ref r) H'
theorem ok_getitem (T : Txt P K mg) {k : Nat} : FnR P w K mg base CX0 (k + 3) T.World_getitem.f (spGetItem T) := by
  have G_check_name : FnOk P w K mg base CX0 (k + 2) T.check_name.f T.check_name.fd ["name"] spCkName := ok_check_name T
  refine toR (T.World_getitem.F.ok (k := k + 2) sc_World_getitem (fun vs H Q E h => ?_) (fun cdv A outer s H vs Q E hr h => ?_)) T.World_getitem.b
  · obtain ⟨a, l, z, ps, rfl, _⟩ := h
    rfl
  · obtain ⟨a, l, z, ps, rfl, hw, hz, hl, q⟩ := h
    refine ⟨_, (pss_cons (ps_expr (pe_call G_check_name (hr.mono (by omega)) (by rfl) T.check_name.g T.check_name.F.kp T.check_name.b .nil pass0 (pa_cons (pv 1) pa_nil)))
  (pss_one (ps_ret (pe_lc (own := [("stream", 2), ("moment", 3)]) (g := gTup K 2 (gCons (gName 2) (gCons (gName 3) gNil))) (tt := (tTest (tOp _ (tVar 2) (tVar 1)))) (te := (tVar 3)) rfl sc_World_getitem.nd (pi_list (pe_fld (pv 0) rfl)) (blkOk_by (own := [("stream", 2), ("moment", 3)]) (N := N_World_getitem) (sc := defScope s_World_getitem) (by decide +kernel)) (fun _ _ _ _ _ => (pg_tup rfl (pgs_cons (pg_name (i := 2) sc_World_getitem.nd rfl (.inl rfl)) (pgs_cons (pg_name (i := 3) sc_World_getitem.nd rfl (.inl rfl)) pgs_nil)))) (fun _ _ _ _ _ => (pts_one (pt_cmpR op_eq (pv 2) (pv 1) (nomark _)))) (fun _ _ _ _ _ => (pv 3)))))), ?_⟩
    refine ⟨.str z, rfl, z, rfl, hz, fun H1 s1 => ?_⟩
    obtain ⟨dx, vs, h1, h2, h3⟩ := hw.same s1
    refine ⟨.ref a, rfl, a, _, dx, _, _, rfl, h1, T.o_World.cl, T.n_World_pairs, rfl, l, rfl, ⟨_, SqL.of h2⟩, fun D hD => ?_⟩
    refine lc_pure (K := K) (a := l) (xs := vs) (rowF H1 z) (SqL.of h2) hD (by rw [h3.1]; omega) (fun x H2 N N' hx s2 n1 n2 => ?_) (fun H2 s2 hD2 => ?_)
    · obtain ⟨i, hi⟩ := List.mem_iff_getElem?.mp hx
      have hip : i < ps.length := by rw [← h3.1]; exact (List.getElem?_eq_some_iff.mp hi).1
      obtain ⟨t, e1, e2⟩ := h3.2 i ps[i] (List.getElem?_eq_getElem hip)
      rw [hi] at e1
      cases e1
      refine ⟨t, _, rfl, SqT.of (s2 _ _ e2), rfl, ?_⟩
      refine ⟨_, _, rfl, _, _, rfl, ?_⟩
      refine ⟨rfl, rfl, ?_⟩
      refine ⟨_, rfl, _, rfl, rfl, _, rfl, ?_⟩
      have e3 : rowF H1 z (.ref t) = if ps[i].1 = z then some (.int ps[i].2) else none := by simp only [rowF, e2]
      rw [dstr]
      by_cases hz : ps[i].1 = z
      · rw [if_pos hz] at e3
        exact iT (decide_eq_true hz) ⟨_, rfl, n1 _ _ (Same.refl _) e3⟩
      · rw [if_neg hz] at e3
        exact iF (decide_eq_false hz) (n2 _ (Same.refl _) e3)
    · rw [rowF_all h3] at hD2
      exact q D H2 (s1.trans s2) (s1.free hD) hD2
def Txt.ansF (T : Txt P K mg) : Kd → Addr
  | .now => T.Term_answer_in.f
  | .shift => T.Shift_answer_in.f
  | .look => T.Look_answer_in.f
  | .either => T.Either_answer_in.f
  | .later => T.Later_answer_in.f
  | .earlier => T.Earlier_answer_in.f
theorem Txt.ansM (T : Txt P K mg) (t : Tm) : Meth K (t.cls T.ca) "answer_in" (T.ansF t.kind) := by
  cases t
  · exact T.m_Now_answer_in
  · exact T.m_Shift_answer_in
  · exact T.m_Look_answer_in
  · exact T.m_Either_answer_in
  · exact T.m_Later_answer_in
  · exact T.m_Earlier_answer_in
def spAns (T : Txt P K mg) (n : Nat) (kd : Kd) : Sp := fun vs H Q _ => ∃ (t : Tm) (a wa l : Addr) (ps : List (Str × Int)) (x : Int), vs = [.ref a, .ref wa, .int x] ∧ t.kind = kd ∧ t.depth ≤ n ∧ t.wf ∧ TmAt T.ca H t a ∧ WoA T H wa l ps ∧ ps.length ≤ 1000 ∧ ∀ H', Same H H' → Q (oV (t.ans (rowsOf ps) x)) H'
/-- o.answer_in(world, now) -/
theorem rd_ans (T : Txt P K mg) {n : Nat} {σ : St} {H : Hp} {Q : VK} {tw tn : TE} {t : Tm} {a wa l : Addr} {ps : List (Str × Int)} {x : Int} (hd : t.depth ≤ n) (hw : t.wf) (hta : TmAt T.ca H t a) (ho : WoA T H wa l ps) (hl : ps.length ≤ 1000) (h1 : ∀ Q' : VK, Q' (.ref wa) H → tw σ H Q') (h2 : ∀ Q' : VK, Q' (.int x) H → tn σ H Q')
    (q : ∀ H', Same H H' → Q (oV (t.ans (rowsOf ps) x)) H') :
    ∃ a' C dx fs i, V.ref a = .ref a' ∧ H a' = some (.ins C dx fs) ∧ fs.lookup ("answer_in" : Str) = none ∧ Cls K C ∧ Meth K C "answer_in" (T.ansF i) ∧ tCons tw (tCons tn tNil) σ H fun vs H2 => spAns T n i (.ref a :: vs) H2 Q E0 := by
  obtain ⟨dx, fs, g1, _, _, _, _, _, g2⟩ := hta.obj
  exact ⟨a, _, dx, fs, t.kind, rfl, g1, g2, (T.kc t).o.cl, T.ansM t, h1 _ (h2 _ ⟨t, a, wa, l, ps, x, rfl, rfl, hd, hw, hta, ho, hl, q⟩)⟩
theorem oV_none {o : Option Int} (h : o = none) : decide (oV o = .non) = true := by subst h; rfl
theorem oV_some {o : Option Int} {x : Int} (h : o = some x) : decide (oV o = .non) = false := by subst h; rfl
theorem ok_ans (T : Txt P K mg) {k : Nat} : ∀ (n : Nat) (kd : Kd), FnR P w K mg base CX0 (k + 4 + n) (T.ansF kd) (spAns T n kd)
  | 0, kd => fun A outer s H us vs Q E hr e0 r h => by
    obtain ⟨t, a, _, _, _, _, _, _, hd, _⟩ := h
    have := depth_pos t
    omega
  | n + 1, kd => by
    have G_answer_in : ∀ kd, FnR P w K mg base CX0 (k + 4 + n) (T.ansF kd) (spAns T n kd) := fun kd => ok_ans T n kd
    have G_getitem : FnR P w K mg base CX0 (k + 3) T.World_getitem.f (spGetItem T) := ok_getitem T
    have G_looked_up : FnOk P w K mg base CX0 (k + 2) T.looked_up.f T.looked_up.fd ["moments", "moment", "way", "within"] (spLookedUp K) := ok_looked_up T
    cases kd with
    | now =>
      refine toR (T.Term_answer_in.F.ok (k := k + 4 + n) sc_Term_answer_in (fun vs H Q E h => ?_) (fun cdv A outer s H vs Q E hr h => ?_)) T.Term_answer_in.b
      · obtain ⟨t, a, wa, l, ps, x, rfl, _⟩ := h
        rfl
      · obtain ⟨t, a, wa, l, ps, x, rfl, hk, hd, hw, hta, ho, hl, q⟩ := h
        cases t with
        | now =>
          refine ⟨_, (pss_one (ps_ret (pv 2))), ?_⟩
          exact ⟨.int x, rfl, q H (Same.refl H)⟩
        | _ => cases hk
    | shift =>
      refine toR (T.Shift_answer_in.F.ok (k := k + 4 + n) sc_Shift_answer_in (fun vs H Q E h => ?_) (fun cdv A outer s H vs Q E hr h => ?_)) T.Shift_answer_in.b
      · obtain ⟨t, a, wa, l, ps, x, rfl, _⟩ := h
        rfl
      · obtain ⟨t, a, wa, l, ps, x, rfl, hk, hd, hw, hta, ho, hl, q⟩ := h
        cases t with
        | shift m i =>
          obtain ⟨dx, b, ha, hm⟩ := hta
          have hd' : m.depth ≤ n := by simp only [Tm.depth] at hd; omega
          refine ⟨_, (pss_cons (ps_set (i := 3) sc_Shift_answer_in.nd rfl (.inl rfl) (pe_methV (pe_fld (pv 0) rfl) G_answer_in (hr.mono (by omega)) pass0 (pa_cons (pv 1) (pa_cons (pv 2) pa_nil))))
  (pss_cons (ps_if (pt_cmpR op_isN (pv 3) pe_non (nomark _)) (pss_one (ps_ret pe_non)) pss_nil)
  (pss_one (ps_ret (pe_op op_add (pv 3) (pe_fld (pv 0) rfl)))))), ?_⟩
          refine ⟨.ref a, rfl, a, _, dx, _, _, rfl, ha, T.o_Shift.cl, T.n_Shift_moment, rfl, ?_⟩
          refine rd_ans T (t := m) (x := x) hd' hw hm ho hl (fun Q' h => ⟨_, rfl, h⟩) (fun Q' h => ⟨.int x, rfl, h⟩) fun H1 s1 => ?_
          simp only [Tm.ans] at q
          cases e : m.ans (rowsOf ps) x with
          | none =>
            rw [e] at q
            exact ⟨_, rfl, rfl, _, rfl, iT rfl (q H1 s1)⟩
          | some y =>
            rw [e] at q
            exact ⟨_, rfl, rfl, _, rfl, iF rfl ⟨.int y, rfl, .ref a, rfl, a, _, dx, _, _, rfl, s1 _ _ ha, T.o_Shift.cl, T.n_Shift_amount, rfl, _, _, rfl, rfl, q H1 s1⟩⟩
        | _ => cases hk
    | look =>
      refine toR (T.Look_answer_in.F.ok (k := k + 4 + n) sc_Look_answer_in (fun vs H Q E h => ?_) (fun cdv A outer s H vs Q E hr h => ?_)) T.Look_answer_in.b
      · obtain ⟨t, a, wa, l, ps, x, rfl, _⟩ := h
        rfl
      · obtain ⟨t, a, wa, l, ps, x, rfl, hk, hd, hw, hta, ho, hl, q⟩ := h
        cases t with
        | look z m wy lim =>
          obtain ⟨dx, b, ha, hm⟩ := hta
          obtain ⟨w1, w2, w3, w4⟩ := hw
          have hd' : m.depth ≤ n := by simp only [Tm.depth] at hd; omega
          refine ⟨_, (pss_cons (ps_set (i := 3) sc_Look_answer_in.nd rfl (.inl rfl) (pe_methV (pe_fld (pv 0) rfl) G_answer_in (hr.mono (by omega)) pass0 (pa_cons (pv 1) (pa_cons (pv 2) pa_nil))))
  (pss_cons (ps_if (pt_cmpR op_isN (pv 3) pe_non (nomark _)) (pss_one (ps_ret pe_non)) pss_nil)
  (pss_one (ps_ret (pe_call G_looked_up (hr.mono (by omega)) (by rfl) T.looked_up.g T.looked_up.F.kp T.looked_up.b .nil pass0 (pa_cons (pe_getO G_getitem (hr.mono (by omega)) pass0 (pv 1) (pe_fld (pv 0) rfl)) (pa_cons (pv 3) (pa_cons (pe_fld (pv 0) rfl) (pa_cons (pe_fld (pv 0) rfl) pa_nil))))))))), ?_⟩
          refine ⟨.ref a, rfl, a, _, dx, _, _, rfl, ha, T.o_Look.cl, T.n_Look_moment, rfl, ?_⟩
          refine rd_ans T (t := m) (x := x) hd' w4 hm ho hl (fun Q' h => ⟨_, rfl, h⟩) (fun Q' h => ⟨.int x, rfl, h⟩) fun H1 s1 => ?_
          simp only [Tm.ans] at q
          cases e : m.ans (rowsOf ps) x with
          | none =>
            rw [e] at q
            exact ⟨_, rfl, rfl, _, rfl, iT rfl (q H1 s1)⟩
          | some y =>
            rw [e] at q
            refine ⟨_, rfl, rfl, _, rfl, iF rfl ⟨.ref wa, rfl, .ref a, rfl, a, _, dx, _, _, rfl, s1 _ _ ha, T.o_Look.cl, T.n_Look_stream, rfl, ?_⟩⟩
            obtain ⟨dw, vs, hwa, _⟩ := ho.same s1
            refine ⟨wa, _, dw, _, rfl, hwa, T.gi_World, wa, l, z, ps, rfl, ho.same s1, w1, hl, fun r H2 s2 _ hr2 => ?_⟩
            have ha2 := s2 _ _ (s1 _ _ ha)
            refine ⟨.int y, rfl, .ref a, rfl, a, _, dx, _, _, rfl, ha2, T.o_Look.cl, T.n_Look_way, rfl, .ref a, rfl, a, _, dx, _, _, rfl, ha2, T.o_Look.cl, T.n_Look_within, rfl, ?_⟩
            refine ⟨r, rowsOf ps z, y, wy, lim, rfl, SqL.of hr2, ?_, fun H3 s3 => q H3 ((s1.trans s2).trans s3)⟩
            unfold rowsOf
            rw [List.length_map]
            exact Nat.le_trans (List.length_filter_le _ _) hl
        | _ => cases hk
    | either =>
      refine toR (T.Either_answer_in.F.ok (k := k + 4 + n) sc_Either_answer_in (fun vs H Q E h => ?_) (fun cdv A outer s H vs Q E hr h => ?_)) T.Either_answer_in.b
      · obtain ⟨t, a, wa, l, ps, x, rfl, _⟩ := h
        rfl
      · obtain ⟨t, a, wa, l, ps, x, rfl, hk, hd, hw, hta, ho, hl, q⟩ := h
        cases t with
        | either t1 t2 =>
          obtain ⟨dx, b, d, ha, hx, hy⟩ := hta
          have hd1 : t1.depth ≤ n := by simp only [Tm.depth] at hd; omega
          have hd2 : t2.depth ≤ n := by simp only [Tm.depth] at hd; omega
          refine ⟨_, (pss_cons (ps_set (i := 3) sc_Either_answer_in.nd rfl (.inl rfl) (pe_methV (pe_fld (pv 0) rfl) G_answer_in (hr.mono (by omega)) pass0 (pa_cons (pv 1) (pa_cons (pv 2) pa_nil))))
  (pss_cons (ps_if (pt_cmpR op_isN (pv 3) pe_non (nomark _)) (pss_one (ps_ret (pe_methV (pe_fld (pv 0) rfl) G_answer_in (hr.mono (by omega)) pass0 (pa_cons (pv 1) (pa_cons (pv 2) pa_nil))))) pss_nil)
  (pss_one (ps_ret (pv 3))))), ?_⟩
          refine ⟨.ref a, rfl, a, _, dx, _, _, rfl, ha, T.o_Either.cl, T.n_Either_first, rfl, ?_⟩
          refine rd_ans T (t := t1) (x := x) hd1 hw.1 hx ho hl (fun Q' h => ⟨_, rfl, h⟩) (fun Q' h => ⟨.int x, rfl, h⟩) fun H1 s1 => ?_
          simp only [Tm.ans] at q
          cases e : t1.ans (rowsOf ps) x with
          | none =>
            rw [e] at q
            refine ⟨_, rfl, rfl, _, rfl, iT rfl ⟨.ref a, rfl, a, _, dx, _, _, rfl, s1 _ _ ha, T.o_Either.cl, T.n_Either_second, rfl, ?_⟩⟩
            exact rd_ans T (t := t2) (x := x) hd2 hw.2 (hy.same s1) (ho.same s1) hl (fun Q' h => ⟨_, rfl, h⟩) (fun Q' h => ⟨.int x, rfl, h⟩) fun H2 s2 => q H2 (s1.trans s2)
          | some y =>
            rw [e] at q
            exact ⟨_, rfl, rfl, _, rfl, iF rfl ⟨.int y, rfl, q H1 s1⟩⟩
        | _ => cases hk
    | later =>
      refine toR (T.Later_answer_in.F.ok (k := k + 4 + n) sc_Later_answer_in (fun vs H Q E h => ?_) (fun cdv A outer s H vs Q E hr h => ?_)) T.Later_answer_in.b
      · obtain ⟨t, a, wa, l, ps, x, rfl, _⟩ := h
        rfl
      · obtain ⟨t, a, wa, l, ps, x, rfl, hk, hd, hw, hta, ho, hl, q⟩ := h
        cases t with
        | later t1 t2 =>
          obtain ⟨dx, b, d, ha, hx, hy⟩ := hta
          have hd1 : t1.depth ≤ n := by simp only [Tm.depth] at hd; omega
          have hd2 : t2.depth ≤ n := by simp only [Tm.depth] at hd; omega
          refine ⟨_, (pss_cons (ps_set (i := 3) sc_Later_answer_in.nd rfl (.inl rfl) (pe_methV (pe_fld (pv 0) rfl) G_answer_in (hr.mono (by omega)) pass0 (pa_cons (pv 1) (pa_cons (pv 2) pa_nil))))
  (pss_cons (ps_set (i := 4) sc_Later_answer_in.nd rfl (.inl rfl) (pe_methV (pe_fld (pv 0) rfl) G_answer_in (hr.mono (by omega)) pass0 (pa_cons (pv 1) (pa_cons (pv 2) pa_nil))))
  (pss_cons (ps_if (PW.pt (pw_or (pt_cmpR op_isN (pv 3) pe_non (nomark _)) (pw_or1 (pt_cmpR op_isN (pv 4) pe_non (nomark _))))) (pss_one (ps_ret pe_non)) pss_nil)
  (pss_one (ps_ret (pe_callB (call_max2 rfl) (by rfl) T.n_max (by decide +kernel) (pa_cons (pv 3) (pa_cons (pv 4) pa_nil)))))))), ?_⟩
          refine ⟨.ref a, rfl, a, _, dx, _, _, rfl, ha, T.o_Later.cl, T.n_Later_first, rfl, ?_⟩
          refine rd_ans T (t := t1) (x := x) hd1 hw.1 hx ho hl (fun Q' h => ⟨_, rfl, h⟩) (fun Q' h => ⟨.int x, rfl, h⟩) fun H1 s1 => ?_
          refine ⟨.ref a, rfl, a, _, dx, _, _, rfl, s1 _ _ ha, T.o_Later.cl, T.n_Later_second, rfl, ?_⟩
          refine rd_ans T (t := t2) (x := x) hd2 hw.2 (hy.same s1) (ho.same s1) hl (fun Q' h => ⟨_, rfl, h⟩) (fun Q' h => ⟨.int x, rfl, h⟩) fun H2 s2 => ?_
          simp only [Tm.ans] at q
          cases e : t1.ans (rowsOf ps) x with
          | none =>
            rw [e] at q
            exact ⟨_, rfl, rfl, _, rfl, iT rfl (iT rfl (q H2 (s1.trans s2)))⟩
          | some y =>
            rw [e] at q
            cases e2 : t2.ans (rowsOf ps) x with
            | none =>
              rw [e2] at q
              exact ⟨_, rfl, rfl, _, rfl, iF rfl ⟨_, rfl, rfl, _, rfl, iT rfl (q H2 (s1.trans s2))⟩⟩
            | some y2 =>
              rw [e2] at q
              exact ⟨_, rfl, rfl, _, rfl, iF rfl ⟨_, rfl, rfl, _, rfl, iF rfl ⟨.int y, rfl, .int y2, rfl, y, y2, rfl, q H2 (s1.trans s2)⟩⟩⟩
        | _ => cases hk
    | earlier =>
      refine toR (T.Earlier_answer_in.F.ok (k := k + 4 + n) sc_Earlier_answer_in (fun vs H Q E h => ?_) (fun cdv A outer s H vs Q E hr h => ?_)) T.Earlier_answer_in.b
      · obtain ⟨t, a, wa, l, ps, x, rfl, _⟩ := h
        rfl
      · obtain ⟨t, a, wa, l, ps, x, rfl, hk, hd, hw, hta, ho, hl, q⟩ := h
        cases t with
        | earlier t1 t2 =>
          obtain ⟨dx, b, d, ha, hx, hy⟩ := hta
          have hd1 : t1.depth ≤ n := by simp only [Tm.depth] at hd; omega
          have hd2 : t2.depth ≤ n := by simp only [Tm.depth] at hd; omega
          refine ⟨_, (pss_cons (ps_set (i := 3) sc_Earlier_answer_in.nd rfl (.inl rfl) (pe_methV (pe_fld (pv 0) rfl) G_answer_in (hr.mono (by omega)) pass0 (pa_cons (pv 1) (pa_cons (pv 2) pa_nil))))
  (pss_cons (ps_set (i := 4) sc_Earlier_answer_in.nd rfl (.inl rfl) (pe_methV (pe_fld (pv 0) rfl) G_answer_in (hr.mono (by omega)) pass0 (pa_cons (pv 1) (pa_cons (pv 2) pa_nil))))
  (pss_cons (ps_if (PW.pt (pw_or (pt_cmpR op_isN (pv 3) pe_non (nomark _)) (pw_or1 (pt_cmpR op_isN (pv 4) pe_non (nomark _))))) (pss_one (ps_ret pe_non)) pss_nil)
  (pss_one (ps_ret (pe_callB (call_min2 rfl) (by rfl) T.n_min (by decide +kernel) (pa_cons (pv 3) (pa_cons (pv 4) pa_nil)))))))), ?_⟩
          refine ⟨.ref a, rfl, a, _, dx, _, _, rfl, ha, T.o_Earlier.cl, T.n_Earlier_first, rfl, ?_⟩
          refine rd_ans T (t := t1) (x := x) hd1 hw.1 hx ho hl (fun Q' h => ⟨_, rfl, h⟩) (fun Q' h => ⟨.int x, rfl, h⟩) fun H1 s1 => ?_
          refine ⟨.ref a, rfl, a, _, dx, _, _, rfl, s1 _ _ ha, T.o_Earlier.cl, T.n_Earlier_second, rfl, ?_⟩
          refine rd_ans T (t := t2) (x := x) hd2 hw.2 (hy.same s1) (ho.same s1) hl (fun Q' h => ⟨_, rfl, h⟩) (fun Q' h => ⟨.int x, rfl, h⟩) fun H2 s2 => ?_
          simp only [Tm.ans] at q
          cases e : t1.ans (rowsOf ps) x with
          | none =>
            rw [e] at q
            exact ⟨_, rfl, rfl, _, rfl, iT rfl (iT rfl (q H2 (s1.trans s2)))⟩
          | some y =>
            rw [e] at q
            cases e2 : t2.ans (rowsOf ps) x with
            | none =>
              rw [e2] at q
              exact ⟨_, rfl, rfl, _, rfl, iF rfl ⟨_, rfl, rfl, _, rfl, iT rfl (q H2 (s1.trans s2))⟩⟩
            | some y2 =>
              rw [e2] at q
              exact ⟨_, rfl, rfl, _, rfl, iF rfl ⟨_, rfl, rfl, _, rfl, iF rfl ⟨.int y, rfl, .int y2, rfl, y, y2, rfl, q H2 (s1.trans s2)⟩⟩⟩
        | _ => cases hk
/-- term(world, now) -/
def spTCall (T : Txt P K mg) : Sp := fun vs H Q _ => ∃ (t : Tm) (a wa l : Addr) (ps : List (Str × Int)) (x : Int), vs = [.ref a, .ref wa, .int x] ∧ t.depth ≤ 12 ∧ t.wf ∧ TmAt T.ca H t a ∧ WoA T H wa l ps ∧ ps.length ≤ 1000 ∧ ∀ H', Same H H' → Q (oV (t.ans (rowsOf ps) x)) H'
theorem ok_term_call (T : Txt P K mg) {k : Nat} : FnR P w K mg base CX0 (k + 17) T.Term_call.f (spTCall T) := by
  have G_check_moment : FnOk P w K mg base CX0 (k + 2) T.check_moment.f T.check_moment.fd ["value"] spCkMoment := ok_check_moment T
  have G_check_world : FnOk P w K mg base CX0 (k + 1) T.check_world.f T.check_world.fd ["value"] (spCkWorld T) := ok_check_world T
  have G_answer_in : ∀ kd, FnR P w K mg base CX0 (k + 4 + 12) (T.ansF kd) (spAns T 12 kd) := fun b => ok_ans T 12 b
  refine toR (T.Term_call.F.ok (k := k + 16) sc_Term_call (fun vs H Q E h => ?_) (fun cdv A outer s H vs Q E hr h => ?_)) T.Term_call.b
  · obtain ⟨t, a, wa, l, ps, x, rfl, _⟩ := h
    rfl
  · obtain ⟨t, a, wa, l, ps, x, rfl, hd, hw, hta, ho, hl, q⟩ := h
    refine ⟨_, (pss_cons (ps_expr (pe_call G_check_world (hr.mono (by omega)) (by rfl) T.check_world.g T.check_world.F.kp T.check_world.b .nil pass0 (pa_cons (pv 1) pa_nil)))
  (pss_cons (ps_expr (pe_call G_check_moment (hr.mono (by omega)) (by rfl) T.check_moment.g T.check_moment.F.kp T.check_moment.b .nil pass0 (pa_cons (pv 2) pa_nil)))
  (pss_one (ps_ret (pe_methV (pv 0) G_answer_in (hr.mono (by omega)) pass0 (pa_cons (pv 1) (pa_cons (pv 2) pa_nil))))))), ?_⟩
    refine ⟨.ref wa, rfl, wa, rfl, ho.is, .int x, rfl, x, rfl, .ref a, rfl, ?_⟩
    exact rd_ans T (t := t) (x := x) hd hw hta ho hl (fun Q' h => ⟨.ref wa, rfl, h⟩) (fun Q' h => ⟨.int x, rfl, h⟩) q
theorem callO_of (T : Txt P K mg) (t : Tm) : StX.CallO K (t.cls T.ca) T.Term_call.f := by
  cases t with
  | now => exact T.call_Now
  | shift => exact T.call_Shift
  | look => exact T.call_Look
  | either => exact T.call_Either
  | later => exact T.call_Later
  | earlier => exact T.call_Earlier
end
end Pl

namespace Pl
open PySem L2
/-! ### the law's own trees -/
def Tm.isShift : Tm → Bool
  | .shift _ _ => true
  | _ => false
/-- no shift by 0, no shift directly in a shift -/
def Tm.norm : Tm → Prop
  | .now => True
  | .shift m n => n ≠ 0 ∧ m.isShift = false ∧ m.norm
  | .look _ m _ _ => m.norm
  | .either a b => a.norm ∧ b.norm
  | .later a b => a.norm ∧ b.norm
  | .earlier a b => a.norm ∧ b.norm
/-- its looks are of these streams -/
def Tm.over (zs : List Str) : Tm → Prop
  | .now => True
  | .shift m _ => m.over zs
  | .look s m _ _ => s ∈ zs ∧ m.over zs
  | .either a b => a.over zs ∧ b.over zs
  | .later a b => a.over zs ∧ b.over zs
  | .earlier a b => a.over zs ∧ b.over zs
def Tm.plusL : Tm → Int → Tm
  | .shift m n, k => if k + n = 0 then m else .shift m (k + n)
  | t, k => if k = 0 then t else .shift t k
theorem Tm.plusL_eq {t : Tm} (h : t.norm) (k : Int) : t.plusL k = t.plus k := by
  cases t with
  | shift m n =>
    simp only [Tm.plusL, Tm.plus]
    by_cases hk : k = 0
    · subst hk
      rw [if_pos rfl, Int.zero_add, if_neg h.1]
    · rw [if_neg hk]
  | _ => rfl
structure TrOk (zs : List Str) (l j : Nat) (t : Tm) : Prop where
  wf : t.wf
  nm : t.norm
  ov : t.over zs
  dp : t.depth ≤ l + j + 2
  pt : t.parts ≤ l + 3 * j + 2
  lk : t.looks = l
  ch : t.choices ≤ l + j
theorem plus_ok (t : Tm) (k : Int) : (t.plus k).depth ≤ t.depth + 1 ∧ (t.plus k).parts ≤ t.parts + 1 ∧ (t.plus k).looks = t.looks ∧ (t.plus k).choices = t.choices ∧ (t.wf → (t.plus k).wf) ∧ (t.norm → (t.plus k).norm) ∧ ∀ zs, t.over zs → (t.plus k).over zs := by
  cases t with
  | shift m n =>
    simp only [Tm.plus]
    split
    · exact ⟨by omega, by omega, rfl, rfl, id, id, fun _ h => h⟩
    · split
      · exact ⟨by simp only [Tm.depth]; omega, by simp only [Tm.parts]; omega, rfl, rfl, id, fun h => h.2.2, fun _ h => h⟩
      · rename_i h1 h2
        exact ⟨by simp only [Tm.depth]; omega, by simp only [Tm.parts]; omega, rfl, rfl, id, fun h => ⟨h2, h.2.1, h.2.2⟩, fun _ h => h⟩
  | _ =>
    simp only [Tm.plus]
    split
    · exact ⟨by omega, by omega, rfl, rfl, id, id, fun _ h => h⟩
    · rename_i h1
      exact ⟨by simp only [Tm.depth]; omega, by simp only [Tm.parts]; omega, rfl, rfl, id, fun h => ⟨h1, rfl, h⟩, fun _ h => h⟩
def TrAt (H : Hp) : Tm → Addr → Prop
  | .now, a => H a = some (.tup [.str "now"])
  | .shift m n, a => ∃ b, H a = some (.tup [.str "shift", .int n, .ref b]) ∧ TrAt H m b
  | .look s m wy lim, a => ∃ b, H a = some (.tup [.str "look", .str s, .str wy, oV lim, .ref b]) ∧ TrAt H m b
  | .either x y, a => ∃ b d, H a = some (.tup [.str "either", .ref b, .ref d]) ∧ TrAt H x b ∧ TrAt H y d
  | .later x y, a => ∃ b d, H a = some (.tup [.str "later", .ref b, .ref d]) ∧ TrAt H x b ∧ TrAt H y d
  | .earlier x y, a => ∃ b d, H a = some (.tup [.str "earlier", .ref b, .ref d]) ∧ TrAt H x b ∧ TrAt H y d
theorem TrAt.same {H H' : Hp} (s : Same H H') : ∀ {t : Tm} {a : Addr}, TrAt H t a → TrAt H' t a
  | .now, _, h => s _ _ h
  | .shift _ _, _, ⟨b, h, h1⟩ => ⟨b, s _ _ h, h1.same s⟩
  | .look _ _ _ _, _, ⟨b, h, h1⟩ => ⟨b, s _ _ h, h1.same s⟩
  | .either _ _, _, ⟨b, d, h, h1, h2⟩ => ⟨b, d, s _ _ h, h1.same s, h2.same s⟩
  | .later _ _, _, ⟨b, d, h, h1, h2⟩ => ⟨b, d, s _ _ h, h1.same s, h2.same s⟩
  | .earlier _ _, _, ⟨b, d, h, h1, h2⟩ => ⟨b, d, s _ _ h, h1.same s, h2.same s⟩
theorem TrAt.mn {S : List Addr} {H : Hp} (hS : Lsts S H) : ∀ {t : Tm} {a : Addr}, TrAt H t a → TrAt (mn S H) t a := by
  have key : ∀ {a : Addr} {xs : List V}, H a = some (.tup xs) → Pl.mn S H a = some (.tup xs) := fun {a xs} h => mn_nl hS h (fun _ z => nomatch z)
  intro t
  induction t with
  | now => intro a h; exact key h
  | shift m n ih => intro a ⟨b, h, h1⟩; exact ⟨b, key h, ih h1⟩
  | look s m wy lim ih => intro a ⟨b, h, h1⟩; exact ⟨b, key h, ih h1⟩
  | either x y i1 i2 => intro a ⟨b, d, h, h1, h2⟩; exact ⟨b, d, key h, i1 h1, i2 h2⟩
  | later x y i1 i2 => intro a ⟨b, d, h, h1, h2⟩; exact ⟨b, d, key h, i1 h1, i2 h2⟩
  | earlier x y i1 i2 => intro a ⟨b, d, h, h1, h2⟩; exact ⟨b, d, key h, i1 h1, i2 h2⟩
/-- the word at the head of a tree -/
def Tm.word : Tm → Str
  | .now => "now"
  | .shift _ _ => "shift"
  | .look _ _ _ _ => "look"
  | .either _ _ => "either"
  | .later _ _ => "later"
  | .earlier _ _ => "earlier"
theorem TrAt.obj {H : Hp} {t : Tm} {a : Addr} (h : TrAt H t a) : ∃ xs, H a = some (.tup (.str t.word :: xs)) := by
  cases t with
  | now => exact ⟨_, h⟩
  | shift => obtain ⟨b, h, _⟩ := h; exact ⟨_, h⟩
  | look => obtain ⟨b, h, _⟩ := h; exact ⟨_, h⟩
  | either => obtain ⟨b, d, h, _⟩ := h; exact ⟨_, h⟩
  | later => obtain ⟨b, d, h, _⟩ := h; exact ⟨_, h⟩
  | earlier => obtain ⟨b, d, h, _⟩ := h; exact ⟨_, h⟩
section
variable {P : Program} {w : World} {K : PySem.W.Frag} {mg : Str → Option Value} {base : Heap}
/-- _law_shift -/
def spShiftL : Sp := fun vs H Q _ => ∃ (t : Tm) (a : Addr) (k : Int), vs = [.ref a, .int k] ∧ TrAt H t a ∧ ∀ r H', Same H H' → TrAt H' (t.plusL k) r → Q (.ref r) H'
theorem ok_law_shift (T : Txt P K mg) {k : Nat} : FnOk P w K mg base CX0 (k + 1) T.law_shift.f T.law_shift.fd ["_law_tree_here", "_law_amount"] spShiftL := by
  refine T.law_shift.F.ok (k := k) sc_law_shift (fun vs H Q E h => ?_) (fun cdv A outer s H vs Q E hr h => ?_)
  · obtain ⟨t, a, k, rfl, _⟩ := h
    rfl
  · obtain ⟨t, a, n, rfl, ht, q⟩ := h
    refine ⟨_, (pss_cons (ps_if (pt_cmpR op_eq (pe_ix ix_tup (pv 0) pe_int (fun _ _ => rfl)) pe_str (nomark _)) (pss_cons (ps_set (i := 1) sc_law_shift.nd rfl (.inl rfl) (pe_op op_add (pv 1) (pe_ix ix_tup (pv 0) pe_int (fun _ _ => rfl))))
  (pss_one (ps_set (i := 0) sc_law_shift.nd rfl (.inl rfl) (pe_ix ix_tup (pv 0) pe_int (fun _ _ => rfl))))) pss_nil)
  (pss_cons (ps_if (pt_cmpR op_eq (pv 1) pe_int (nomark _)) (pss_one (ps_ret (pv 0))) pss_nil)
  (pss_one (ps_ret (pe_tup (pa_cons pe_str (pa_cons (pv 1) (pa_cons (pv 0) pa_nil)))))))), ?_⟩
    obtain ⟨xs, ho⟩ := ht.obj
    refine ⟨_, rfl, a, _, 0, .str t.word, rfl, rfl, SqT.of ho, at_ix (by decide) rfl, rfl, _, rfl, ?_⟩
    rw [dstr]
    by_cases hs : ∃ m i, t = .shift m i
    · obtain ⟨m, i, rfl⟩ := hs
      obtain ⟨b, ha, hm⟩ := ht
      refine iT rfl ⟨_, rfl, _, rfl, a, _, 1, .int i, rfl, rfl, SqT.of ha, at_ix (by decide) rfl, _, _, rfl, rfl, _, rfl, a, _, 2, .ref b, rfl, rfl, SqT.of ha, at_ix (by decide) rfl, ?_⟩
      refine ⟨_, rfl, rfl, _, rfl, ?_⟩
      simp only [Tm.plusL] at q
      by_cases e : n + i = 0
      · rw [if_pos e] at q
        exact iT (decide_eq_true (by show V.int (n + i) = _; rw [e])) ⟨_, rfl, q b H (Same.refl H) hm⟩
      · rw [if_neg e] at q
        refine iF (decide_eq_false (fun h => e (V.int.inj h))) ⟨_, rfl, _, rfl, sz (by show 3 ≤ 100000; decide), fun p hp => ?_⟩
        exact q p _ (same_upd hp) ⟨b, upd_same, hm.same (same_upd hp)⟩
    · have hw : ¬ t.word = "shift" := by
        cases t with
        | shift m i => exact absurd ⟨m, i, rfl⟩ hs
        | _ => simp only [Tm.word]; decide
      refine iF (decide_eq_false hw) ?_
      have ep : t.plusL n = if n = 0 then t else .shift t n := by
        cases t with
        | shift m i => exact absurd ⟨m, i, rfl⟩ hs
        | _ => rfl
      rw [ep] at q
      refine ⟨_, rfl, rfl, _, rfl, ?_⟩
      by_cases n0 : n = 0
      · rw [if_pos n0] at q
        exact iT (decide_eq_true (by rw [n0])) ⟨_, rfl, q a H (Same.refl H) ht⟩
      · rw [if_neg n0] at q
        refine iF (decide_eq_false (fun h => n0 (V.int.inj h))) ⟨_, rfl, _, rfl, sz (by show 3 ≤ 100000; decide), fun p hp => ?_⟩
        exact q p _ (same_upd hp) ⟨a, upd_same, ht.same (same_upd hp)⟩
/-- _law_tree -/
def spTree (n : Nat) : Sp := fun vs H Q _ => ∃ (b c nl : Addr) (G : Hp) (zs : List Str) (l j : Nat), vs = [.ref b, .ref nl, .int (l : Nat), .int (j : Nat)] ∧ Wd b c G H ∧ G nl = some (.lst (zs.map V.str)) ∧ 0 < zs.length ∧ zs.length ≤ 10 ∧ (∀ z ∈ zs, goodName z) ∧ l + j < n ∧ n ≤ 100 ∧
  ∀ (t : Tm) (a : Addr) (G' H' : Hp), Same G G' → Wd b c G' H' → TrAt G' t a → TrOk zs l j t → Q (.ref a) H'
theorem kind3 {i : Int} (h0 : 0 ≤ i) (h1 : i < 3) : ∃ (wd : Str) (f : Tm → Tm → Tm), atI ([.str "either", .str "later", .str "earlier"] : List V) i = some (.str wd) ∧ (∀ (H : Hp) (x y : Tm) (a b d : Addr), H a = some (.tup [.str wd, .ref b, .ref d]) → TrAt H x b → TrAt H y d → TrAt H (f x y) a) ∧
    (∀ x y, (f x y).depth = 1 + max x.depth y.depth ∧ (f x y).parts = 1 + (x.parts + y.parts) ∧ (f x y).looks = x.looks + y.looks ∧ (f x y).choices ≤ x.choices + y.choices + 1 ∧ (x.wf → y.wf → (f x y).wf) ∧ (x.norm → y.norm → (f x y).norm) ∧ ∀ zs, x.over zs → y.over zs → (f x y).over zs) := by
  have : i = 0 ∨ i = 1 ∨ i = 2 := by omega
  rcases this with rfl | rfl | rfl
  · exact ⟨"either", .either, at_ix (by decide) rfl, fun H x y a b d h1 h2 h3 => ⟨b, d, h1, h2, h3⟩, fun x y => ⟨rfl, rfl, rfl, Nat.le_succ _, fun a b => ⟨a, b⟩, fun a b => ⟨a, b⟩, fun _ a b => ⟨a, b⟩⟩⟩
  · exact ⟨"later", .later, at_ix (by decide) rfl, fun H x y a b d h1 h2 h3 => ⟨b, d, h1, h2, h3⟩, fun x y => ⟨rfl, rfl, rfl, Nat.le_refl _, fun a b => ⟨a, b⟩, fun a b => ⟨a, b⟩, fun _ a b => ⟨a, b⟩⟩⟩
  · exact ⟨"earlier", .earlier, at_ix (by decide) rfl, fun H x y a b d h1 h2 h3 => ⟨b, d, h1, h2, h3⟩, fun x y => ⟨rfl, rfl, rfl, Nat.le_refl _, fun a b => ⟨a, b⟩, fun a b => ⟨a, b⟩, fun _ a b => ⟨a, b⟩⟩⟩
theorem ways_at {i : Int} (h0 : 0 ≤ i) (h1 : i < 4) : ∃ wy ∈ ways, atI (ways.map V.str) i = some (.str wy) := by
  have hl : i.toNat < ways.length := by
    have : ways.length = 4 := rfl
    omega
  exact ⟨ways[i.toNat], List.getElem_mem hl, at_ix h0 (by rw [List.getElem?_map, List.getElem?_eq_getElem hl]; rfl)⟩
theorem strs_at {zs : List Str} {i : Int} (h0 : 0 ≤ i) (h1 : i < zs.length) : ∃ z ∈ zs, atI (zs.map V.str) i = some (.str z) := by
  have hl : i.toNat < zs.length := by omega
  exact ⟨zs[i.toNat], List.getElem_mem hl, at_ix h0 (by rw [List.getElem?_map, List.getElem?_eq_getElem hl]; rfl)⟩
theorem ok_law_tree (T : Txt P K mg) {k : Nat} : ∀ n, FnOk P w K mg base CX0 (k + 4 + n) T.law_tree.f T.law_tree.fd ["_law_box", "_law_names_here", "_law_looks", "_law_joins"] (spTree n)
  | 0 => T.law_tree.F.ok (k := k + 3) sc_law_tree (fun vs H Q E h => by obtain ⟨_, _, _, _, _, _, _, _, _, _, _, _, _, h, _⟩ := h; omega) (fun _ _ _ _ _ _ _ _ _ h => by obtain ⟨_, _, _, _, _, _, _, _, _, _, _, _, _, h, _⟩ := h; omega)
  | n + 1 => by
    have G_law_tree : FnOk P w K mg base CX0 (k + 4 + n) T.law_tree.f T.law_tree.fd ["_law_box", "_law_names_here", "_law_looks", "_law_joins"] (spTree n) := ok_law_tree T n
    have G_law_pick : FnOk P w K mg base CX0 (k + 1) T.law_pick.f T.law_pick.fd ["_law_box", "_law_many"] spPick := ok_law_pick T
    have G_law_number : FnOk P w K mg base CX0 (k + 2) T.law_number.f T.law_number.fd ["_law_box"] spNumber := ok_law_number T
    have G_law_limit : FnOk P w K mg base CX0 (k + 3) T.law_limit.f T.law_limit.fd ["_law_box"] spLimitL := ok_law_limit T
    have G_law_shift : FnOk P w K mg base CX0 (k + 1) T.law_shift.f T.law_shift.fd ["_law_tree_here", "_law_amount"] spShiftL := ok_law_shift T
    refine T.law_tree.F.ok (k := k + 4 + n) sc_law_tree (fun vs H Q E h => ?_) (fun cdv A outer s H vs Q E hr h => ?_)
    · obtain ⟨b, c, nl, G, zs, l, j, rfl, _⟩ := h
      rfl
    · obtain ⟨b, c, nl, G, zs, l, j, rfl, W, hnl, hz0, hz1, hg, hn, hn1, q⟩ := h
      refine ⟨_, (pss_cons (ps_set (i := 4) sc_law_tree.nd rfl (.inl rfl) (pe_call G_law_pick (hr.mono (by omega)) (by rfl) T.law_pick.g T.law_pick.F.kp T.law_pick.b .nil pass0 (pa_cons (pv 0) (pa_cons pe_int pa_nil))))
  (Evl.pss_cut (ps_if (PW.pt (pw_and (pt_cmpR op_gt (pv 3) pe_int (nomark _)) (pw_and1 (pt_cmpR op_lt (pv 4) pe_int (nomark _))))) (pss_cons (ps_set (i := 5) sc_law_tree.nd rfl (.inl rfl) (pe_call G_law_pick (hr.mono (by omega)) (by rfl) T.law_pick.g T.law_pick.F.kp T.law_pick.b .nil pass0 (pa_cons (pv 0) (pa_cons (pe_op op_add (pv 2) pe_int) pa_nil))))
  (pss_cons (ps_set (i := 6) sc_law_tree.nd rfl (.inl rfl) (pe_call G_law_pick (hr.mono (by omega)) (by rfl) T.law_pick.g T.law_pick.F.kp T.law_pick.b .nil pass0 (pa_cons (pv 0) (pa_cons (pv 3) pa_nil))))
  (pss_cons (ps_set (i := 7) sc_law_tree.nd rfl (.inl rfl) (pe_call G_law_tree (hr.mono (by omega)) (by rfl) T.law_tree.g T.law_tree.F.kp T.law_tree.b .nil pass0 (pa_cons (pv 0) (pa_cons (pv 1) (pa_cons (pv 5) (pa_cons (pv 6) pa_nil))))))
  (pss_cons (ps_set (i := 8) sc_law_tree.nd rfl (.inl rfl) (pe_call G_law_tree (hr.mono (by omega)) (by rfl) T.law_tree.g T.law_tree.F.kp T.law_tree.b .nil pass0 (pa_cons (pv 0) (pa_cons (pv 1) (pa_cons (pe_op op_sub (pv 2) (pv 5)) (pa_cons (pe_op op_sub (pe_op op_sub (pv 3) pe_int) (pv 6)) pa_nil))))))
  (pss_one (ps_ret (pe_tup (pa_cons (pe_ix ix_list (pe_lst (pa_cons pe_str (pa_cons pe_str (pa_cons pe_str pa_nil)))) (pv 4) (fun _ _ => rfl)) (pa_cons (pv 7) (pa_cons (pv 8) pa_nil)))))))))) pss_nil)
  (Evl.pss_cut (ps_if (PW.pt (pw_and (pt_cmpR op_gt (pv 3) pe_int (nomark _)) (pw_and1 (pt_cmpR op_eq (pv 4) pe_int (nomark _))))) (pss_cons (ps_set (i := 9) sc_law_tree.nd rfl (.inl rfl) (pe_call G_law_tree (hr.mono (by omega)) (by rfl) T.law_tree.g T.law_tree.F.kp T.law_tree.b .nil pass0 (pa_cons (pv 0) (pa_cons (pv 1) (pa_cons (pv 2) (pa_cons (pe_op op_sub (pv 3) pe_int) pa_nil))))))
  (pss_one (ps_ret (pe_call G_law_shift (hr.mono (by omega)) (by rfl) T.law_shift.g T.law_shift.F.kp T.law_shift.b .nil pass0 (pa_cons (pv 9) (pa_cons (pe_call G_law_number (hr.mono (by omega)) (by rfl) T.law_number.g T.law_number.F.kp T.law_number.b .nil pass0 (pa_cons (pv 0) pa_nil)) pa_nil)))))) pss_nil)
  (pss_cons (ps_if (pt_cmpR op_gt (pv 2) pe_int (nomark _)) (pss_cons (ps_set (i := 10) sc_law_tree.nd rfl (.inl rfl) (pe_ix ix_list (pv 1) (pe_call G_law_pick (hr.mono (by omega)) (by rfl) T.law_pick.g T.law_pick.F.kp T.law_pick.b .nil pass0 (pa_cons (pv 0) (pa_cons (pe_callB call_len_seq (by rfl) T.n_len PySem.boot_len (pa_cons (pv 1) pa_nil)) pa_nil))) (fun _ _ => rfl)))
  (pss_cons (ps_set (i := 11) sc_law_tree.nd rfl (.inl rfl) (pe_ix ix_list (pe_lst (pa_cons pe_str (pa_cons pe_str (pa_cons pe_str (pa_cons pe_str pa_nil))))) (pe_call G_law_pick (hr.mono (by omega)) (by rfl) T.law_pick.g T.law_pick.F.kp T.law_pick.b .nil pass0 (pa_cons (pv 0) (pa_cons pe_int pa_nil))) (fun _ _ => rfl)))
  (pss_cons (ps_set (i := 12) sc_law_tree.nd rfl (.inl rfl) (pe_call G_law_limit (hr.mono (by omega)) (by rfl) T.law_limit.g T.law_limit.F.kp T.law_limit.b .nil pass0 (pa_cons (pv 0) pa_nil)))
  (pss_one (ps_ret (pe_tup (pa_cons pe_str (pa_cons (pv 10) (pa_cons (pv 11) (pa_cons (pv 12) (pa_cons (pe_call G_law_tree (hr.mono (by omega)) (by rfl) T.law_tree.g T.law_tree.F.kp T.law_tree.b .nil pass0 (pa_cons (pv 0) (pa_cons (pv 1) (pa_cons (pe_op op_sub (pv 2) pe_int) (pa_cons (pv 3) pa_nil))))) pa_nil))))))))))) pss_nil)
  (pss_cons (ps_if (pt_cmpR op_eq (pe_op op_modN (pv 4) pe_int) pe_int (nomark _)) (pss_one (ps_ret (pe_tup (pa_cons pe_str pa_nil)))) pss_nil)
  (pss_one (ps_ret (pe_call G_law_shift (hr.mono (by omega)) (by rfl) T.law_shift.g T.law_shift.F.kp T.law_shift.b .nil pass0 (pa_cons (pe_tup (pa_cons pe_str pa_nil)) (pa_cons (pe_call G_law_number (hr.mono (by omega)) (by rfl) T.law_number.g T.law_number.F.kp T.law_number.b .nil pass0 (pa_cons (pv 0) pa_nil)) pa_nil)))))))))), ?_⟩
      refine ⟨_, rfl, b, c, _, 8, rfl, W, by decide, by decide, fun kd H1 W1 k0 k1 => ?_⟩
      -- a shift of a tree
      have shiftEnd : ∀ {t : Tm} {a : Addr} {G1 H1 : Hp} {i : Int} {Q' : VK}, Same G G1 → Wd b c G1 H1 → TrAt G1 t a → t.norm → (∀ r G' H', Same G G' → Wd b c G' H' → TrAt G' (t.plus i) r → Q' (.ref r) H') → spShiftL [.ref a, .int i] H1 Q' E0 := fun {t a G1 H1 i Q'} s1 W1 ht hnm q' => by
        refine ⟨t, a, i, rfl, ht.same W1.gh, fun r H' s' hr' => ?_⟩
        rw [Tm.plusL_eq hnm] at hr'
        have W' := W1.sm s'
        exact q' r (mn [b, c] H') H' (s1.trans W'.allS) W'.all (hr'.mn W'.lsts)
      refine ⟨fun σ H' => H1 = H' ∧ σ = [some (.ref b), some (.ref nl), some (.int (l : Nat)), some (.int (j : Nat)), some (.int kd), none, none, none, none, none, none, none, none], ?_, ?_⟩
      · -- a join of two trees
        refine ⟨_, rfl, _, _, rfl, rfl, _, rfl, ?_⟩
        by_cases hj : 0 < j
        · refine iT (decide_eq_true (by omega)) ⟨_, rfl, _, _, rfl, rfl, _, rfl, ?_⟩
          by_cases h3 : kd < 3
          · refine iT (decide_eq_true (by omega)) ?_
            refine ⟨_, rfl, _, rfl, _, _, rfl, rfl, b, c, _, (l : Int) + 1, rfl, W1, by omega, by omega, fun lf H2 W2 l0 l1 => ?_⟩
            refine ⟨_, rfl, _, rfl, b, c, _, (j : Int), rfl, W2, by omega, by omega, fun ir H3 W3 i0 i1 => ?_⟩
            have e1 : lf = ((lf.toNat : Nat) : Int) := by omega
            have e2 : ir = ((ir.toNat : Nat) : Int) := by omega
            rw [e1, e2]
            refine ⟨_, rfl, _, rfl, _, rfl, _, rfl, b, c, nl, G, zs, lf.toNat, ir.toNat, rfl, W3, hnl, hz0, hz1, hg, by omega, by omega, fun t1 a1 G4 H4 s4 W4 ht1 ok1 => ?_⟩
            refine ⟨_, rfl, _, rfl, _, rfl, _, rfl, _, _, rfl, rfl, _, rfl, _, _, rfl, rfl, _, rfl, _, _, rfl, rfl, b, c, nl, G4, zs, l - lf.toNat, j - 1 - ir.toNat, ?_, W4, s4 _ _ hnl, hz0, hz1, hg, by omega, by omega, fun t2 a2 G5 H5 s5 W5 ht2 ok2 => ?_⟩
            · show [V.ref b, V.ref nl, V.int ((l : Int) - ((lf.toNat : Nat) : Int)), V.int ((j : Int) - 1 - ((ir.toNat : Nat) : Int))] = _
              rw [show (l : Int) - ((lf.toNat : Nat) : Int) = ((l - lf.toNat : Nat) : Int) by omega, show (j : Int) - 1 - ((ir.toNat : Nat) : Int) = ((j - 1 - ir.toNat : Nat) : Int) by omega]
            · obtain ⟨wd, f, hat, hf, hs⟩ := kind3 k0 h3
              refine ⟨sz (by show 3 ≤ 100000; decide), fun p hp => ?_⟩
              refine ⟨_, rfl, p, _, kd, .str wd, rfl, rfl, SqL.of upd_same, hat, _, rfl, _, rfl, sz (by show 3 ≤ 100000; decide), fun r hr' => ?_⟩
              have s6 := (same_upd (o := .lst [.str "either", .str "later", .str "earlier"]) hp).trans (same_upd (o := .tup [.str wd, .ref a1, .ref a2]) hr')
              have W6 := W5.sm s6
              have g6 := W5.gh.trans s6
              obtain ⟨d1, d2, d3, d4, d5, d6, d7⟩ := hs t1 t2
              refine q (f t1 t2) r _ _ (s4.trans (s5.trans W6.allS)) W6.all ((hf _ _ _ _ _ _ upd_same (ht1.same (s5.trans g6)) (ht2.same g6)).mn W6.lsts) ⟨d5 ok1.wf ok2.wf, d6 ok1.nm ok2.nm, d7 zs ok1.ov ok2.ov, ?_, ?_, ?_, ?_⟩
              · rw [d1]; have := ok1.dp; have := ok2.dp; omega
              · rw [d2]; have := ok1.pt; have := ok2.pt; omega
              · rw [d3, ok1.lk, ok2.lk]; omega
              · have := ok1.ch; have := ok2.ch; omega
          · exact iF (decide_eq_false (by omega)) ⟨rfl, rfl⟩
        · exact iF (decide_eq_false (by omega)) (iF rfl ⟨rfl, rfl⟩)
      rintro σ H1' ⟨rfl, rfl⟩
      refine ⟨fun σ H' => H1 = H' ∧ σ = [some (.ref b), some (.ref nl), some (.int (l : Nat)), some (.int (j : Nat)), some (.int kd), none, none, none, none, none, none, none, none], ?_, ?_⟩
      · -- a shift of a tree
        refine ⟨_, rfl, _, _, rfl, rfl, _, rfl, ?_⟩
        by_cases hj : 0 < j
        · refine iT (decide_eq_true (by omega)) ⟨_, rfl, rfl, _, rfl, ?_⟩
          by_cases h4 : kd = 3
          · subst h4
            refine iT rfl ?_
            refine ⟨_, rfl, _, rfl, _, rfl, _, rfl, _, _, rfl, rfl, b, c, nl, G, zs, l, j - 1, ?_, W1, hnl, hz0, hz1, hg, by omega, by omega, fun t1 a1 G4 H4 s4 W4 ht1 ok1 => ?_⟩
            · show [V.ref b, V.ref nl, V.int (l : Int), V.int ((j : Int) - 1)] = _
              rw [show (j : Int) - 1 = ((j - 1 : Nat) : Int) by omega]
            · refine ⟨_, rfl, _, rfl, b, c, _, rfl, W4, fun i H5 W5 _ _ => ?_⟩
              refine shiftEnd s4 W5 ht1 ok1.nm fun r G' H' sG WG hr' => ?_
              obtain ⟨p1, p2, p3, p4, p5, p6, p7⟩ := plus_ok t1 i
              exact q _ r G' H' sG WG hr' ⟨p5 ok1.wf, p6 ok1.nm, p7 zs ok1.ov, by have := ok1.dp; omega, by have := ok1.pt; omega, by rw [p3]; exact ok1.lk, by rw [p4]; have := ok1.ch; omega⟩
          · exact iF (decide_eq_false (fun h => h4 (V.int.inj h))) ⟨rfl, rfl⟩
        · exact iF (decide_eq_false (by omega)) (iF rfl ⟨rfl, rfl⟩)
      rintro σ H1' ⟨rfl, rfl⟩
      refine ⟨_, rfl, _, _, rfl, rfl, _, rfl, ?_⟩
      by_cases hl : 0 < l
      · -- a look
        refine iT (decide_eq_true (by omega)) ?_
        refine ⟨_, rfl, _, rfl, _, rfl, nl, _, rfl, .inl (SqL.of (W1.gh _ _ hnl)), b, c, _, ((zs.map V.str).length : Int), rfl, W1, by rw [List.length_map]; omega, by rw [List.length_map]; omega, fun i H2 W2 i0 i1 => ?_⟩
        rw [List.length_map] at i1
        obtain ⟨z, hz, hat⟩ := strs_at i0 i1
        refine ⟨nl, _, i, .str z, rfl, rfl, SqL.of (W2.gh _ _ hnl), hat, ?_⟩
        refine ⟨sz (by show 4 ≤ 100000; decide), fun wl hwl => ?_⟩
        obtain ⟨wb, wc⟩ := W2.nb hwl
        have gwl := W2.gh.free hwl
        have W3 : Wd b c (upd G wl (.lst (ways.map V.str))) (upd H2 wl (.lst (ways.map V.str))) := (W2.mut gwl wb wc).keep upd_same wb wc
        refine ⟨_, rfl, b, c, _, 4, rfl, W3, by decide, by decide, fun i2 H4 W4 j0 j1 => ?_⟩
        obtain ⟨wy, hwy, hat2⟩ := ways_at j0 j1
        refine ⟨wl, ways.map V.str, i2, .str wy, rfl, rfl, SqL.of (W4.gh _ _ upd_same), hat2, ?_⟩
        have W5 : Wd b c G H4 := W4.weak (same_upd gwl)
        refine ⟨_, rfl, b, c, _, rfl, W5, fun lim H5 hlim W6 => ?_⟩
        refine ⟨_, rfl, _, rfl, _, rfl, _, rfl, _, rfl, _, rfl, _, _, rfl, rfl, _, rfl, b, c, nl, G, zs, l - 1, j, ?_, W6, hnl, hz0, hz1, hg, by omega, by omega, fun t1 a1 G7 H7 s7 W7 ht1 ok1 => ?_⟩
        · show [V.ref b, V.ref nl, V.int ((l : Int) - 1), V.int (j : Int)] = _
          rw [show (l : Int) - 1 = ((l - 1 : Nat) : Int) by omega]
        · refine ⟨sz (by show 5 ≤ 100000; decide), fun r hr' => ?_⟩
          have s8 := same_upd (o := .tup [.str "look", .str z, .str wy, oV lim, .ref a1]) hr'
          have W8 := W7.sm s8
          have g8 := W7.gh.trans s8
          have ht8 : TrAt (upd H7 r (.tup [.str "look", .str z, .str wy, oV lim, .ref a1])) (.look z t1 wy lim) r := ⟨a1, upd_same, ht1.same g8⟩
          exact q (.look z t1 wy lim) r _ _ (s7.trans W8.allS) W8.all (ht8.mn W8.lsts) ⟨⟨hg z hz, hwy, hlim, ok1.wf⟩, ok1.nm, ⟨hz, ok1.ov⟩, by simp only [Tm.depth]; have := ok1.dp; omega, by simp only [Tm.parts]; have := ok1.pt; omega, by simp only [Tm.looks]; rw [ok1.lk]; omega, by simp only [Tm.choices]; have := ok1.ch; omega⟩
      · refine iF (decide_eq_false (by omega)) ?_
        have hl0 : l = 0 := by omega
        subst hl0
        refine ⟨_, rfl, kd, 2, rfl, rfl, (by show (2 : Int) ≠ 0; decide), rfl, _, rfl, ite2 (fun _ => ?_) (fun _ => ?_)⟩
        · refine ⟨sz (by show 1 ≤ 100000; decide), fun r hr' => ?_⟩
          have s8 := same_upd (o := .tup [.str "now"]) hr'
          have W8 := W1.sm s8
          have ht8 : TrAt (upd H1 r (.tup [.str "now"])) .now r := upd_same
          exact q .now r _ _ W8.allS W8.all (ht8.mn W8.lsts) ⟨trivial, trivial, trivial, by simp only [Tm.depth]; omega, by simp only [Tm.parts]; omega, rfl, by simp only [Tm.choices]; omega⟩
        · refine ⟨sz (by show 1 ≤ 100000; decide), fun r hr' => ?_⟩
          have s8 := same_upd (o := .tup [.str "now"]) hr'
          have W8 := W1.sm s8
          have ht8 : TrAt (upd H1 r (.tup [.str "now"])) .now r := upd_same
          refine ⟨_, rfl, b, c, _, rfl, W8.all, fun i H9 W9 _ _ => ?_⟩
          refine shiftEnd W8.allS W9 (ht8.mn W8.lsts) trivial fun r' G' H' sG WG hr'' => ?_
          obtain ⟨p1, p2, p3, p4, p5, p6, p7⟩ := plus_ok .now i
          simp only [Tm.depth, Tm.parts, Tm.looks, Tm.choices] at p1 p2 p3 p4
          exact q _ r' G' H' sG WG hr'' ⟨p5 trivial, p6 trivial, p7 zs trivial, by omega, by omega, p3, by omega⟩
end
end Pl

set_option Elab.async false
set_option linter.all false
set_option maxRecDepth 100000
set_option maxHeartbeats 4000000
/-! Short words for readings. -/
namespace Pl
open PySem L2
theorem at_same {H H' : Hp} {a : Addr} {o : HO} (s : Same H H') (h : H a = some o) : H' a = some o := s _ _ h
theorem sm2 {H H1 H2 : Hp} (b : Same H1 H2) (a : Same H H1) : Same H H2 := a.trans b
theorem nw1 {H K : Hp} {p : Addr} {o : HO} (e : upd H p o = K) (h : H p = none) : Same H K ∧ K p = some o := by subst e; exact ⟨same_upd h, upd_same⟩
theorem hu65 {k : Nat} {A : Around} (r : Room k A) : A.units + 65 < cLine := by have := r.un; omega
theorem dI_t {x y : Int} (h : x = y) : decide (V.int x = V.int y) = true := by subst h; exact decide_eq_true rfl
theorem dI_f {x y : Int} (h : ¬ x = y) : decide (V.int x = V.int y) = false := decide_eq_false fun z => h (V.int.inj z)
theorem dS_t {x y : Str} (h : x = y) : decide (V.str x = V.str y) = true := by subst h; exact decide_eq_true rfl
theorem dS_f {x y : Str} (h : ¬ x = y) : decide (V.str x = V.str y) = false := decide_eq_false fun z => h (V.str.inj z)
theorem nI_t {x y : Int} (h : x = y) : (!decide (V.int x = V.int y)) = false := by rw [dI_t h]; rfl
theorem nI_f {x y : Int} (h : ¬ x = y) : (!decide (V.int x = V.int y)) = true := by rw [dI_f h]; rfl
theorem nS_t {x y : Str} (h : x = y) : (!decide (V.str x = V.str y)) = false := by rw [dS_t h]; rfl
theorem nS_f {x y : Str} (h : ¬ x = y) : (!decide (V.str x = V.str y)) = true := by rw [dS_f h]; rfl
theorem nb_t {b : Bool} (h : b = false) : (!b) = true := by rw [h]; rfl
theorem nb_f {b : Bool} (h : b = true) : (!b) = false := by rw [h]; rfl
theorem q_none_int : tyB "NoneType" "int" = false := by unfold tyB; rw [kb_none_int]; rfl
theorem q_none_bool : tyB "NoneType" "bool" = false := by unfold tyB; rw [kb_none_bool]; rfl
theorem q_none_tuple : tyB "NoneType" "tuple" = false := by unfold tyB; rw [kb_none_tuple]; rfl
theorem q_none_list : tyB "NoneType" "list" = false := by unfold tyB; rw [kb_none_list]; rfl
theorem q_none_str : tyB "NoneType" "str" = false := by unfold tyB; rw [kb_none_str]; rfl
theorem q_bool_int : tyB "bool" "int" = true := by unfold tyB; rw [kb_bool_int]; rfl
theorem q_bool_bool : tyB "bool" "bool" = true := by unfold tyB; rw [kb_bool_bool]; rfl
theorem q_bool_tuple : tyB "bool" "tuple" = false := by unfold tyB; rw [kb_bool_tuple]; rfl
theorem q_bool_list : tyB "bool" "list" = false := by unfold tyB; rw [kb_bool_list]; rfl
theorem q_bool_str : tyB "bool" "str" = false := by unfold tyB; rw [kb_bool_str]; rfl
theorem q_int_int : tyB "int" "int" = true := by unfold tyB; rw [kb_int_int]; rfl
theorem q_int_bool : tyB "int" "bool" = false := by unfold tyB; rw [kb_int_bool]; rfl
theorem q_int_tuple : tyB "int" "tuple" = false := by unfold tyB; rw [kb_int_tuple]; rfl
theorem q_int_list : tyB "int" "list" = false := by unfold tyB; rw [kb_int_list]; rfl
theorem q_int_str : tyB "int" "str" = false := by unfold tyB; rw [kb_int_str]; rfl
theorem q_str_int : tyB "str" "int" = false := by unfold tyB; rw [kb_str_int]; rfl
theorem q_str_bool : tyB "str" "bool" = false := by unfold tyB; rw [kb_str_bool]; rfl
theorem q_str_tuple : tyB "str" "tuple" = false := by unfold tyB; rw [kb_str_tuple]; rfl
theorem q_str_list : tyB "str" "list" = false := by unfold tyB; rw [kb_str_list]; rfl
theorem q_str_str : tyB "str" "str" = true := by unfold tyB; rw [kb_str_str]; rfl
theorem q_list_int : tyB "list" "int" = false := by unfold tyB; rw [kb_list_int]; rfl
theorem q_list_bool : tyB "list" "bool" = false := by unfold tyB; rw [kb_list_bool]; rfl
theorem q_list_tuple : tyB "list" "tuple" = false := by unfold tyB; rw [kb_list_tuple]; rfl
theorem q_list_list : tyB "list" "list" = true := by unfold tyB; rw [kb_list_list]; rfl
theorem q_list_str : tyB "list" "str" = false := by unfold tyB; rw [kb_list_str]; rfl
theorem q_tuple_int : tyB "tuple" "int" = false := by unfold tyB; rw [kb_tuple_int]; rfl
theorem q_tuple_bool : tyB "tuple" "bool" = false := by unfold tyB; rw [kb_tuple_bool]; rfl
theorem q_tuple_tuple : tyB "tuple" "tuple" = true := by unfold tyB; rw [kb_tuple_tuple]; rfl
theorem q_tuple_list : tyB "tuple" "list" = false := by unfold tyB; rw [kb_tuple_list]; rfl
theorem q_tuple_str : tyB "tuple" "str" = false := by unfold tyB; rw [kb_tuple_str]; rfl
end Pl

set_option Elab.async false
set_option linter.all false
set_option maxRecDepth 100000
set_option maxHeartbeats 4000000
/-! Pieces in plain words: lists of stretches that follow one another without gap. -/
namespace Pl
open PySem L2
abbrev Bd := Option Int
/-- what a piece answers -/
inductive Fm
  | none
  | row (x : Int)
  | shift (x : Int)
  deriving DecidableEq
def Fm.val : Fm → Int → Option Int
  | .none, _ => .none
  | .row x, _ => some x
  | .shift a, n => some (n + a)
def Fm.word : Fm → Str
  | .none => "none"
  | .row _ => "row"
  | .shift _ => "shift"
def Fm.num : Fm → Option Int
  | .none => .none
  | .row x => some x
  | .shift x => some x
abbrev Pc (α : Type) := Bd × Bd × α
def cov (f l : Bd) (x : Int) : Prop := (∀ a, f = some a → a ≤ x) ∧ (∀ b, l = some b → x ≤ b)
def strB : Bd → Bd → Bool
  | some a, some b => decide (a ≤ b)
  | _, _ => true
def grF : Bd → Bd → Bd
  | none, b => b
  | some a, none => some a
  | some a, some b => some (if b > a then b else a)
def lsL : Bd → Bd → Bd
  | none, b => b
  | some a, none => some a
  | some a, some b => some (if b < a then b else a)
def mvd : Bd → Int → Bd
  | none, _ => none
  | some a, n => some (a + n)
def clipP {α : Type} (rows : List (Pc α)) (f l : Bd) : List (Pc α) := rows.filterMap fun p => if strB (grF f p.1) (lsL l p.2.1) then some (grF f p.1, lsL l p.2.1, p.2.2) else none
/-- pieces from f to l, in order, without gap; R tells of each what holds in its stretch -/
def Til {α : Type} (R : α → Int → Prop) : Bd → Bd → List (Pc α) → Prop
  | _, _, [] => False
  | f, l, [p] => p.1 = f ∧ p.2.1 = l ∧ strB f l = true ∧ ∀ x, cov f l x → R p.2.2 x
  | f, l, p :: q :: r => p.1 = f ∧ ∃ b, p.2.1 = some b ∧ strB f (some b) = true ∧ (∀ x, cov f (some b) x → R p.2.2 x) ∧ Til R (some (b + 1)) l (q :: r)
section
variable {α β : Type} {R : α → Int → Prop} {R' : β → Int → Prop}
theorem Til.ne {f l : Bd} {ps : List (Pc α)} (h : Til R f l ps) : ps ≠ [] := by
  cases ps with
  | nil => exact h.elim
  | cons => simp
theorem Til.str : ∀ {ps : List (Pc α)} {f l : Bd}, Til R f l ps → strB f l = true
  | [p], f, l, h => h.2.2.1
  | p :: q :: r, f, l, h => by
    obtain ⟨_, b, _, h2, _, h3⟩ := h
    have h4 := Til.str h3
    cases f with
    | none => rfl
    | some a =>
      cases l with
      | none => rfl
      | some c =>
        simp only [strB, decide_eq_true_eq] at h2 h4 ⊢
        omega
theorem Til.mono {R2 : α → Int → Prop} : ∀ {ps : List (Pc α)} {f l : Bd}, (∀ a x, R a x → R2 a x) → Til R f l ps → Til R2 f l ps
  | [p], f, l, m, h => ⟨h.1, h.2.1, h.2.2.1, fun x hx => m _ _ (h.2.2.2 x hx)⟩
  | p :: q :: r, f, l, m, h => by
    obtain ⟨h0, b, h1, h2, h3, h4⟩ := h
    exact ⟨h0, b, h1, h2, fun x hx => m _ _ (h3 x hx), Til.mono m h4⟩
theorem Til.app : ∀ {ps : List (Pc α)} {qs : List (Pc α)} {f l : Bd} {b : Int}, Til R f (some b) ps → Til R (some (b + 1)) l qs → Til R f l (ps ++ qs)
  | [p], qs, f, l, b, h, g => by
    cases qs with
    | nil => exact g.elim
    | cons q qs => exact ⟨h.1, b, h.2.1, h.2.2.1, h.2.2.2, g⟩
  | p :: q :: r, qs, f, l, b, h, g => by
    obtain ⟨h0, c, h1, h2, h3, h4⟩ := h
    exact ⟨h0, c, h1, h2, h3, Til.app h4 g⟩
theorem Til.one {f l : Bd} {a : α} (h : strB f l = true) (r : ∀ x, cov f l x → R a x) : Til R f l [(f, l, a)] := ⟨rfl, rfl, h, r⟩
/-- each piece is put in parts -/
theorem Til.flat {F : Pc α → List (Pc β)} : ∀ {ps : List (Pc α)} {f l : Bd}, Til R f l ps → (∀ p ∈ ps, strB p.1 p.2.1 = true → (∀ x, cov p.1 p.2.1 x → R p.2.2 x) → Til R' p.1 p.2.1 (F p)) → Til R' f l (ps.flatMap F)
  | [p], f, l, h, g => by
    obtain ⟨rfl, rfl, h2, h3⟩ := h
    rw [List.flatMap_cons, List.flatMap_nil, List.append_nil]
    exact g p List.mem_cons_self h2 h3
  | p :: q :: r, f, l, h, g => by
    obtain ⟨rfl, b, h1, h2, h3, h4⟩ := h
    rw [List.flatMap_cons]
    have g1 := g p List.mem_cons_self (by rw [h1]; exact h2) (by rw [h1]; exact h3)
    rw [h1] at g1
    exact Til.app g1 (Til.flat h4 fun p' hp' => g p' (List.mem_cons_of_mem _ hp'))
theorem cov_gr {f f' l l' : Bd} {x : Int} (h : cov (grF f' f) (lsL l' l) x) : cov f l x := by
  constructor
  · intro a e
    subst e
    cases f' with
    | none => exact h.1 a rfl
    | some c =>
      have := h.1 _ rfl
      split at this <;> omega
  · intro b e
    subst e
    cases l' with
    | none => exact h.2 b rfl
    | some c =>
      have := h.2 _ rfl
      split at this <;> omega
theorem clip_none {f' : Bd} {e : Int} : ∀ {ps : List (Pc α)} {c : Int} {l : Bd}, Til R (some c) l ps → e < c → clipP ps f' (some e) = []
  | [p], c, l, h, he => by
    obtain ⟨h0, h1, h2, _⟩ := h
    have hs : strB (grF f' p.1) (lsL (some e) p.2.1) = false := by
      rw [h0]
      cases f' <;> cases p.2.1 <;> simp only [grF, lsL, strB, decide_eq_false_iff_not] <;> (repeat' split) <;> omega
    simp [clipP, hs]
  | p :: q :: r, c, l, h, he => by
    obtain ⟨h0, b, h1, h2, _, h4⟩ := h
    have hcb : c ≤ b := of_decide_eq_true h2
    have hs : strB (grF f' p.1) (lsL (some e) p.2.1) = false := by
      rw [h0]
      cases f' <;> cases p.2.1 <;> simp only [grF, lsL, strB, decide_eq_false_iff_not] <;> (repeat' split) <;> omega
    have ih := clip_none (f' := f') h4 (show e < b + 1 by omega)
    unfold clipP at ih ⊢
    rw [List.filterMap_cons, if_neg (by rw [hs]; simp)]
    exact ih
theorem Til.clip {f' l' : Bd} : ∀ {ps : List (Pc α)} {f l : Bd}, Til R f l ps → strB (grF f' f) (lsL l' l) = true → Til R (grF f' f) (lsL l' l) (clipP ps f' l')
  | [p], f, l, h, hs => by
    obtain ⟨rfl, rfl, h2, h3⟩ := h
    have e : clipP [p] f' l' = [(grF f' p.1, lsL l' p.2.1, p.2.2)] := by simp [clipP, hs]
    rw [e]
    exact Til.one hs fun x hx => h3 x (cov_gr hx)
  | p :: q :: r, f, l, h, hs => by
    obtain ⟨rfl, b, h1, h2, h3, h4⟩ := h
    have hl := Til.str h4
    have ec : clipP (p :: q :: r) f' l' = (if strB (grF f' p.1) (lsL l' p.2.1) then [(grF f' p.1, lsL l' p.2.1, p.2.2)] else []) ++ clipP (q :: r) f' l' := by
      unfold clipP
      rw [List.filterMap_cons]
      split <;> simp_all
    rw [ec, h1]
    by_cases hp : strB (grF f' p.1) (lsL l' (some b)) = true
    · rw [if_pos hp]
      by_cases hb : ∃ e, l' = some e ∧ e ≤ b
      · -- the end lies in this piece
        obtain ⟨e, rfl, heb⟩ := hb
        have e1 : lsL (some e) (some b) = some e := by
          simp only [lsL]
          split
          · omega
          · rfl
        have e2 : lsL (some e) l = some e := by
          cases l with
          | none => rfl
          | some c =>
            simp only [strB, decide_eq_true_eq] at hl
            simp only [lsL]
            split
            · omega
            · rfl
        rw [clip_none h4 (show e < b + 1 by omega), List.append_nil, e1, e2]
        rw [e1] at hp
        refine Til.one hp fun x hx => h3 x ?_
        rw [← e1] at hx
        exact cov_gr hx
      · have e1 : lsL l' (some b) = some b := by
          cases l' with
          | none => rfl
          | some e =>
            have : ¬ e ≤ b := fun z => hb ⟨e, rfl, z⟩
            simp only [lsL]
            rw [if_pos (by omega)]
        have e2 : grF f' (some (b + 1)) = some (b + 1) := by
          cases f' with
          | none => rfl
          | some c =>
            rw [e1] at hp
            have hcb : c ≤ b := by
              cases hf : p.1 with
              | none => rw [hf] at hp; exact of_decide_eq_true hp
              | some a =>
                rw [hf] at hp
                have := of_decide_eq_true hp
                split at this <;> omega
            simp only [grF]
            rw [if_pos (by omega)]
        have hs2 : strB (grF f' (some (b + 1))) (lsL l' l) = true := by
          rw [e2]
          cases l' with
          | none => exact hl
          | some e =>
            have he : ¬ e ≤ b := fun z => hb ⟨e, rfl, z⟩
            cases l with
            | none => exact decide_eq_true (by omega)
            | some c =>
              simp only [strB, decide_eq_true_eq] at hl
              refine decide_eq_true ?_
              split <;> omega
        have ih := Til.clip h4 hs2
        rw [e2] at ih
        rw [e1] at hp ⊢
        refine Til.app (Til.one hp fun x hx => h3 x ?_) ih
        rw [← e1] at hx
        exact cov_gr hx
    · rw [if_neg hp, List.nil_append]
      -- this piece lies ahead of the beginning
      have hc : ∃ c, f' = some c ∧ b < c := by
        cases f' with
        | none =>
          exfalso
          cases hf : p.1 with
          | none => rw [hf] at hp; exact hp rfl
          | some a =>
            rw [hf] at hp h2 hs
            simp only [strB, decide_eq_true_eq] at h2
            cases l' with
            | none => exact hp (decide_eq_true h2)
            | some e =>
              simp only [grF, lsL, strB, decide_eq_true_eq] at hp hs
              cases l with
              | none => simp only [strB, decide_eq_true_eq] at hs; split at hp <;> omega
              | some c => simp only [strB, decide_eq_true_eq] at hs hl; split at hp <;> split at hs <;> omega
        | some c =>
          refine ⟨c, rfl, ?_⟩
          cases hf : p.1 with
          | none =>
            rw [hf] at hp hs
            cases l' with
            | none => simp only [grF, lsL, strB, decide_eq_true_eq] at hp; omega
            | some e =>
              simp only [grF, lsL, strB, decide_eq_true_eq] at hp hs
              cases l with
              | none => simp only [strB, decide_eq_true_eq] at hs; split at hp <;> omega
              | some d => simp only [strB, decide_eq_true_eq] at hs hl; split at hp <;> split at hs <;> omega
          | some a =>
            rw [hf] at hp h2 hs
            simp only [strB, decide_eq_true_eq] at h2
            cases l' with
            | none => simp only [grF, lsL, strB, decide_eq_true_eq] at hp; split at hp <;> omega
            | some e =>
              simp only [grF, lsL, strB, decide_eq_true_eq] at hp hs
              cases l with
              | none => simp only [strB, decide_eq_true_eq] at hs; split at hp <;> split at hp <;> split at hs <;> omega
              | some d => simp only [strB, decide_eq_true_eq] at hs hl; split at hp <;> split at hp <;> split at hs <;> split at hs <;> omega
      obtain ⟨c, rfl, hbc⟩ := hc
      have e1 : grF (some c) p.1 = some c := by
        cases hf : p.1 with
        | none => rfl
        | some a =>
          rw [hf] at h2
          simp only [strB, decide_eq_true_eq] at h2
          simp only [grF]
          rw [if_neg (by omega)]
      have e2 : grF (some c) (some (b + 1)) = some c := by
        simp only [grF]
        by_cases h : b + 1 > c
        · omega
        · rw [if_neg h]
      rw [e1] at hs ⊢
      have ih := Til.clip (f' := some c) (l' := l') h4 (by rw [e2]; exact hs)
      rw [e2] at ih
      exact ih
theorem Til.clip0 {f' l' : Bd} {ps : List (Pc α)} (h : Til R none none ps) (hs : strB f' l' = true) : Til R f' l' (clipP ps f' l') := by
  have e1 : grF f' none = f' := by cases f' <;> rfl
  have e2 : lsL l' none = l' := by cases l' <;> rfl
  have := Til.clip (f' := f') (l' := l') h (by rw [e1, e2]; exact hs)
  rw [e1, e2] at this
  exact this
end
end Pl

set_option Elab.async false
set_option linter.all false
set_option maxRecDepth 100000
set_option maxHeartbeats 4000000
/-! The pieces of a term, in plain words. -/
namespace Pl
open PySem L2
def Fm.add : Fm → Int → Fm
  | .none, _ => .none
  | .row x, n => .row (x + n)
  | .shift x, n => .shift (x + n)
def addP (ps : List (Pc Fm)) (n : Int) : List (Pc Fm) := ps.map fun p => (p.1, p.2.1, p.2.2.add n)
def sct (wy : Str) : Int := if wy = "before" ∨ wy = "after" then 1 else 0
def aheadP (ms : List Int) (i : Nat) : Bd := if i = 0 then none else ms[i - 1]?
def spanP (ms : List Int) (i : Nat) (r : Int) (wy : Str) (lim : Option Int) : Bd × Bd :=
  if isBack wy then (some (r + sct wy), match lim with
    | none => mvd ms[i + 1]? (sct wy - 1)
    | some l => lsL (mvd ms[i + 1]? (sct wy - 1)) (some (r + l)))
  else (match lim with
    | none => mvd (aheadP ms i) (1 - sct wy)
    | some l => grF (mvd (aheadP ms i) (1 - sct wy)) (some (r - l)), some (r - sct wy))
def gapP (s f : Bd) : List (Pc Fm) := match f with
  | none => []
  | some c => if strB s (some (c - 1)) then [(s, some (c - 1), .none)] else []
def fillT : List (Pc Int) → Bd → Bool → List (Pc Fm)
  | [], s, e => if e then [] else [(s, none, .none)]
  | p :: ss, s, e => if strB p.1 p.2.1 then gapP s p.1 ++ (p.1, p.2.1, .row p.2.2) :: fillT ss (mvd p.2.1 1) p.2.1.isNone else fillT ss s e
def spansP (ms : List Int) (wy : Str) (lim : Option Int) : List (Pc Int) := ms.mapIdx fun i r => ((spanP ms i r wy lim).1, (spanP ms i r wy lim).2, r)
def tableP (ms : List Int) (wy : Str) (lim : Option Int) : List (Pc Fm) := fillT (spansP ms wy lim) none false
def lookP1 (ms : List Int) (wy : Str) (lim : Option Int) (p : Pc Fm) : List (Pc Fm) := match p.2.2 with
  | .none => [(p.1, p.2.1, .none)]
  | .row x => match lookedUp ms x wy lim with
    | none => [(p.1, p.2.1, .none)]
    | some r => [(p.1, p.2.1, .row r)]
  | .shift n => (clipP (tableP ms wy lim) (mvd p.1 n) (mvd p.2.1 n)).map fun q => (mvd q.1 (-n), mvd q.2.1 (-n), q.2.2)
def lookP (ms : List Int) (wy : Str) (lim : Option Int) (ps : List (Pc Fm)) : List (Pc Fm) := ps.flatMap (lookP1 ms wy lim)
def overP1 (qs : List (Pc Fm)) (p : Pc Fm) : List (Pc (Fm × Fm)) := (clipP qs p.1 p.2.1).map fun q => (q.1, q.2.1, (p.2.2, q.2.2))
def overP (ps qs : List (Pc Fm)) : List (Pc (Fm × Fm)) := ps.flatMap (overP1 qs)
def cutP (f l : Bd) (m : Int) (a b : Fm) : List (Pc Fm) := clipP [(none, some (m - 1), a), (some m, none, b)] f l
def pickB (later : Bool) (x y : Int) : Int := if later then (if y > x then y else x) else (if y < x then y else x)
def chosP (later : Bool) (p : Pc (Fm × Fm)) : List (Pc Fm) := match p.2.2 with
  | (.none, _) => [(p.1, p.2.1, .none)]
  | (_, .none) => [(p.1, p.2.1, .none)]
  | (.row x, .row y) => [(p.1, p.2.1, .row (pickB later x y))]
  | (.shift x, .shift y) => [(p.1, p.2.1, .shift (pickB later x y))]
  | (.row x, .shift n) => if later then cutP p.1 p.2.1 (x - n) (.row x) (.shift n) else cutP p.1 p.2.1 (x - n) (.shift n) (.row x)
  | (.shift n, .row x) => if later then cutP p.1 p.2.1 (x - n) (.row x) (.shift n) else cutP p.1 p.2.1 (x - n) (.shift n) (.row x)
def eithP (p : Pc (Fm × Fm)) : Pc Fm := (p.1, p.2.1, match p.2.2.1 with
  | .none => p.2.2.2
  | a => a)
/-! ### what they tell -/
def AnR (A : Int → Option Int) : Fm → Int → Prop := fun m x => m.val x = A x
section
variable {α β : Type} {R : α → Int → Prop} {R' : β → Int → Prop}
theorem Til.map {g : α → β} : ∀ {ps : List (Pc α)} {f l : Bd}, Til R f l ps → (∀ a x, cov f l x → R a x → R' (g a) x) → Til R' f l (ps.map fun p => (p.1, p.2.1, g p.2.2))
  | [p], f, l, h, m => ⟨h.1, h.2.1, h.2.2.1, fun x hx => m _ _ hx (h.2.2.2 x hx)⟩
  | p :: q :: r, f, l, h, m => by
    obtain ⟨h0, b, h1, h2, h3, h4⟩ := h
    have hs := Til.str h4
    refine ⟨h0, b, h1, h2, fun x hx => m _ _ ⟨hx.1, fun c e => ?_⟩ (h3 x hx), Til.map h4 fun a x hx => m a x ⟨fun c e => ?_, hx.2⟩⟩
    · subst e
      have := hx.2 b rfl
      have h6 := of_decide_eq_true hs
      omega
    · subst e
      have := hx.1 (b + 1) rfl
      have h6 := of_decide_eq_true h2
      omega
theorem mvd_mvd (b : Bd) (n : Int) : mvd (mvd b n) (-n) = b := by
  cases b with
  | none => rfl
  | some a => exact congrArg some (by omega)
theorem cov_mvd {f l : Bd} {n x : Int} (h : cov (mvd f (-n)) (mvd l (-n)) x) : cov f l (x + n) := by
  constructor
  · intro a e; subst e; have := h.1 _ rfl; omega
  · intro a e; subst e; have := h.2 _ rfl; omega
theorem strB_mvd (f l : Bd) (n : Int) : strB (mvd f n) (mvd l n) = strB f l := by
  cases f <;> cases l <;> try rfl
  simp only [mvd, strB]
  exact decide_eq_decide.mpr (by omega)
theorem Til.mv {n : Int} : ∀ {ps : List (Pc α)} {f l : Bd}, Til R f l ps → Til (fun a x => R a (x + n)) (mvd f (-n)) (mvd l (-n)) (ps.map fun q => (mvd q.1 (-n), mvd q.2.1 (-n), q.2.2))
  | [p], f, l, h => ⟨congrArg (mvd · (-n)) h.1, congrArg (mvd · (-n)) h.2.1, by rw [strB_mvd]; exact h.2.2.1, fun x hx => h.2.2.2 _ (cov_mvd hx)⟩
  | p :: q :: r, f, l, h => by
    obtain ⟨h0, b, h1, h2, h3, h4⟩ := h
    have ih := Til.mv (n := n) h4
    have e : mvd (some (b + 1)) (-n) = some (b + -n + 1) := congrArg some (by omega)
    rw [e] at ih
    exact ⟨congrArg (mvd · (-n)) h0, b + -n, congrArg (mvd · (-n)) h1, (strB_mvd f (some b) (-n)).trans h2, fun x hx => h3 _ (cov_mvd hx), ih⟩
end
theorem add_til {A : Int → Option Int} {ps : List (Pc Fm)} {f l : Bd} (n : Int) (h : Til (AnR A) f l ps) : Til (AnR fun x => (A x).map (· + n)) f l (addP ps n) := by
  refine Til.map (R' := AnR fun x => (A x).map (· + n)) (g := fun m => m.add n) h fun a x _ r => ?_
  show (a.add n).val x = (A x).map (· + n)
  rw [← show a.val x = A x from r]
  cases a with
  | none => rfl
  | row y => rfl
  | shift y => exact congrArg some (show x + (y + n) = x + y + n by omega)
/-! ### the table of a look -/
def TbR (V : Int → Option Int) : Fm → Int → Prop := fun m x => ∀ y, m.val y = V x
theorem fill_ended : ∀ {ss : List (Pc Int)} {s : Bd}, (∀ p ∈ ss, strB p.1 p.2.1 = false) → fillT ss s true = []
  | [], _, _ => rfl
  | p :: ss, s, h => by
    unfold fillT
    rw [if_neg (by rw [h p List.mem_cons_self]; simp)]
    exact fill_ended fun q hq => h q (List.mem_cons_of_mem _ hq)
theorem cov_str {f l : Bd} {x : Int} (h : cov f l x) : strB f l = true := by
  cases f with
  | none => rfl
  | some a =>
    cases l with
    | none => rfl
    | some b => exact decide_eq_true (by have := h.1 _ rfl; have := h.2 _ rfl; omega)
def Aft (p q : Pc Int) : Prop := strB p.1 p.2.1 = true → strB q.1 q.2.1 = true → ∃ b c, p.2.1 = some b ∧ q.1 = some c ∧ b < c
theorem fill_til {V : Int → Option Int} : ∀ {ss : List (Pc Int)} {s : Bd}, (∀ p ∈ ss, ∀ x, cov p.1 p.2.1 x → V x = some p.2.2) → (∀ x, cov s none x → (∀ p ∈ ss, ¬ cov p.1 p.2.1 x) → V x = none) → ss.Pairwise Aft → (∀ p ∈ ss, strB p.1 p.2.1 = true → ∀ a, s = some a → ∃ c, p.1 = some c ∧ a ≤ c) → Til (TbR V) s none (fillT ss s false)
  | [], s, ha, hb, hc, hd => Til.one (by cases s <;> rfl) fun x hx y => (hb x hx (by simp)).symm
  | p :: ss, s, ha, hb, hc, hd => by
    obtain ⟨hc1, hc2⟩ := List.pairwise_cons.mp hc
    unfold fillT
    by_cases hp : strB p.1 p.2.1 = true
    · rw [if_pos hp]
      have hrow : ∀ x, cov p.1 p.2.1 x → TbR V (.row p.2.2) x := fun x hx y => (ha p List.mem_cons_self x hx).symm
      -- from the beginning of the piece on
      have key : Til (TbR V) p.1 none ((p.1, p.2.1, Fm.row p.2.2) :: fillT ss (mvd p.2.1 1) p.2.1.isNone) := by
        cases hl : p.2.1 with
        | none =>
          rw [hl] at hp hrow
          have : fillT ss (mvd none 1) (none : Bd).isNone = [] := fill_ended fun q hq => by
            cases hq2 : strB q.1 q.2.1 with
            | false => rfl
            | true =>
              obtain ⟨b, c, e, _⟩ := hc1 q hq (by rw [hl]; exact hp) hq2
              rw [hl] at e
              cases e
          rw [this]
          exact Til.one hp hrow
        | some b =>
          rw [hl] at hp hrow
          have ih := fill_til (V := V) (ss := ss) (s := some (b + 1)) (fun q hq => ha q (List.mem_cons_of_mem _ hq)) (fun x hx hn => by
            refine hb x ⟨fun a e => ?_, nofun⟩ fun q hq => ?_
            · obtain ⟨c, e1, e2⟩ := hd p List.mem_cons_self (by rw [hl]; exact hp) a e
              rw [e1] at hp
              have h1 := of_decide_eq_true hp
              have h2 := hx.1 _ rfl
              omega
            · rcases List.mem_cons.mp hq with rfl | hq
              · intro hx2
                have h1 := hx2.2 b hl
                have h2 := hx.1 _ rfl
                omega
              · exact hn q hq) hc2 (fun q hq hs a e => by
            obtain ⟨b', c, e1, e2, e3⟩ := hc1 q hq (by rw [hl]; exact hp) hs
            rw [hl] at e1
            cases e1
            cases e
            exact ⟨c, e2, by omega⟩)
          exact Til.app (Til.one hp hrow) ih
      cases hf : p.1 with
      | none =>
        have hs : s = none := by
          cases s with
          | none => rfl
          | some a =>
            obtain ⟨c, e, _⟩ := hd p List.mem_cons_self hp a rfl
            rw [hf] at e
            cases e
        subst hs
        rw [hf] at key
        exact key
      | some c =>
        rw [hf] at key
        unfold gapP
        simp only
        by_cases hg : strB s (some (c - 1)) = true
        · rw [if_pos hg]
          have k2 : Til (TbR V) (some (c - 1 + 1)) none ((some c, p.2.1, Fm.row p.2.2) :: fillT ss (mvd p.2.1 1) p.2.1.isNone) := by
            rw [show c - 1 + 1 = c by omega]
            exact key
          refine Til.app (Til.one hg fun x hx y => ?_) k2
          refine (hb x ⟨hx.1, nofun⟩ fun q hq => ?_).symm
          have h1 := hx.2 _ rfl
          rcases List.mem_cons.mp hq with rfl | hq
          · intro z
            have := z.1 c hf
            omega
          · intro z
            obtain ⟨b, c', e1, e2, e3⟩ := hc1 q hq hp (cov_str z)
            have h2 := z.1 _ e2
            rw [hf, e1] at hp
            have h3 := of_decide_eq_true hp
            omega
        · rw [if_neg hg]
          have hs : s = some c := by
            cases s with
            | none => exact absurd rfl hg
            | some a =>
              obtain ⟨c', e1, e2⟩ := hd p List.mem_cons_self hp a rfl
              rw [hf] at e1
              cases e1
              have : ¬ a ≤ c - 1 := fun z => hg (decide_eq_true z)
              exact congrArg some (by omega)
          subst hs
          exact key
    · rw [if_neg hp]
      refine fill_til (fun q hq => ha q (List.mem_cons_of_mem _ hq)) (fun x hx hn => hb x hx fun q hq => ?_) hc2 fun q hq => hd q (List.mem_cons_of_mem _ hq)
      rcases List.mem_cons.mp hq with rfl | hq
      · exact fun z => hp (cov_str z)
      · exact hn q hq
/-! ### the spans -/
theorem fitsB_back {r m : Int} {wy : Str} (hb : isBack wy = true) : fitsB r m wy = decide (r + sct wy ≤ m) := by
  unfold isBack at hb
  unfold fitsB sct
  rcases (Bool.or_eq_true _ _).mp hb with h | h
  · have e := of_decide_eq_true h
    subst e
    rw [if_pos rfl, if_neg (by decide)]
    exact decide_eq_decide.mpr (by omega)
  · have e := of_decide_eq_true h
    subst e
    rw [if_neg (by decide), if_pos rfl, if_pos (.inl rfl)]
    exact decide_eq_decide.mpr (by omega)
theorem fitsB_fore {r m : Int} {wy : Str} (hw : wy ∈ (["at", "before", "since", "after"] : List Str)) (hb : ¬ isBack wy = true) : fitsB r m wy = decide (m ≤ r - sct wy) := by
  unfold isBack at hb
  simp only [List.mem_cons, List.not_mem_nil, or_false] at hw
  unfold fitsB sct
  rcases hw with rfl | rfl | rfl | rfl
  · exact absurd (by decide) hb
  · exact absurd (by decide) hb
  · rw [if_neg (by decide), if_neg (by decide), if_pos rfl, if_neg (by decide)]
    exact decide_eq_decide.mpr (by omega)
  · rw [if_neg (by decide), if_neg (by decide), if_neg (by decide), if_pos (.inr rfl)]
    exact decide_eq_decide.mpr (by omega)
theorem sct01 (wy : Str) : sct wy = 0 ∨ sct wy = 1 := by
  unfold sct
  split
  · exact .inr rfl
  · exact .inl rfl
theorem last_ix {p : Nat → Prop} [DecidablePred p] {n : Nat} : ∀ (d i : Nat), n - i = d → i < n → p i → ∃ j, i ≤ j ∧ j < n ∧ p j ∧ (j + 1 < n → ¬ p (j + 1))
  | 0, i, e, h, hp => absurd h (by omega)
  | d + 1, i, e, h, hp => by
    by_cases h1 : i + 1 < n ∧ p (i + 1)
    · obtain ⟨j, h2, h3, h4, h5⟩ := last_ix d (i + 1) (by omega) h1.1 h1.2
      exact ⟨j, by omega, h3, h4, h5⟩
    · exact ⟨i, Nat.le_refl _, h, hp, fun a b => h1 ⟨a, b⟩⟩
theorem first_ix {p : Nat → Prop} [DecidablePred p] : ∀ (i : Nat), p i → ∃ j, j ≤ i ∧ p j ∧ (0 < j → ¬ p (j - 1))
  | 0, hp => ⟨0, Nat.le_refl _, hp, nofun⟩
  | i + 1, hp => by
    by_cases h1 : p i
    · obtain ⟨j, h2, h3, h4⟩ := first_ix i h1
      exact ⟨j, by omega, h3, h4⟩
    · exact ⟨i + 1, Nat.le_refl _, hp, fun _ => h1⟩
theorem srt_le {ms : List Int} (hs : ms.Pairwise (· ≤ ·)) {i j : Nat} (h : i ≤ j) (hj : j < ms.length) : ms[i]'(by omega) ≤ ms[j] := by
  rcases Nat.lt_or_eq_of_le h with h | h
  · exact List.pairwise_iff_getElem.mp hs i j _ _ h
  · subst h; exact Int.le_refl _
/-- the row at i is the one that the look takes -/
theorem best_back {ms : List Int} (hs : ms.Pairwise (· ≤ ·)) {x : Int} {wy : Str} (hb : isBack wy = true) {i : Nat} (hi : i < ms.length) (h1 : ms[i] + sct wy ≤ x) (h2 : ∀ b, ms[i + 1]? = some b → x ≤ b + sct wy - 1) : Best ms x wy ms[i] := by
  refine ⟨List.getElem_mem hi, by rw [fitsB_back hb]; exact decide_eq_true h1, fun y hy hf => ?_⟩
  rw [if_pos hb]
  rw [fitsB_back hb] at hf
  have hf := of_decide_eq_true hf
  obtain ⟨j, hj, rfl⟩ := List.getElem_of_mem hy
  by_cases hji : j ≤ i
  · exact srt_le hs hji hi
  · have h3 : i + 1 < ms.length := by omega
    have h4 := h2 _ (List.getElem?_eq_getElem h3)
    have h5 := srt_le hs (show i + 1 ≤ j by omega) hj
    omega
theorem best_fore {ms : List Int} (hs : ms.Pairwise (· ≤ ·)) {x : Int} {wy : Str} (hw : wy ∈ (["at", "before", "since", "after"] : List Str)) (hb : ¬ isBack wy = true) {i : Nat} (hi : i < ms.length) (h1 : x ≤ ms[i] - sct wy) (h2 : ∀ b, aheadP ms i = some b → b + 1 - sct wy ≤ x) : Best ms x wy ms[i] := by
  refine ⟨List.getElem_mem hi, by rw [fitsB_fore hw hb]; exact decide_eq_true h1, fun y hy hf => ?_⟩
  rw [if_neg hb]
  rw [fitsB_fore hw hb] at hf
  have hf := of_decide_eq_true hf
  obtain ⟨j, hj, rfl⟩ := List.getElem_of_mem hy
  by_cases hji : i ≤ j
  · exact srt_le hs hji hj
  · have h3 : i - 1 < ms.length := by omega
    have h4 := h2 ms[i - 1] (by unfold aheadP; rw [if_neg (by omega)]; exact List.getElem?_eq_getElem h3)
    have h5 := srt_le hs (show j ≤ i - 1 by omega) h3
    omega
theorem best_val {ms : List Int} (hs : ms.Pairwise (· ≤ ·)) {x r : Int} {wy : Str} {lim : Option Int} (h : Best ms x wy r) : lookedUp ms x wy lim = if tooFar r x lim then none else some r := by
  rcases lookedUp_cases hs x wy lim with ⟨a, _⟩ | ⟨y, hy, e⟩
  · have := a r h.mem
    rw [h.fit] at this
    cases this
  · rw [e, hy.uniq h fun _ => Iff.rfl]
theorem mem_spans {ms : List Int} {wy : Str} {lim : Option Int} {p : Pc Int} (h : p ∈ spansP ms wy lim) : ∃ (i : Nat) (hi : i < ms.length), p = ((spanP ms i ms[i] wy lim).1, (spanP ms i ms[i] wy lim).2, ms[i]) := by
  unfold spansP at h
  obtain ⟨i, hi, e⟩ := List.mem_mapIdx.mp h
  exact ⟨i, hi, e.symm⟩
theorem spans_mem {ms : List Int} {wy : Str} {lim : Option Int} {i : Nat} (hi : i < ms.length) : ((spanP ms i ms[i] wy lim).1, (spanP ms i ms[i] wy lim).2, ms[i]) ∈ spansP ms wy lim := by
  unfold spansP
  exact List.mem_mapIdx.mpr ⟨i, hi, rfl⟩
theorem lsL_some {a : Bd} {c b : Int} (h : lsL a (some c) = some b) : b ≤ c ∧ ∀ d, a = some d → b ≤ d := by
  cases a with
  | none => cases h; exact ⟨Int.le_refl _, nofun⟩
  | some e =>
    simp only [lsL, Option.some.injEq] at h
    refine ⟨by split at h <;> omega, fun d hd => ?_⟩
    cases hd
    split at h <;> omega
theorem lsL_le {a : Bd} {c x : Int} : (∀ b, lsL a (some c) = some b → x ≤ b) ↔ x ≤ c ∧ ∀ d, a = some d → x ≤ d := by
  cases a with
  | none => exact ⟨fun h => ⟨h c rfl, nofun⟩, fun h b e => by cases e; exact h.1⟩
  | some e =>
    simp only [lsL, Option.some.injEq]
    constructor
    · intro h
      have := h _ rfl
      refine ⟨by split at this <;> omega, fun d hd => ?_⟩
      subst hd
      split at this <;> omega
    · rintro ⟨h1, h2⟩ b rfl
      have := h2 e rfl
      split <;> omega
theorem grF_le {a : Bd} {c x : Int} : (∀ b, grF a (some c) = some b → b ≤ x) ↔ c ≤ x ∧ ∀ d, a = some d → d ≤ x := by
  cases a with
  | none => exact ⟨fun h => ⟨h c rfl, nofun⟩, fun h b e => by cases e; exact h.1⟩
  | some e =>
    simp only [grF, Option.some.injEq]
    constructor
    · intro h
      have := h _ rfl
      refine ⟨by split at this <;> omega, fun d hd => ?_⟩
      subst hd
      split at this <;> omega
    · rintro ⟨h1, h2⟩ b rfl
      have := h2 e rfl
      split <;> omega
theorem mvd_some {b : Bd} {n c : Int} : mvd b n = some c ↔ ∃ a, b = some a ∧ c = a + n := by
  cases b with
  | none => exact ⟨nofun, fun ⟨_, e, _⟩ => nomatch e⟩
  | some a =>
    constructor
    · intro h; exact ⟨a, rfl, (Option.some.inj h).symm⟩
    · rintro ⟨_, e, rfl⟩; cases e; rfl
theorem cov_back {ms : List Int} {i : Nat} {r x : Int} {wy : Str} {lim : Option Int} (hb : isBack wy = true) : cov (spanP ms i r wy lim).1 (spanP ms i r wy lim).2 x ↔ r + sct wy ≤ x ∧ (∀ b, ms[i + 1]? = some b → x ≤ b + sct wy - 1) ∧ (∀ l, lim = some l → x ≤ r + l) := by
  unfold spanP cov
  rw [if_pos hb]
  cases lim with
  | none =>
    constructor
    · rintro ⟨h1, h2⟩
      exact ⟨h1 _ rfl, fun b e => by have := h2 _ (mvd_some.mpr ⟨b, e, rfl⟩); omega, nofun⟩
    · rintro ⟨h1, h2, _⟩
      refine ⟨fun a e => by cases e; exact h1, fun c e => ?_⟩
      obtain ⟨b, e1, rfl⟩ := mvd_some.mp e
      have := h2 b e1
      omega
  | some l =>
    constructor
    · rintro ⟨h1, h2⟩
      obtain ⟨h3, h4⟩ := lsL_le.mp h2
      exact ⟨h1 _ rfl, fun b e => by have := h4 _ (mvd_some.mpr ⟨b, e, rfl⟩); omega, fun l' e => by cases e; exact h3⟩
    · rintro ⟨h1, h2, h3⟩
      refine ⟨fun a e => by cases e; exact h1, lsL_le.mpr ⟨h3 l rfl, fun c e => ?_⟩⟩
      obtain ⟨b, e1, rfl⟩ := mvd_some.mp e
      have := h2 b e1
      omega
theorem cov_fore {ms : List Int} {i : Nat} {r x : Int} {wy : Str} {lim : Option Int} (hb : ¬ isBack wy = true) : cov (spanP ms i r wy lim).1 (spanP ms i r wy lim).2 x ↔ x ≤ r - sct wy ∧ (∀ b, aheadP ms i = some b → b + 1 - sct wy ≤ x) ∧ (∀ l, lim = some l → r - l ≤ x) := by
  unfold spanP cov
  rw [if_neg hb]
  cases lim with
  | none =>
    constructor
    · rintro ⟨h1, h2⟩
      exact ⟨h2 _ rfl, fun b e => by have := h1 _ (mvd_some.mpr ⟨b, e, rfl⟩); omega, nofun⟩
    · rintro ⟨h1, h2, _⟩
      refine ⟨fun c e => ?_, fun a e => by cases e; exact h1⟩
      obtain ⟨b, e1, rfl⟩ := mvd_some.mp e
      have := h2 b e1
      omega
  | some l =>
    constructor
    · rintro ⟨h1, h2⟩
      obtain ⟨h3, h4⟩ := grF_le.mp h1
      exact ⟨h2 _ rfl, fun b e => by have := h4 _ (mvd_some.mpr ⟨b, e, rfl⟩); omega, fun l' e => by cases e; exact h3⟩
    · rintro ⟨h1, h2, h3⟩
      refine ⟨grF_le.mpr ⟨h3 l rfl, fun c e => ?_⟩, fun a e => by cases e; exact h1⟩
      obtain ⟨b, e1, rfl⟩ := mvd_some.mp e
      have := h2 b e1
      omega
theorem table_til {ms : List Int} (hs : ms.Pairwise (· ≤ ·)) {wy : Str} (hw : wy ∈ (["at", "before", "since", "after"] : List Str)) (lim : Option Int) : Til (TbR fun x => lookedUp ms x wy lim) none none (tableP ms wy lim) := by
  have h01 := sct01 wy
  refine fill_til ?_ ?_ ?_ nofun
  · -- in a span the look takes its row
    intro p hp x hx
    obtain ⟨i, hi, rfl⟩ := mem_spans hp
    simp only at hx ⊢
    by_cases hb : isBack wy = true
    · obtain ⟨h1, h2, h3⟩ := (cov_back hb).mp hx
      rw [best_val hs (best_back hs hb hi h1 h2), if_neg]
      cases lim with
      | none => exact Bool.false_ne_true
      | some l =>
        have := h3 l rfl
        simp only [tooFar, decide_eq_true_eq]
        split <;> omega
    · obtain ⟨h1, h2, h3⟩ := (cov_fore hb).mp hx
      rw [best_val hs (best_fore hs hw hb hi h1 h2), if_neg]
      cases lim with
      | none => exact Bool.false_ne_true
      | some l =>
        have := h3 l rfl
        simp only [tooFar, decide_eq_true_eq]
        split <;> omega
  · -- outside it takes none
    intro x _ hn
    have hn2 : ∀ (i : Nat) (hi : i < ms.length), ¬ cov (spanP ms i ms[i] wy lim).1 (spanP ms i ms[i] wy lim).2 x := fun i hi => hn _ (spans_mem hi)
    rcases lookedUp_cases hs x wy lim with ⟨_, e⟩ | ⟨y, hy, e⟩
    · exact e
    · rw [e, if_pos]
      obtain ⟨i, hi, rfl⟩ := List.getElem_of_mem hy.mem
      by_cases hb : isBack wy = true
      · have hf : ms[i] + sct wy ≤ x := by have := hy.fit; rw [fitsB_back hb] at this; exact of_decide_eq_true this
        obtain ⟨j, h1, h2, h3, h4⟩ := last_ix (p := fun j => ∃ h : j < ms.length, ms[j] + sct wy ≤ x) (n := ms.length) _ i rfl hi ⟨hi, hf⟩
        obtain ⟨hj, h3⟩ := h3
        have h5 : ∀ b, ms[j + 1]? = some b → x ≤ b + sct wy - 1 := by
          intro b e2
          obtain ⟨h6, rfl⟩ := List.getElem?_eq_some_iff.mp e2
          have : ¬ ms[j + 1] + sct wy ≤ x := fun z => h4 h6 ⟨h6, z⟩
          omega
        have hbj := best_back hs hb hj h3 h5
        rw [hy.uniq hbj fun _ => Iff.rfl]
        have h7 : ¬ ∀ l, lim = some l → x ≤ ms[j] + l := fun z => hn2 j hj ((cov_back hb).mpr ⟨h3, h5, z⟩)
        cases lim with
        | none => exact absurd nofun h7
        | some l =>
          have : ¬ x ≤ ms[j] + l := fun z => h7 fun l' e => by cases e; exact z
          simp only [tooFar, decide_eq_true_eq]
          split <;> omega
      · have hf : x ≤ ms[i] - sct wy := by have := hy.fit; rw [fitsB_fore hw hb] at this; exact of_decide_eq_true this
        obtain ⟨j, h1, h3, h4⟩ := first_ix (p := fun j => ∃ h : j < ms.length, x ≤ ms[j] - sct wy) i ⟨hi, hf⟩
        obtain ⟨hj, h3⟩ := h3
        have h5 : ∀ b, aheadP ms j = some b → b + 1 - sct wy ≤ x := by
          intro b e2
          unfold aheadP at e2
          split at e2
          · cases e2
          · obtain ⟨h6, rfl⟩ := List.getElem?_eq_some_iff.mp e2
            have : ¬ x ≤ ms[j - 1] - sct wy := fun z => h4 (by omega) ⟨h6, z⟩
            omega
        have hbj := best_fore hs hw hb hj h3 h5
        rw [hy.uniq hbj fun _ => Iff.rfl]
        have h7 : ¬ ∀ l, lim = some l → ms[j] - l ≤ x := fun z => hn2 j hj ((cov_fore hb).mpr ⟨h3, h5, z⟩)
        cases lim with
        | none => exact absurd nofun h7
        | some l =>
          have : ¬ ms[j] - l ≤ x := fun z => h7 fun l' e => by cases e; exact z
          simp only [tooFar, decide_eq_true_eq]
          split <;> omega
  · -- the spans come in order
    rw [List.pairwise_iff_getElem]
    intro i j hi hj hij h1 h2
    have hi2 : i < ms.length := by simpa [spansP] using hi
    have hj2 : j < ms.length := by simpa [spansP] using hj
    have ei : (spansP ms wy lim)[i] = ((spanP ms i ms[i] wy lim).1, (spanP ms i ms[i] wy lim).2, ms[i]) := by simp [spansP]
    have ej : (spansP ms wy lim)[j] = ((spanP ms j ms[j] wy lim).1, (spanP ms j ms[j] wy lim).2, ms[j]) := by simp [spansP]
    rw [ei, ej]
    simp only
    by_cases hb : isBack wy = true
    · have h3 : i + 1 < ms.length := by omega
      have h4 := srt_le hs (show i + 1 ≤ j by omega) hj2
      unfold spanP
      rw [if_pos hb, if_pos hb]
      simp only [List.getElem?_eq_getElem h3]
      cases lim with
      | none => exact ⟨_, _, rfl, rfl, by omega⟩
      | some l =>
        refine ⟨_, _, rfl, rfl, ?_⟩
        split <;> omega
    · have h3 : j - 1 < ms.length := by omega
      have h4 := srt_le hs (show i ≤ j - 1 by omega) h3
      unfold spanP
      rw [if_neg hb, if_neg hb]
      simp only [aheadP, if_neg (show ¬ j = 0 by omega), List.getElem?_eq_getElem h3]
      cases lim with
      | none => exact ⟨_, _, rfl, rfl, by omega⟩
      | some l =>
        refine ⟨_, _, rfl, rfl, ?_⟩
        split <;> omega
end Pl

set_option Elab.async false
set_option linter.all false
set_option maxRecDepth 100000
set_option maxHeartbeats 4000000
/-! The pieces of a term, in plain words: looks, joins, and how far a form goes. -/
namespace Pl
open PySem L2
theorem look_til {ms : List Int} (hs : ms.Pairwise (· ≤ ·)) {wy : Str} (hw : wy ∈ (["at", "before", "since", "after"] : List Str)) (lim : Option Int) {A : Int → Option Int} {ps : List (Pc Fm)} {f l : Bd} (h : Til (AnR A) f l ps) : Til (AnR fun x => (A x).bind fun m => lookedUp ms m wy lim) f l (lookP ms wy lim ps) := by
  refine Til.flat h fun p hp hst hr => ?_
  unfold lookP1
  cases e : p.2.2 with
  | none =>
    refine Til.one hst fun x hx => ?_
    have := hr x hx
    rw [e] at this
    show none = (A x).bind _
    rw [← show none = A x from this]
    rfl
  | row y =>
    have hA : ∀ x, cov p.1 p.2.1 x → some y = A x := fun x hx => by
      have := hr x hx
      rw [e] at this
      exact this
    simp only
    cases e2 : lookedUp ms y wy lim with
    | none =>
      refine Til.one hst fun x hx => ?_
      show none = (A x).bind _
      rw [← hA x hx]
      exact e2.symm
    | some r =>
      refine Til.one hst fun x hx => ?_
      show some r = (A x).bind _
      rw [← hA x hx]
      exact e2.symm
  | shift n =>
    have hA : ∀ x, cov p.1 p.2.1 x → some (x + n) = A x := fun x hx => by
      have := hr x hx
      rw [e] at this
      exact this
    have h1 := Til.mv (n := n) (Til.clip0 (table_til hs hw lim) (f' := mvd p.1 n) (l' := mvd p.2.1 n) (by rw [strB_mvd]; exact hst))
    rw [mvd_mvd, mvd_mvd] at h1
    have h2 := Til.map (R' := AnR fun x => (A x).bind fun m => lookedUp ms m wy lim) (g := id) h1 fun a x hx r => by
      show a.val x = (A x).bind _
      rw [← hA x hx]
      exact r x
    simp only [List.map_map] at h2
    exact h2
def BoR (A B : Int → Option Int) : Fm × Fm → Int → Prop := fun p x => p.1.val x = A x ∧ p.2.val x = B x
theorem over_til {A B : Int → Option Int} {ps qs : List (Pc Fm)} (h : Til (AnR A) none none ps) (g : Til (AnR B) none none qs) : Til (BoR A B) none none (overP ps qs) := by
  refine Til.flat h fun p hp hst hr => ?_
  exact Til.map (R' := BoR A B) (g := fun q => (p.2.2, q)) (Til.clip0 g hst) fun a x hx r => ⟨hr x hx, r⟩
theorem cut_til {A : Int → Option Int} {f l : Bd} {m : Int} {a b : Fm} (hst : strB f l = true) (ha : ∀ x, x < m → a.val x = A x) (hb : ∀ x, m ≤ x → b.val x = A x) : Til (AnR A) f l (cutP f l m a b) := by
  refine Til.clip0 (R := AnR A) ?_ hst
  refine ⟨rfl, m - 1, rfl, rfl, fun x hx => ha x (by have := hx.2 _ rfl; omega), ?_⟩
  rw [show m - 1 + 1 = m by omega]
  exact ⟨rfl, rfl, rfl, fun x hx => hb x (hx.1 _ rfl)⟩
def pickO (later : Bool) : Option Int → Option Int → Option Int
  | some x, some y => some (pickB later x y)
  | _, _ => none
theorem cut_any {A : Int → Option Int} {f l : Bd} {m : Int} {a b : Fm} (hst : strB f l = true) (ha : ∀ x, cov f l x → x < m → a.val x = A x) (hb : ∀ x, cov f l x → m ≤ x → b.val x = A x) : Til (AnR A) f l (cutP f l m a b) := by
  have h := cut_til (A := fun x => if x < m then a.val x else b.val x) hst (fun x hx => (if_pos hx).symm) (fun x hx => (if_neg (by omega)).symm)
  have := Til.map (R' := AnR A) (g := id) h fun c x hx r => by
    show c.val x = A x
    rw [show c.val x = if x < m then a.val x else b.val x from r]
    split
    · exact ha x hx (by assumption)
    · exact hb x hx (by omega)
  simpa using this
theorem chos_til {A B : Int → Option Int} (later : Bool) {ps : List (Pc (Fm × Fm))} {f l : Bd} (h : Til (BoR A B) f l ps) : Til (AnR fun x => pickO later (A x) (B x)) f l (ps.flatMap (chosP later)) := by
  refine Til.flat h fun p hp hst hr => ?_
  have hA : ∀ x, cov p.1 p.2.1 x → pickO later (A x) (B x) = pickO later (p.2.2.1.val x) (p.2.2.2.val x) := fun x hx => by
    have := hr x hx
    rw [this.1, this.2]
  unfold chosP
  obtain ⟨f, l, a, b⟩ := p
  simp only at hst hA ⊢
  cases a with
  | none => exact Til.one hst fun x hx => (hA x hx).symm
  | row y =>
    cases b with
    | none => exact Til.one hst fun x hx => (hA x hx).symm
    | row z => exact Til.one hst fun x hx => (hA x hx).symm
    | shift n =>
      cases later with
      | true =>
        refine cut_any hst (fun x hx hm => ?_) (fun x hx hm => ?_)
        · rw [hA x hx]
          exact congrArg some (show y = if x + n > y then x + n else y by split <;> omega)
        · rw [hA x hx]
          exact congrArg some (show x + n = if x + n > y then x + n else y by split <;> omega)
      | false =>
        refine cut_any hst (fun x hx hm => ?_) (fun x hx hm => ?_)
        · rw [hA x hx]
          exact congrArg some (show x + n = if x + n < y then x + n else y by split <;> omega)
        · rw [hA x hx]
          exact congrArg some (show y = if x + n < y then x + n else y by split <;> omega)
  | shift n =>
    cases b with
    | none => exact Til.one hst fun x hx => (hA x hx).symm
    | row y =>
      cases later with
      | true =>
        refine cut_any hst (fun x hx hm => ?_) (fun x hx hm => ?_)
        · rw [hA x hx]
          exact congrArg some (show y = if y > x + n then y else x + n by split <;> omega)
        · rw [hA x hx]
          exact congrArg some (show x + n = if y > x + n then y else x + n by split <;> omega)
      | false =>
        refine cut_any hst (fun x hx hm => ?_) (fun x hx hm => ?_)
        · rw [hA x hx]
          exact congrArg some (show x + n = if y < x + n then y else x + n by split <;> omega)
        · rw [hA x hx]
          exact congrArg some (show y = if y < x + n then y else x + n by split <;> omega)
    | shift z =>
      refine Til.one hst fun x hx => ?_
      show some (x + pickB later n z) = pickO later (A x) (B x)
      rw [hA x hx]
      refine congrArg some ?_
      unfold pickB
      simp only [gt_iff_lt]
      cases later <;> simp only [if_true, Bool.false_eq_true, if_false] <;> (repeat' split) <;> omega
def orO : Option Int → Option Int → Option Int
  | some x, _ => some x
  | none, y => y
theorem eith_til {A B : Int → Option Int} {ps : List (Pc (Fm × Fm))} {f l : Bd} (h : Til (BoR A B) f l ps) : Til (AnR fun x => orO (A x) (B x)) f l (ps.map eithP) := by
  refine Til.map (R' := AnR fun x => orO (A x) (B x)) (g := fun q : Fm × Fm => match q.1 with
    | .none => q.2
    | a => a) h fun a x hx r => ?_
  show Fm.val _ x = orO (A x) (B x)
  rw [← r.1, ← r.2]
  obtain ⟨a, b⟩ := a
  cases a <;> rfl
/-! ### how far a form goes -/
def meetF : Fm → Fm → Option Int
  | .row x, .shift n => some (x - n)
  | .shift n, .row x => some (x - n)
  | _, _ => none
theorem meet_val {a b : Fm} (h : a ≠ b) (x : Int) : a.val x = b.val x ↔ meetF a b = some x := by
  cases a <;> cases b <;> simp only [Fm.val, meetF, ne_eq, reduceCtorEq, not_true_eq_false, Fm.row.injEq, Fm.shift.injEq, Option.some.injEq, iff_false, false_iff, not_false_eq_true] at h ⊢ <;> omega
def reachP : List (Pc Fm) → Bd → Nat → Bd → Fm → Bd × Nat × Bd
  | [], last, at_, s, _ => (last, at_, s)
  | p :: ps, last, at_, s, m => if p.2.2 = m then
      match p.2.1 with
      | none => (none, at_ + (ps.length + 1), none)
      | some b => reachP ps (some b) (at_ + 1) (some (b + 1)) m
    else match s with
      | none => (last, at_, s)
      | some c => if meetF m p.2.2 = some c then (if p.2.1 = some c then reachP ps (some c) (at_ + 1) (some (c + 1)) m else (some c, at_, some (c + 1))) else (last, at_, s)
/-- pieces from s on, s in the first of them -/
def Rem (A : Int → Option Int) (s : Bd) : List (Pc Fm) → Prop
  | [] => False
  | p :: ps => Til (AnR A) s none ((s, p.2.1, p.2.2) :: ps)
theorem Rem.cons {A : Int → Option Int} {s : Bd} {p : Pc Fm} {ps : List (Pc Fm)} (h : Rem A s (p :: ps)) : (∀ x, cov s p.2.1 x → p.2.2.val x = A x) ∧ strB s p.2.1 = true ∧ (p.2.1 = none → ps = []) ∧ ∀ b, p.2.1 = some b → Rem A (some (b + 1)) ps := by
  cases ps with
  | nil =>
    obtain ⟨_, h1, h2, h3⟩ := h
    have h1 : p.2.1 = none := h1
    rw [h1]
    exact ⟨h3, h2, fun _ => rfl, nofun⟩
  | cons q ps =>
    obtain ⟨_, b, h1, h2, h3, h4⟩ := h
    have h1 : p.2.1 = some b := h1
    rw [h1]
    refine ⟨h3, h2, nofun, fun b' e => ?_⟩
    cases e
    have e1 : q.1 = some (b + 1) := by
      cases ps with
      | nil => exact h4.1
      | cons => exact h4.1
    show Til _ _ _ ((some (b + 1), q.2.1, q.2.2) :: ps)
    rw [← e1] at h4 ⊢
    exact h4
theorem Rem.later {A : Int → Option Int} {c : Int} {p : Pc Fm} {ps : List (Pc Fm)} (h : Rem A (some c) (p :: ps)) (hn : p.2.1 ≠ some c) : Rem A (some (c + 1)) (p :: ps) := by
  cases ps with
  | nil =>
    obtain ⟨_, h1, h2, h3⟩ := h
    exact ⟨rfl, h1, rfl, fun x hx => h3 x ⟨fun a e => by cases e; have := hx.1 _ rfl; omega, hx.2⟩⟩
  | cons q ps =>
    obtain ⟨_, b, h1, h2, h3, h4⟩ := h
    have h1 : p.2.1 = some b := h1
    have h5 := of_decide_eq_true h2
    have h6 : b ≠ c := fun e => hn (by rw [h1, e])
    exact ⟨rfl, b, h1, decide_eq_true (by omega), fun x hx => h3 x ⟨fun a e => by cases e; have := hx.1 _ rfl; omega, hx.2⟩, h4⟩
/-- what a reach tells: the form is right up to its end, and not behind it -/
structure Rch (A : Int → Option Int) (rs : List (Pc Fm)) (at0 : Nat) (s : Bd) (m : Fm) (r : Bd × Nat × Bd) : Prop where
  right : ∀ x, cov s r.1 x → m.val x = A x
  all : r.1 = none → r.2.1 = at0 + rs.length ∧ r.2.2 = none
  on : ∀ b, r.1 = some b → r.2.2 = some (b + 1) ∧ at0 ≤ r.2.1 ∧ Rem A (some (b + 1)) (rs.drop (r.2.1 - at0)) ∧ m.val (b + 1) ≠ A (b + 1)
  le : at0 ≤ r.2.1
  lo : ∀ c b, s = some c → r.1 = some b → c - 1 ≤ b
theorem reach_on {A : Int → Option Int} {m : Fm} : ∀ {rs : List (Pc Fm)} {at0 : Nat} {c : Int}, Rem A (some c) rs → Rch A rs at0 (some c) m (reachP rs (some (c - 1)) at0 (some c) m)
  | [], _, _, h => h.elim
  | p :: ps, at0, c, h => by
    obtain ⟨h1, h2, h3, h4⟩ := h.cons
    unfold reachP
    by_cases hm : p.2.2 = m
    · rw [if_pos hm]
      rw [hm] at h1
      cases hl : p.2.1 with
      | none =>
        rw [hl] at h1
        have := h3 hl
        subst this
        exact ⟨h1, fun _ => ⟨rfl, rfl⟩, nofun, Nat.le_add_right _ _, nofun⟩
      | some b =>
        rw [hl] at h1 h2
        have h5 := of_decide_eq_true h2
        have ih := reach_on (m := m) (at0 := at0 + 1) (h4 b hl)
        rw [show b + 1 - 1 = b by omega] at ih
        simp only
        generalize reachP ps (some b) (at0 + 1) (some (b + 1)) m = r at ih
        refine ⟨fun x hx => ?_, fun e => ⟨?_, (ih.all e).2⟩, fun b' e => ?_, by have := ih.le; omega, fun c' b' e1 e2 => by cases e1; have := ih.lo _ b' rfl e2; omega⟩
        · by_cases hxb : x ≤ b
          · exact h1 x ⟨hx.1, fun _ e => by cases e; exact hxb⟩
          · exact ih.right x ⟨fun _ e => by cases e; omega, hx.2⟩
        · have := (ih.all e).1
          simp only [List.length_cons]
          omega
        · obtain ⟨g1, g2, g3, g4⟩ := ih.on b' e
          refine ⟨g1, by omega, ?_, g4⟩
          rw [show r.2.1 - at0 = (r.2.1 - (at0 + 1)) + 1 by omega]
          exact g3
    · rw [if_neg hm]
      simp only
      have hv : ∀ x, cov (some c) p.2.1 x → (m.val x = A x ↔ meetF m p.2.2 = some x) := fun x hx => by
        rw [← h1 x hx]
        exact meet_val (fun e => hm e.symm) x
      have hc : cov (some c) p.2.1 c := ⟨fun _ e => by cases e; omega, fun b e => by rw [e] at h2; exact of_decide_eq_true h2⟩
      by_cases hmt : meetF m p.2.2 = some c
      · rw [if_pos hmt]
        by_cases hl : p.2.1 = some c
        · rw [if_pos hl]
          have ih := reach_on (m := m) (at0 := at0 + 1) (h4 c hl)
          rw [show c + 1 - 1 = c by omega] at ih
          generalize reachP ps (some c) (at0 + 1) (some (c + 1)) m = r at ih
          refine ⟨fun x hx => ?_, fun e => ⟨?_, (ih.all e).2⟩, fun b' e => ?_, by have := ih.le; omega, fun c' b' e1 e2 => by cases e1; have := ih.lo _ b' rfl e2; omega⟩
          · by_cases hxb : x = c
            · rw [hxb]; exact (hv c hc).mpr hmt
            · exact ih.right x ⟨fun _ e => by cases e; have := hx.1 _ rfl; omega, hx.2⟩
          · have := (ih.all e).1
            simp only [List.length_cons]
            omega
          · obtain ⟨g1, g2, g3, g4⟩ := ih.on b' e
            refine ⟨g1, by omega, ?_, g4⟩
            rw [show r.2.1 - at0 = (r.2.1 - (at0 + 1)) + 1 by omega]
            exact g3
        · rw [if_neg hl]
          have hr := h.later hl
          refine ⟨fun x hx => ?_, nofun, fun b e => ?_, Nat.le_refl _, fun c' b' e1 e2 => by cases e1; cases e2; omega⟩
          · have h5 := hx.1 _ rfl
            have h6 := hx.2 _ rfl
            rw [show x = c by omega]
            exact (hv c hc).mpr hmt
          · cases e
            refine ⟨rfl, Nat.le_refl _, by rw [Nat.sub_self]; exact hr, fun z => ?_⟩
            have hc1 : cov (some c) p.2.1 (c + 1) := ⟨fun _ e => by cases e; omega, fun b e => by
              rw [e] at h2
              have := of_decide_eq_true h2
              have : b ≠ c := fun e2 => hl (by rw [e, e2])
              omega⟩
            have := (hv _ hc1).mp z
            rw [hmt] at this
            have := Option.some.inj this
            omega
      · rw [if_neg hmt]
        refine ⟨fun x hx => ?_, nofun, fun b e => ?_, Nat.le_refl _, fun c' b' e1 e2 => by cases e1; cases e2; omega⟩
        · have h5 := hx.1 _ rfl
          have h6 := hx.2 _ rfl
          omega
        · cases e
          refine ⟨congrArg some (by omega), Nat.le_refl _, ?_, ?_⟩
          · rw [Nat.sub_self, show c - 1 + 1 = c by omega]; exact h
          · rw [show c - 1 + 1 = c by omega]
            exact fun z => hmt ((hv c hc).mp z)
/-! ### the farthest form -/
theorem reach_same {A : Int → Option Int} {s : Bd} {p : Pc Fm} {ps : List (Pc Fm)} (at0 : Nat) (h : Rem A s (p :: ps)) : Rch A (p :: ps) at0 s p.2.2 (reachP (p :: ps) none at0 s p.2.2) ∧ at0 < (reachP (p :: ps) none at0 s p.2.2).2.1 ∧ ∀ b, (reachP (p :: ps) none at0 s p.2.2).1 = some b → ∃ e, p.2.1 = some e ∧ e ≤ b ∧ ∀ c, s = some c → c ≤ e := by
  obtain ⟨h1, h2, h3, h4⟩ := h.cons
  unfold reachP
  rw [if_pos rfl]
  cases hl : p.2.1 with
  | none =>
    rw [hl] at h1
    have := h3 hl
    subst this
    exact ⟨⟨h1, fun _ => ⟨rfl, rfl⟩, nofun, Nat.le_add_right _ _, nofun⟩, Nat.lt_succ_self _, nofun⟩
  | some b =>
    rw [hl] at h1 h2
    have hsb : ∀ c, s = some c → c ≤ b := fun c e => by subst e; exact of_decide_eq_true h2
    have ih := reach_on (m := p.2.2) (at0 := at0 + 1) (h4 b hl)
    rw [show b + 1 - 1 = b by omega] at ih
    simp only
    generalize reachP ps (some b) (at0 + 1) (some (b + 1)) p.2.2 = r at ih
    refine ⟨⟨fun x hx => ?_, fun e => ⟨?_, (ih.all e).2⟩, fun b' e => ?_, by have := ih.le; omega, fun c' b' e1 e2 => ?_⟩, by have := ih.le; omega, fun b' e => ⟨b, rfl, by have := ih.lo _ b' rfl e; omega, hsb⟩⟩
    · by_cases hxb : x ≤ b
      · exact h1 x ⟨hx.1, fun _ e => by cases e; exact hxb⟩
      · exact ih.right x ⟨fun _ e => by cases e; omega, hx.2⟩
    · have := (ih.all e).1
      simp only [List.length_cons]
      omega
    · obtain ⟨g1, g2, g3, g4⟩ := ih.on b' e
      refine ⟨g1, by omega, ?_, g4⟩
      rw [show r.2.1 - at0 = (r.2.1 - (at0 + 1)) + 1 by omega]
      exact g3
    · have := ih.lo _ b' rfl e2
      have := hsb c' e1
      omega
theorem reach_other {A : Int → Option Int} {c : Int} {p : Pc Fm} {ps : List (Pc Fm)} {m : Fm} (at0 : Nat) (h : Rem A (some c) (p :: ps)) (hm : meetF m p.2.2 = some c) : Rch A (p :: ps) at0 (some c) m (reachP (p :: ps) none at0 (some c) m) ∧ (∀ b, (reachP (p :: ps) none at0 (some c) m).1 = some b → c ≤ b) ∧ (at0 < (reachP (p :: ps) none at0 (some c) m).2.1 ∨ ((reachP (p :: ps) none at0 (some c) m).1 = some c ∧ p.2.1 ≠ some c)) := by
  have hne : p.2.2 ≠ m := fun e => by
    rw [e] at hm
    cases m <;> cases hm
  have e : reachP (p :: ps) none at0 (some c) m = reachP (p :: ps) (some (c - 1)) at0 (some c) m := by
    simp only [reachP, if_neg hne, if_pos hm]
  rw [e]
  refine ⟨reach_on h, fun b hb => ?_, ?_⟩
  · simp only [reachP, if_neg hne, if_pos hm] at hb
    by_cases hl : p.2.1 = some c
    · rw [if_pos hl] at hb
      have ih := reach_on (m := m) (at0 := at0 + 1) (h.cons.2.2.2 c hl)
      rw [show c + 1 - 1 = c by omega] at ih
      have := ih.lo _ b rfl hb
      omega
    · rw [if_neg hl] at hb
      cases hb
      exact Int.le_refl _
  · simp only [reachP, if_neg hne, if_pos hm]
    by_cases hl : p.2.1 = some c
    · rw [if_pos hl]
      have ih := reach_on (m := m) (at0 := at0 + 1) (h.cons.2.2.2 c hl)
      rw [show c + 1 - 1 = c by omega] at ih
      exact .inl (by have := ih.le; omega)
    · rw [if_neg hl]
      exact .inr ⟨rfl, hl⟩
def gtB : Bd → Bd → Bool
  | _, none => false
  | none, some _ => true
  | some l, some b => decide (l > b)
def formsP : Fm → Bd → List Fm
  | .none, _ => [.none]
  | .row x, none => [.row x]
  | .shift x, none => [.shift x]
  | .row x, some s => [.row x, .shift (x - s)]
  | .shift x, some s => [.row (s + x), .shift x]
def bestP (rs : List (Pc Fm)) (at0 : Nat) (s : Bd) : List Fm → Option (Fm × Bd × Nat × Bd) → Option (Fm × Bd × Nat × Bd)
  | [], b => b
  | m :: ms, none => bestP rs at0 s ms (some (m, reachP rs none at0 s m))
  | m :: ms, some b => bestP rs at0 s ms (if gtB (reachP rs none at0 s m).1 b.2.1 then some (m, reachP rs none at0 s m) else some b)
structure Stp (A : Int → Option Int) (rs : List (Pc Fm)) (at0 : Nat) (s : Bd) (b : Fm × Bd × Nat × Bd) : Prop where
  rch : Rch A rs at0 s b.1 b.2
  lt : at0 < b.2.2.1
  fwd : ∀ c e, s = some c → b.2.1 = some e → c ≤ e
  one : ∀ c, s = some c → b.2.1 = some c → b.1 = .none ∨ ∃ x, b.1 = .row x ∧ A (c + 1) ≠ some (x + 1)
theorem best_stp {A : Int → Option Int} {s : Bd} {p : Pc Fm} {ps : List (Pc Fm)} (at0 : Nat) (h : Rem A s (p :: ps)) : ∃ b, bestP (p :: ps) at0 s (formsP p.2.2 s) none = some b ∧ Stp A (p :: ps) at0 s b := by
  obtain ⟨s1, s2, s3⟩ := reach_same at0 h
  obtain ⟨c1, c2, _, _⟩ := h.cons
  cases hp : p.2.2 with
  | none =>
    rw [hp] at s1 s2 s3
    refine ⟨(.none, reachP (p :: ps) none at0 s .none), by cases s <;> rfl, ⟨s1, s2, fun c e e1 e2 => ?_, fun _ _ _ => .inl rfl⟩⟩
    obtain ⟨e', _, h1, h2⟩ := s3 e e2
    have := h2 c e1
    omega
  | row x =>
    rw [hp] at s1 s2 s3
    have hf : ∀ c e, s = some c → (reachP (p :: ps) none at0 s (.row x)).1 = some e → c ≤ e := fun c e e1 e2 => by
      obtain ⟨e', _, h1, h2⟩ := s3 e e2
      have := h2 c e1
      omega
    cases s with
    | none => exact ⟨_, rfl, ⟨s1, s2, hf, nofun⟩⟩
    | some c =>
      obtain ⟨o1, o2, o3⟩ := reach_other (m := .shift (x - c)) at0 h (by rw [hp]; exact congrArg some (by omega))
      unfold formsP
      simp only [bestP]
      by_cases hg : gtB (reachP (p :: ps) none at0 (some c) (.shift (x - c))).1 (reachP (p :: ps) none at0 (some c) (.row x)).1 = true
      · rw [if_pos hg]
        have hlt : ∀ b, (reachP (p :: ps) none at0 (some c) (.shift (x - c))).1 = some b → c < b := fun b e => by
          cases e2 : (reachP (p :: ps) none at0 (some c) (.row x)).1 with
          | none => rw [e2, e] at hg; cases hg
          | some d =>
            rw [e2, e] at hg
            have h1 := hf c d rfl e2
            have h2 := of_decide_eq_true hg
            omega
        refine ⟨_, rfl, ⟨o1, ?_, fun c' e e1 e2 => by cases e1; exact o2 e e2, fun c' e1 e2 => ?_⟩⟩
        · rcases o3 with o3 | ⟨o3, _⟩
          · exact o3
          · have := hlt c o3; omega
        · cases e1
          have := hlt c e2
          omega
      · rw [if_neg hg]
        refine ⟨_, rfl, ⟨s1, s2, hf, fun c' e1 e2 => .inr ⟨x, rfl, fun hA => ?_⟩⟩⟩
        cases e1
        simp only at e2
        cases e3 : (reachP (p :: ps) none at0 (some c) (.shift (x - c))).1 with
        | none => rw [e2, e3] at hg; exact hg rfl
        | some d =>
          rw [e2, e3] at hg
          have h1 := o2 d e3
          have h2 : ¬ d > c := fun z => hg (decide_eq_true z)
          have h3 := (o1.on d e3).2.2.2
          rw [show d = c by omega] at h3
          exact h3 (by rw [hA]; exact congrArg some (show c + 1 + (x - c) = x + 1 by omega))
  | shift n =>
    rw [hp] at s1 s2 s3
    have hf : ∀ c e, s = some c → (reachP (p :: ps) none at0 s (.shift n)).1 = some e → c ≤ e := fun c e e1 e2 => by
      obtain ⟨e', _, h1, h2⟩ := s3 e e2
      have := h2 c e1
      omega
    cases s with
    | none => exact ⟨_, rfl, ⟨s1, s2, hf, nofun⟩⟩
    | some c =>
      obtain ⟨o1, o2, o3⟩ := reach_other (m := .row (c + n)) at0 h (by rw [hp]; exact congrArg some (by omega))
      unfold formsP
      simp only [bestP]
      by_cases hg : gtB (reachP (p :: ps) none at0 (some c) (.shift n)).1 (reachP (p :: ps) none at0 (some c) (.row (c + n))).1 = true
      · rw [if_pos hg]
        refine ⟨_, rfl, ⟨s1, s2, hf, fun c' e1 e2 => ?_⟩⟩
        cases e1
        simp only at e2
        exfalso
        cases e3 : (reachP (p :: ps) none at0 (some c) (.row (c + n))).1 with
        | none => rw [e2, e3] at hg; cases hg
        | some d =>
          rw [e2, e3] at hg
          have h1 := o2 d e3
          have h2 := of_decide_eq_true hg
          omega
      · rw [if_neg hg]
        refine ⟨_, rfl, ⟨o1, ?_, fun c' e e1 e2 => by cases e1; exact o2 e e2, fun c' e1 e2 => .inr ⟨c + n, rfl, fun hA => ?_⟩⟩⟩
        · rcases o3 with o3 | ⟨o3, o4⟩
          · exact o3
          · exfalso
            cases e3 : (reachP (p :: ps) none at0 (some c) (.shift n)).1 with
            | none => rw [o3, e3] at hg; exact hg rfl
            | some d =>
              rw [o3, e3] at hg
              have h2 : ¬ d > c := fun z => hg (decide_eq_true z)
              obtain ⟨e', g1, g2, g3⟩ := s3 d e3
              have := g3 c rfl
              exact o4 (by rw [g1]; exact congrArg some (by omega))
        · cases e1
          simp only at e2
          cases e3 : (reachP (p :: ps) none at0 (some c) (.shift n)).1 with
          | none => rw [e2, e3] at hg; exact hg rfl
          | some d =>
            rw [e2, e3] at hg
            have h1 := hf c d rfl e3
            have h2 : ¬ d > c := fun z => hg (decide_eq_true z)
            have h3 := (s1.on d e3).2.2.2
            rw [show d = c by omega] at h3
            exact h3 (by rw [hA]; exact congrArg some (show c + 1 + n = c + n + 1 by omega))
def farP : Nat → List (Pc Fm) → Nat → Bd → List (Pc Fm)
  | 0, _, _, _ => []
  | _ + 1, [], _, _ => []
  | n + 1, p :: ps, at0, s => match bestP (p :: ps) at0 s (formsP p.2.2 s) none with
    | none => []
    | some b => (s, b.2.1, b.1) :: farP n ((p :: ps).drop (b.2.2.1 - at0)) b.2.2.1 b.2.2.2
/-- no piece could go on -/
def MaxP (A : Int → Option Int) (p : Pc Fm) : Prop := ∀ b, p.2.1 = some b → p.2.2.val (b + 1) ≠ A (b + 1) ∧ (p.1 = some b → p.2.2 = .none ∨ ∃ x, p.2.2 = .row x ∧ A (b + 1) ≠ some (x + 1))
theorem far_til {A : Int → Option Int} : ∀ {n : Nat} {rs : List (Pc Fm)} {at0 : Nat} {s : Bd}, Rem A s rs → rs.length ≤ n → Til (AnR A) s none (farP n rs at0 s) ∧ ∀ p ∈ farP n rs at0 s, MaxP A p
  | _, [], _, _, h, _ => h.elim
  | 0, p :: ps, _, _, _, hn => absurd hn (by simp)
  | n + 1, p :: ps, at0, s, h, hn => by
    obtain ⟨b, e, st⟩ := best_stp at0 h
    unfold farP
    rw [e]
    simp only
    have hlt := st.lt
    cases hl : b.2.1 with
    | none =>
      obtain ⟨a1, a2⟩ := st.rch.all hl
      have : farP n ((p :: ps).drop (b.2.2.1 - at0)) b.2.2.1 b.2.2.2 = [] := by
        rw [List.drop_of_length_le (by omega)]
        cases n <;> rfl
      rw [this]
      refine ⟨Til.one (by cases s <;> rfl) fun x hx => st.rch.right x (by rw [hl]; exact hx), fun q hq => ?_⟩
      rw [List.mem_singleton.mp hq]
      exact nofun
    | some d =>
      obtain ⟨a1, a2, a3, a4⟩ := st.rch.on d hl
      have hd : ((p :: ps).drop (b.2.2.1 - at0)).length ≤ n := by
        rw [List.length_drop]
        omega
      rw [a1]
      obtain ⟨i1, i2⟩ := far_til (at0 := b.2.2.1) a3 hd
      refine ⟨Til.app (ps := [(s, some d, b.1)]) (Til.one ?_ fun x hx => st.rch.right x (by rw [hl]; exact hx)) i1, fun q hq => ?_⟩
      · cases s with
        | none => rfl
        | some c => exact decide_eq_true (st.fwd c d rfl hl)
      · rcases List.mem_cons.mp hq with rfl | hq
        · intro d' e2
          cases e2
          exact ⟨a4, fun e3 => st.one d e3 hl⟩
        · exact i2 q hq
theorem til_rem {A : Int → Option Int} {ps : List (Pc Fm)} (h : Til (AnR A) none none ps) : Rem A none ps := by
  match ps, h with
  | [p], h => exact ⟨rfl, h.2⟩
  | p :: q :: r, h => exact ⟨rfl, h.2⟩
end Pl

namespace Pl
open PySem L2
local macro_rules | `(tactic| infer_instance) => `(tactic| first
  | with_reducible assumption
  | with_reducible exact Same.refl _
  | exact Wd.gh (by with_reducible assumption)
  | exact sm2 (by with_reducible assumption) (by infer_instance)
  | exact sm2 (same_upd (by with_reducible assumption)) (by infer_instance)
  | exact sm2 (Wd.gh (by with_reducible assumption)) (by infer_instance))
local macro_rules | `(tactic| trivial) => `(tactic| first
  | with_reducible assumption
  | with_reducible exact upd_same
  | exact at_same (by with_reducible assumption) (by trivial)
  | exact at_same (same_upd (by with_reducible assumption)) (by trivial)
  | exact at_same (Wd.gh (by with_reducible assumption)) (by trivial))
local macro_rules | `(tactic| ac_rfl) => `(tactic| first
  | exact Ty.int _
  | exact Ty.str _
  | exact Ty.non
  | exact Ty.bl _
  | exact Ty.tup (by trivial)
  | exact Ty.lst (by trivial))
local macro_rules | `(tactic| contradiction) => `(tactic| first
  | exact rfl
  | exact decide_eq_true (by first | assumption | omega)
  | exact decide_eq_false (by first | assumption | omega)
  | exact dI_t (by first | assumption | omega)
  | exact dI_f (by first | assumption | omega)
  | exact dS_t (by first | assumption | decide)
  | exact dS_f (by first | assumption | decide)
  | exact nI_t (by first | assumption | omega)
  | exact nI_f (by first | assumption | omega)
  | exact nS_t (by first | assumption | decide)
  | exact nS_f (by first | assumption | decide)
  | assumption
  | exact q_none_int | exact q_none_bool | exact q_none_tuple | exact q_none_list | exact q_none_str | exact q_bool_int | exact q_bool_bool | exact q_bool_tuple | exact q_bool_list | exact q_bool_str | exact q_int_int | exact q_int_bool | exact q_int_tuple | exact q_int_list | exact q_int_str | exact q_str_int | exact q_str_bool | exact q_str_tuple | exact q_str_list | exact q_str_str | exact q_list_int | exact q_list_bool | exact q_list_tuple | exact q_list_list | exact q_list_str | exact q_tuple_int | exact q_tuple_bool | exact q_tuple_tuple | exact q_tuple_list | exact q_tuple_str
  | exact nb_t (by contradiction)
  | exact nb_f (by contradiction))
local macro_rules | `(tactic| and_intros) => `(tactic| repeat (first
  | refine ⟨_, rfl, ?_⟩
  | refine ⟨_, _, rfl, rfl, ?_⟩
  | refine ⟨rfl, ?_⟩
  | refine ⟨_, _, _, _, rfl, rfl, SqT.of (by trivial), at_ix (by decide) rfl, ?_⟩
  | refine ⟨_, _, _, _, rfl, rfl, SqL.of (by trivial), at_ix (by decide) rfl, ?_⟩
  | refine ⟨_, _, rfl, Or.inl (SqL.of (by trivial)), ?_⟩
  | refine ⟨_, _, rfl, Or.inr (SqT.of (by trivial)), ?_⟩
  | refine ⟨_, _, _, _, _, rfl, (by trivial), (by trivial), (by trivial), rfl, ?_⟩
  | refine ⟨_, _, _, _, _, rfl, ClsV.ty _, Ty.x (by ac_rfl), isI_tuple (by ac_rfl), ?_⟩
  | refine ⟨_, _, _, _, _, rfl, ClsV.ty _, Ty.x (by ac_rfl), isI_list (by ac_rfl), ?_⟩
  | refine ⟨_, _, _, _, _, rfl, ClsV.ty _, Ty.x (by ac_rfl), isI_int (by ac_rfl), ?_⟩
  | refine ⟨_, _, _, _, _, rfl, ClsV.ty _, Ty.x (by ac_rfl), isI_bool (by ac_rfl), ?_⟩
  | refine ⟨_, _, _, _, _, rfl, ClsV.ty _, Ty.x (by ac_rfl), isI_str (by ac_rfl), ?_⟩
  | refine ⟨sz (Nat.le_of_ble_eq_true rfl), ?_⟩
  | refine ⟨Or.inl ⟨rfl, _, SqL.of (by trivial)⟩, ?_⟩
  | refine ⟨_, _, rfl, SqT.of (by trivial), rfl, _, _, rfl, _, _, rfl, _, _, rfl, _, _, rfl, rfl, ?_⟩
  | refine ⟨_, _, rfl, SqT.of (by trivial), rfl, _, _, rfl, _, _, rfl, _, _, rfl, rfl, ?_⟩
  | refine ⟨_, _, rfl, SqT.of (by trivial), rfl, _, _, rfl, _, _, rfl, rfl, ?_⟩
  | refine ⟨_, _, _, _, rfl, (by with_reducible assumption : Wd _ _ _ _), (by first | decide | omega), (by first | decide | omega), ?_⟩
  | refine ⟨_, _, _, rfl, (by with_reducible assumption : Wd _ _ _ _), ?_⟩
  | refine iT (by contradiction) ?_
  | refine iF (by contradiction) ?_))
-- USE RD
def Lw {α : Type} (E : V → α → Prop) : List V → List α → Prop
  | [], [] => True
  | v :: vs, a :: as => E v a ∧ Lw E vs as
  | _, _ => False
theorem Lw.len {α : Type} {E : V → α → Prop} : ∀ {vs : List V} {as : List α}, Lw E vs as → vs.length = as.length
  | [], [], _ => rfl
  | v :: vs, a :: as, h => congrArg (· + 1) h.2.len
theorem Lw.mono {α : Type} {E E' : V → α → Prop} (m : ∀ v a, E v a → E' v a) : ∀ {vs : List V} {as : List α}, Lw E vs as → Lw E' vs as
  | [], [], _ => trivial
  | v :: vs, a :: as, h => ⟨m _ _ h.1, h.2.mono m⟩
theorem Lw.app {α : Type} {E : V → α → Prop} : ∀ {vs ws : List V} {as bs : List α}, Lw E vs as → Lw E ws bs → Lw E (vs ++ ws) (as ++ bs)
  | [], _, [], _, _, g => g
  | v :: vs, _, a :: as, _, h, g => ⟨h.1, h.2.app g⟩
theorem Lw.get {α : Type} {E : V → α → Prop} : ∀ {vs : List V} {as : List α}, Lw E vs as → ∀ (i : Nat) (v : V), vs[i]? = some v → ∃ a, as[i]? = some a ∧ E v a
  | [], [], _, i, v, e => by simp at e
  | v :: vs, a :: as, h, 0, _, e => by cases e; exact ⟨a, rfl, h.1⟩
  | v :: vs, a :: as, h, i + 1, w, e => by
    obtain ⟨b, e1, e2⟩ := h.2.get i w e
    exact ⟨b, e1, e2⟩
theorem Lw.take {α : Type} {E : V → α → Prop} : ∀ {vs : List V} {as : List α}, Lw E vs as → ∀ i, Lw E (vs.take i) (as.take i)
  | [], [], _, i => by simp only [List.take_nil]; trivial
  | v :: vs, a :: as, h, 0 => trivial
  | v :: vs, a :: as, h, i + 1 => ⟨h.1, h.2.take i⟩
/-- tuples stay -/
def KT (H H' : Hp) : Prop := ∀ t xs, H t = some (.tup xs) → H' t = some (.tup xs)
theorem KT.of {H H' : Hp} (s : Same H H') : KT H H' := fun t xs h => s _ _ h
theorem KT.trans {H H1 H2 : Hp} (a : KT H H1) (b : KT H1 H2) : KT H H2 := fun t xs h => b t xs (a t xs h)
theorem KT.put {H : Hp} {l : Addr} {ws us : List V} (h : H l = some (.lst ws)) : KT H (upd H l (.lst us)) := fun t xs e => by rw [upd_ne (fun z => by rw [z, h] at e; cases e)]; exact e
def PcA (H : Hp) (v : V) (p : Pc Fm) : Prop := ∃ t, v = .ref t ∧ H t = some (.tup [oV p.1, oV p.2.1, .str p.2.2.word, oV p.2.2.num])
theorem PcA.kt {H H' : Hp} (k : KT H H') (v : V) (p : Pc Fm) (h : PcA H v p) : PcA H' v p := by
  obtain ⟨t, e, h⟩ := h
  exact ⟨t, e, k _ _ h⟩
section
variable {P : Program} {w : World} {K : PySem.W.Frag} {mg : Str → Option Value} {base : Heap}
def spBd2 (f : Bd → Bd → Bd) : Sp := fun vs H Q _ => ∃ (a b : Bd), vs = [oV a, oV b] ∧ Q (oV (f a b)) H
theorem ok_greater_first (T : Txt P K mg) {k : Nat} : FnOk P w K mg base CX0 (k + 1) T.greater_first.f T.greater_first.fd ["one", "other"] (spBd2 grF) := by
  refine T.greater_first.F.ok (k := k) sc_greater_first (fun vs H Q E h => ?_) (fun cdv A outer s H vs Q E hr h => ?_)
  · obtain ⟨a, b, rfl, _⟩ := h
    rfl
  · obtain ⟨a, b, rfl, q⟩ := h
    refine ⟨_, (pss_cons (ps_if (PW.pt (pw_or (pt_cmpR op_isN (pv 0) pe_non (nomark _)) (pw_or1 (pt_cmpR op_isN (pv 1) pe_non (nomark _))))) (pss_one (ps_ret (pe_ifExp (pt_cmpR op_isN (pv 0) pe_non (nomark _)) (pv 1) (pv 0)))) pss_nil)
  (pss_one (ps_ret (pe_callB (call_max2 rfl) (by rfl) T.n_max (by decide +kernel) (pa_cons (pv 0) (pa_cons (pv 1) pa_nil)))))), ?_⟩
    cases a with
    | none =>
      and_intros
      exact q
    | some a =>
      cases b with
      | none =>
        and_intros
        exact q
      | some b =>
        and_intros
        exact ⟨a, b, rfl, q⟩
theorem ok_lesser_last (T : Txt P K mg) {k : Nat} : FnOk P w K mg base CX0 (k + 1) T.lesser_last.f T.lesser_last.fd ["one", "other"] (spBd2 lsL) := by
  refine T.lesser_last.F.ok (k := k) sc_lesser_last (fun vs H Q E h => ?_) (fun cdv A outer s H vs Q E hr h => ?_)
  · obtain ⟨a, b, rfl, _⟩ := h
    rfl
  · obtain ⟨a, b, rfl, q⟩ := h
    refine ⟨_, (pss_cons (ps_if (PW.pt (pw_or (pt_cmpR op_isN (pv 0) pe_non (nomark _)) (pw_or1 (pt_cmpR op_isN (pv 1) pe_non (nomark _))))) (pss_one (ps_ret (pe_ifExp (pt_cmpR op_isN (pv 0) pe_non (nomark _)) (pv 1) (pv 0)))) pss_nil)
  (pss_one (ps_ret (pe_callB (call_min2 rfl) (by rfl) T.n_min (by decide +kernel) (pa_cons (pv 0) (pa_cons (pv 1) pa_nil)))))), ?_⟩
    cases a with
    | none =>
      and_intros
      exact q
    | some a =>
      cases b with
      | none =>
        and_intros
        exact q
      | some b =>
        and_intros
        exact ⟨a, b, rfl, q⟩
def spStr : Sp := fun vs H Q _ => ∃ (a b : Bd), vs = [oV a, oV b] ∧ Q (.bl (strB a b)) H
theorem ok_is_stretch (T : Txt P K mg) {k : Nat} : FnOk P w K mg base CX0 (k + 1) T.is_stretch.f T.is_stretch.fd ["first", "last"] spStr := by
  refine T.is_stretch.F.ok (k := k) sc_is_stretch (fun vs H Q E h => ?_) (fun cdv A outer s H vs Q E hr h => ?_)
  · obtain ⟨a, b, rfl, _⟩ := h
    rfl
  · obtain ⟨a, b, rfl, q⟩ := h
    refine ⟨_, (pss_one (ps_ret (pe_or (pe_cmpR op_isN (pv 0) pe_non (nomark _)) (pe_or (pe_cmpR op_isN (pv 1) pe_non (nomark _)) (pe_one (pe_cmpR op_le (pv 0) (pv 1) (nomark _))))))), ?_⟩
    cases a with
    | none =>
      and_intros
      exact q
    | some a =>
      cases b with
      | none =>
        and_intros
        exact q
      | some b =>
        and_intros
        exact q
def spMoved : Sp := fun vs H Q _ => ∃ (a : Bd) (n : Int), vs = [oV a, .int n] ∧ Q (oV (mvd a n)) H
theorem ok_moved (T : Txt P K mg) {k : Nat} : FnOk P w K mg base CX0 (k + 1) T.moved.f T.moved.fd ["bound", "amount"] spMoved := by
  refine T.moved.F.ok (k := k) sc_moved (fun vs H Q E h => ?_) (fun cdv A outer s H vs Q E hr h => ?_)
  · obtain ⟨a, b, rfl, _⟩ := h
    rfl
  · obtain ⟨a, n, rfl, q⟩ := h
    refine ⟨_, (pss_cons (ps_if (pt_cmpR op_isN (pv 0) pe_non (nomark _)) (pss_one (ps_ret pe_non)) pss_nil)
  (pss_one (ps_ret (pe_op op_add (pv 0) (pv 1))))), ?_⟩
    cases a with
    | none =>
      and_intros
      exact q
    | some a =>
      and_intros
      exact q
theorem clip_take {ps : List (Pc Fm)} {f l : Bd} {i : Nat} {p : Pc Fm} (h : ps[i]? = some p) : clipP (ps.take (i + 1)) f l = clipP (ps.take i) f l ++ (if strB (grF f p.1) (lsL l p.2.1) then [(grF f p.1, lsL l p.2.1, p.2.2)] else []) := by
  rw [List.take_add_one, h]
  unfold clipP
  rw [List.filterMap_append]
  congr 1
  show List.filterMap _ [p] = _
  rw [List.filterMap_cons]
  split <;> simp_all
theorem clip_len (ps : List (Pc Fm)) (f l : Bd) : (clipP ps f l).length ≤ ps.length := List.length_filterMap_le _ _
/-- a list of pieces -/
def PcL (H : Hp) (a : Addr) (ps : List (Pc Fm)) : Prop := ∃ vs, H a = some (.lst vs) ∧ Lw (PcA H) vs ps
theorem PcL.same {H H' : Hp} {a : Addr} {ps : List (Pc Fm)} (h : PcL H a ps) (s : Same H H') : PcL H' a ps := by
  obtain ⟨vs, h1, h2⟩ := h
  exact ⟨vs, s _ _ h1, h2.mono (PcA.kt (KT.of s))⟩
theorem same_put {H H1 : Hp} {l : Addr} {o : HO} (s : Same H H1) (h : H l = none) : Same H (upd H1 l o) := fun b o' e => by rw [upd_ne (ne_of_none e h)]; exact s _ _ e
theorem szm {n : Nat} (h : n < 10000000) : n < sizeLine := Nat.lt_of_lt_of_le h (by decide)
/-- one more piece -/
theorem PcL.push {H H1 : Hp} {l t : Addr} {ws : List V} {acc : List (Pc Fm)} {p : Pc Fm} (h : Lw (PcA H) ws acc) (hl : H l = some (.lst ws)) (s : Same H H1) (ht : H1 t = some (.tup [oV p.1, oV p.2.1, .str p.2.2.word, oV p.2.2.num])) : Lw (PcA (upd H1 l (.lst (ws ++ [.ref t])))) (ws ++ [.ref t]) (acc ++ [p]) := by
  have k : KT H (upd H1 l (.lst (ws ++ [.ref t]))) := (KT.of s).trans (KT.put (s _ _ hl))
  exact (h.mono (PcA.kt k)).app ⟨⟨t, rfl, KT.put (s _ _ hl) _ _ ht⟩, trivial⟩
def spClipped : Sp := fun vs H Q _ => ∃ (a : Addr) (f l : Bd) (ps : List (Pc Fm)), vs = [.ref a, oV f, oV l] ∧ PcL H a ps ∧ ps.length ≤ 1000000 ∧ ∀ r H', Same H H' → H r = none → PcL H' r (clipP ps f l) → Q (.ref r) H'
theorem ok_clipped (T : Txt P K mg) {k : Nat} : FnOk P w K mg base CX0 (k + 2) T.clipped.f T.clipped.fd ["rows", "first", "last"] spClipped := by
  have G_greater_first : FnOk P w K mg base CX0 (k + 1) T.greater_first.f T.greater_first.fd ["one", "other"] (spBd2 grF) := ok_greater_first T
  have G_lesser_last : FnOk P w K mg base CX0 (k + 1) T.lesser_last.f T.lesser_last.fd ["one", "other"] (spBd2 lsL) := ok_lesser_last T
  have G_is_stretch : FnOk P w K mg base CX0 (k + 1) T.is_stretch.f T.is_stretch.fd ["first", "last"] spStr := ok_is_stretch T
  refine T.clipped.F.ok (k := k + 1) sc_clipped (fun vs H Q E h => ?_) (fun cdv A outer s H vs Q E hr h => ?_)
  · obtain ⟨a, f, l, ps, rfl, _⟩ := h
    rfl
  · obtain ⟨a, f, l, ps, rfl, ⟨us, ha, hu⟩, hn, q⟩ := h
    refine ⟨_, (pss_cons (ps_set (i := 3) sc_clipped.nd rfl (.inl rfl) (pe_lst pa_nil))
  (pss_cons (ps_for PassesOwn.never rfl (pi_list (pv 0)) (pg_name (i := 4) sc_clipped.nd rfl (.inl rfl))
   (pss_cons (ps_set (i := 5) sc_clipped.nd rfl (.inl rfl) (pe_call G_greater_first (hr.mono (by omega)) (by rfl) T.greater_first.g T.greater_first.F.kp T.greater_first.b .nil pass0 (pa_cons (pv 1) (pa_cons (pe_ix ix_tup (pv 4) pe_int (fun _ _ => rfl)) pa_nil))))
  (pss_cons (ps_set (i := 6) sc_clipped.nd rfl (.inl rfl) (pe_call G_lesser_last (hr.mono (by omega)) (by rfl) T.lesser_last.g T.lesser_last.F.kp T.lesser_last.b .nil pass0 (pa_cons (pv 2) (pa_cons (pe_ix ix_tup (pv 4) pe_int (fun _ _ => rfl)) pa_nil))))
  (pss_one (ps_if (pt_val (pe_call G_is_stretch (hr.mono (by omega)) (by rfl) T.is_stretch.g T.is_stretch.F.kp T.is_stretch.b .nil pass0 (pa_cons (pv 5) (pa_cons (pv 6) pa_nil)))) (pss_one (ps_expr (pe_bm PySem.F.plainAttrs_list PySem.F.slot_list_append PySem.F.type_list_append mt_append (pv 3) (pa_cons (pe_tup (pa_cons (pv 5) (pa_cons (pv 6) (pa_cons (pe_ix ix_tup (pv 4) pe_int (fun _ _ => rfl)) (pa_cons (pe_ix ix_tup (pv 4) pe_int (fun _ _ => rfl)) pa_nil))))) pa_nil)))) pss_nil)))))
  (pss_one (ps_ret (pv 3))))), ?_⟩
    and_intros
    intro r hr0
    have s0 := same_upd (o := .lst []) hr0
    refine ⟨.ref a, rfl, a, rfl, ⟨_, SqL.of (s0 _ _ ha)⟩, ?_⟩
    refine for_list (K := K) (a := a) (xs := us) (fun i σ H' => ∃ (y4 y5 y6 : Option V) (ws : List V), σ = [some (.ref a), some (oV f), some (oV l), some (.ref r), y4, y5, y6] ∧ Same H H' ∧ H' r = some (.lst ws) ∧ Lw (PcA H') ws (clipP (ps.take i) f l)) ⟨none, none, none, [], rfl, s0, upd_same, trivial⟩ (fun i σ H' _ pp => ?_) (fun i x σ H1 hx pp => ?_) (fun σ H1 pp => ?_)
    · obtain ⟨_, _, _, _, _, s1, _⟩ := pp
      exact SqL.of (s1 _ _ ha)
    · obtain ⟨y4, y5, y6, ws, rfl, s1, hr1, hw⟩ := pp
      obtain ⟨p, hp, t, rfl, ht⟩ := hu.get i x hx
      have ht1 := s1 _ _ ht
      and_intros
      refine ⟨f, p.1, rfl, ?_⟩
      and_intros
      refine ⟨l, p.2.1, rfl, ?_⟩
      and_intros
      refine ⟨_, _, rfl, ?_⟩
      have hc := clip_take (f := f) (l := l) hp
      cases hs : strB (grF f p.1) (lsL l p.2.1) with
      | false =>
        rw [hs, if_neg (by decide), List.append_nil] at hc
        refine ⟨_, rfl, iF rfl ?_⟩
        exact ⟨_, _, _, ws, rfl, s1, hr1, by rw [hc]; exact hw⟩
      | true =>
        rw [hs, if_pos rfl] at hc
        and_intros
        intro t2 ht2
        have s2 := same_upd (o := .tup [oV (grF f p.1), oV (lsL l p.2.1), .str p.2.2.word, oV p.2.2.num]) ht2
        have hb : ws.length < 10000000 := by
          have h1 := hw.len
          have h2 := clip_len (ps.take i) f l
          have h3 := List.length_take_le' i ps
          omega
        refine ⟨r, ws, _, rfl, rfl, s2 _ _ hr1, szm hb, _, _, _, _, rfl, ?_, upd_same, ?_⟩
        · exact same_put (s1.trans s2) hr0
        · rw [hc]
          exact PcL.push hw hr1 s2 upd_same
    · obtain ⟨y4, y5, y6, ws, rfl, s1, hr1, hw⟩ := pp
      rw [hu.len, List.take_length] at hw
      exact ⟨_, rfl, q r H1 s1 hr0 ⟨ws, hr1, hw⟩⟩
def spAdded : Sp := fun vs H Q _ => ∃ (a : Addr) (n : Int) (ps : List (Pc Fm)), vs = [.ref a, .int n] ∧ PcL H a ps ∧ ps.length ≤ 1000000 ∧ ∀ r H', Same H H' → H r = none → PcL H' r (addP ps n) → Q (.ref r) H'
theorem ok_added (T : Txt P K mg) {k : Nat} : FnOk P w K mg base CX0 (k + 1) T.added.f T.added.fd ["rows", "amount"] spAdded := by
  refine T.added.F.ok (k := k) sc_added (fun vs H Q E h => ?_) (fun cdv A outer s H vs Q E hr h => ?_)
  · obtain ⟨a, n, ps, rfl, _⟩ := h
    rfl
  · obtain ⟨a, n, ps, rfl, ⟨us, ha, hu⟩, hn, q⟩ := h
    refine ⟨_, (pss_cons (ps_set (i := 2) sc_added.nd rfl (.inl rfl) (pe_lst pa_nil))
  (pss_cons (ps_for PassesOwn.never rfl (pi_list (pv 0)) (pg_tup rfl (pgs_cons (pg_name (i := 3) sc_added.nd rfl (.inl rfl)) (pgs_cons (pg_name (i := 4) sc_added.nd rfl (.inl rfl)) (pgs_cons (pg_name (i := 5) sc_added.nd rfl (.inl rfl)) (pgs_cons (pg_name (i := 6) sc_added.nd rfl (.inl rfl)) pgs_nil)))))
   (pss_one (ps_if (pt_cmpR op_eq (pv 5) pe_str (nomark _)) (pss_one (ps_expr (pe_bm PySem.F.plainAttrs_list PySem.F.slot_list_append PySem.F.type_list_append mt_append (pv 2) (pa_cons (pe_tup (pa_cons (pv 3) (pa_cons (pv 4) (pa_cons (pv 5) (pa_cons (pv 6) pa_nil))))) pa_nil)))) (pss_one (ps_expr (pe_bm PySem.F.plainAttrs_list PySem.F.slot_list_append PySem.F.type_list_append mt_append (pv 2) (pa_cons (pe_tup (pa_cons (pv 3) (pa_cons (pv 4) (pa_cons (pv 5) (pa_cons (pe_op op_add (pv 6) (pv 1)) pa_nil))))) pa_nil)))))))
  (pss_one (ps_ret (pv 2))))), ?_⟩
    and_intros
    intro r hr0
    have s0 := same_upd (o := .lst []) hr0
    refine ⟨.ref a, rfl, a, rfl, ⟨_, SqL.of (s0 _ _ ha)⟩, ?_⟩
    refine for_list (K := K) (a := a) (xs := us) (fun i σ H' => ∃ (y3 y4 y5 y6 : Option V) (ws : List V), σ = [some (.ref a), some (.int n), some (.ref r), y3, y4, y5, y6] ∧ Same H H' ∧ H' r = some (.lst ws) ∧ Lw (PcA H') ws (addP (ps.take i) n)) ⟨none, none, none, none, [], rfl, s0, upd_same, trivial⟩ (fun i σ H' _ pp => ?_) (fun i x σ H1 hx pp => ?_) (fun σ H1 pp => ?_)
    · obtain ⟨_, _, _, _, _, _, s1, _⟩ := pp
      exact SqL.of (s1 _ _ ha)
    · obtain ⟨y3, y4, y5, y6, ws, rfl, s1, hr1, hw⟩ := pp
      obtain ⟨p, hp, t, rfl, ht⟩ := hu.get i x hx
      have ht1 := s1 _ _ ht
      have hc : addP (ps.take (i + 1)) n = addP (ps.take i) n ++ [(p.1, p.2.1, p.2.2.add n)] := by
        rw [List.take_add_one, hp]
        exact List.map_append
      have hb : ws.length < 10000000 := by
        have h1 := hw.len
        have h2 : (addP (ps.take i) n).length = (ps.take i).length := List.length_map _
        have h3 := List.length_take_le' i ps
        omega
      obtain ⟨pf, pl, pm⟩ := p
      cases pm with
      | none =>
        and_intros
        intro t2 ht2
        have s2 := same_upd (o := .tup [oV pf, oV pl, .str "none", .non]) ht2
        refine ⟨r, ws, _, rfl, rfl, s2 _ _ hr1, szm hb, _, _, _, _, _, rfl, same_put (s1.trans s2) hr0, upd_same, ?_⟩
        rw [hc]
        exact PcL.push (p := (pf, pl, .none)) hw hr1 s2 upd_same
      | row x =>
        and_intros
        intro t2 ht2
        have s2 := same_upd (o := .tup [oV pf, oV pl, .str "row", .int (x + n)]) ht2
        refine ⟨r, ws, _, rfl, rfl, s2 _ _ hr1, szm hb, _, _, _, _, _, rfl, same_put (s1.trans s2) hr0, upd_same, ?_⟩
        rw [hc]
        exact PcL.push (p := (pf, pl, .row (x + n))) hw hr1 s2 upd_same
      | shift x =>
        and_intros
        intro t2 ht2
        have s2 := same_upd (o := .tup [oV pf, oV pl, .str "shift", .int (x + n)]) ht2
        refine ⟨r, ws, _, rfl, rfl, s2 _ _ hr1, szm hb, _, _, _, _, _, rfl, same_put (s1.trans s2) hr0, upd_same, ?_⟩
        rw [hc]
        exact PcL.push (p := (pf, pl, .shift (x + n))) hw hr1 s2 upd_same
    · obtain ⟨y3, y4, y5, y6, ws, rfl, s1, hr1, hw⟩ := pp
      rw [hu.len, List.take_length] at hw
      exact ⟨_, rfl, q r H1 s1 hr0 ⟨ws, hr1, hw⟩⟩
end
end Pl

set_option Elab.async false
set_option linter.all false
set_option maxRecDepth 100000
set_option maxHeartbeats 4000000
/-! The pieces of a term, in plain words: how many there are, and what stands at each place. -/
namespace Pl
open PySem L2
section
variable {α β : Type} {R : α → Int → Prop}
theorem flatMap_le {F : α → List β} {n : Nat} : ∀ (ps : List α), (∀ p ∈ ps, (F p).length ≤ n) → (ps.flatMap F).length ≤ ps.length * n
  | [], _ => by simp
  | p :: ps, h => by
    rw [List.flatMap_cons, List.length_append, List.length_cons, Nat.succ_mul]
    have h1 := h p List.mem_cons_self
    have h2 := flatMap_le ps fun q hq => h q (List.mem_cons_of_mem _ hq)
    omega
theorem clip_len2 (ps : List (Pc α)) (f l : Bd) : (clipP ps f l).length ≤ ps.length := List.length_filterMap_le _ _
/-- what stands at a place of pieces -/
structure At (R : α → Int → Prop) (f l : Bd) (ps : List (Pc α)) (k : Nat) (p : Pc α) : Prop where
  fst : k = 0 → p.1 = f
  nxt : 0 < k → ∃ q b, ps[k - 1]? = some q ∧ q.2.1 = some b ∧ p.1 = some (b + 1)
  lst : k + 1 = ps.length → p.2.1 = l
  mid : k + 1 < ps.length → ∃ b, p.2.1 = some b
  str : strB p.1 p.2.1 = true
  val : ∀ x, cov p.1 p.2.1 x → R p.2.2 x
theorem Til.at : ∀ {ps : List (Pc α)} {f l : Bd}, Til R f l ps → ∀ (k : Nat) (p : Pc α), ps[k]? = some p → At R f l ps k p
  | [p], f, l, h, 0, _, e => by
    cases e
    exact ⟨fun _ => h.1, fun z => absurd z (Nat.lt_irrefl _), fun _ => h.2.1, fun z => absurd z (by simp), by rw [h.1, h.2.1]; exact h.2.2.1, by rw [h.1, h.2.1]; exact h.2.2.2⟩
  | [p], f, l, h, k + 1, _, e => by simp at e
  | p :: q :: r, f, l, h, 0, _, e => by
    cases e
    obtain ⟨h0, b, h1, h2, h3, h4⟩ := h
    exact ⟨fun _ => h0, fun z => absurd z (Nat.lt_irrefl _), fun z => by simp at z, fun _ => ⟨b, h1⟩, by rw [h0, h1]; exact h2, by rw [h0, h1]; exact h3⟩
  | p :: q :: r, f, l, h, k + 1, x, e => by
    obtain ⟨h0, b, h1, h2, h3, h4⟩ := h
    have ih := Til.at h4 k x e
    refine ⟨fun z => absurd z (by omega), fun _ => ?_, fun z => ih.lst (by simp only [List.length_cons] at z ⊢; omega), fun z => ih.mid (by simp only [List.length_cons] at z ⊢; omega), ih.str, ih.val⟩
    cases k with
    | zero => exact ⟨p, b, rfl, h1, ih.fst rfl⟩
    | succ k =>
      obtain ⟨y, c, g1, g2, g3⟩ := ih.nxt (by omega)
      exact ⟨y, c, g1, g2, g3⟩
theorem Til.cover : ∀ {ps : List (Pc α)} {f l : Bd}, Til R f l ps → ∀ x, cov f l x → ∃ p ∈ ps, cov p.1 p.2.1 x
  | [p], f, l, h, x, hx => ⟨p, List.mem_cons_self, by rw [h.1, h.2.1]; exact hx⟩
  | p :: q :: r, f, l, h, x, hx => by
    obtain ⟨h0, b, h1, h2, h3, h4⟩ := h
    by_cases hb : x ≤ b
    · exact ⟨p, List.mem_cons_self, by rw [h0, h1]; exact ⟨hx.1, fun c e => by cases e; exact hb⟩⟩
    · obtain ⟨y, hy, hc⟩ := Til.cover h4 x ⟨fun c e => by cases e; omega, hx.2⟩
      exact ⟨y, List.mem_cons_of_mem _ hy, hc⟩
theorem Til.valOf {ps : List (Pc α)} {f l : Bd} (h : Til R f l ps) {p : Pc α} (hp : p ∈ ps) {x : Int} (hx : cov p.1 p.2.1 x) : R p.2.2 x := by
  obtain ⟨k, hk⟩ := List.mem_iff_getElem?.mp hp
  exact (h.at k p hk).val x hx
end
theorem gap_len (s f : Bd) : (gapP s f).length ≤ 1 := by
  unfold gapP
  cases f with
  | none => simp
  | some c => dsimp only; split <;> simp
theorem fill_len : ∀ (ss : List (Pc Int)) (s : Bd) (e : Bool), (fillT ss s e).length ≤ 2 * ss.length + 1
  | [], s, e => by
    unfold fillT
    split <;> simp
  | p :: ss, s, e => by
    unfold fillT
    split
    · have h1 := gap_len s p.1
      have h2 := fill_len ss (mvd p.2.1 1) p.2.1.isNone
      rw [List.length_append, List.length_cons, List.length_cons]
      omega
    · have h2 := fill_len ss s e
      rw [List.length_cons]
      omega
theorem spans_len (ms : List Int) (wy : Str) (lim : Option Int) : (spansP ms wy lim).length = ms.length := by
  unfold spansP
  exact List.length_mapIdx
theorem table_len (ms : List Int) (wy : Str) (lim : Option Int) : (tableP ms wy lim).length ≤ 2 * ms.length + 1 := by
  have := fill_len (spansP ms wy lim) none false
  rw [spans_len] at this
  exact this
theorem look1_len (ms : List Int) (wy : Str) (lim : Option Int) (p : Pc Fm) : (lookP1 ms wy lim p).length ≤ 2 * ms.length + 1 := by
  unfold lookP1
  split
  · simp
  · split <;> simp
  · rw [List.length_map]
    exact Nat.le_trans (clip_len2 _ _ _) (table_len _ _ _)
theorem look_len (ms : List Int) (wy : Str) (lim : Option Int) (ps : List (Pc Fm)) : (lookP ms wy lim ps).length ≤ ps.length * (2 * ms.length + 1) := flatMap_le ps fun p _ => look1_len ms wy lim p
theorem over_len (ps qs : List (Pc Fm)) : (overP ps qs).length ≤ ps.length * qs.length := flatMap_le ps fun p _ => by
  unfold overP1
  rw [List.length_map]
  exact clip_len2 _ _ _
theorem cut_len (f l : Bd) (m : Int) (a b : Fm) : (cutP f l m a b).length ≤ 2 := clip_len2 _ _ _
theorem chos1_len (later : Bool) (p : Pc (Fm × Fm)) : (chosP later p).length ≤ 2 := by
  unfold chosP
  split
  · simp
  · simp
  · simp
  · simp
  · split <;> exact cut_len _ _ _ _ _
  · split <;> exact cut_len _ _ _ _ _
theorem chos_len (later : Bool) (ps : List (Pc (Fm × Fm))) : (ps.flatMap (chosP later)).length ≤ ps.length * 2 := flatMap_le ps fun p _ => chos1_len later p
theorem far_len {A : Int → Option Int} : ∀ {n : Nat} {rs : List (Pc Fm)} {at0 : Nat} {s : Bd}, Rem A s rs → rs.length ≤ n → (farP n rs at0 s).length ≤ rs.length
  | _, [], _, _, h, _ => h.elim
  | 0, p :: ps, _, _, _, hn => absurd hn (by simp)
  | n + 1, p :: ps, at0, s, h, hn => by
    obtain ⟨b, e, st⟩ := best_stp at0 h
    unfold farP
    rw [e]
    simp only
    have hlt := st.lt
    cases hl : b.2.1 with
    | none =>
      obtain ⟨a1, a2⟩ := st.rch.all hl
      have : farP n ((p :: ps).drop (b.2.2.1 - at0)) b.2.2.1 b.2.2.2 = [] := by
        rw [List.drop_of_length_le (by omega)]
        cases n <;> rfl
      rw [this]
      simp
    | some d =>
      obtain ⟨a1, a2, a3, a4⟩ := st.rch.on d hl
      have hd : ((p :: ps).drop (b.2.2.1 - at0)).length ≤ n := by
        rw [List.length_drop]
        omega
      rw [a1]
      have ih := far_len (at0 := b.2.2.1) a3 hd
      rw [List.length_drop] at ih
      rw [List.length_cons]
      simp only [List.length_cons] at ih ⊢
      omega
end Pl

namespace Pl
open PySem L2
local macro_rules | `(tactic| infer_instance) => `(tactic| first
  | with_reducible assumption
  | with_reducible exact Same.refl _
  | exact Wd.gh (by with_reducible assumption)
  | exact sm2 (by with_reducible assumption) (by infer_instance)
  | exact sm2 (same_upd (by with_reducible assumption)) (by infer_instance)
  | exact sm2 (Wd.gh (by with_reducible assumption)) (by infer_instance))
local macro_rules | `(tactic| trivial) => `(tactic| first
  | with_reducible assumption
  | with_reducible exact upd_same
  | exact at_same (by with_reducible assumption) (by trivial)
  | exact at_same (same_upd (by with_reducible assumption)) (by trivial)
  | exact at_same (Wd.gh (by with_reducible assumption)) (by trivial))
local macro_rules | `(tactic| ac_rfl) => `(tactic| first
  | exact Ty.int _
  | exact Ty.str _
  | exact Ty.non
  | exact Ty.bl _
  | exact Ty.tup (by trivial)
  | exact Ty.lst (by trivial))
local macro_rules | `(tactic| contradiction) => `(tactic| first
  | exact rfl
  | exact decide_eq_true (by first | assumption | omega)
  | exact decide_eq_false (by first | assumption | omega)
  | exact dI_t (by first | assumption | omega)
  | exact dI_f (by first | assumption | omega)
  | exact dS_t (by first | assumption | decide)
  | exact dS_f (by first | assumption | decide)
  | exact nI_t (by first | assumption | omega)
  | exact nI_f (by first | assumption | omega)
  | exact nS_t (by first | assumption | decide)
  | exact nS_f (by first | assumption | decide)
  | assumption
  | exact q_none_int | exact q_none_bool | exact q_none_tuple | exact q_none_list | exact q_none_str | exact q_bool_int | exact q_bool_bool | exact q_bool_tuple | exact q_bool_list | exact q_bool_str | exact q_int_int | exact q_int_bool | exact q_int_tuple | exact q_int_list | exact q_int_str | exact q_str_int | exact q_str_bool | exact q_str_tuple | exact q_str_list | exact q_str_str | exact q_list_int | exact q_list_bool | exact q_list_tuple | exact q_list_list | exact q_list_str | exact q_tuple_int | exact q_tuple_bool | exact q_tuple_tuple | exact q_tuple_list | exact q_tuple_str
  | exact nb_t (by contradiction)
  | exact nb_f (by contradiction))
local macro_rules | `(tactic| and_intros) => `(tactic| repeat (first
  | refine ⟨_, rfl, ?_⟩
  | refine ⟨_, _, rfl, rfl, ?_⟩
  | refine ⟨rfl, ?_⟩
  | refine ⟨_, _, _, _, rfl, rfl, SqT.of (by trivial), at_ix (by decide) rfl, ?_⟩
  | refine ⟨_, _, _, _, rfl, rfl, SqL.of (by trivial), at_ix (by decide) rfl, ?_⟩
  | refine ⟨_, _, rfl, Or.inl (SqL.of (by trivial)), ?_⟩
  | refine ⟨_, _, rfl, Or.inr (SqT.of (by trivial)), ?_⟩
  | refine ⟨_, _, _, _, _, rfl, (by trivial), (by trivial), (by trivial), rfl, ?_⟩
  | refine ⟨_, _, _, _, _, rfl, ClsV.ty _, Ty.x (by ac_rfl), isI_tuple (by ac_rfl), ?_⟩
  | refine ⟨_, _, _, _, _, rfl, ClsV.ty _, Ty.x (by ac_rfl), isI_list (by ac_rfl), ?_⟩
  | refine ⟨_, _, _, _, _, rfl, ClsV.ty _, Ty.x (by ac_rfl), isI_int (by ac_rfl), ?_⟩
  | refine ⟨_, _, _, _, _, rfl, ClsV.ty _, Ty.x (by ac_rfl), isI_bool (by ac_rfl), ?_⟩
  | refine ⟨_, _, _, _, _, rfl, ClsV.ty _, Ty.x (by ac_rfl), isI_str (by ac_rfl), ?_⟩
  | refine ⟨sz (Nat.le_of_ble_eq_true rfl), ?_⟩
  | refine ⟨Or.inl ⟨rfl, _, SqL.of (by trivial)⟩, ?_⟩
  | refine ⟨_, _, rfl, SqT.of (by trivial), rfl, _, _, rfl, _, _, rfl, _, _, rfl, _, _, rfl, rfl, ?_⟩
  | refine ⟨_, _, rfl, SqT.of (by trivial), rfl, _, _, rfl, _, _, rfl, _, _, rfl, rfl, ?_⟩
  | refine ⟨_, _, rfl, SqT.of (by trivial), rfl, _, _, rfl, _, _, rfl, rfl, ?_⟩
  | refine ⟨_, _, _, _, rfl, (by with_reducible assumption : Wd _ _ _ _), (by first | decide | omega), (by first | decide | omega), ?_⟩
  | refine ⟨_, _, _, rfl, (by with_reducible assumption : Wd _ _ _ _), ?_⟩
  | refine iT (by contradiction) ?_
  | refine iF (by contradiction) ?_))
-- USE RD
theorem for_enum2 {K : PySem.W.Frag} {a : Addr} {xs : List V} {g : TG} {tb : TS} {D : Ends} {σ : St} {H : Hp} (Pv : Nat → St → Hp → Prop) (h0 : Pv 0 σ H) (hl : ∀ i σ H, i ≤ xs.length → Pv i σ H → SqL K H a xs)
    (hs : ∀ i x σ H T, xs[i]? = some x → Pv i σ H → H T = none → g (.ref T) σ (upd H T (.tup [.int (i : Nat), x])) fun σ2 H2 => tb { D with nx := Pv (i + 1), ct := Pv (i + 1), bk := D.nx } σ2 H2) (hd : ∀ σ H, Pv xs.length σ H → D.nx σ H) :
    ∃ W : Nat → Nat → St → Hp → Prop, (∃ m, W 0 m σ H) ∧ ∀ i m σ H, W i m σ H →
      ((Ite K a).stop i H ∧ D.nx σ H) ∨ ((Ite K a).go i H ∧ ∃ N : St → Hp → Prop, (∀ σ' H', N σ' H' → ∃ m', m' < m ∧ W (i + 1) m' σ' H') ∧ ∀ x H', (Ite K a).yld i H x H' → g x σ H' fun σ2 H2 => tb { D with nx := N, ct := N, bk := D.nx } σ2 H2) := by
  refine ⟨fun i m σ H => m = xs.length - i ∧ i ≤ xs.length ∧ Pv i σ H, ⟨xs.length, by simp, Nat.zero_le _, h0⟩, ?_⟩
  rintro i m σ H ⟨rfl, hi, p⟩
  have q := hl i σ H hi p
  by_cases hlt : i < xs.length
  · refine .inr ⟨⟨xs, xs[i], q, by simp [hlt]⟩, Pv (i + 1), fun σ' H' p' => ⟨xs.length - (i + 1), by omega, rfl, hlt, p'⟩, fun x H' y => ?_⟩
    obtain ⟨T, x1, rfl, nT, rfl, f⟩ := y
    exact hs i x1 σ _ T (f xs q) p nT
  · have e : i = xs.length := by omega
    subst e
    exact .inl ⟨⟨xs, q, Nat.le_refl _⟩, hd σ H p⟩
theorem ints_ix {ms : List Int} {i : Int} {n : Nat} (e : i = (n : Int)) (h : n < ms.length) : atI (ms.map V.int) i = some (.int ms[n]) := by
  subst e
  exact at_ix (Int.natCast_nonneg n) (by rw [Int.toNat_natCast, List.getElem?_map, List.getElem?_eq_getElem h]; rfl)
theorem tab_step {ms : List Int} {wy : Str} {lim : Option Int} {i : Nat} (hi : i < ms.length) : (spansP ms wy lim).drop i = ((spanP ms i ms[i] wy lim).1, (spanP ms i ms[i] wy lim).2, ms[i]) :: (spansP ms wy lim).drop (i + 1) := by
  have h : i < (spansP ms wy lim).length := by rw [spans_len]; exact hi
  rw [List.drop_eq_getElem_cons h]
  congr 1
  show (List.mapIdx (fun i r => ((spanP ms i r wy lim).1, (spanP ms i r wy lim).2, r)) ms)[i]'(by rw [List.length_mapIdx]; exact hi) = _
  rw [List.getElem_mapIdx]
theorem isB {wy : Str} : (decide (V.str wy = .str "at") || decide (V.str wy = .str "before")) = isBack wy := by
  rw [dstr, dstr]
  rfl
section
variable {P : Program} {w : World} {K : PySem.W.Frag} {mg : Str → Option Value} {base : Heap}
def spSpan : Sp := fun vs H Q _ => ∃ (a : Addr) (ms : List Int) (i : Nat) (wy : Str) (lim : Option Int) (hi : i < ms.length), vs = [.ref a, .int (i : Nat), .str wy, oV lim] ∧ H a = some (.lst (ms.map V.int)) ∧ ms.length ≤ 100000 ∧ wy ∈ ways ∧ ∀ r H', Same H H' → H' r = some (.tup [oV (spanP ms i ms[i] wy lim).1, oV (spanP ms i ms[i] wy lim).2]) → Q (.ref r) H'
theorem ok_span (T : Txt P K mg) {k : Nat} : FnOk P w K mg base CX0 (k + 2) T.span.f T.span.fd ["moments", "index", "way", "within"] spSpan := by
  have G_greater_first : FnOk P w K mg base CX0 (k + 1) T.greater_first.f T.greater_first.fd ["one", "other"] (spBd2 grF) := ok_greater_first T
  have G_lesser_last : FnOk P w K mg base CX0 (k + 1) T.lesser_last.f T.lesser_last.fd ["one", "other"] (spBd2 lsL) := ok_lesser_last T
  have G_moved : FnOk P w K mg base CX0 (k + 1) T.moved.f T.moved.fd ["bound", "amount"] spMoved := ok_moved T
  refine T.span.F.ok (k := k + 1) sc_span (fun vs H Q E h => ?_) (fun cdv A outer s H vs Q E hr h => ?_)
  · obtain ⟨a, ms, i, wy, lim, hi, rfl, _⟩ := h
    rfl
  · obtain ⟨a, ms, i, wy, lim, hi, rfl, ha, hl, hw, q⟩ := h
    refine ⟨_, (pss_cons (ps_set (i := 4) sc_span.nd rfl (.inl rfl) (pe_ix ix_list (pv 0) (pv 1) (fun _ _ => rfl)))
  (pss_cons (ps_set (i := 5) sc_span.nd rfl (.inl rfl) pe_non)
  (pss_cons (ps_set (i := 6) sc_span.nd rfl (.inl rfl) pe_non)
  (Evl.pss_cut (ps_if (pt_cmpR op_gt (pv 1) pe_int (nomark _)) (pss_one (ps_set (i := 5) sc_span.nd rfl (.inl rfl) (pe_ix ix_list (pv 0) (pe_op op_sub (pv 1) pe_int) (fun _ _ => rfl)))) pss_nil)
  (Evl.pss_cut (ps_if (pt_cmpR op_lt (pe_op op_add (pv 1) pe_int) (pe_callB call_len_seq (by rfl) T.n_len PySem.boot_len (pa_cons (pv 0) pa_nil)) (nomark _)) (pss_one (ps_set (i := 6) sc_span.nd rfl (.inl rfl) (pe_ix ix_list (pv 0) (pe_op op_add (pv 1) pe_int) (fun _ _ => rfl)))) pss_nil)
  (pss_cons (ps_set (i := 7) sc_span.nd rfl (.inl rfl) (pe_callTy call_int1 (by rfl) T.n_int (by decide +kernel) (pa_cons (pe_or (pe_cmpR op_eq (pv 2) pe_str (nomark _)) (pe_one (pe_cmpR op_eq (pv 2) pe_str (nomark _)))) pa_nil)))
  (pss_cons (ps_if (PW.pt (pw_or (pt_cmpR op_eq (pv 2) pe_str (nomark _)) (pw_or1 (pt_cmpR op_eq (pv 2) pe_str (nomark _))))) (pss_cons (ps_set (i := 9) sc_span.nd rfl (.inl rfl) (pe_call G_moved (hr.mono (by omega)) (by rfl) T.moved.g T.moved.F.kp T.moved.b .nil pass0 (pa_cons (pv 6) (pa_cons (pe_op op_sub (pv 7) pe_int) pa_nil))))
  (pss_cons (ps_if (pt_cmpR op_notN (pv 3) pe_non (nomark _)) (pss_one (ps_set (i := 9) sc_span.nd rfl (.inl rfl) (pe_call G_lesser_last (hr.mono (by omega)) (by rfl) T.lesser_last.g T.lesser_last.F.kp T.lesser_last.b .nil pass0 (pa_cons (pv 9) (pa_cons (pe_op op_add (pv 4) (pv 3)) pa_nil))))) pss_nil)
  (pss_one (ps_ret (pe_tup (pa_cons (pe_op op_add (pv 4) (pv 7)) (pa_cons (pv 9) pa_nil))))))) pss_nil)
  (pss_cons (ps_set (i := 8) sc_span.nd rfl (.inl rfl) (pe_call G_moved (hr.mono (by omega)) (by rfl) T.moved.g T.moved.F.kp T.moved.b .nil pass0 (pa_cons (pv 5) (pa_cons (pe_op op_sub pe_int (pv 7)) pa_nil))))
  (pss_cons (ps_if (pt_cmpR op_notN (pv 3) pe_non (nomark _)) (pss_one (ps_set (i := 8) sc_span.nd rfl (.inl rfl) (pe_call G_greater_first (hr.mono (by omega)) (by rfl) T.greater_first.g T.greater_first.F.kp T.greater_first.b .nil pass0 (pa_cons (pv 8) (pa_cons (pe_op op_sub (pv 4) (pv 3)) pa_nil))))) pss_nil)
  (pss_one (ps_ret (pe_tup (pa_cons (pv 8) (pa_cons (pe_op op_sub (pv 4) (pv 7)) pa_nil)))))))))))))), ?_⟩
    refine ⟨_, rfl, _, rfl, a, _, _, _, rfl, rfl, SqL.of ha, ints_ix rfl hi, ?_⟩
    refine ⟨fun σ H2 => H2 = H ∧ σ = [some (.ref a), some (.int (i : Nat)), some (.str wy), some (oV lim), some (.int ms[i]), some (oV (aheadP ms i)), some .non, none, none, none], ?_, ?_⟩
    · refine ⟨_, rfl, _, _, rfl, rfl, _, rfl, ?_⟩
      cases i with
      | zero => exact iF rfl ⟨rfl, rfl⟩
      | succ i =>
        refine iT (decide_eq_true (by omega)) ⟨_, rfl, _, rfl, _, _, rfl, rfl, a, _, _, _, rfl, rfl, SqL.of ha, ints_ix (n := i) (by omega) (by omega), rfl, ?_⟩
        have e : aheadP ms (i + 1) = some ms[i] := by
          unfold aheadP
          rw [if_neg (by omega)]
          exact List.getElem?_eq_getElem (by omega)
        rw [e]
        rfl
    rintro σ H2 ⟨rfl, rfl⟩
    refine ⟨fun σ H3 => H3 = H2 ∧ σ = [some (.ref a), some (.int (i : Nat)), some (.str wy), some (oV lim), some (.int ms[i]), some (oV (aheadP ms i)), some (oV ms[i + 1]?), none, none, none], ?_, ?_⟩
    · refine ⟨_, rfl, _, _, rfl, rfl, _, rfl, _, _, rfl, .inl (SqL.of ha), _, _, rfl, rfl, _, rfl, ?_⟩
      by_cases h2 : i + 1 < ms.length
      · refine iT (decide_eq_true (by rw [List.length_map]; omega)) ⟨_, rfl, _, rfl, _, _, rfl, rfl, a, _, _, _, rfl, rfl, SqL.of ha, ints_ix (n := i + 1) (by omega) h2, ?_⟩
        rw [List.getElem?_eq_getElem h2]
        exact ⟨rfl, rfl⟩
      · refine iF (decide_eq_false (by rw [List.length_map]; omega)) ?_
        rw [List.getElem?_eq_none (by omega)]
        exact ⟨rfl, rfl⟩
    rintro σ H3 ⟨rfl, rfl⟩
    simp only [ways, List.mem_cons, List.not_mem_nil, or_false] at hw
    rcases hw with rfl | rfl | rfl | rfl
    · unfold spanP at q
      rw [if_pos (by decide)] at q
      refine ⟨_, rfl, rfl, _, rfl, ?_⟩
      and_intros
      refine .inr ⟨_, rfl, ?_⟩
      rw [show (if decide (V.str ("at" : Str) = V.str "after") = true then (1 : Int) else 0) = sct "at" by decide]
      and_intros
      refine ⟨ms[i + 1]?, _, rfl, ?_⟩
      cases lim with
      | none =>
        and_intros
        intro r hr'
        exact q r _ (same_upd hr') upd_same
      | some l =>
        and_intros
        refine ⟨_, some _, rfl, ?_⟩
        and_intros
        intro r hr'
        exact q r _ (same_upd hr') upd_same
    · unfold spanP at q
      rw [if_pos (by decide)] at q
      refine ⟨_, rfl, rfl, _, rfl, ?_⟩
      and_intros
      refine .inr ⟨_, rfl, ?_⟩
      rw [show (if true = true then (1 : Int) else 0) = sct "before" by decide]
      and_intros
      refine ⟨ms[i + 1]?, _, rfl, ?_⟩
      cases lim with
      | none =>
        and_intros
        intro r hr'
        exact q r _ (same_upd hr') upd_same
      | some l =>
        and_intros
        refine ⟨_, some _, rfl, ?_⟩
        and_intros
        intro r hr'
        exact q r _ (same_upd hr') upd_same
    · unfold spanP at q
      rw [if_neg (by decide)] at q
      refine ⟨_, rfl, rfl, _, rfl, ?_⟩
      and_intros
      refine .inr ⟨_, rfl, ?_⟩
      rw [show (if decide (V.str ("since" : Str) = V.str "after") = true then (1 : Int) else 0) = sct "since" by decide]
      and_intros
      refine ⟨aheadP ms i, _, rfl, ?_⟩
      cases lim with
      | none =>
        and_intros
        intro r hr'
        exact q r _ (same_upd hr') upd_same
      | some l =>
        and_intros
        refine ⟨_, some _, rfl, ?_⟩
        and_intros
        intro r hr'
        exact q r _ (same_upd hr') upd_same
    · unfold spanP at q
      rw [if_neg (by decide)] at q
      refine ⟨_, rfl, rfl, _, rfl, ?_⟩
      and_intros
      refine .inr ⟨_, rfl, ?_⟩
      rw [show (if decide (V.str ("after" : Str) = V.str "after") = true then (1 : Int) else 0) = sct "after" by decide]
      and_intros
      refine ⟨aheadP ms i, _, rfl, ?_⟩
      cases lim with
      | none =>
        and_intros
        intro r hr'
        exact q r _ (same_upd hr') upd_same
      | some l =>
        and_intros
        refine ⟨_, some _, rfl, ?_⟩
        and_intros
        intro r hr'
        exact q r _ (same_upd hr') upd_same
def spTable : Sp := fun vs H Q _ => ∃ (a : Addr) (ms : List Int) (wy : Str) (lim : Option Int), vs = [.ref a, .str wy, oV lim] ∧ H a = some (.lst (ms.map V.int)) ∧ ms.length ≤ 100000 ∧ wy ∈ ways ∧ ∀ r H', Same H H' → H r = none → PcL H' r (tableP ms wy lim) → Q (.ref r) H'
theorem ok_look_table (T : Txt P K mg) {k : Nat} : FnOk P w K mg base CX0 (k + 3) T.look_table.f T.look_table.fd ["moments", "way", "within"] spTable := by
  have G_span : FnOk P w K mg base CX0 (k + 2) T.span.f T.span.fd ["moments", "index", "way", "within"] spSpan := ok_span T
  have G_is_stretch : FnOk P w K mg base CX0 (k + 1) T.is_stretch.f T.is_stretch.fd ["first", "last"] spStr := ok_is_stretch T
  have G_moved : FnOk P w K mg base CX0 (k + 1) T.moved.f T.moved.fd ["bound", "amount"] spMoved := ok_moved T
  refine T.look_table.F.ok (k := k + 2) sc_look_table (fun vs H Q E h => ?_) (fun cdv A outer s H vs Q E hr h => ?_)
  · obtain ⟨a, ms, wy, lim, rfl, _⟩ := h
    rfl
  · obtain ⟨a, ms, wy, lim, rfl, ha, hl, hw, q⟩ := h
    refine ⟨_, (pss_cons (ps_set (i := 3) sc_look_table.nd rfl (.inl rfl) (pe_lst pa_nil))
  (pss_cons (ps_set (i := 4) sc_look_table.nd rfl (.inl rfl) pe_non)
  (pss_cons (ps_set (i := 5) sc_look_table.nd rfl (.inl rfl) pe_bl)
  (pss_cons (ps_for PassesOwn.never rfl (pi_enum (by rfl) T.n_enumerate (pa_cons (pv 0) pa_nil)) (pg_tup rfl (pgs_cons (pg_name (i := 6) sc_look_table.nd rfl (.inl rfl)) (pgs_cons (pg_name (i := 7) sc_look_table.nd rfl (.inl rfl)) pgs_nil)))
   (pss_cons (ps_asg (pe_call G_span (hr.mono (by omega)) (by rfl) T.span.g T.span.F.kp T.span.b .nil pass0 (pa_cons (pv 0) (pa_cons (pv 6) (pa_cons (pv 1) (pa_cons (pv 2) pa_nil))))) (pg_tup rfl (pgs_cons (pg_name (i := 8) sc_look_table.nd rfl (.inl rfl)) (pgs_cons (pg_name (i := 9) sc_look_table.nd rfl (.inl rfl)) pgs_nil))))
  (pss_cons (ps_if (pt_not (pt_val (pe_call G_is_stretch (hr.mono (by omega)) (by rfl) T.is_stretch.g T.is_stretch.F.kp T.is_stretch.b .nil pass0 (pa_cons (pv 8) (pa_cons (pv 9) pa_nil))))) (pss_one ps_continue) pss_nil)
  (Evl.pss_cut (ps_if (PW.pt (pw_and (pt_cmpR op_notN (pv 8) pe_non (nomark _)) (pw_and1 (pt_val (pe_call G_is_stretch (hr.mono (by omega)) (by rfl) T.is_stretch.g T.is_stretch.F.kp T.is_stretch.b .nil pass0 (pa_cons (pv 4) (pa_cons (pe_op op_sub (pv 8) pe_int) pa_nil))))))) (pss_one (ps_expr (pe_bm PySem.F.plainAttrs_list PySem.F.slot_list_append PySem.F.type_list_append mt_append (pv 3) (pa_cons (pe_tup (pa_cons (pv 4) (pa_cons (pe_op op_sub (pv 8) pe_int) (pa_cons pe_str (pa_cons pe_non pa_nil))))) pa_nil)))) pss_nil)
  (pss_cons (ps_expr (pe_bm PySem.F.plainAttrs_list PySem.F.slot_list_append PySem.F.type_list_append mt_append (pv 3) (pa_cons (pe_tup (pa_cons (pv 8) (pa_cons (pv 9) (pa_cons pe_str (pa_cons (pv 7) pa_nil))))) pa_nil)))
  (pss_cons (ps_set (i := 4) sc_look_table.nd rfl (.inl rfl) (pe_call G_moved (hr.mono (by omega)) (by rfl) T.moved.g T.moved.F.kp T.moved.b .nil pass0 (pa_cons (pv 9) (pa_cons pe_int pa_nil))))
  (pss_one (ps_set (i := 5) sc_look_table.nd rfl (.inl rfl) (pe_cmpR op_isN (pv 9) pe_non (nomark _))))))))))
  (pss_cons (ps_if (pt_not (pt_val (pv 5))) (pss_one (ps_expr (pe_bm PySem.F.plainAttrs_list PySem.F.slot_list_append PySem.F.type_list_append mt_append (pv 3) (pa_cons (pe_tup (pa_cons (pv 4) (pa_cons pe_non (pa_cons pe_str (pa_cons pe_non pa_nil))))) pa_nil)))) pss_nil)
  (pss_one (ps_ret (pv 3)))))))), ?_⟩
    and_intros
    intro r hr0
    have s0 := same_upd (o := .lst []) hr0
    refine ⟨_, rfl, a, _, rfl, SqL.of (s0 _ _ ha), ?_⟩
    refine for_enum2 (K := K) (a := a) (xs := ms.map V.int) (fun i σ H' => ∃ (y6 y7 y8 y9 : Option V) (ws : List V) (st : Bd) (en : Bool) (acc : List (Pc Fm)), σ = [some (.ref a), some (.str wy), some (oV lim), some (.ref r), some (oV st), some (.bl en), y6, y7, y8, y9] ∧ Same H H' ∧ H' r = some (.lst ws) ∧ Lw (PcA H') ws acc ∧ acc.length ≤ 2 * i ∧ tableP ms wy lim = acc ++ fillT ((spansP ms wy lim).drop i) st en) ⟨none, none, none, none, [], none, false, [], rfl, s0, upd_same, trivial, Nat.zero_le _, rfl⟩ (fun i σ H' _ pp => ?_) (fun i x σ H1 t hx pp ht => ?_) (fun σ H1 pp => ?_)
    · obtain ⟨_, _, _, _, _, _, _, _, _, s1, _⟩ := pp
      exact SqL.of (s1 _ _ ha)
    · obtain ⟨y6, y7, y8, y9, ws, st, en, acc, rfl, s1, hr1, hw1, hn, he⟩ := pp
      have hi : i < ms.length := by
        have := (List.getElem?_eq_some_iff.mp hx).1
        rw [List.length_map] at this
        exact this
      rw [List.getElem?_map, List.getElem?_eq_getElem hi] at hx
      cases hx
      have s1t := same_upd (o := .tup [.int (i : Nat), .int ms[i]]) ht
      have s2 := s1.trans s1t
      rw [tab_step hi] at he
      unfold fillT at he
      and_intros
      refine ⟨a, ms, i, wy, lim, hi, rfl, s2 _ _ ha, hl, hw, fun r2 H3 s3 hr3 => ?_⟩
      generalize hf : (spanP ms i ms[i] wy lim).1 = f at he hr3
      generalize hlst : (spanP ms i ms[i] wy lim).2 = l at he hr3
      dsimp only at he
      and_intros
      refine ⟨_, _, rfl, ?_⟩
      cases hs : strB f l with
      | false =>
        rw [hs, if_neg Bool.false_ne_true] at he
        and_intros
        exact ⟨_, _, _, _, ws, st, en, acc, rfl, s2.trans s3, s3 _ _ (s1t _ _ hr1), hw1.mono (PcA.kt (KT.of (s1t.trans s3))), by omega, he⟩
      | true =>
        rw [hs, if_pos rfl] at he
        and_intros
        have hr13 := s3 _ _ (s1t _ _ hr1)
        have hw3 := hw1.mono (PcA.kt (KT.of (s1t.trans s3)))
        have sA := s2.trans s3
        refine ⟨fun σ H' => ∃ (ws : List V), σ = [some (.ref a), some (.str wy), some (oV lim), some (.ref r), some (oV st), some (.bl en), some (.int (i : Nat)), some (.int ms[i]), some (oV f), some (oV l)] ∧ Same H H' ∧ H' r = some (.lst ws) ∧ Lw (PcA H') ws (acc ++ gapP st f), ?_, ?_⟩
        · cases f with
          | none =>
            and_intros
            exact ⟨ws, rfl, sA, hr13, by show Lw _ ws (acc ++ []); rw [List.append_nil]; exact hw3⟩
          | some c =>
            and_intros
            refine ⟨st, some (c - 1), rfl, ?_⟩
            unfold gapP
            dsimp only
            cases hg : strB st (some (c - 1)) with
            | false =>
              and_intros
              exact ⟨ws, rfl, sA, hr13, by rw [if_neg Bool.false_ne_true, List.append_nil]; exact hw3⟩
            | true =>
              and_intros
              intro p hp
              have s4 := same_upd (o := .tup [oV st, .int (c - 1), .str "none", .non]) hp
              refine ⟨r, ws, _, rfl, rfl, s4 _ _ hr13, szm (by have := hw3.len; omega), ?_⟩
              exact ⟨_, rfl, same_put (sA.trans s4) hr0, upd_same, by rw [if_pos rfl]; exact PcL.push (p := (st, some (c - 1), .none)) hw3 hr13 s4 upd_same⟩
        · rintro σ H4 ⟨ws4, rfl, s4, hr4, hw4⟩
          have hn4 := hw4.len
          rw [List.length_append] at hn4
          have hgl := gap_len st f
          and_intros
          intro p hp
          have s5 := same_upd (o := .tup [oV f, oV l, .str "row", .int ms[i]]) hp
          refine ⟨r, ws4, _, rfl, rfl, s5 _ _ hr4, szm (by omega), ?_⟩
          and_intros
          refine ⟨l, 1, rfl, ?_⟩
          and_intros
          have hx : V.bl (decide (oV l = .non)) = V.bl l.isNone := by cases l <;> rfl
          rw [hx]
          refine ⟨_, _, _, _, ws4 ++ [.ref p], mvd l 1, l.isNone, acc ++ gapP st f ++ [(f, l, .row ms[i])], rfl, same_put (s4.trans s5) hr0, upd_same, PcL.push (p := (f, l, .row ms[i])) hw4 hr4 s5 upd_same, ?_, ?_⟩
          · simp only [List.length_append, List.length_singleton]; omega
          · rw [he]
            simp only [List.append_assoc, List.singleton_append]
    · obtain ⟨y6, y7, y8, y9, ws, st, en, acc, rfl, s1, hr1, hw1, hn, he⟩ := pp
      rw [List.length_map, List.drop_of_length_le (by rw [spans_len]; exact Nat.le_refl _)] at he
      rw [List.length_map] at hn
      cases en with
      | true =>
        and_intros
        exact q r H1 s1 hr0 ⟨ws, hr1, by rw [he]; show Lw _ ws (acc ++ []); rw [List.append_nil]; exact hw1⟩
      | false =>
        and_intros
        intro p hp
        have s2 := same_upd (o := .tup [oV st, .non, .str "none", .non]) hp
        refine ⟨r, ws, _, rfl, rfl, s2 _ _ hr1, szm (by have := hw1.len; omega), ?_⟩
        and_intros
        exact q r _ (same_put (s1.trans s2) hr0) hr0 ⟨_, upd_same, by rw [he]; exact PcL.push (p := (st, none, .none)) hw1 hr1 s2 upd_same⟩
end
end Pl

namespace Pl
open PySem L2
local macro_rules | `(tactic| infer_instance) => `(tactic| first
  | with_reducible assumption
  | with_reducible exact Same.refl _
  | exact Wd.gh (by with_reducible assumption)
  | exact sm2 (by with_reducible assumption) (by infer_instance)
  | exact sm2 (same_upd (by with_reducible assumption)) (by infer_instance)
  | exact sm2 (Wd.gh (by with_reducible assumption)) (by infer_instance))
local macro_rules | `(tactic| trivial) => `(tactic| first
  | with_reducible assumption
  | with_reducible exact upd_same
  | exact at_same (by with_reducible assumption) (by trivial)
  | exact at_same (same_upd (by with_reducible assumption)) (by trivial)
  | exact at_same (Wd.gh (by with_reducible assumption)) (by trivial))
local macro_rules | `(tactic| ac_rfl) => `(tactic| first
  | exact Ty.int _
  | exact Ty.str _
  | exact Ty.non
  | exact Ty.bl _
  | exact Ty.tup (by trivial)
  | exact Ty.lst (by trivial))
local macro_rules | `(tactic| contradiction) => `(tactic| first
  | exact rfl
  | exact decide_eq_true (by first | assumption | omega)
  | exact decide_eq_false (by first | assumption | omega)
  | exact dI_t (by first | assumption | omega)
  | exact dI_f (by first | assumption | omega)
  | exact dS_t (by first | assumption | decide)
  | exact dS_f (by first | assumption | decide)
  | exact nI_t (by first | assumption | omega)
  | exact nI_f (by first | assumption | omega)
  | exact nS_t (by first | assumption | decide)
  | exact nS_f (by first | assumption | decide)
  | assumption
  | exact q_none_int | exact q_none_bool | exact q_none_tuple | exact q_none_list | exact q_none_str | exact q_bool_int | exact q_bool_bool | exact q_bool_tuple | exact q_bool_list | exact q_bool_str | exact q_int_int | exact q_int_bool | exact q_int_tuple | exact q_int_list | exact q_int_str | exact q_str_int | exact q_str_bool | exact q_str_tuple | exact q_str_list | exact q_str_str | exact q_list_int | exact q_list_bool | exact q_list_tuple | exact q_list_list | exact q_list_str | exact q_tuple_int | exact q_tuple_bool | exact q_tuple_tuple | exact q_tuple_list | exact q_tuple_str
  | exact nb_t (by contradiction)
  | exact nb_f (by contradiction))
local macro_rules | `(tactic| and_intros) => `(tactic| repeat (first
  | refine ⟨_, rfl, ?_⟩
  | refine ⟨_, _, rfl, rfl, ?_⟩
  | refine ⟨rfl, ?_⟩
  | refine ⟨_, _, _, _, rfl, rfl, SqT.of (by trivial), at_ix (by decide) rfl, ?_⟩
  | refine ⟨_, _, _, _, rfl, rfl, SqL.of (by trivial), at_ix (by decide) rfl, ?_⟩
  | refine ⟨_, _, rfl, Or.inl (SqL.of (by trivial)), ?_⟩
  | refine ⟨_, _, rfl, Or.inr (SqT.of (by trivial)), ?_⟩
  | refine ⟨_, _, _, _, _, rfl, (by trivial), (by trivial), (by trivial), rfl, ?_⟩
  | refine ⟨_, _, _, _, _, rfl, ClsV.ty _, Ty.x (by ac_rfl), isI_tuple (by ac_rfl), ?_⟩
  | refine ⟨_, _, _, _, _, rfl, ClsV.ty _, Ty.x (by ac_rfl), isI_list (by ac_rfl), ?_⟩
  | refine ⟨_, _, _, _, _, rfl, ClsV.ty _, Ty.x (by ac_rfl), isI_int (by ac_rfl), ?_⟩
  | refine ⟨_, _, _, _, _, rfl, ClsV.ty _, Ty.x (by ac_rfl), isI_bool (by ac_rfl), ?_⟩
  | refine ⟨_, _, _, _, _, rfl, ClsV.ty _, Ty.x (by ac_rfl), isI_str (by ac_rfl), ?_⟩
  | refine ⟨sz (Nat.le_of_ble_eq_true rfl), ?_⟩
  | refine ⟨Or.inl ⟨rfl, _, SqL.of (by trivial)⟩, ?_⟩
  | refine ⟨_, _, rfl, SqT.of (by trivial), rfl, _, _, rfl, _, _, rfl, _, _, rfl, _, _, rfl, rfl, ?_⟩
  | refine ⟨_, _, rfl, SqT.of (by trivial), rfl, _, _, rfl, _, _, rfl, _, _, rfl, rfl, ?_⟩
  | refine ⟨_, _, rfl, SqT.of (by trivial), rfl, _, _, rfl, _, _, rfl, rfl, ?_⟩
  | refine ⟨_, _, _, _, rfl, (by with_reducible assumption : Wd _ _ _ _), (by first | decide | omega), (by first | decide | omega), ?_⟩
  | refine ⟨_, _, _, rfl, (by with_reducible assumption : Wd _ _ _ _), ?_⟩
  | refine iT (by contradiction) ?_
  | refine iF (by contradiction) ?_))
-- USE RD
def FmA (H : Hp) (a : Addr) (m : Fm) : Prop := H a = some (.tup [.str m.word, oV m.num])
theorem FmA.kt {H H' : Hp} {a : Addr} {m : Fm} (k : KT H H') (h : FmA H a m) : FmA H' a m := k _ _ h
def OvA (H : Hp) (v : V) (p : Pc (Fm × Fm)) : Prop := ∃ t a b, v = .ref t ∧ H t = some (.tup [oV p.1, oV p.2.1, .ref a, .ref b]) ∧ FmA H a p.2.2.1 ∧ FmA H b p.2.2.2
theorem OvA.kt {H H' : Hp} (k : KT H H') (v : V) (p : Pc (Fm × Fm)) (h : OvA H v p) : OvA H' v p := by
  obtain ⟨t, a, b, e, h, h1, h2⟩ := h
  exact ⟨t, a, b, e, k _ _ h, h1.kt k, h2.kt k⟩
def OvL (H : Hp) (a : Addr) (ps : List (Pc (Fm × Fm))) : Prop := ∃ vs, H a = some (.lst vs) ∧ Lw (OvA H) vs ps
theorem OvL.same {H H' : Hp} {a : Addr} {ps : List (Pc (Fm × Fm))} (h : OvL H a ps) (s : Same H H') : OvL H' a ps := by
  obtain ⟨vs, h1, h2⟩ := h
  exact ⟨vs, s _ _ h1, h2.mono (OvA.kt (KT.of s))⟩
theorem OvL.push {H H1 : Hp} {l t : Addr} {ws : List V} {acc : List (Pc (Fm × Fm))} {p : Pc (Fm × Fm)} {a b : Addr} (h : Lw (OvA H) ws acc) (hl : H l = some (.lst ws)) (s : Same H H1) (ht : H1 t = some (.tup [oV p.1, oV p.2.1, .ref a, .ref b])) (ha : FmA H1 a p.2.2.1) (hb : FmA H1 b p.2.2.2) : Lw (OvA (upd H1 l (.lst (ws ++ [.ref t])))) (ws ++ [.ref t]) (acc ++ [p]) := by
  have k1 : KT H1 (upd H1 l (.lst (ws ++ [.ref t]))) := KT.put (s _ _ hl)
  have k : KT H (upd H1 l (.lst (ws ++ [.ref t]))) := (KT.of s).trans k1
  exact (h.mono (OvA.kt k)).app ⟨⟨t, a, b, rfl, k1 _ _ ht, ha.kt k1, hb.kt k1⟩, trivial⟩
theorem over_take {ps qs : List (Pc Fm)} {i : Nat} {p : Pc Fm} (h : ps[i]? = some p) : overP (ps.take (i + 1)) qs = overP (ps.take i) qs ++ overP1 qs p := by
  unfold overP
  rw [List.take_add_one, h, List.flatMap_append]
  congr 1
  exact List.flatMap_singleton _ _
theorem over_take_len {ps qs : List (Pc Fm)} {i : Nat} {p : Pc Fm} (h : ps[i]? = some p) (hn : (overP ps qs).length ≤ 1000000) (j : Nat) : (overP (ps.take i) qs ++ ((clipP qs p.1 p.2.1).take j).map fun q => (q.1, q.2.1, (p.2.2, q.2.2))).length ≤ 1000000 := by
  have h2 : (overP ps qs).length = (overP (ps.take (i + 1)) qs).length + (overP (ps.drop (i + 1)) qs).length := by
    unfold overP
    rw [← List.length_append, ← List.flatMap_append, List.take_append_drop]
  rw [over_take h, List.length_append] at h2
  have h3 : (overP1 qs p).length = (clipP qs p.1 p.2.1).length := List.length_map _
  rw [List.length_append, List.length_map, List.length_take]
  omega
theorem one_out {Q : VK} {H : Hp} {f l : Bd} {m : Fm} {ps : List (Pc Fm)} (e : ps = [(f, l, m)]) (q : ∀ r H', Same H H' → H r = none → PcL H' r ps → Q (.ref r) H') {p r : Addr} {t : HO} (et : t = .tup [oV f, oV l, .str m.word, oV m.num]) (hp : H p = none) (hr : upd H p t r = none) : Q (.ref r) (upd (upd H p t) r (.lst [.ref p])) := by
  subst e et
  have s1 := same_upd (o := .tup [oV f, oV l, .str m.word, oV m.num]) hp
  have s2 := same_upd (o := .lst [.ref p]) hr
  exact q r _ (s1.trans s2) (s1.free hr) ⟨_, upd_same, ⟨p, rfl, s2 _ _ upd_same⟩, trivial⟩
section
variable {P : Program} {w : World} {K : PySem.W.Frag} {mg : Str → Option Value} {base : Heap}
def spOver : Sp := fun vs H Q _ => ∃ (a b : Addr) (ps qs : List (Pc Fm)), vs = [.ref a, .ref b] ∧ PcL H a ps ∧ PcL H b qs ∧ (overP ps qs).length ≤ 1000000 ∧ ps.length ≤ 1000000 ∧ qs.length ≤ 1000000 ∧ ∀ r H', Same H H' → H r = none → OvL H' r (overP ps qs) → Q (.ref r) H'
theorem ok_overlaid (T : Txt P K mg) {k : Nat} : FnOk P w K mg base CX0 (k + 3) T.overlaid.f T.overlaid.fd ["rows", "others"] spOver := by
  have G_clipped : FnOk P w K mg base CX0 (k + 2) T.clipped.f T.clipped.fd ["rows", "first", "last"] spClipped := ok_clipped T
  refine T.overlaid.F.ok (k := k + 2) sc_overlaid (fun vs H Q E h => ?_) (fun cdv A outer s H vs Q E hr h => ?_)
  · obtain ⟨a, b, ps, qs, rfl, _⟩ := h
    rfl
  · obtain ⟨a, b, ps, qs, rfl, ⟨us, ha, hu⟩, hb, hn, hn1, hn2, q⟩ := h
    refine ⟨_, (pss_cons (ps_set (i := 2) sc_overlaid.nd rfl (.inl rfl) (pe_lst pa_nil))
  (pss_cons (ps_for PassesOwn.never rfl (pi_list (pv 0)) (pg_tup rfl (pgs_cons (pg_name (i := 3) sc_overlaid.nd rfl (.inl rfl)) (pgs_cons (pg_name (i := 4) sc_overlaid.nd rfl (.inl rfl)) (pgs_cons (pg_name (i := 5) sc_overlaid.nd rfl (.inl rfl)) (pgs_cons (pg_name (i := 6) sc_overlaid.nd rfl (.inl rfl)) pgs_nil)))))
   (pss_one (ps_for PassesOwn.never rfl (pi_list (pe_call G_clipped (hr.mono (by omega)) (by rfl) T.clipped.g T.clipped.F.kp T.clipped.b .nil pass0 (pa_cons (pv 1) (pa_cons (pv 3) (pa_cons (pv 4) pa_nil))))) (pg_tup rfl (pgs_cons (pg_name (i := 7) sc_overlaid.nd rfl (.inl rfl)) (pgs_cons (pg_name (i := 8) sc_overlaid.nd rfl (.inl rfl)) (pgs_cons (pg_name (i := 9) sc_overlaid.nd rfl (.inl rfl)) (pgs_cons (pg_name (i := 10) sc_overlaid.nd rfl (.inl rfl)) pgs_nil)))))
   (pss_one (ps_expr (pe_bm PySem.F.plainAttrs_list PySem.F.slot_list_append PySem.F.type_list_append mt_append (pv 2) (pa_cons (pe_tup (pa_cons (pv 7) (pa_cons (pv 8) (pa_cons (pe_tup (pa_cons (pv 5) (pa_cons (pv 6) pa_nil))) (pa_cons (pe_tup (pa_cons (pv 9) (pa_cons (pv 10) pa_nil))) pa_nil))))) pa_nil)))))))
  (pss_one (ps_ret (pv 2))))), ?_⟩
    and_intros
    intro r hr0
    have s0 := same_upd (o := .lst []) hr0
    refine ⟨.ref a, rfl, a, rfl, ⟨_, SqL.of (s0 _ _ ha)⟩, ?_⟩
    refine for_list (K := K) (a := a) (xs := us) (fun i σ H' => ∃ (z : List (Option V)) (ws : List V), z.length = 8 ∧ σ = [some (.ref a), some (.ref b), some (.ref r)] ++ z ∧ Same H H' ∧ H' r = some (.lst ws) ∧ Lw (OvA H') ws (overP (ps.take i) qs)) ⟨_, [], rfl, rfl, s0, upd_same, trivial⟩ (fun i σ H' _ pp => ?_) (fun i x σ H1 hx pp => ?_) (fun σ H1 pp => ?_)
    · obtain ⟨_, _, _, _, s1, _⟩ := pp
      exact SqL.of (s1 _ _ ha)
    · obtain ⟨z, ws, hz, rfl, s1, hr1, hw⟩ := pp
      match z, hz with
      | [z1, z2, z3, z4, z5, z6, z7, z8], _ =>
      obtain ⟨p, hp, t, rfl, ht⟩ := hu.get i x hx
      have ht1 := s1 _ _ ht
      and_intros
      refine ⟨b, p.1, p.2.1, qs, rfl, hb.same s1, hn2, fun c H2 s2 hc ⟨cs, hc2, hcs⟩ => ?_⟩
      have sA := s1.trans s2
      refine ⟨c, rfl, ⟨_, SqL.of hc2⟩, ?_⟩
      refine for_list (K := K) (a := c) (xs := cs) (fun j σ H' => ∃ (z : List (Option V)) (ws : List V), z.length = 4 ∧ σ = [some (.ref a), some (.ref b), some (.ref r), some (oV p.1), some (oV p.2.1), some (.str p.2.2.word), some (oV p.2.2.num)] ++ z ∧ (∀ b o, b ≠ r → H2 b = some o → H' b = some o) ∧ Same H H' ∧ H' r = some (.lst ws) ∧ Lw (OvA H') ws (overP (ps.take i) qs ++ ((clipP qs p.1 p.2.1).take j).map fun q => (q.1, q.2.1, (p.2.2, q.2.2)))) ⟨_, ws, rfl, rfl, fun _ _ _ h => h, sA, s2 _ _ hr1, ?_⟩ (fun j σ H' _ pp => ?_) (fun j x σ H3 hx pp => ?_) (fun σ H3 pp => ?_)
      · rw [List.take_zero, List.map_nil, List.append_nil]
        exact hw.mono (OvA.kt (KT.of s2))
      · obtain ⟨_, _, _, _, h3, _⟩ := pp
        exact SqL.of (h3 c _ (fun e => by rw [e, hr1] at hc; cases hc) hc2)
      · obtain ⟨z, ws, hz, rfl, s3, s4, hr3, hw3⟩ := pp
        match z, hz with
        | [z1, z2, z3, z4], _ =>
        obtain ⟨q1, hq1, t2, rfl, ht2⟩ := hcs.get j x hx
        have ht3 := s3 t2 _ (fun e => by rw [e, s2 _ _ hr1] at ht2; cases ht2) ht2
        and_intros
        intro f1 hf1
        generalize el1 : upd _ f1 _ = H4
        obtain ⟨s5, q5⟩ := nw1 el1 hf1
        clear el1
        and_intros
        intro f2 hf2
        generalize el2 : upd _ f2 _ = H5
        obtain ⟨s6, q6⟩ := nw1 el2 hf2
        clear el2
        and_intros
        intro f3 hf3
        generalize el3 : upd _ f3 _ = H6
        obtain ⟨s7, q7⟩ := nw1 el3 hf3
        clear el3
        have sB := (s5.trans s6).trans s7
        have hlen : ws.length < 10000000 := by
          have h1 := hw3.len
          have h2 := over_take_len hp hn j
          omega
        refine ⟨r, ws, _, rfl, rfl, sB _ _ hr3, szm hlen, [_, _, _, _], _, rfl, rfl, fun b o nb h => ?_, same_put (s4.trans sB) hr0, upd_same, ?_⟩
        · rw [upd_ne nb]
          exact sB _ _ (s3 b o nb h)
        · have et : ((clipP qs p.1 p.2.1).take (j + 1)).map (fun q : Pc Fm => ((q.1, q.2.1, (p.2.2, q.2.2)) : Pc (Fm × Fm))) = ((clipP qs p.1 p.2.1).take j).map (fun q => (q.1, q.2.1, (p.2.2, q.2.2))) ++ [(q1.1, q1.2.1, (p.2.2, q1.2.2))] := by
            rw [List.take_add_one, hq1, List.map_append]
            rfl
          rw [et, ← List.append_assoc]
          exact OvL.push (p := (q1.1, q1.2.1, (p.2.2, q1.2.2))) hw3 hr3 sB q7 (s7 _ _ (s6 _ _ q5)) (s7 _ _ q6)
      · obtain ⟨z, ws, hz, rfl, s3, s4, hr3, hw3⟩ := pp
        match z, hz with
        | [z1, z2, z3, z4], _ =>
        refine ⟨[_, _, _, _, _, _, _, _], ws, rfl, rfl, s4, hr3, ?_⟩
        rw [hcs.len, List.take_length] at hw3
        rw [over_take hp]
        exact hw3
    · obtain ⟨z, ws, hz, rfl, s1, hr1, hw⟩ := pp
      match z, hz with
      | [z1, z2, z3, z4, z5, z6, z7, z8], _ =>
      rw [hu.len, List.take_length] at hw
      exact ⟨_, rfl, q r H1 s1 hr0 ⟨ws, hr1, hw⟩⟩
def spCut : Sp := fun vs H Q _ => ∃ (a b : Addr) (f l : Bd) (m : Int) (x y : Fm), vs = [oV f, oV l, .int m, .ref a, .ref b] ∧ FmA H a x ∧ FmA H b y ∧ ∀ r H', Same H H' → H r = none → PcL H' r (cutP f l m x y) → Q (.ref r) H'
theorem ok_cut (T : Txt P K mg) {k : Nat} : FnOk P w K mg base CX0 (k + 3) T.cut.f T.cut.fd ["first", "last", "moment", "ahead", "behind"] spCut := by
  have G_clipped : FnOk P w K mg base CX0 (k + 2) T.clipped.f T.clipped.fd ["rows", "first", "last"] spClipped := ok_clipped T
  refine T.cut.F.ok (k := k + 2) sc_cut (fun vs H Q E h => ?_) (fun cdv A outer s H vs Q E hr h => ?_)
  · obtain ⟨a, b, f, l, m, x, y, rfl, _⟩ := h
    rfl
  · obtain ⟨a, b, f, l, m, x, y, rfl, ha, hb, q⟩ := h
    unfold FmA at ha hb
    refine ⟨_, (pss_one (ps_ret (pe_call G_clipped (hr.mono (by omega)) (by rfl) T.clipped.g T.clipped.F.kp T.clipped.b .nil pass0 (pa_cons (pe_lst (pa_cons (pe_tup (pa_cons pe_non (pa_cons (pe_op op_sub (pv 2) pe_int) (StX.pa_star (pv 3) pa_nil)))) (pa_cons (pe_tup (pa_cons (pv 2) (pa_cons pe_non (StX.pa_star (pv 4) pa_nil)))) pa_nil))) (pa_cons (pv 0) (pa_cons (pv 1) pa_nil)))))), ?_⟩
    and_intros
    refine ⟨a, _, rfl, .inl (SqT.of ha), ?_⟩
    and_intros
    intro t1 ht1
    generalize el : upd _ t1 _ = H1
    obtain ⟨s1, q1⟩ := nw1 el ht1
    clear el
    have hb1 := s1 _ _ hb
    and_intros
    refine ⟨b, _, rfl, .inl (SqT.of hb1), ?_⟩
    and_intros
    intro t2 ht2
    generalize el : upd _ t2 _ = H2
    obtain ⟨s2, q2⟩ := nw1 el ht2
    clear el
    and_intros
    intro t3 ht3
    generalize el : upd _ t3 _ = H3
    obtain ⟨s3, q3⟩ := nw1 el ht3
    clear el
    have sA := (s1.trans s2).trans s3
    and_intros
    refine ⟨t3, f, l, [(none, some (m - 1), x), (some m, none, y)], rfl, ⟨_, q3, ⟨t1, rfl, s3 _ _ (s2 _ _ q1)⟩, ⟨t2, rfl, s3 _ _ q2⟩, trivial⟩, (by show 2 ≤ 1000000; decide), fun r H' s' hr hp => ?_⟩
    exact q r H' (sA.trans s') (sA.free hr) hp
def spChosen : Sp := fun vs H Q _ => ∃ (a b : Addr) (f l : Bd) (x y : Fm) (lt : Bool), vs = [oV f, oV l, .ref a, .ref b, .bl lt] ∧ FmA H a x ∧ FmA H b y ∧ ∀ r H', Same H H' → H r = none → PcL H' r (chosP lt (f, l, (x, y))) → Q (.ref r) H'
theorem ok_chosen (T : Txt P K mg) {k : Nat} : FnOk P w K mg base CX0 (k + 4) T.chosen.f T.chosen.fd ["first", "last", "form", "other", "later"] spChosen := by
  have G_cut : FnOk P w K mg base CX0 (k + 3) T.cut.f T.cut.fd ["first", "last", "moment", "ahead", "behind"] spCut := ok_cut T
  refine T.chosen.F.ok (k := k + 3) sc_chosen (fun vs H Q E h => ?_) (fun cdv A outer s H vs Q E hr h => ?_)
  · obtain ⟨a, b, f, l, x, y, lt, rfl, _⟩ := h
    rfl
  · obtain ⟨a, b, f, l, x, y, lt, rfl, ha, hb, q⟩ := h
    unfold FmA at ha hb
    refine ⟨_, (pss_cons (ps_if (PW.pt (pw_or (pt_cmpR op_eq (pe_ix ix_tup (pv 2) pe_int (fun _ _ => rfl)) pe_str (nomark _)) (pw_or1 (pt_cmpR op_eq (pe_ix ix_tup (pv 3) pe_int (fun _ _ => rfl)) pe_str (nomark _))))) (pss_one (ps_ret (pe_lst (pa_cons (pe_tup (pa_cons (pv 0) (pa_cons (pv 1) (pa_cons pe_str (pa_cons pe_non pa_nil))))) pa_nil)))) pss_nil)
  (pss_cons (ps_if (pt_cmpR op_eq (pe_ix ix_tup (pv 2) pe_int (fun _ _ => rfl)) (pe_ix ix_tup (pv 3) pe_int (fun _ _ => rfl)) (nomark _)) (pss_cons (ps_set (i := 5) sc_chosen.nd rfl (.inl rfl) (pe_ifExp (pt_val (pv 4)) (pe_callB (call_max2 rfl) (by rfl) T.n_max (by decide +kernel) (pa_cons (pe_ix ix_tup (pv 2) pe_int (fun _ _ => rfl)) (pa_cons (pe_ix ix_tup (pv 3) pe_int (fun _ _ => rfl)) pa_nil))) (pe_callB (call_min2 rfl) (by rfl) T.n_min (by decide +kernel) (pa_cons (pe_ix ix_tup (pv 2) pe_int (fun _ _ => rfl)) (pa_cons (pe_ix ix_tup (pv 3) pe_int (fun _ _ => rfl)) pa_nil)))))
  (pss_one (ps_ret (pe_lst (pa_cons (pe_tup (pa_cons (pv 0) (pa_cons (pv 1) (pa_cons (pe_ix ix_tup (pv 2) pe_int (fun _ _ => rfl)) (pa_cons (pv 5) pa_nil))))) pa_nil))))) pss_nil)
  (pss_cons (ps_par (i := 6) (j := 7) rfl sc_chosen.nd rfl rfl (by decide) rfl rfl (pa_cons (pv 2) (pa_cons (pv 3) pa_nil)) rfl)
  (pss_cons (ps_if (pt_cmpR op_eq (pe_ix ix_tup (pv 2) pe_int (fun _ _ => rfl)) pe_str (nomark _)) (pss_one (ps_par (i := 6) (j := 7) rfl sc_chosen.nd rfl rfl (by decide) rfl rfl (pa_cons (pv 3) (pa_cons (pv 2) pa_nil)) rfl)) pss_nil)
  (pss_cons (ps_if (pt_val (pv 4)) (pss_one (ps_ret (pe_call G_cut (hr.mono (by omega)) (by rfl) T.cut.g T.cut.F.kp T.cut.b .nil pass0 (pa_cons (pv 0) (pa_cons (pv 1) (pa_cons (pe_op op_sub (pe_ix ix_tup (pv 6) pe_int (fun _ _ => rfl)) (pe_ix ix_tup (pv 7) pe_int (fun _ _ => rfl))) (pa_cons (pv 6) (pa_cons (pv 7) pa_nil)))))))) pss_nil)
  (pss_one (ps_ret (pe_call G_cut (hr.mono (by omega)) (by rfl) T.cut.g T.cut.F.kp T.cut.b .nil pass0 (pa_cons (pv 0) (pa_cons (pv 1) (pa_cons (pe_op op_sub (pe_ix ix_tup (pv 6) pe_int (fun _ _ => rfl)) (pe_ix ix_tup (pv 7) pe_int (fun _ _ => rfl))) (pa_cons (pv 7) (pa_cons (pv 6) pa_nil))))))))))))), ?_⟩
    cases x with
    | none =>
      and_intros
      intro p hp
      and_intros
      intro r hr'
      exact one_out (m := .none) rfl q rfl hp hr'
    | row x =>
      cases y with
      | none =>
        and_intros
        intro p hp
        and_intros
        intro r hr'
        exact one_out (m := .none) rfl q rfl hp hr'
      | row y =>
        cases lt with
        | true =>
          and_intros
          refine ⟨x, y, rfl, ?_⟩
          and_intros
          intro p hp
          and_intros
          intro r hr'
          exact one_out (m := .row (pickB true x y)) rfl q rfl hp hr'
        | false =>
          and_intros
          refine ⟨x, y, rfl, ?_⟩
          and_intros
          intro p hp
          and_intros
          intro r hr'
          exact one_out (m := .row (pickB false x y)) rfl q rfl hp hr'
      | shift y =>
        cases lt with
        | true =>
          and_intros
          refine ⟨_, _, rfl, ?_⟩
          and_intros
          exact ⟨a, b, f, l, _, .row x, .shift y, rfl, ha, hb, q⟩
        | false =>
          and_intros
          refine ⟨_, _, rfl, ?_⟩
          and_intros
          exact ⟨b, a, f, l, _, .shift y, .row x, rfl, hb, ha, q⟩
    | shift x =>
      cases y with
      | none =>
        and_intros
        intro p hp
        and_intros
        intro r hr'
        exact one_out (m := .none) rfl q rfl hp hr'
      | row y =>
        cases lt with
        | true =>
          and_intros
          refine ⟨_, _, rfl, ?_⟩
          and_intros
          refine ⟨_, _, rfl, ?_⟩
          and_intros
          exact ⟨b, a, f, l, _, .row y, .shift x, rfl, hb, ha, q⟩
        | false =>
          and_intros
          refine ⟨_, _, rfl, ?_⟩
          and_intros
          refine ⟨_, _, rfl, ?_⟩
          and_intros
          exact ⟨a, b, f, l, _, .shift x, .row y, rfl, ha, hb, q⟩
      | shift y =>
        cases lt with
        | true =>
          and_intros
          refine ⟨x, y, rfl, ?_⟩
          and_intros
          intro p hp
          and_intros
          intro r hr'
          exact one_out (m := .shift (pickB true x y)) rfl q rfl hp hr'
        | false =>
          and_intros
          refine ⟨x, y, rfl, ?_⟩
          and_intros
          intro p hp
          and_intros
          intro r hr'
          exact one_out (m := .shift (pickB false x y)) rfl q rfl hp hr'
end
end Pl

namespace Pl
open PySem L2
local macro_rules | `(tactic| infer_instance) => `(tactic| first
  | with_reducible assumption
  | with_reducible exact Same.refl _
  | exact Wd.gh (by with_reducible assumption)
  | exact sm2 (by with_reducible assumption) (by infer_instance)
  | exact sm2 (same_upd (by with_reducible assumption)) (by infer_instance)
  | exact sm2 (Wd.gh (by with_reducible assumption)) (by infer_instance))
local macro_rules | `(tactic| trivial) => `(tactic| first
  | with_reducible assumption
  | with_reducible exact upd_same
  | exact at_same (by with_reducible assumption) (by trivial)
  | exact at_same (same_upd (by with_reducible assumption)) (by trivial)
  | exact at_same (Wd.gh (by with_reducible assumption)) (by trivial))
local macro_rules | `(tactic| ac_rfl) => `(tactic| first
  | exact Ty.int _
  | exact Ty.str _
  | exact Ty.non
  | exact Ty.bl _
  | exact Ty.tup (by trivial)
  | exact Ty.lst (by trivial))
local macro_rules | `(tactic| contradiction) => `(tactic| first
  | exact rfl
  | exact decide_eq_true (by first | assumption | omega)
  | exact decide_eq_false (by first | assumption | omega)
  | exact dI_t (by first | assumption | omega)
  | exact dI_f (by first | assumption | omega)
  | exact dS_t (by first | assumption | decide)
  | exact dS_f (by first | assumption | decide)
  | exact nI_t (by first | assumption | omega)
  | exact nI_f (by first | assumption | omega)
  | exact nS_t (by first | assumption | decide)
  | exact nS_f (by first | assumption | decide)
  | assumption
  | exact q_none_int | exact q_none_bool | exact q_none_tuple | exact q_none_list | exact q_none_str | exact q_bool_int | exact q_bool_bool | exact q_bool_tuple | exact q_bool_list | exact q_bool_str | exact q_int_int | exact q_int_bool | exact q_int_tuple | exact q_int_list | exact q_int_str | exact q_str_int | exact q_str_bool | exact q_str_tuple | exact q_str_list | exact q_str_str | exact q_list_int | exact q_list_bool | exact q_list_tuple | exact q_list_list | exact q_list_str | exact q_tuple_int | exact q_tuple_bool | exact q_tuple_tuple | exact q_tuple_list | exact q_tuple_str
  | exact nb_t (by contradiction)
  | exact nb_f (by contradiction))
local macro_rules | `(tactic| and_intros) => `(tactic| repeat (first
  | refine ⟨_, rfl, ?_⟩
  | refine ⟨_, _, rfl, rfl, ?_⟩
  | refine ⟨rfl, ?_⟩
  | refine ⟨_, _, _, _, rfl, rfl, SqT.of (by trivial), at_ix (by decide) rfl, ?_⟩
  | refine ⟨_, _, _, _, rfl, rfl, SqL.of (by trivial), at_ix (by decide) rfl, ?_⟩
  | refine ⟨_, _, rfl, Or.inl (SqL.of (by trivial)), ?_⟩
  | refine ⟨_, _, rfl, Or.inr (SqT.of (by trivial)), ?_⟩
  | refine ⟨_, _, _, _, _, rfl, (by trivial), (by trivial), (by trivial), rfl, ?_⟩
  | refine ⟨_, _, _, _, _, rfl, ClsV.ty _, Ty.x (by ac_rfl), isI_tuple (by ac_rfl), ?_⟩
  | refine ⟨_, _, _, _, _, rfl, ClsV.ty _, Ty.x (by ac_rfl), isI_list (by ac_rfl), ?_⟩
  | refine ⟨_, _, _, _, _, rfl, ClsV.ty _, Ty.x (by ac_rfl), isI_int (by ac_rfl), ?_⟩
  | refine ⟨_, _, _, _, _, rfl, ClsV.ty _, Ty.x (by ac_rfl), isI_bool (by ac_rfl), ?_⟩
  | refine ⟨_, _, _, _, _, rfl, ClsV.ty _, Ty.x (by ac_rfl), isI_str (by ac_rfl), ?_⟩
  | refine ⟨sz (Nat.le_of_ble_eq_true rfl), ?_⟩
  | refine ⟨Or.inl ⟨rfl, _, SqL.of (by trivial)⟩, ?_⟩
  | refine ⟨_, _, rfl, SqT.of (by trivial), rfl, _, _, rfl, _, _, rfl, _, _, rfl, _, _, rfl, rfl, ?_⟩
  | refine ⟨_, _, rfl, SqT.of (by trivial), rfl, _, _, rfl, _, _, rfl, _, _, rfl, rfl, ?_⟩
  | refine ⟨_, _, rfl, SqT.of (by trivial), rfl, _, _, rfl, _, _, rfl, rfl, ?_⟩
  | refine ⟨_, _, _, _, rfl, (by with_reducible assumption : Wd _ _ _ _), (by first | decide | omega), (by first | decide | omega), ?_⟩
  | refine ⟨_, _, _, rfl, (by with_reducible assumption : Wd _ _ _ _), ?_⟩
  | refine iT (by contradiction) ?_
  | refine iF (by contradiction) ?_))
-- USE RD
def Tm.raw (rows : Str → List Int) : Tm → List (Pc Fm)
  | .now => [(none, none, .shift 0)]
  | .shift m n => addP (m.raw rows) n
  | .look s m wy lim => lookP (rows s) wy lim (m.raw rows)
  | .either a b => (overP (a.raw rows) (b.raw rows)).map eithP
  | .later a b => (overP (a.raw rows) (b.raw rows)).flatMap (chosP true)
  | .earlier a b => (overP (a.raw rows) (b.raw rows)).flatMap (chosP false)
/-- at most so many pieces, with at most r rows a stream -/
def Tm.pcb (r : Nat) : Tm → Nat
  | .now => 1
  | .shift m _ => m.pcb r
  | .look _ m _ _ => m.pcb r * (2 * r + 1)
  | .either a b => a.pcb r * b.pcb r * 2
  | .later a b => a.pcb r * b.pcb r * 2
  | .earlier a b => a.pcb r * b.pcb r * 2
theorem pcb_pos (r : Nat) : ∀ t : Tm, 0 < t.pcb r
  | .now => Nat.one_pos
  | .shift m _ => pcb_pos r m
  | .look _ m _ _ => Nat.mul_pos (pcb_pos r m) (by omega)
  | .either a b => Nat.mul_pos (Nat.mul_pos (pcb_pos r a) (pcb_pos r b)) (by omega)
  | .later a b => Nat.mul_pos (Nat.mul_pos (pcb_pos r a) (pcb_pos r b)) (by omega)
  | .earlier a b => Nat.mul_pos (Nat.mul_pos (pcb_pos r a) (pcb_pos r b)) (by omega)
theorem raw_len {rows : Str → List Int} {r : Nat} (hr : ∀ s, (rows s).length ≤ r) : ∀ t : Tm, (t.raw rows).length ≤ t.pcb r
  | .now => Nat.le_refl _
  | .shift m n => by
    show (addP _ n).length ≤ _
    unfold addP
    rw [List.length_map]
    exact raw_len hr m
  | .look s m wy lim => by
    refine Nat.le_trans (look_len _ _ _ _) (Nat.mul_le_mul (raw_len hr m) ?_)
    have := hr s
    omega
  | .either a b => by
    show (List.map _ _).length ≤ _
    rw [List.length_map]
    exact Nat.le_trans (Nat.le_trans (over_len _ _) (Nat.mul_le_mul (raw_len hr a) (raw_len hr b))) (by show _ ≤ _ * _ * 2; omega)
  | .later a b => by
    refine Nat.le_trans (chos_len _ _) (Nat.mul_le_mul_right _ ?_)
    exact Nat.le_trans (over_len _ _) (Nat.mul_le_mul (raw_len hr a) (raw_len hr b))
  | .earlier a b => by
    refine Nat.le_trans (chos_len _ _) (Nat.mul_le_mul_right _ ?_)
    exact Nat.le_trans (over_len _ _) (Nat.mul_le_mul (raw_len hr a) (raw_len hr b))
theorem mul_le_left {a b n : Nat} (hb : 0 < b) (h : a * b ≤ n) : a ≤ n := Nat.le_trans (Nat.le_mul_of_pos_right a hb) h
theorem mul_le_right {a b n : Nat} (ha : 0 < a) (h : a * b ≤ n) : b ≤ n := Nat.le_trans (Nat.le_mul_of_pos_left b ha) h
theorem raw_til {rows : Str → List Int} (hs : ∀ s, (rows s).Pairwise (· ≤ ·)) : ∀ t : Tm, t.wf → Til (AnR fun x => t.ans rows x) none none (t.raw rows)
  | .now, _ => Til.one rfl fun x _ => congrArg some (show x + 0 = x by omega)
  | .shift m n, h => (add_til n (raw_til hs m h)).mono fun a x (e : a.val x = _) => by
    show a.val x = _
    rw [e]
    show Option.map _ _ = (match m.ans rows x with | none => none | some x => some (x + n))
    cases m.ans rows x <;> rfl
  | .look s m wy lim, h => (look_til (hs s) h.2.1 lim (raw_til hs m h.2.2.2)).mono fun a x (e : a.val x = _) => by
    show a.val x = _
    rw [e]
    show Option.bind _ _ = (match m.ans rows x with | none => none | some x => lookedUp (rows s) x wy lim)
    cases m.ans rows x <;> rfl
  | .either a b, h => (eith_til (over_til (raw_til hs a h.1) (raw_til hs b h.2))).mono fun m x (e : m.val x = _) => by
    show m.val x = _
    rw [e]
    show orO _ _ = (match a.ans rows x with | none => b.ans rows x | some x => some x)
    cases a.ans rows x <;> rfl
  | .later a b, h => (chos_til true (over_til (raw_til hs a h.1) (raw_til hs b h.2))).mono fun m x (e : m.val x = _) => by
    show m.val x = _
    rw [e]
    show pickO _ _ _ = (match a.ans rows x, b.ans rows x with | some x, some y => some (if y > x then y else x) | _, _ => none)
    cases a.ans rows x <;> cases b.ans rows x <;> rfl
  | .earlier a b, h => (chos_til false (over_til (raw_til hs a h.1) (raw_til hs b h.2))).mono fun m x (e : m.val x = _) => by
    show m.val x = _
    rw [e]
    show pickO _ _ _ = (match a.ans rows x, b.ans rows x with | some x, some y => some (if y < x then y else x) | _, _ => none)
    cases a.ans rows x <;> cases b.ans rows x <;> rfl
theorem look_take {ms : List Int} {wy : Str} {lim : Option Int} {ps : List (Pc Fm)} {i : Nat} {p : Pc Fm} (h : ps[i]? = some p) : lookP ms wy lim (ps.take (i + 1)) = lookP ms wy lim (ps.take i) ++ lookP1 ms wy lim p := by
  unfold lookP
  rw [List.take_add_one, h, List.flatMap_append]
  congr 1
  exact List.flatMap_singleton _ _
theorem look_take_len {ms : List Int} {wy : Str} {lim : Option Int} {ps : List (Pc Fm)} {i : Nat} {p : Pc Fm} {r : Nat} (h : ps[i]? = some p) (hm : ms.length ≤ r) (hn : ps.length * (2 * r + 1) ≤ 1000000) (n : Nat) (hn1 : n ≤ 2 * r + 1) : (lookP ms wy lim (ps.take i)).length + n ≤ 1000000 := by
  have h1 := look_len ms wy lim (ps.take i)
  have h3 := (List.getElem?_eq_some_iff.mp h).1
  rw [List.length_take] at h1
  have h4 : min i ps.length * (2 * r + 1) + (2 * r + 1) ≤ ps.length * (2 * r + 1) := by
    rw [← Nat.succ_mul]
    exact Nat.mul_le_mul_right _ (by omega)
  have h5 : min i ps.length * (2 * ms.length + 1) ≤ min i ps.length * (2 * r + 1) := Nat.mul_le_mul_left _ (by omega)
  omega
section
variable {P : Program} {w : World} {K : PySem.W.Frag} {mg : Str → Option Value} {base : Heap}
theorem Txt.kN (T : Txt P K mg) (t : Tm) : PySem.W.kitOne K (.ref (t.cls T.ca)) (.ref T.c_Now) = some (match t with | .now => true | _ => false) := by
  cases t
  · exact T.k1_Now_Now
  · exact T.k1_Shift_Now
  · exact T.k1_Look_Now
  · exact T.k1_Either_Now
  · exact T.k1_Later_Now
  · exact T.k1_Earlier_Now
theorem Txt.kE (T : Txt P K mg) (t : Tm) : PySem.W.kitOne K (.ref (t.cls T.ca)) (.ref T.c_Either) = some (match t with | .either _ _ => true | _ => false) := by
  cases t
  · exact T.k1_Now_Either
  · exact T.k1_Shift_Either
  · exact T.k1_Look_Either
  · exact T.k1_Either_Either
  · exact T.k1_Later_Either
  · exact T.k1_Earlier_Either
theorem Txt.kL (T : Txt P K mg) (t : Tm) : PySem.W.kitOne K (.ref (t.cls T.ca)) (.ref T.c_Later) = some (match t with | .later _ _ => true | _ => false) := by
  cases t
  · exact T.k1_Now_Later
  · exact T.k1_Shift_Later
  · exact T.k1_Look_Later
  · exact T.k1_Either_Later
  · exact T.k1_Later_Later
  · exact T.k1_Earlier_Later
def spRaw (T : Txt P K mg) (n : Nat) : Sp := fun vs H Q _ => ∃ (t : Tm) (a wa l : Addr) (ps : List (Str × Int)) (m : Nat), vs = [.ref a, .ref wa] ∧ TmAt T.ca H t a ∧ t.depth ≤ n ∧ t.wf ∧ WoA T H wa l ps ∧ ps.length ≤ 1000 ∧ (∀ s, (rowsOf ps s).length ≤ m) ∧ t.pcb m ≤ 1000000 ∧ ∀ r H', Same H H' → H r = none → PcL H' r (t.raw (rowsOf ps)) → Q (.ref r) H'
def spLookP (T : Txt P K mg) (n : Nat) : Sp := fun vs H Q _ => ∃ (t : Tm) (z wy : Str) (lim : Option Int) (a wa l : Addr) (ps : List (Str × Int)) (m : Nat), vs = [.ref a, .ref wa] ∧ TmAt T.ca H (.look z t wy lim) a ∧ t.depth ≤ n ∧ (Tm.look z t wy lim).wf ∧ WoA T H wa l ps ∧ ps.length ≤ 1000 ∧ (∀ s, (rowsOf ps s).length ≤ m) ∧ (Tm.look z t wy lim).pcb m ≤ 1000000 ∧ ∀ r H', Same H H' → H r = none → PcL H' r (lookP (rowsOf ps z) wy lim (t.raw (rowsOf ps))) → Q (.ref r) H'
theorem ok_look_pieces (T : Txt P K mg) {k n : Nat} (G_raw_pieces : FnOk P w K mg base CX0 (k + 5) T.raw_pieces.f T.raw_pieces.fd ["term", "world"] (spRaw T n)) : FnOk P w K mg base CX0 (k + 6) T.look_pieces.f T.look_pieces.fd ["term", "world"] (spLookP T n) := by
  have G_getitem : FnR P w K mg base CX0 (k + 1 + 3) T.World_getitem.f (spGetItem T) := ok_getitem T
  have G_looked_up : FnOk P w K mg base CX0 (k + 3 + 2) T.looked_up.f T.looked_up.fd ["moments", "moment", "way", "within"] (spLookedUp K) := ok_looked_up T
  have G_look_table : FnOk P w K mg base CX0 (k + 2 + 3) T.look_table.f T.look_table.fd ["moments", "way", "within"] spTable := ok_look_table T
  have G_clipped : FnOk P w K mg base CX0 (k + 3 + 2) T.clipped.f T.clipped.fd ["rows", "first", "last"] spClipped := ok_clipped T
  have G_moved : FnOk P w K mg base CX0 (k + 4 + 1) T.moved.f T.moved.fd ["bound", "amount"] spMoved := ok_moved T
  refine T.look_pieces.F.ok (k := k + 5) sc_look_pieces (fun vs H Q E h => ?_) (fun cdv A outer s H vs Q E hr h => ?_)
  · obtain ⟨t, z, wy, lim, a, wa, l, ps, m, rfl, _⟩ := h
    rfl
  · obtain ⟨t, z, wy, lim, a, wa, l, ps, m, rfl, ⟨dx, b, ha, hb⟩, hd, ⟨w1, w2, w3, w4⟩, ho, hps, hm, hpc, q⟩ := h
    refine ⟨_, (pss_cons (ps_set (i := 2) sc_look_pieces.nd rfl (.inl rfl) (pe_getO G_getitem (hr.mono (by omega)) pass0 (pv 1) (pe_fld (pv 0) rfl)))
  (pss_cons (ps_set (i := 3) sc_look_pieces.nd rfl (.inl rfl) (pe_call G_look_table (hr.mono (by omega)) (by rfl) T.look_table.g T.look_table.F.kp T.look_table.b .nil pass0 (pa_cons (pv 2) (pa_cons (pe_fld (pv 0) rfl) (pa_cons (pe_fld (pv 0) rfl) pa_nil)))))
  (pss_cons (ps_set (i := 4) sc_look_pieces.nd rfl (.inl rfl) (pe_lst pa_nil))
  (pss_cons (ps_for PassesOwn.never rfl (pi_list (pe_call G_raw_pieces (hr.mono (by omega)) (by rfl) T.raw_pieces.g T.raw_pieces.F.kp T.raw_pieces.b .nil pass0 (pa_cons (pe_fld (pv 0) rfl) (pa_cons (pv 1) pa_nil)))) (pg_tup rfl (pgs_cons (pg_name (i := 5) sc_look_pieces.nd rfl (.inl rfl)) (pgs_cons (pg_name (i := 6) sc_look_pieces.nd rfl (.inl rfl)) (pgs_cons (pg_name (i := 7) sc_look_pieces.nd rfl (.inl rfl)) (pgs_cons (pg_name (i := 8) sc_look_pieces.nd rfl (.inl rfl)) pgs_nil)))))
   (pss_one (ps_if (pt_cmpR op_eq (pv 7) pe_str (nomark _)) (pss_one (ps_expr (pe_bm PySem.F.plainAttrs_list PySem.F.slot_list_append PySem.F.type_list_append mt_append (pv 4) (pa_cons (pe_tup (pa_cons (pv 5) (pa_cons (pv 6) (pa_cons pe_str (pa_cons pe_non pa_nil))))) pa_nil)))) (pss_one (ps_if (pt_cmpR op_eq (pv 7) pe_str (nomark _)) (pss_cons (ps_set (i := 9) sc_look_pieces.nd rfl (.inl rfl) (pe_call G_looked_up (hr.mono (by omega)) (by rfl) T.looked_up.g T.looked_up.F.kp T.looked_up.b .nil pass0 (pa_cons (pv 2) (pa_cons (pv 8) (pa_cons (pe_fld (pv 0) rfl) (pa_cons (pe_fld (pv 0) rfl) pa_nil))))))
  (pss_one (ps_if (pt_cmpR op_isN (pv 9) pe_non (nomark _)) (pss_one (ps_expr (pe_bm PySem.F.plainAttrs_list PySem.F.slot_list_append PySem.F.type_list_append mt_append (pv 4) (pa_cons (pe_tup (pa_cons (pv 5) (pa_cons (pv 6) (pa_cons pe_str (pa_cons pe_non pa_nil))))) pa_nil)))) (pss_one (ps_expr (pe_bm PySem.F.plainAttrs_list PySem.F.slot_list_append PySem.F.type_list_append mt_append (pv 4) (pa_cons (pe_tup (pa_cons (pv 5) (pa_cons (pv 6) (pa_cons pe_str (pa_cons (pv 9) pa_nil))))) pa_nil))))))) (pss_one (ps_for PassesOwn.never rfl (pi_list (pe_call G_clipped (hr.mono (by omega)) (by rfl) T.clipped.g T.clipped.F.kp T.clipped.b .nil pass0 (pa_cons (pv 3) (pa_cons (pe_call G_moved (hr.mono (by omega)) (by rfl) T.moved.g T.moved.F.kp T.moved.b .nil pass0 (pa_cons (pv 5) (pa_cons (pv 8) pa_nil))) (pa_cons (pe_call G_moved (hr.mono (by omega)) (by rfl) T.moved.g T.moved.F.kp T.moved.b .nil pass0 (pa_cons (pv 6) (pa_cons (pv 8) pa_nil))) pa_nil))))) (pg_tup rfl (pgs_cons (pg_name (i := 10) sc_look_pieces.nd rfl (.inl rfl)) (pgs_cons (pg_name (i := 11) sc_look_pieces.nd rfl (.inl rfl)) (pgs_cons (pg_name (i := 12) sc_look_pieces.nd rfl (.inl rfl)) (pgs_cons (pg_name (i := 9) sc_look_pieces.nd rfl (.inl rfl)) pgs_nil)))))
   (pss_one (ps_expr (pe_bm PySem.F.plainAttrs_list PySem.F.slot_list_append PySem.F.type_list_append mt_append (pv 4) (pa_cons (pe_tup (pa_cons (pe_call G_moved (hr.mono (by omega)) (by rfl) T.moved.g T.moved.F.kp T.moved.b .nil pass0 (pa_cons (pv 10) (pa_cons (pe_un un_neg (pv 8)) pa_nil))) (pa_cons (pe_call G_moved (hr.mono (by omega)) (by rfl) T.moved.g T.moved.F.kp T.moved.b .nil pass0 (pa_cons (pv 11) (pa_cons (pe_un un_neg (pv 8)) pa_nil))) (pa_cons (pv 12) (pa_cons (pv 9) pa_nil))))) pa_nil)))))))))))
  (pss_one (ps_ret (pv 4))))))), ?_⟩
    have hml : (rowsOf ps z).length ≤ 1000 := by
      unfold rowsOf
      rw [List.length_map]
      exact Nat.le_trans (List.length_filter_le _ _) hps
    have hmz := hm z
    have hpc1 : t.pcb m ≤ 1000000 := mul_le_left (b := 2 * m + 1) (by omega) hpc
    have hrl := raw_len hm t
    have hpc2 : (t.raw (rowsOf ps)).length * (2 * m + 1) ≤ 1000000 := Nat.le_trans (Nat.mul_le_mul_right _ hrl) hpc
    refine ⟨_, rfl, _, rfl, a, _, dx, _, _, rfl, ha, T.o_Look.cl, T.n_Look_stream, rfl, ?_⟩
    obtain ⟨dw, wvs, hwa, _⟩ := id ho
    refine ⟨wa, _, dw, _, rfl, hwa, T.gi_World, wa, l, z, ps, rfl, ho, w1, hps, fun r1 H1 s1 _ hr1 => ?_⟩
    have ha1 := s1 _ _ ha
    generalize hms : rowsOf ps z = ms at hr1 hml hmz q
    refine ⟨_, rfl, _, rfl, a, _, dx, _, _, rfl, ha1, T.o_Look.cl, T.n_Look_way, rfl, _, rfl, a, _, dx, _, _, rfl, ha1, T.o_Look.cl, T.n_Look_within, rfl, ?_⟩
    refine ⟨r1, ms, wy, lim, rfl, hr1, by omega, w2, fun r2 H2 s2 _ hr2 => ?_⟩
    and_intros
    intro r hr0
    have s12 := s1.trans s2
    generalize el : upd H2 r _ = H3
    obtain ⟨s3, q3⟩ := nw1 el hr0
    clear el
    have s13 := s12.trans s3
    have hrH : H r = none := s12.free hr0
    refine ⟨_, rfl, a, _, dx, _, _, rfl, s13 _ _ ha, T.o_Look.cl, T.n_Look_moment, rfl, ?_⟩
    refine ⟨_, rfl, t, b, wa, l, ps, m, rfl, hb.same s13, hd, w4, ho.same s13, hps, hm, hpc1, fun r4 H4 s4 hr40 ⟨us, hr4, hu⟩ => ?_⟩
    refine ⟨r4, rfl, ⟨_, SqL.of hr4⟩, ?_⟩
    have s14 := s13.trans s4
    have ne4 : r4 ≠ r := fun e => by rw [e, q3] at hr40; cases hr40
    refine for_list (K := K) (a := r4) (xs := us) (fun i σ H' => ∃ (z : List (Option V)) (ws : List V), z.length = 8 ∧ σ = [some (.ref a), some (.ref wa), some (.ref r1), some (.ref r2), some (.ref r)] ++ z ∧ But r H4 H' ∧ Same H H' ∧ H' r = some (.lst ws) ∧ Lw (PcA H') ws (lookP ms wy lim ((t.raw (rowsOf ps)).take i))) ⟨_, [], rfl, rfl, fun _ _ _ h => h, s14, s4 _ _ q3, trivial⟩ (fun i σ H' _ pp => ?_) (fun i x σ H5 hx pp => ?_) (fun σ H5 pp => ?_)
    · obtain ⟨_, _, _, _, h1, _⟩ := pp
      exact SqL.of (h1 _ _ ne4 hr4)
    · obtain ⟨y, ws, hy, rfl, b5, s5, hr5, hw5⟩ := pp
      match y, hy with
      | [z1, z2, z3, z4, z5, z6, z7, z8], _ =>
      obtain ⟨p, hp, t1, rfl, ht1⟩ := hu.get i x hx
      have ht5 := b5 t1 _ (fun e => by rw [e, s4 _ _ q3] at ht1; cases ht1) ht1
      have hlk := look_take (ms := ms) (wy := wy) (lim := lim) hp
      have hwl := hw5.len
      have hbound := fun n hn => look_take_len (wy := wy) (lim := lim) hp hmz hpc2 n hn
      have ne1 : r1 ≠ r := fun e => by rw [e] at hr1; rw [s2 _ _ hr1] at hr0; cases hr0
      have hr15 : H5 r1 = some (.lst (ms.map V.int)) := b5 _ _ ne1 (s4 _ _ (s3 _ _ (s2 _ _ hr1)))
      have out : ∀ {H6 : Hp} {t6 : Addr} {pc : Pc Fm}, lookP1 ms wy lim p = [pc] → Same H5 H6 → H6 t6 = some (.tup [oV pc.1, oV pc.2.1, .str pc.2.2.word, oV pc.2.2.num]) → But r H4 (upd H6 r (.lst (ws ++ [.ref t6]))) ∧ Same H (upd H6 r (.lst (ws ++ [.ref t6]))) ∧ (upd H6 r (.lst (ws ++ [.ref t6]))) r = some (.lst (ws ++ [.ref t6])) ∧ Lw (PcA (upd H6 r (.lst (ws ++ [.ref t6])))) (ws ++ [.ref t6]) (lookP ms wy lim ((t.raw (rowsOf ps)).take (i + 1))) := fun {H6 t6 pc} e1 s6 h6 => by
        refine ⟨(b5.trans (But.of s6)).put, same_put (s5.trans s6) hrH, upd_same, ?_⟩
        rw [hlk, e1]
        exact PcL.push hw5 hr5 s6 h6
      obtain ⟨pf, pl, pm⟩ := p
      cases pm with
      | none =>
        and_intros
        intro p2 hp2
        have s6 := same_upd (o := .tup [oV pf, oV pl, .str "none", .non]) hp2
        exact ⟨r, ws, _, rfl, rfl, s6 _ _ hr5, szm (by have := hbound 1 (by omega); omega), [_, _, _, _, _, _, _, _], _, rfl, rfl, out (pc := (pf, pl, .none)) rfl s6 upd_same⟩
      | row x =>
        have ha5 := s5 _ _ ha
        and_intros
        refine ⟨a, _, dx, _, _, rfl, ha5, T.o_Look.cl, T.n_Look_way, rfl, _, rfl, a, _, dx, _, _, rfl, ha5, T.o_Look.cl, T.n_Look_within, rfl, ?_⟩
        refine ⟨r1, ms, x, wy, lim, rfl, SqL.of hr15, hml, fun H6 s6 => ?_⟩
        have hr6 := s6 _ _ hr5
        have e1 : lookP1 ms wy lim (pf, pl, .row x) = match lookedUp ms x wy lim with
          | none => [(pf, pl, .none)]
          | some r => [(pf, pl, .row r)] := rfl
        cases ey : lookedUp ms x wy lim with
        | none =>
          rw [ey] at e1
          and_intros
          intro p2 hp2
          have s7 := same_upd (o := .tup [oV pf, oV pl, .str "none", .non]) hp2
          exact ⟨r, ws, _, rfl, rfl, s7 _ _ hr6, szm (by have := hbound 1 (by omega); omega), [_, _, _, _, _, _, _, _], _, rfl, rfl, out (pc := (pf, pl, .none)) e1 (s6.trans s7) upd_same⟩
        | some y =>
          rw [ey] at e1
          and_intros
          intro p2 hp2
          have s7 := same_upd (o := .tup [oV pf, oV pl, .str "row", .int y]) hp2
          exact ⟨r, ws, _, rfl, rfl, s7 _ _ hr6, szm (by have := hbound 1 (by omega); omega), [_, _, _, _, _, _, _, _], _, rfl, rfl, out (pc := (pf, pl, .row y)) e1 (s6.trans s7) upd_same⟩
      | shift x =>
        clear out
        have e1 : lookP1 ms wy lim (pf, pl, .shift x) = (clipP (tableP ms wy lim) (mvd pf x) (mvd pl x)).map fun q => (mvd q.1 (-x), mvd q.2.1 (-x), q.2.2) := rfl
        have ne2 : r2 ≠ r := fun e => by
          obtain ⟨_, h2, _⟩ := hr2
          rw [e, hr0] at h2
          cases h2
        have hr25 : PcL H5 r2 (tableP ms wy lim) := by
          obtain ⟨vs, h2, h3⟩ := hr2.same (s3.trans s4)
          exact ⟨vs, b5 _ _ ne2 h2, h3.mono (PcA.kt fun t xs e => b5 t _ (fun z => by rw [z, s4 _ _ q3] at e; cases e) e)⟩
        and_intros
        refine ⟨pf, x, rfl, ?_⟩
        and_intros
        refine ⟨pl, x, rfl, ?_⟩
        refine ⟨r2, _, _, tableP ms wy lim, rfl, hr25, Nat.le_trans (table_len _ _ _) (by omega), fun c H6 s6 hc ⟨cs, hc6, hcs⟩ => ?_⟩
        refine ⟨c, rfl, ⟨_, SqL.of hc6⟩, ?_⟩
        have nec : c ≠ r := fun e => by rw [e, hr5] at hc; cases hc
        have hr6 := s6 _ _ hr5
        refine for_list (K := K) (a := c) (xs := cs) (fun j σ H' => ∃ (z : List (Option V)) (ws : List V), z.length = 4 ∧ σ = [some (.ref a), some (.ref wa), some (.ref r1), some (.ref r2), some (.ref r), some (oV pf), some (oV pl), some (.str "shift"), some (.int x)] ++ z ∧ But r H6 H' ∧ Same H H' ∧ H' r = some (.lst ws) ∧ Lw (PcA H') ws (lookP ms wy lim ((t.raw (rowsOf ps)).take i) ++ ((clipP (tableP ms wy lim) (mvd pf x) (mvd pl x)).take j).map fun q => (mvd q.1 (-x), mvd q.2.1 (-x), q.2.2))) ⟨_, ws, rfl, rfl, fun _ _ _ h => h, s5.trans s6, hr6, ?_⟩ (fun j σ H' _ pp => ?_) (fun j y σ H7 hy pp => ?_) (fun σ H7 pp => ?_)
        · rw [List.take_zero, List.map_nil, List.append_nil]
          exact hw5.mono (PcA.kt (KT.of s6))
        · obtain ⟨_, _, _, _, h3, _⟩ := pp
          exact SqL.of (h3 c _ nec hc6)
        · obtain ⟨z, ws, hz, rfl, b7, s7, hr7, hw7⟩ := pp
          match z, hz with
          | [y1, y2, y3, y4], _ =>
          obtain ⟨q1, hq1, t2, rfl, ht2⟩ := hcs.get j y hy
          have ht7 := b7 t2 _ (fun e => by rw [e, hr6] at ht2; cases ht2) ht2
          and_intros
          refine ⟨q1.1, -x, rfl, ?_⟩
          and_intros
          refine ⟨q1.2.1, -x, rfl, ?_⟩
          and_intros
          intro f3 hf3
          generalize el : upd _ f3 _ = H8
          obtain ⟨s8, q8⟩ := nw1 el hf3
          clear el
          have hcl : (clipP (tableP ms wy lim) (mvd pf x) (mvd pl x)).length ≤ 2 * m + 1 := Nat.le_trans (clip_len2 _ _ _) (Nat.le_trans (table_len _ _ _) (by omega))
          have hlen : ws.length < 10000000 := by
            have h1 := hw7.len
            have h2 := hbound (2 * m + 1) (Nat.le_refl _)
            rw [List.length_append, List.length_map, List.length_take] at h1
            omega
          refine ⟨r, ws, _, rfl, rfl, s8 _ _ hr7, szm hlen, [_, _, _, _], _, rfl, rfl, (b7.trans (But.of s8)).put, same_put (s7.trans s8) hrH, upd_same, ?_⟩
          have et : ((clipP (tableP ms wy lim) (mvd pf x) (mvd pl x)).take (j + 1)).map (fun q : Pc Fm => ((mvd q.1 (-x), mvd q.2.1 (-x), q.2.2) : Pc Fm)) = ((clipP (tableP ms wy lim) (mvd pf x) (mvd pl x)).take j).map (fun q => (mvd q.1 (-x), mvd q.2.1 (-x), q.2.2)) ++ [(mvd q1.1 (-x), mvd q1.2.1 (-x), q1.2.2)] := by
            rw [List.take_add_one, hq1, List.map_append]
            rfl
          rw [et, ← List.append_assoc]
          exact PcL.push (p := (mvd q1.1 (-x), mvd q1.2.1 (-x), q1.2.2)) hw7 hr7 s8 q8
        · obtain ⟨z, ws, hz, rfl, b7, s7, hr7, hw7⟩ := pp
          match z, hz with
          | [y1, y2, y3, y4], _ =>
          refine ⟨[_, _, _, _, _, _, _, _], ws, rfl, rfl, (b5.trans (But.of s6)).trans b7, s7, hr7, ?_⟩
          rw [hcs.len, List.take_length] at hw7
          rw [hlk, e1]
          exact hw7
    · obtain ⟨y, ws, hy, rfl, b5, s5, hr5, hw5⟩ := pp
      match y, hy with
      | [z1, z2, z3, z4, z5, z6, z7, z8], _ =>
      rw [hu.len, List.take_length] at hw5
      exact ⟨_, rfl, q r H5 s5 hrH ⟨ws, hr5, hw5⟩⟩
theorem ok_raw_pieces (T : Txt P K mg) {k : Nat} : ∀ (n : Nat), FnOk P w K mg base CX0 (k + 5 + 2 * n) T.raw_pieces.f T.raw_pieces.fd ["term", "world"] (spRaw T n)
  | 0 => T.raw_pieces.F.ok (k := k + 4) sc_raw_pieces (fun vs H Q E h => by obtain ⟨t, _, _, _, _, _, _, _, h, _⟩ := h; have := depth_pos t; omega) (fun _ _ _ _ _ _ _ _ _ h => by obtain ⟨t, _, _, _, _, _, _, _, h, _⟩ := h; have := depth_pos t; omega)
  | n + 1 => by
    have G_raw_pieces : FnOk P w K mg base CX0 (k + 5 + 2 * n) T.raw_pieces.f T.raw_pieces.fd ["term", "world"] (spRaw T n) := ok_raw_pieces T n
    have G_look_pieces : FnOk P w K mg base CX0 (k + 2 * n + 6) T.look_pieces.f T.look_pieces.fd ["term", "world"] (spLookP T n) := ok_look_pieces T (k := k + 2 * n) (by rw [show k + 2 * n + 5 = k + 5 + 2 * n by omega]; exact ok_raw_pieces T n)
    have G_added : FnOk P w K mg base CX0 (k + 1) T.added.f T.added.fd ["rows", "amount"] spAdded := ok_added T
    have G_overlaid : FnOk P w K mg base CX0 (k + 3) T.overlaid.f T.overlaid.fd ["rows", "others"] spOver := ok_overlaid T
    have G_chosen : FnOk P w K mg base CX0 (k + 4) T.chosen.f T.chosen.fd ["first", "last", "form", "other", "later"] spChosen := ok_chosen T
    rw [show k + 5 + 2 * (n + 1) = k + 6 + 2 * n + 1 by omega]
    refine T.raw_pieces.F.ok (k := k + 6 + 2 * n) sc_raw_pieces (fun vs H Q E h => ?_) (fun cdv A outer s H vs Q E hr h => ?_)
    · obtain ⟨t, a, wa, l, ps, m, rfl, _⟩ := h
      rfl
    · obtain ⟨t, a, wa, l, ps, m, rfl, ht, hd, hw, ho, hps, hm, hpc, q⟩ := h
      refine ⟨_, (pss_cons (ps_if (pt_val (pe_callB call_isi (by rfl) T.n_isinstance (by decide +kernel) (pa_cons (pv 0) (pa_cons (pe_glob (v := .ref T.c_Now) (by rfl) T.g_Now rfl) pa_nil)))) (pss_one (ps_ret (pe_lst (pa_cons (pe_tup (pa_cons pe_non (pa_cons pe_non (pa_cons pe_str (pa_cons pe_int pa_nil))))) pa_nil)))) pss_nil)
  (pss_cons (ps_if (pt_val (pe_callB call_isi (by rfl) T.n_isinstance (by decide +kernel) (pa_cons (pv 0) (pa_cons (pe_glob (v := .ref T.c_Shift) (by rfl) T.g_Shift rfl) pa_nil)))) (pss_one (ps_ret (pe_call G_added (hr.mono (by omega)) (by rfl) T.added.g T.added.F.kp T.added.b .nil pass0 (pa_cons (pe_call G_raw_pieces (hr.mono (by omega)) (by rfl) T.raw_pieces.g T.raw_pieces.F.kp T.raw_pieces.b .nil pass0 (pa_cons (pe_fld (pv 0) rfl) (pa_cons (pv 1) pa_nil))) (pa_cons (pe_fld (pv 0) rfl) pa_nil))))) pss_nil)
  (pss_cons (ps_if (pt_val (pe_callB call_isi (by rfl) T.n_isinstance (by decide +kernel) (pa_cons (pv 0) (pa_cons (pe_glob (v := .ref T.c_Look) (by rfl) T.g_Look rfl) pa_nil)))) (pss_one (ps_ret (pe_call G_look_pieces (hr.mono (by omega)) (by rfl) T.look_pieces.g T.look_pieces.F.kp T.look_pieces.b .nil pass0 (pa_cons (pv 0) (pa_cons (pv 1) pa_nil))))) pss_nil)
  (pss_cons (ps_set (i := 2) sc_raw_pieces.nd rfl (.inl rfl) (pe_call G_raw_pieces (hr.mono (by omega)) (by rfl) T.raw_pieces.g T.raw_pieces.F.kp T.raw_pieces.b .nil pass0 (pa_cons (pe_fld (pv 0) rfl) (pa_cons (pv 1) pa_nil))))
  (pss_cons (ps_set (i := 3) sc_raw_pieces.nd rfl (.inl rfl) (pe_call G_raw_pieces (hr.mono (by omega)) (by rfl) T.raw_pieces.g T.raw_pieces.F.kp T.raw_pieces.b .nil pass0 (pa_cons (pe_fld (pv 0) rfl) (pa_cons (pv 1) pa_nil))))
  (pss_cons (ps_set (i := 4) sc_raw_pieces.nd rfl (.inl rfl) (pe_lst pa_nil))
  (pss_cons (ps_for PassesOwn.never rfl (pi_list (pe_call G_overlaid (hr.mono (by omega)) (by rfl) T.overlaid.g T.overlaid.F.kp T.overlaid.b .nil pass0 (pa_cons (pv 2) (pa_cons (pv 3) pa_nil)))) (pg_tup rfl (pgs_cons (pg_name (i := 5) sc_raw_pieces.nd rfl (.inl rfl)) (pgs_cons (pg_name (i := 6) sc_raw_pieces.nd rfl (.inl rfl)) (pgs_cons (pg_name (i := 7) sc_raw_pieces.nd rfl (.inl rfl)) (pgs_cons (pg_name (i := 8) sc_raw_pieces.nd rfl (.inl rfl)) pgs_nil)))))
   (pss_one (ps_if (pt_not (pt_val (pe_callB call_isi (by rfl) T.n_isinstance (by decide +kernel) (pa_cons (pv 0) (pa_cons (pe_glob (v := .ref T.c_Either) (by rfl) T.g_Either rfl) pa_nil))))) (pss_one (ps_aug (i := 4) sc_raw_pieces.nd rfl (.inl rfl) (pe_call G_chosen (hr.mono (by omega)) (by rfl) T.chosen.g T.chosen.F.kp T.chosen.b .nil pass0 (pa_cons (pv 5) (pa_cons (pv 6) (pa_cons (pv 7) (pa_cons (pv 8) (pa_cons (pe_callB call_isi (by rfl) T.n_isinstance (by decide +kernel) (pa_cons (pv 0) (pa_cons (pe_glob (v := .ref T.c_Later) (by rfl) T.g_Later rfl) pa_nil))) pa_nil)))))) iop_ext)) (pss_one (ps_if (pt_cmpR op_eq (pe_ix ix_tup (pv 7) pe_int (fun _ _ => rfl)) pe_str (nomark _)) (pss_one (ps_expr (pe_bm PySem.F.plainAttrs_list PySem.F.slot_list_append PySem.F.type_list_append mt_append (pv 4) (pa_cons (pe_tup (pa_cons (pv 5) (pa_cons (pv 6) (StX.pa_star (pv 8) pa_nil)))) pa_nil)))) (pss_one (ps_expr (pe_bm PySem.F.plainAttrs_list PySem.F.slot_list_append PySem.F.type_list_append mt_append (pv 4) (pa_cons (pe_tup (pa_cons (pv 5) (pa_cons (pv 6) (StX.pa_star (pv 7) pa_nil)))) pa_nil)))))))))
  (pss_one (ps_ret (pv 4)))))))))), ?_⟩
      have kc := T.kc t
      have ty := TmAt.ty (T := T) ht
      refine ⟨_, rfl, _, _, _, _, _, rfl, .own _, ty, T.kN t, _, rfl, ?_⟩
      cases t with
      | now =>
        and_intros
        intro p hp
        and_intros
        intro r hr'
        exact one_out (m := .shift 0) rfl q rfl hp hr'
      | shift t i =>
        obtain ⟨dx, b, ha, hb⟩ := id ht
        refine iF rfl ⟨_, rfl, _, _, _, _, _, rfl, .own _, ty, T.ks _, _, rfl, iT rfl ?_⟩
        have hd' : t.depth ≤ n := by simp only [Tm.depth] at hd; omega
        have hl := Nat.le_trans (raw_len hm t) hpc
        refine ⟨_, rfl, a, _, dx, _, _, rfl, ha, T.o_Shift.cl, T.n_Shift_moment, rfl, ?_⟩
        refine ⟨_, rfl, t, b, wa, l, ps, m, rfl, hb, hd', hw, ho, hps, hm, hpc, fun r1 H1 s1 hr10 hr1 => ?_⟩
        refine ⟨_, rfl, a, _, dx, _, _, rfl, s1 _ _ ha, T.o_Shift.cl, T.n_Shift_amount, rfl, ?_⟩
        exact ⟨r1, i, _, rfl, hr1, hl, fun r2 H2 s2 hr2 hp2 => q r2 H2 (s1.trans s2) (s1.free hr2) hp2⟩
      | look z t wy lim =>
        refine iF rfl ⟨_, rfl, _, _, _, _, _, rfl, .own _, ty, T.ks _, _, rfl, iF rfl ?_⟩
        refine ⟨_, rfl, _, _, _, _, _, rfl, .own _, ty, kc.kl, _, rfl, iT rfl ?_⟩
        have hd' : t.depth ≤ n := by simp only [Tm.depth] at hd; omega
        exact ⟨_, rfl, _, rfl, t, z, wy, lim, a, wa, l, ps, m, rfl, ht, hd', hw, ho, hps, hm, hpc, q⟩
      | either x y =>
        obtain ⟨dx, b, d, ha, hx, hy⟩ := id ht
        have hd1 : x.depth ≤ n := by simp only [Tm.depth] at hd; omega
        have hd2 : y.depth ≤ n := by simp only [Tm.depth] at hd; omega
        have hxy : x.pcb m * y.pcb m ≤ 1000000 := mul_le_left (b := 2) (by omega) hpc
        have hx1 := mul_le_left (pcb_pos m y) hxy
        have hy1 := mul_le_right (pcb_pos m x) hxy
        have hlx := raw_len hm x
        have hly := raw_len hm y
        refine iF rfl ⟨_, rfl, _, _, _, _, _, rfl, .own _, ty, T.ks _, _, rfl, iF rfl ?_⟩
        refine ⟨_, rfl, _, _, _, _, _, rfl, .own _, ty, kc.kl, _, rfl, iF rfl ?_⟩
        refine ⟨_, rfl, a, _, dx, _, _, rfl, ha, T.o_Either.cl, T.n_Either_first, rfl, ?_⟩
        refine ⟨_, rfl, x, b, wa, l, ps, m, rfl, hx, hd1, hw.1, ho, hps, hm, hx1, fun r1 H1 s1 hr10 hr1 => ?_⟩
        refine ⟨_, rfl, a, _, dx, _, _, rfl, s1 _ _ ha, T.o_Either.cl, T.n_Either_second, rfl, ?_⟩
        refine ⟨_, rfl, y, d, wa, l, ps, m, rfl, hy.same s1, hd2, hw.2, ho.same s1, hps, hm, hy1, fun r2 H2 s2 hr20 hr2 => ?_⟩
        have s12 := s1.trans s2
        and_intros
        intro r hr0
        generalize el : upd H2 r _ = H3
        obtain ⟨s3, q3⟩ := nw1 el hr0
        clear el
        have s13 := s12.trans s3
        have hrH : H r = none := s12.free hr0
        have hov : (x.raw (rowsOf ps)).length * (y.raw (rowsOf ps)).length ≤ 500000 := Nat.le_trans (Nat.mul_le_mul hlx hly) (by have : x.pcb m * y.pcb m * 2 ≤ 1000000 := hpc; omega)
        refine ⟨_, rfl, _, rfl, r1, r2, _, _, rfl, hr1.same (s2.trans s3), hr2.same s3, Nat.le_trans (over_len _ _) (by omega), by omega, by omega, fun r4 H4 s4 hr40 ⟨us, hr4, hu⟩ => ?_⟩
        refine ⟨r4, rfl, ⟨_, SqL.of hr4⟩, ?_⟩
        have s14 := s13.trans s4
        have hol := over_len (x.raw (rowsOf ps)) (y.raw (rowsOf ps))
        have ne4 : r4 ≠ r := fun e => by rw [e, q3] at hr40; cases hr40
        refine for_list (K := K) (a := r4) (xs := us) (fun i σ H' => ∃ (z : List (Option V)) (ws : List V), z.length = 4 ∧ σ = [some (.ref a), some (.ref wa), some (.ref r1), some (.ref r2), some (.ref r)] ++ z ∧ But r H4 H' ∧ Same H H' ∧ H' r = some (.lst ws) ∧ Lw (PcA H') ws (((overP (x.raw (rowsOf ps)) (y.raw (rowsOf ps))).take i).map eithP)) ⟨_, [], rfl, rfl, fun _ _ _ h => h, s14, s4 _ _ q3, trivial⟩ (fun i σ H' _ pp => ?_) (fun i x σ H5 hx pp => ?_) (fun σ H5 pp => ?_)
        · obtain ⟨_, _, _, _, h1, _⟩ := pp
          exact SqL.of (h1 _ _ ne4 hr4)
        · obtain ⟨z, ws, hz, rfl, b5, s5, hr5, hw5⟩ := pp
          match z, hz with
          | [z1, z2, z3, z4], _ =>
          obtain ⟨p, hp, t1, fa, fb, rfl, ht1, hfa, hfb⟩ := hu.get i _ hx
          have ht5 := b5 t1 _ (fun e => by rw [e, s4 _ _ q3] at ht1; cases ht1) ht1
          have hfa5 : H5 fa = _ := b5 fa _ (fun e => by unfold FmA at hfa; rw [e, s4 _ _ q3] at hfa; cases hfa) hfa
          have hfb5 : H5 fb = _ := b5 fb _ (fun e => by unfold FmA at hfb; rw [e, s4 _ _ q3] at hfb; cases hfb) hfb
          have ty5 := TmAt.ty (T := T) (ht.same s5)
          and_intros
          refine ⟨_, _, _, _, _, rfl, .own _, ty5, T.kE _, _, rfl, iF rfl ?_⟩
          have hlen : ws.length < 10000000 := by
            have h1 := hw5.len
            rw [List.length_map, List.length_take] at h1
            omega
          have et : ((overP (x.raw (rowsOf ps)) (y.raw (rowsOf ps))).take (i + 1)).map eithP = ((overP (x.raw (rowsOf ps)) (y.raw (rowsOf ps))).take i).map eithP ++ [eithP p] := by
            rw [List.take_add_one, hp, List.map_append]
            rfl
          obtain ⟨pf, pl, m1, m2⟩ := p
          cases m1 with
          | none =>
            and_intros
            refine ⟨fb, _, rfl, .inl (SqT.of hfb5), ?_⟩
            and_intros
            intro p2 hp2
            have s6 := same_upd (o := .tup [oV pf, oV pl, .str m2.word, oV m2.num]) hp2
            refine ⟨r, ws, _, rfl, rfl, s6 _ _ hr5, szm hlen, [_, _, _, _], _, rfl, rfl, (b5.trans (But.of s6)).put, same_put (s5.trans s6) hrH, upd_same, ?_⟩
            rw [et]
            exact PcL.push (p := (pf, pl, m2)) hw5 hr5 s6 upd_same
          | row v =>
            and_intros
            refine ⟨fa, _, rfl, .inl (SqT.of hfa5), ?_⟩
            and_intros
            intro p2 hp2
            have s6 := same_upd (o := .tup [oV pf, oV pl, .str "row", .int v]) hp2
            refine ⟨r, ws, _, rfl, rfl, s6 _ _ hr5, szm hlen, [_, _, _, _], _, rfl, rfl, (b5.trans (But.of s6)).put, same_put (s5.trans s6) hrH, upd_same, ?_⟩
            rw [et]
            exact PcL.push (p := (pf, pl, .row v)) hw5 hr5 s6 upd_same
          | shift v =>
            and_intros
            refine ⟨fa, _, rfl, .inl (SqT.of hfa5), ?_⟩
            and_intros
            intro p2 hp2
            have s6 := same_upd (o := .tup [oV pf, oV pl, .str "shift", .int v]) hp2
            refine ⟨r, ws, _, rfl, rfl, s6 _ _ hr5, szm hlen, [_, _, _, _], _, rfl, rfl, (b5.trans (But.of s6)).put, same_put (s5.trans s6) hrH, upd_same, ?_⟩
            rw [et]
            exact PcL.push (p := (pf, pl, .shift v)) hw5 hr5 s6 upd_same
        · obtain ⟨z, ws, hz, rfl, b5, s5, hr5, hw5⟩ := pp
          match z, hz with
          | [z1, z2, z3, z4], _ =>
          rw [hu.len, List.take_length] at hw5
          exact ⟨_, rfl, q r H5 s5 hrH ⟨ws, hr5, hw5⟩⟩
      | later x y =>
        obtain ⟨dx, b, d, ha, hx, hy⟩ := id ht
        have hd1 : x.depth ≤ n := by simp only [Tm.depth] at hd; omega
        have hd2 : y.depth ≤ n := by simp only [Tm.depth] at hd; omega
        have hxy : x.pcb m * y.pcb m ≤ 1000000 := mul_le_left (b := 2) (by omega) hpc
        have hx1 := mul_le_left (pcb_pos m y) hxy
        have hy1 := mul_le_right (pcb_pos m x) hxy
        have hlx := raw_len hm x
        have hly := raw_len hm y
        refine iF rfl ⟨_, rfl, _, _, _, _, _, rfl, .own _, ty, T.ks _, _, rfl, iF rfl ?_⟩
        refine ⟨_, rfl, _, _, _, _, _, rfl, .own _, ty, kc.kl, _, rfl, iF rfl ?_⟩
        refine ⟨_, rfl, a, _, dx, _, _, rfl, ha, T.o_Later.cl, T.n_Later_first, rfl, ?_⟩
        refine ⟨_, rfl, x, b, wa, l, ps, m, rfl, hx, hd1, hw.1, ho, hps, hm, hx1, fun r1 H1 s1 hr10 hr1 => ?_⟩
        refine ⟨_, rfl, a, _, dx, _, _, rfl, s1 _ _ ha, T.o_Later.cl, T.n_Later_second, rfl, ?_⟩
        refine ⟨_, rfl, y, d, wa, l, ps, m, rfl, hy.same s1, hd2, hw.2, ho.same s1, hps, hm, hy1, fun r2 H2 s2 hr20 hr2 => ?_⟩
        have s12 := s1.trans s2
        and_intros
        intro r hr0
        generalize el : upd H2 r _ = H3
        obtain ⟨s3, q3⟩ := nw1 el hr0
        clear el
        have s13 := s12.trans s3
        have hrH : H r = none := s12.free hr0
        have hov : (x.raw (rowsOf ps)).length * (y.raw (rowsOf ps)).length ≤ 500000 := Nat.le_trans (Nat.mul_le_mul hlx hly) (by have : x.pcb m * y.pcb m * 2 ≤ 1000000 := hpc; omega)
        refine ⟨_, rfl, _, rfl, r1, r2, _, _, rfl, hr1.same (s2.trans s3), hr2.same s3, Nat.le_trans (over_len _ _) (by omega), by omega, by omega, fun r4 H4 s4 hr40 ⟨us, hr4, hu⟩ => ?_⟩
        refine ⟨r4, rfl, ⟨_, SqL.of hr4⟩, ?_⟩
        have s14 := s13.trans s4
        have hol := over_len (x.raw (rowsOf ps)) (y.raw (rowsOf ps))
        have ne4 : r4 ≠ r := fun e => by rw [e, q3] at hr40; cases hr40
        refine for_list (K := K) (a := r4) (xs := us) (fun i σ H' => ∃ (z : List (Option V)) (ws : List V), z.length = 4 ∧ σ = [some (.ref a), some (.ref wa), some (.ref r1), some (.ref r2), some (.ref r)] ++ z ∧ But r H4 H' ∧ Same H H' ∧ H' r = some (.lst ws) ∧ Lw (PcA H') ws (((overP (x.raw (rowsOf ps)) (y.raw (rowsOf ps))).take i).flatMap (chosP true))) ⟨_, [], rfl, rfl, fun _ _ _ h => h, s14, s4 _ _ q3, trivial⟩ (fun i σ H' _ pp => ?_) (fun i x σ H5 hx pp => ?_) (fun σ H5 pp => ?_)
        · obtain ⟨_, _, _, _, h1, _⟩ := pp
          exact SqL.of (h1 _ _ ne4 hr4)
        · obtain ⟨z, ws, hz, rfl, b5, s5, hr5, hw5⟩ := pp
          match z, hz with
          | [z1, z2, z3, z4], _ =>
          obtain ⟨p, hp, t1, fa, fb, rfl, ht1, hfa, hfb⟩ := hu.get i _ hx
          have ht5 := b5 t1 _ (fun e => by rw [e, s4 _ _ q3] at ht1; cases ht1) ht1
          have hfa5 : H5 fa = _ := b5 fa _ (fun e => by unfold FmA at hfa; rw [e, s4 _ _ q3] at hfa; cases hfa) hfa
          have hfb5 : H5 fb = _ := b5 fb _ (fun e => by unfold FmA at hfb; rw [e, s4 _ _ q3] at hfb; cases hfb) hfb
          have ty5 := TmAt.ty (T := T) (ht.same s5)
          and_intros
          refine ⟨_, _, _, _, _, rfl, .own _, ty5, T.kE _, _, rfl, iT rfl ?_⟩
          have et : ((overP (x.raw (rowsOf ps)) (y.raw (rowsOf ps))).take (i + 1)).flatMap (chosP true) = ((overP (x.raw (rowsOf ps)) (y.raw (rowsOf ps))).take i).flatMap (chosP true) ++ chosP true p := by
            rw [List.take_add_one, hp, List.flatMap_append]
            congr 1
            exact List.flatMap_singleton _ _
          have hlen := chos_len true ((overP (x.raw (rowsOf ps)) (y.raw (rowsOf ps))).take i)
          have hwl := hw5.len
          rw [List.length_take] at hlen
          obtain ⟨pf, pl, m1, m2⟩ := p
          and_intros
          refine ⟨_, _, _, _, _, rfl, .own _, ty5, T.kL _, ?_⟩
          refine ⟨fa, fb, pf, pl, m1, m2, true, rfl, hfa5, hfb5, fun r6 H6 s6 hr60 ⟨cs, hr6, hc6⟩ => ?_⟩
          have hcl := chos1_len true (pf, pl, (m1, m2))
          have hcl2 := hc6.len
          refine ⟨_, _, _, _, rfl, rfl, s6 _ _ hr5, hr6, Nat.le_of_lt (szm (n := ws.length + cs.length) (by omega)), [_, _, _, _], _, rfl, rfl, (b5.trans (But.of s6)).put, same_put (s5.trans s6) hrH, upd_same, ?_⟩
          rw [et]
          have k6 : KT H6 (upd H6 r (.lst (ws ++ cs))) := KT.put (s6 _ _ hr5)
          exact (hw5.mono (PcA.kt ((KT.of s6).trans k6))).app (hc6.mono (PcA.kt k6))
        · obtain ⟨z, ws, hz, rfl, b5, s5, hr5, hw5⟩ := pp
          match z, hz with
          | [z1, z2, z3, z4], _ =>
          rw [hu.len, List.take_length] at hw5
          exact ⟨_, rfl, q r H5 s5 hrH ⟨ws, hr5, hw5⟩⟩
      | earlier x y =>
        obtain ⟨dx, b, d, ha, hx, hy⟩ := id ht
        have hd1 : x.depth ≤ n := by simp only [Tm.depth] at hd; omega
        have hd2 : y.depth ≤ n := by simp only [Tm.depth] at hd; omega
        have hxy : x.pcb m * y.pcb m ≤ 1000000 := mul_le_left (b := 2) (by omega) hpc
        have hx1 := mul_le_left (pcb_pos m y) hxy
        have hy1 := mul_le_right (pcb_pos m x) hxy
        have hlx := raw_len hm x
        have hly := raw_len hm y
        refine iF rfl ⟨_, rfl, _, _, _, _, _, rfl, .own _, ty, T.ks _, _, rfl, iF rfl ?_⟩
        refine ⟨_, rfl, _, _, _, _, _, rfl, .own _, ty, kc.kl, _, rfl, iF rfl ?_⟩
        refine ⟨_, rfl, a, _, dx, _, _, rfl, ha, T.o_Earlier.cl, T.n_Earlier_first, rfl, ?_⟩
        refine ⟨_, rfl, x, b, wa, l, ps, m, rfl, hx, hd1, hw.1, ho, hps, hm, hx1, fun r1 H1 s1 hr10 hr1 => ?_⟩
        refine ⟨_, rfl, a, _, dx, _, _, rfl, s1 _ _ ha, T.o_Earlier.cl, T.n_Earlier_second, rfl, ?_⟩
        refine ⟨_, rfl, y, d, wa, l, ps, m, rfl, hy.same s1, hd2, hw.2, ho.same s1, hps, hm, hy1, fun r2 H2 s2 hr20 hr2 => ?_⟩
        have s12 := s1.trans s2
        and_intros
        intro r hr0
        generalize el : upd H2 r _ = H3
        obtain ⟨s3, q3⟩ := nw1 el hr0
        clear el
        have s13 := s12.trans s3
        have hrH : H r = none := s12.free hr0
        have hov : (x.raw (rowsOf ps)).length * (y.raw (rowsOf ps)).length ≤ 500000 := Nat.le_trans (Nat.mul_le_mul hlx hly) (by have : x.pcb m * y.pcb m * 2 ≤ 1000000 := hpc; omega)
        refine ⟨_, rfl, _, rfl, r1, r2, _, _, rfl, hr1.same (s2.trans s3), hr2.same s3, Nat.le_trans (over_len _ _) (by omega), by omega, by omega, fun r4 H4 s4 hr40 ⟨us, hr4, hu⟩ => ?_⟩
        refine ⟨r4, rfl, ⟨_, SqL.of hr4⟩, ?_⟩
        have s14 := s13.trans s4
        have hol := over_len (x.raw (rowsOf ps)) (y.raw (rowsOf ps))
        have ne4 : r4 ≠ r := fun e => by rw [e, q3] at hr40; cases hr40
        refine for_list (K := K) (a := r4) (xs := us) (fun i σ H' => ∃ (z : List (Option V)) (ws : List V), z.length = 4 ∧ σ = [some (.ref a), some (.ref wa), some (.ref r1), some (.ref r2), some (.ref r)] ++ z ∧ But r H4 H' ∧ Same H H' ∧ H' r = some (.lst ws) ∧ Lw (PcA H') ws (((overP (x.raw (rowsOf ps)) (y.raw (rowsOf ps))).take i).flatMap (chosP false))) ⟨_, [], rfl, rfl, fun _ _ _ h => h, s14, s4 _ _ q3, trivial⟩ (fun i σ H' _ pp => ?_) (fun i x σ H5 hx pp => ?_) (fun σ H5 pp => ?_)
        · obtain ⟨_, _, _, _, h1, _⟩ := pp
          exact SqL.of (h1 _ _ ne4 hr4)
        · obtain ⟨z, ws, hz, rfl, b5, s5, hr5, hw5⟩ := pp
          match z, hz with
          | [z1, z2, z3, z4], _ =>
          obtain ⟨p, hp, t1, fa, fb, rfl, ht1, hfa, hfb⟩ := hu.get i _ hx
          have ht5 := b5 t1 _ (fun e => by rw [e, s4 _ _ q3] at ht1; cases ht1) ht1
          have hfa5 : H5 fa = _ := b5 fa _ (fun e => by unfold FmA at hfa; rw [e, s4 _ _ q3] at hfa; cases hfa) hfa
          have hfb5 : H5 fb = _ := b5 fb _ (fun e => by unfold FmA at hfb; rw [e, s4 _ _ q3] at hfb; cases hfb) hfb
          have ty5 := TmAt.ty (T := T) (ht.same s5)
          and_intros
          refine ⟨_, _, _, _, _, rfl, .own _, ty5, T.kE _, _, rfl, iT rfl ?_⟩
          have et : ((overP (x.raw (rowsOf ps)) (y.raw (rowsOf ps))).take (i + 1)).flatMap (chosP false) = ((overP (x.raw (rowsOf ps)) (y.raw (rowsOf ps))).take i).flatMap (chosP false) ++ chosP false p := by
            rw [List.take_add_one, hp, List.flatMap_append]
            congr 1
            exact List.flatMap_singleton _ _
          have hlen := chos_len false ((overP (x.raw (rowsOf ps)) (y.raw (rowsOf ps))).take i)
          have hwl := hw5.len
          rw [List.length_take] at hlen
          obtain ⟨pf, pl, m1, m2⟩ := p
          and_intros
          refine ⟨_, _, _, _, _, rfl, .own _, ty5, T.kL _, ?_⟩
          refine ⟨fa, fb, pf, pl, m1, m2, false, rfl, hfa5, hfb5, fun r6 H6 s6 hr60 ⟨cs, hr6, hc6⟩ => ?_⟩
          have hcl := chos1_len false (pf, pl, (m1, m2))
          have hcl2 := hc6.len
          refine ⟨_, _, _, _, rfl, rfl, s6 _ _ hr5, hr6, Nat.le_of_lt (szm (n := ws.length + cs.length) (by omega)), [_, _, _, _], _, rfl, rfl, (b5.trans (But.of s6)).put, same_put (s5.trans s6) hrH, upd_same, ?_⟩
          rw [et]
          have k6 : KT H6 (upd H6 r (.lst (ws ++ cs))) := KT.put (s6 _ _ hr5)
          exact (hw5.mono (PcA.kt ((KT.of s6).trans k6))).app (hc6.mono (PcA.kt k6))
        · obtain ⟨z, ws, hz, rfl, b5, s5, hr5, hw5⟩ := pp
          match z, hz with
          | [z1, z2, z3, z4], _ =>
          rw [hu.len, List.take_length] at hw5
          exact ⟨_, rfl, q r H5 s5 hrH ⟨ws, hr5, hw5⟩⟩
end
end Pl

namespace Pl
open PySem L2
local macro_rules | `(tactic| infer_instance) => `(tactic| first
  | with_reducible assumption
  | with_reducible exact Same.refl _
  | exact Wd.gh (by with_reducible assumption)
  | exact sm2 (by with_reducible assumption) (by infer_instance)
  | exact sm2 (same_upd (by with_reducible assumption)) (by infer_instance)
  | exact sm2 (Wd.gh (by with_reducible assumption)) (by infer_instance))
local macro_rules | `(tactic| trivial) => `(tactic| first
  | with_reducible assumption
  | with_reducible exact upd_same
  | exact at_same (by with_reducible assumption) (by trivial)
  | exact at_same (same_upd (by with_reducible assumption)) (by trivial)
  | exact at_same (Wd.gh (by with_reducible assumption)) (by trivial))
local macro_rules | `(tactic| ac_rfl) => `(tactic| first
  | exact Ty.int _
  | exact Ty.str _
  | exact Ty.non
  | exact Ty.bl _
  | exact Ty.tup (by trivial)
  | exact Ty.lst (by trivial))
local macro_rules | `(tactic| contradiction) => `(tactic| first
  | exact rfl
  | exact decide_eq_true (by first | assumption | omega)
  | exact decide_eq_false (by first | assumption | omega)
  | exact dI_t (by first | assumption | omega)
  | exact dI_f (by first | assumption | omega)
  | exact dS_t (by first | assumption | decide)
  | exact dS_f (by first | assumption | decide)
  | exact nI_t (by first | assumption | omega)
  | exact nI_f (by first | assumption | omega)
  | exact nS_t (by first | assumption | decide)
  | exact nS_f (by first | assumption | decide)
  | assumption
  | exact q_none_int | exact q_none_bool | exact q_none_tuple | exact q_none_list | exact q_none_str | exact q_bool_int | exact q_bool_bool | exact q_bool_tuple | exact q_bool_list | exact q_bool_str | exact q_int_int | exact q_int_bool | exact q_int_tuple | exact q_int_list | exact q_int_str | exact q_str_int | exact q_str_bool | exact q_str_tuple | exact q_str_list | exact q_str_str | exact q_list_int | exact q_list_bool | exact q_list_tuple | exact q_list_list | exact q_list_str | exact q_tuple_int | exact q_tuple_bool | exact q_tuple_tuple | exact q_tuple_list | exact q_tuple_str
  | exact nb_t (by contradiction)
  | exact nb_f (by contradiction))
local macro_rules | `(tactic| and_intros) => `(tactic| repeat (first
  | refine ⟨_, rfl, ?_⟩
  | refine ⟨_, _, rfl, rfl, ?_⟩
  | refine ⟨rfl, ?_⟩
  | refine ⟨_, _, _, _, rfl, rfl, SqT.of (by trivial), at_ix (by decide) rfl, ?_⟩
  | refine ⟨_, _, _, _, rfl, rfl, SqL.of (by trivial), at_ix (by decide) rfl, ?_⟩
  | refine ⟨_, _, rfl, Or.inl (SqL.of (by trivial)), ?_⟩
  | refine ⟨_, _, rfl, Or.inr (SqT.of (by trivial)), ?_⟩
  | refine ⟨_, _, _, _, _, rfl, (by trivial), (by trivial), (by trivial), rfl, ?_⟩
  | refine ⟨_, _, _, _, _, rfl, ClsV.ty _, Ty.x (by ac_rfl), isI_tuple (by ac_rfl), ?_⟩
  | refine ⟨_, _, _, _, _, rfl, ClsV.ty _, Ty.x (by ac_rfl), isI_list (by ac_rfl), ?_⟩
  | refine ⟨_, _, _, _, _, rfl, ClsV.ty _, Ty.x (by ac_rfl), isI_int (by ac_rfl), ?_⟩
  | refine ⟨_, _, _, _, _, rfl, ClsV.ty _, Ty.x (by ac_rfl), isI_bool (by ac_rfl), ?_⟩
  | refine ⟨_, _, _, _, _, rfl, ClsV.ty _, Ty.x (by ac_rfl), isI_str (by ac_rfl), ?_⟩
  | refine ⟨sz (Nat.le_of_ble_eq_true rfl), ?_⟩
  | refine ⟨Or.inl ⟨rfl, _, SqL.of (by trivial)⟩, ?_⟩
  | refine ⟨_, _, rfl, SqT.of (by trivial), rfl, _, _, rfl, _, _, rfl, _, _, rfl, _, _, rfl, rfl, ?_⟩
  | refine ⟨_, _, rfl, SqT.of (by trivial), rfl, _, _, rfl, _, _, rfl, _, _, rfl, rfl, ?_⟩
  | refine ⟨_, _, rfl, SqT.of (by trivial), rfl, _, _, rfl, _, _, rfl, rfl, ?_⟩
  | refine ⟨_, _, _, _, rfl, (by with_reducible assumption : Wd _ _ _ _), (by first | decide | omega), (by first | decide | omega), ?_⟩
  | refine ⟨_, _, _, rfl, (by with_reducible assumption : Wd _ _ _ _), ?_⟩
  | refine iT (by contradiction) ?_
  | refine iF (by contradiction) ?_))
-- USE RD
def fmD (m : Fm) : PyData := .tuple [.str m.word, oD m.num]
theorem fm_eqv (a b : Fm) : PyData.eqv (fmD a) (fmD b) = decide (a = b) := by
  cases a <;> cases b <;> simp [fmD, Fm.word, Fm.num, oD, PyData.eqv, PyData.eqvAll] <;> first | rfl | (intro h; exact absurd h (by decide))
theorem fm_shaped (a : Fm) : SeqAt.shaped (fmD a) = true := by
  cases a <;> simp [fmD, Fm.word, Fm.num, oD, SeqAt.shaped, PyData.canLay0, PyData.canLayAll0, PyData.depth, PyData.depthAll] <;> decide +kernel
theorem fm_dp {K : PySem.W.Frag} {H : Hp} {a : Addr} {m : Fm} (h : FmA H a m) : Dp K H (.ref a) (fmD m) := .tup (SqT.of h) (.cons (.str _) (.cons (dp_oV _) .nil))
section
variable {P : Program} {w : World} {K : PySem.W.Frag} {mg : Str → Option Value} {base : Heap}
def spMeeting : Sp := fun vs H Q _ => ∃ (a b : Addr) (x y : Fm), vs = [.ref a, .ref b] ∧ FmA H a x ∧ FmA H b y ∧ Q (oV (meetF x y)) H
theorem ok_meeting (T : Txt P K mg) {k : Nat} : FnOk P w K mg base CX0 (k + 1) T.meeting.f T.meeting.fd ["form", "other"] spMeeting := by
  refine T.meeting.F.ok (k := k) sc_meeting (fun vs H Q E h => ?_) (fun cdv A outer s H vs Q E hr h => ?_)
  · obtain ⟨a, b, x, y, rfl, _⟩ := h
    rfl
  · obtain ⟨a, b, x, y, rfl, ha, hb, q⟩ := h
    unfold FmA at ha hb
    refine ⟨_, (pss_cons (ps_if (PW.pt (pw_and (pt_cmpR op_eq (pe_ix ix_tup (pv 0) pe_int (fun _ _ => rfl)) pe_str (nomark _)) (pw_and1 (pt_cmpR op_eq (pe_ix ix_tup (pv 1) pe_int (fun _ _ => rfl)) pe_str (nomark _))))) (pss_one (ps_ret (pe_op op_sub (pe_ix ix_tup (pv 0) pe_int (fun _ _ => rfl)) (pe_ix ix_tup (pv 1) pe_int (fun _ _ => rfl))))) pss_nil)
  (pss_cons (ps_if (PW.pt (pw_and (pt_cmpR op_eq (pe_ix ix_tup (pv 0) pe_int (fun _ _ => rfl)) pe_str (nomark _)) (pw_and1 (pt_cmpR op_eq (pe_ix ix_tup (pv 1) pe_int (fun _ _ => rfl)) pe_str (nomark _))))) (pss_one (ps_ret (pe_op op_sub (pe_ix ix_tup (pv 1) pe_int (fun _ _ => rfl)) (pe_ix ix_tup (pv 0) pe_int (fun _ _ => rfl))))) pss_nil)
  (pss_one (ps_ret pe_non)))), ?_⟩
    cases x with
    | none =>
      and_intros
      cases y <;> exact q
    | row x =>
      cases y with
      | none =>
        and_intros
        exact q
      | row y =>
        and_intros
        exact q
      | shift y =>
        and_intros
        exact q
    | shift x =>
      cases y with
      | none =>
        and_intros
        exact q
      | row y =>
        and_intros
        exact q
      | shift y =>
        and_intros
        exact q
end
end Pl

namespace Pl
open PySem L2
local macro_rules | `(tactic| infer_instance) => `(tactic| first
  | with_reducible assumption
  | with_reducible exact Same.refl _
  | exact Wd.gh (by with_reducible assumption)
  | exact sm2 (by with_reducible assumption) (by infer_instance)
  | exact sm2 (same_upd (by with_reducible assumption)) (by infer_instance)
  | exact sm2 (Wd.gh (by with_reducible assumption)) (by infer_instance))
local macro_rules | `(tactic| trivial) => `(tactic| first
  | with_reducible assumption
  | with_reducible exact upd_same
  | exact at_same (by with_reducible assumption) (by trivial)
  | exact at_same (same_upd (by with_reducible assumption)) (by trivial)
  | exact at_same (Wd.gh (by with_reducible assumption)) (by trivial))
local macro_rules | `(tactic| ac_rfl) => `(tactic| first
  | exact Ty.int _
  | exact Ty.str _
  | exact Ty.non
  | exact Ty.bl _
  | exact Ty.tup (by trivial)
  | exact Ty.lst (by trivial))
local macro_rules | `(tactic| contradiction) => `(tactic| first
  | exact rfl
  | exact decide_eq_true (by first | assumption | omega)
  | exact decide_eq_false (by first | assumption | omega)
  | exact dI_t (by first | assumption | omega)
  | exact dI_f (by first | assumption | omega)
  | exact dS_t (by first | assumption | decide)
  | exact dS_f (by first | assumption | decide)
  | exact nI_t (by first | assumption | omega)
  | exact nI_f (by first | assumption | omega)
  | exact nS_t (by first | assumption | decide)
  | exact nS_f (by first | assumption | decide)
  | assumption
  | exact q_none_int | exact q_none_bool | exact q_none_tuple | exact q_none_list | exact q_none_str | exact q_bool_int | exact q_bool_bool | exact q_bool_tuple | exact q_bool_list | exact q_bool_str | exact q_int_int | exact q_int_bool | exact q_int_tuple | exact q_int_list | exact q_int_str | exact q_str_int | exact q_str_bool | exact q_str_tuple | exact q_str_list | exact q_str_str | exact q_list_int | exact q_list_bool | exact q_list_tuple | exact q_list_list | exact q_list_str | exact q_tuple_int | exact q_tuple_bool | exact q_tuple_tuple | exact q_tuple_list | exact q_tuple_str
  | exact nb_t (by contradiction)
  | exact nb_f (by contradiction))
local macro_rules | `(tactic| and_intros) => `(tactic| repeat (first
  | refine ⟨_, rfl, ?_⟩
  | refine ⟨_, _, rfl, rfl, ?_⟩
  | refine ⟨rfl, ?_⟩
  | refine ⟨_, _, _, _, rfl, rfl, SqT.of (by trivial), at_ix (by decide) rfl, ?_⟩
  | refine ⟨_, _, _, _, rfl, rfl, SqL.of (by trivial), at_ix (by decide) rfl, ?_⟩
  | refine ⟨_, _, rfl, Or.inl (SqL.of (by trivial)), ?_⟩
  | refine ⟨_, _, rfl, Or.inr (SqT.of (by trivial)), ?_⟩
  | refine ⟨_, _, _, _, _, rfl, (by trivial), (by trivial), (by trivial), rfl, ?_⟩
  | refine ⟨_, _, _, _, _, rfl, ClsV.ty _, Ty.x (by ac_rfl), isI_tuple (by ac_rfl), ?_⟩
  | refine ⟨_, _, _, _, _, rfl, ClsV.ty _, Ty.x (by ac_rfl), isI_list (by ac_rfl), ?_⟩
  | refine ⟨_, _, _, _, _, rfl, ClsV.ty _, Ty.x (by ac_rfl), isI_int (by ac_rfl), ?_⟩
  | refine ⟨_, _, _, _, _, rfl, ClsV.ty _, Ty.x (by ac_rfl), isI_bool (by ac_rfl), ?_⟩
  | refine ⟨_, _, _, _, _, rfl, ClsV.ty _, Ty.x (by ac_rfl), isI_str (by ac_rfl), ?_⟩
  | refine ⟨sz (Nat.le_of_ble_eq_true rfl), ?_⟩
  | refine ⟨Or.inl ⟨rfl, _, SqL.of (by trivial)⟩, ?_⟩
  | refine ⟨_, _, rfl, SqT.of (by trivial), rfl, _, _, rfl, _, _, rfl, _, _, rfl, _, _, rfl, rfl, ?_⟩
  | refine ⟨_, _, rfl, SqT.of (by trivial), rfl, _, _, rfl, _, _, rfl, _, _, rfl, rfl, ?_⟩
  | refine ⟨_, _, rfl, SqT.of (by trivial), rfl, _, _, rfl, _, _, rfl, rfl, ?_⟩
  | refine ⟨_, _, _, _, rfl, (by with_reducible assumption : Wd _ _ _ _), (by first | decide | omega), (by first | decide | omega), ?_⟩
  | refine ⟨_, _, _, rfl, (by with_reducible assumption : Wd _ _ _ _), ?_⟩
  | refine iT (by contradiction) ?_
  | refine iF (by contradiction) ?_))
-- USE RD
section
variable {P : Program} {w : World} {K : PySem.W.Frag} {mg : Str → Option Value} {base : Heap}
def spReach : Sp := fun vs H Q _ => ∃ (a fa : Addr) (rs : List (Pc Fm)) (i : Nat) (s : Bd) (m : Fm), vs = [.ref a, .int (i : Nat), oV s, .ref fa] ∧ PcL H a rs ∧ i ≤ rs.length ∧ rs.length ≤ 1000000 ∧ FmA H fa m ∧
  ∀ r H', Same H H' → H' r = some (.tup [oV (reachP (rs.drop i) none i s m).1, .int ((reachP (rs.drop i) none i s m).2.1 : Nat), oV (reachP (rs.drop i) none i s m).2.2]) → Q (.ref r) H'
theorem ok_reach (T : Txt P K mg) {k : Nat} : FnOk P w K mg base CX0 (k + 2) T.reach.f T.reach.fd ["rows", "at", "start", "form"] spReach := by
  have G_meeting : FnOk P w K mg base CX0 (k + 1) T.meeting.f T.meeting.fd ["form", "other"] spMeeting := ok_meeting T
  refine T.reach.F.ok (k := k + 1) sc_reach (fun vs H Q E h => ?_) (fun cdv A outer s H vs Q E hr h => ?_)
  · obtain ⟨a, fa, rs, i, s, m, rfl, _⟩ := h
    rfl
  · obtain ⟨a, fa, rs, i0, s0, m, rfl, ⟨us, ha, hu⟩, hi0, hl, hf, q⟩ := h
    refine ⟨_, (pss_cons (ps_set (i := 4) sc_reach.nd rfl (.inl rfl) pe_non)
  (pss_cons (ps_while PassesOwn.never (pt_cmpR op_lt (pv 1) (pe_callB call_len_seq (by rfl) T.n_len PySem.boot_len (pa_cons (pv 0) pa_nil)) (nomark _)) (pss_cons (ps_set (i := 5) sc_reach.nd rfl (.inl rfl) (pe_ix ix_list (pv 0) (pv 1) (fun _ _ => rfl)))
  (pss_cons (ps_if (pt_cmpR (op_neD hr.units) (pe_tup (pa_cons (pe_ix ix_tup (pv 5) pe_int (fun _ _ => rfl)) (pa_cons (pe_ix ix_tup (pv 5) pe_int (fun _ _ => rfl)) pa_nil))) (pv 3) (nomark _)) (pss_cons (ps_if (PW.pt (pw_or (pt_cmpR op_isN (pv 2) pe_non (nomark _)) (pw_or1 (pt_cmpR op_ne (pe_call G_meeting (hr.mono (by omega)) (by rfl) T.meeting.g T.meeting.F.kp T.meeting.b .nil pass0 (pa_cons (pv 3) (pa_cons (pe_tup (pa_cons (pe_ix ix_tup (pv 5) pe_int (fun _ _ => rfl)) (pa_cons (pe_ix ix_tup (pv 5) pe_int (fun _ _ => rfl)) pa_nil))) pa_nil))) (pv 2) (nomark _))))) (pss_one ps_break) pss_nil)
  (pss_cons (ps_set (i := 4) sc_reach.nd rfl (.inl rfl) (pv 2))
  (pss_one (ps_if (pt_cmpR op_ne (pe_ix ix_tup (pv 5) pe_int (fun _ _ => rfl)) (pv 2) (nomark _)) (pss_one (ps_ret (pe_tup (pa_cons (pv 4) (pa_cons (pv 1) (pa_cons (pe_op op_add (pv 2) pe_int) pa_nil)))))) pss_nil)))) (pss_cons (ps_set (i := 4) sc_reach.nd rfl (.inl rfl) (pe_ix ix_tup (pv 5) pe_int (fun _ _ => rfl)))
  (pss_one (ps_if (pt_cmpR op_isN (pv 4) pe_non (nomark _)) (pss_one (ps_ret (pe_tup (pa_cons pe_non (pa_cons (pe_callB call_len_seq (by rfl) T.n_len PySem.boot_len (pa_cons (pv 0) pa_nil)) (pa_cons pe_non pa_nil)))))) pss_nil))))
  (pss_cons (ps_aug (i := 1) sc_reach.nd rfl (.inl rfl) pe_int ip_add)
  (pss_one (ps_set (i := 2) sc_reach.nd rfl (.inl rfl) (pe_op op_add (pv 4) pe_int)))))))
  (pss_one (ps_ret (pe_tup (pa_cons (pv 4) (pa_cons (pv 1) (pa_cons (pv 2) pa_nil)))))))), ?_⟩
    generalize hres : reachP (rs.drop i0) none i0 s0 m = res at q
    refine while_by (fun σ H' => ∃ (i : Nat) (s lst : Bd) (y : Option V), σ = [some (.ref a), some (.int (i : Nat)), some (oV s), some (.ref fa), some (oV lst), y] ∧ i ≤ rs.length ∧ Same H H' ∧ reachP (rs.drop i) lst i s m = res) (fun σ _ => match σ with | _ :: some (.int i) :: _ => rs.length - i.toNat | _ => 0) ⟨i0, s0, none, none, rfl, hi0, Same.refl _, hres⟩ (fun σ H' pp => ?_) (fun σ H Q Q' m h => ?_)
    · obtain ⟨i, s, lst, y, rfl, hi, s1, hres⟩ := pp
      have ha1 := s1 _ _ ha
      have hf1 : H' fa = _ := s1 _ _ hf
      refine ⟨_, rfl, _, rfl, _, _, rfl, .inl (SqL.of ha1), _, _, rfl, rfl, _, rfl, ?_⟩
      rw [hu.len]
      by_cases hlt : i < rs.length
      · rw [decide_eq_true (show (i : Int) < (rs.length : Int) by omega)]
        refine iT rfl ?_
        have hd := List.drop_eq_getElem_cons hlt
        have hux : i < us.length := by rw [hu.len]; exact hlt
        obtain ⟨p, hp, t, et, ht⟩ := hu.get i _ (List.getElem?_eq_getElem hux)
        rw [List.getElem?_eq_getElem hlt] at hp
        cases hp
        rw [hd] at hres
        unfold reachP at hres
        refine ⟨_, rfl, _, rfl, a, _, _, _, rfl, rfl, SqL.of ha1, at_ix (Int.natCast_nonneg i) (by rw [Int.toNat_natCast]; exact List.getElem?_eq_getElem hux), ?_⟩
        rw [et]
        have ht1 := s1 _ _ ht
        have hdl : (List.drop (i + 1) rs).length = rs.length - (i + 1) := List.length_drop
        generalize hps : List.drop (i + 1) rs = ps at hres hdl
        generalize rs[i] = p at *
        and_intros
        intro f1 hf1'
        generalize el : upd _ f1 _ = H2
        obtain ⟨s2, q2⟩ := nw1 el hf1'
        clear el
        have s12 := s1.trans s2
        have ht2 := s2 _ _ ht1
        refine ⟨_, rfl, fmD p.2.2, fmD m, fm_dp q2, fm_dp (s2 _ _ hf1), fm_shaped _, fm_shaped _, _, rfl, ?_⟩
        rw [fm_eqv]
        by_cases hm : p.2.2 = m
        · rw [if_pos hm] at hres
          rw [decide_eq_true hm]
          refine iF rfl ?_
          and_intros
          cases hpl : p.2.1 with
          | none =>
            rw [hpl] at hres ht2
            dsimp only at hres
            and_intros
            intro r hr'
            refine q r _ (s12.trans (same_upd hr')) ?_
            have e : us.length = i + (ps.length + 1) := by rw [hu.len]; omega
            rw [upd_same, ← hres, e]
            rfl
          | some b =>
            rw [hpl] at hres ht2
            dsimp only at hres
            and_intros
            exact ⟨⟨i + 1, some (b + 1), some b, _, rfl, by omega, s12, by rw [hps]; exact hres⟩, by show rs.length - ((i : Int) + 1).toNat < rs.length - (i : Int).toNat; omega⟩
        · rw [if_neg hm] at hres
          rw [decide_eq_false hm]
          refine iT rfl ?_
          cases s with
          | none =>
            dsimp only at hres
            and_intros
            intro r hr'
            refine q r _ (s12.trans (same_upd hr')) ?_
            rw [upd_same, ← hres]
          | some c =>
            dsimp only at hres
            and_intros
            intro f2 hf2
            generalize el : upd _ f2 _ = H3
            obtain ⟨s3, q3⟩ := nw1 el hf2
            clear el
            have s13 := s12.trans s3
            have ht3 := s3 _ _ ht2
            and_intros
            refine ⟨fa, f2, m, p.2.2, rfl, s13 _ _ hf, q3, ?_⟩
            and_intros
            refine ⟨by cases meetF m p.2.2 <;> rfl, _, rfl, ?_⟩
            by_cases hmt : meetF m p.2.2 = some c
            · rw [if_pos hmt] at hres
              rw [hmt]
              refine iF (nI_t rfl) ?_
              and_intros
              by_cases hpc : p.2.1 = some c
              · rw [if_pos hpc] at hres
                rw [hpc] at ht3 ⊢
                and_intros
                exact ⟨⟨i + 1, some (c + 1), some c, _, rfl, by omega, s13, by rw [hps]; exact hres⟩, by show rs.length - ((i : Int) + 1).toNat < rs.length - (i : Int).toNat; omega⟩
              · rw [if_neg hpc] at hres
                refine ⟨by cases p.2.1 <;> rfl, _, rfl, iT (by cases hx : p.2.1 with
                  | none => rfl
                  | some z => exact nI_f fun e => hpc (by rw [hx, e])) ?_⟩
                and_intros
                intro r hr'
                refine q r _ (s13.trans (same_upd hr')) ?_
                rw [upd_same, ← hres]
                rfl
            · rw [if_neg hmt] at hres
              refine iT (by cases hx : meetF m p.2.2 with
                | none => rfl
                | some z => exact nI_f fun e => hmt (by rw [hx, e])) ?_
              and_intros
              intro r hr'
              refine q r _ (s13.trans (same_upd hr')) ?_
              rw [upd_same, ← hres]
      · rw [decide_eq_false (show ¬ (i : Int) < (rs.length : Int) by omega)]
        refine iF rfl ?_
        rw [List.drop_of_length_le (by omega)] at hres
        subst hres
        and_intros
        intro r hr'
        exact q r _ (s1.trans (same_upd hr')) upd_same
    · obtain ⟨v, h1, v2, h2, p, n, h3, h4, i, j, h5, h6, k, h7, h8⟩ := h
      exact ⟨v, h1, v2, h2, p, n, h3, h4, i, j, h5, h6, k, h7, m _ _ h8⟩
def spForms : Sp := fun vs H Q _ => ∃ (a : Addr) (p : Pc Fm) (s : Bd), vs = [.ref a, oV s] ∧ PcA H (.ref a) p ∧ ∀ r H', Same H H' → H r = none → (∃ ws, H' r = some (.lst ws) ∧ Lw (fun v m => ∃ t, v = .ref t ∧ FmA H' t m) ws (formsP p.2.2 s)) → Q (.ref r) H'
theorem ok_forms_at (T : Txt P K mg) {k : Nat} : FnOk P w K mg base CX0 (k + 1) T.forms_at.f T.forms_at.fd ["piece", "start"] spForms := by
  refine T.forms_at.F.ok (k := k) sc_forms_at (fun vs H Q E h => ?_) (fun cdv A outer s H vs Q E hr h => ?_)
  · obtain ⟨a, p, s, rfl, _⟩ := h
    rfl
  · obtain ⟨a, p, s, rfl, ⟨t, e, ha⟩, q⟩ := h
    cases e
    have out1 : ∀ {p r : Addr} {m : Fm} {ms : List Fm}, ms = [m] → (∀ r H', Same H H' → H r = none → (∃ ws, H' r = some (.lst ws) ∧ Lw (fun v m => ∃ t, v = .ref t ∧ FmA H' t m) ws ms) → Q (.ref r) H') → H p = none → upd H p (.tup [.str m.word, oV m.num]) r = none → Q (.ref r) (upd (upd H p (.tup [.str m.word, oV m.num])) r (.lst [.ref p])) := fun {p r m ms} e q hp hr' => by
      subst e
      have s1 := same_upd (o := .tup [.str m.word, oV m.num]) hp
      have s2 := same_upd (o := .lst [.ref p]) hr'
      exact q r _ (s1.trans s2) (s1.free hr') ⟨_, upd_same, ⟨p, rfl, s2 _ _ upd_same⟩, trivial⟩
    have out2 : ∀ {p p2 r : Addr} {m m2 : Fm} {ms : List Fm}, ms = [m, m2] → (∀ r H', Same H H' → H r = none → (∃ ws, H' r = some (.lst ws) ∧ Lw (fun v m => ∃ t, v = .ref t ∧ FmA H' t m) ws ms) → Q (.ref r) H') → H p = none → upd H p (.tup [.str m.word, oV m.num]) p2 = none → upd (upd H p (.tup [.str m.word, oV m.num])) p2 (.tup [.str m2.word, oV m2.num]) r = none → Q (.ref r) (upd (upd (upd H p (.tup [.str m.word, oV m.num])) p2 (.tup [.str m2.word, oV m2.num])) r (.lst [.ref p, .ref p2])) := fun {p p2 r m m2 ms} e q hp hp2 hr' => by
      subst e
      have s1 := same_upd (o := .tup [.str m.word, oV m.num]) hp
      have s2 := same_upd (o := .tup [.str m2.word, oV m2.num]) hp2
      have s3 := same_upd (o := .lst [.ref p, .ref p2]) hr'
      exact q r _ ((s1.trans s2).trans s3) ((s1.trans s2).free hr') ⟨_, upd_same, ⟨p, rfl, s3 _ _ (s2 _ _ upd_same)⟩, ⟨p2, rfl, s3 _ _ upd_same⟩, trivial⟩
    obtain ⟨pf, pl, pm⟩ := p
    refine ⟨_, (pss_cons (ps_if (PW.pt (pw_or (pt_cmpR op_isN (pv 1) pe_non (nomark _)) (pw_or1 (pt_cmpR op_eq (pe_ix ix_tup (pv 0) pe_int (fun _ _ => rfl)) pe_str (nomark _))))) (pss_one (ps_ret (pe_lst (pa_cons (pe_tup (pa_cons (pe_ix ix_tup (pv 0) pe_int (fun _ _ => rfl)) (pa_cons (pe_ix ix_tup (pv 0) pe_int (fun _ _ => rfl)) pa_nil))) pa_nil)))) pss_nil)
  (pss_cons (ps_if (pt_cmpR op_eq (pe_ix ix_tup (pv 0) pe_int (fun _ _ => rfl)) pe_str (nomark _)) (pss_one (ps_ret (pe_lst (pa_cons (pe_tup (pa_cons pe_str (pa_cons (pe_ix ix_tup (pv 0) pe_int (fun _ _ => rfl)) pa_nil))) (pa_cons (pe_tup (pa_cons pe_str (pa_cons (pe_op op_sub (pe_ix ix_tup (pv 0) pe_int (fun _ _ => rfl)) (pv 1)) pa_nil))) pa_nil))))) pss_nil)
  (pss_one (ps_ret (pe_lst (pa_cons (pe_tup (pa_cons pe_str (pa_cons (pe_op op_add (pv 1) (pe_ix ix_tup (pv 0) pe_int (fun _ _ => rfl))) pa_nil))) (pa_cons (pe_tup (pa_cons pe_str (pa_cons (pe_ix ix_tup (pv 0) pe_int (fun _ _ => rfl)) pa_nil))) pa_nil))))))), ?_⟩
    cases s with
    | none =>
      cases pm with
      | none =>
        and_intros
        intro p hp
        and_intros
        intro r hr'
        exact out1 (m := .none) rfl q hp hr'
      | row x =>
        and_intros
        intro p hp
        and_intros
        intro r hr'
        exact out1 (m := .row x) rfl q hp hr'
      | shift x =>
        and_intros
        intro p hp
        and_intros
        intro r hr'
        exact out1 (m := .shift x) rfl q hp hr'
    | some c =>
      cases pm with
      | none =>
        and_intros
        intro p hp
        and_intros
        intro r hr'
        exact out1 (m := .none) rfl q hp hr'
      | row x =>
        and_intros
        intro p hp
        and_intros
        intro p2 hp2
        and_intros
        intro r hr'
        exact out2 (m := .row x) (m2 := .shift (x - c)) rfl q hp hp2 hr'
      | shift x =>
        and_intros
        intro p hp
        and_intros
        intro p2 hp2
        and_intros
        intro r hr'
        exact out2 (m := .row (c + x)) (m2 := .shift x) rfl q hp hp2 hr'
end
end Pl

namespace Pl
open PySem L2
local macro_rules | `(tactic| infer_instance) => `(tactic| first
  | with_reducible assumption
  | with_reducible exact Same.refl _
  | exact Wd.gh (by with_reducible assumption)
  | exact sm2 (by with_reducible assumption) (by infer_instance)
  | exact sm2 (same_upd (by with_reducible assumption)) (by infer_instance)
  | exact sm2 (Wd.gh (by with_reducible assumption)) (by infer_instance))
local macro_rules | `(tactic| trivial) => `(tactic| first
  | with_reducible assumption
  | with_reducible exact upd_same
  | exact at_same (by with_reducible assumption) (by trivial)
  | exact at_same (same_upd (by with_reducible assumption)) (by trivial)
  | exact at_same (Wd.gh (by with_reducible assumption)) (by trivial))
local macro_rules | `(tactic| ac_rfl) => `(tactic| first
  | exact Ty.int _
  | exact Ty.str _
  | exact Ty.non
  | exact Ty.bl _
  | exact Ty.tup (by trivial)
  | exact Ty.lst (by trivial))
local macro_rules | `(tactic| contradiction) => `(tactic| first
  | exact rfl
  | exact decide_eq_true (by first | assumption | omega)
  | exact decide_eq_false (by first | assumption | omega)
  | exact dI_t (by first | assumption | omega)
  | exact dI_f (by first | assumption | omega)
  | exact dS_t (by first | assumption | decide)
  | exact dS_f (by first | assumption | decide)
  | exact nI_t (by first | assumption | omega)
  | exact nI_f (by first | assumption | omega)
  | exact nS_t (by first | assumption | decide)
  | exact nS_f (by first | assumption | decide)
  | assumption
  | exact q_none_int | exact q_none_bool | exact q_none_tuple | exact q_none_list | exact q_none_str | exact q_bool_int | exact q_bool_bool | exact q_bool_tuple | exact q_bool_list | exact q_bool_str | exact q_int_int | exact q_int_bool | exact q_int_tuple | exact q_int_list | exact q_int_str | exact q_str_int | exact q_str_bool | exact q_str_tuple | exact q_str_list | exact q_str_str | exact q_list_int | exact q_list_bool | exact q_list_tuple | exact q_list_list | exact q_list_str | exact q_tuple_int | exact q_tuple_bool | exact q_tuple_tuple | exact q_tuple_list | exact q_tuple_str
  | exact nb_t (by contradiction)
  | exact nb_f (by contradiction))
local macro_rules | `(tactic| and_intros) => `(tactic| repeat (first
  | refine ⟨_, rfl, ?_⟩
  | refine ⟨_, _, rfl, rfl, ?_⟩
  | refine ⟨rfl, ?_⟩
  | refine ⟨_, _, _, _, rfl, rfl, SqT.of (by trivial), at_ix (by decide) rfl, ?_⟩
  | refine ⟨_, _, _, _, rfl, rfl, SqL.of (by trivial), at_ix (by decide) rfl, ?_⟩
  | refine ⟨_, _, rfl, Or.inl (SqL.of (by trivial)), ?_⟩
  | refine ⟨_, _, rfl, Or.inr (SqT.of (by trivial)), ?_⟩
  | refine ⟨_, _, _, _, _, rfl, (by trivial), (by trivial), (by trivial), rfl, ?_⟩
  | refine ⟨_, _, _, _, _, rfl, ClsV.ty _, Ty.x (by ac_rfl), isI_tuple (by ac_rfl), ?_⟩
  | refine ⟨_, _, _, _, _, rfl, ClsV.ty _, Ty.x (by ac_rfl), isI_list (by ac_rfl), ?_⟩
  | refine ⟨_, _, _, _, _, rfl, ClsV.ty _, Ty.x (by ac_rfl), isI_int (by ac_rfl), ?_⟩
  | refine ⟨_, _, _, _, _, rfl, ClsV.ty _, Ty.x (by ac_rfl), isI_bool (by ac_rfl), ?_⟩
  | refine ⟨_, _, _, _, _, rfl, ClsV.ty _, Ty.x (by ac_rfl), isI_str (by ac_rfl), ?_⟩
  | refine ⟨sz (Nat.le_of_ble_eq_true rfl), ?_⟩
  | refine ⟨Or.inl ⟨rfl, _, SqL.of (by trivial)⟩, ?_⟩
  | refine ⟨_, _, rfl, SqT.of (by trivial), rfl, _, _, rfl, _, _, rfl, _, _, rfl, _, _, rfl, rfl, ?_⟩
  | refine ⟨_, _, rfl, SqT.of (by trivial), rfl, _, _, rfl, _, _, rfl, _, _, rfl, rfl, ?_⟩
  | refine ⟨_, _, rfl, SqT.of (by trivial), rfl, _, _, rfl, _, _, rfl, rfl, ?_⟩
  | refine ⟨_, _, _, _, rfl, (by with_reducible assumption : Wd _ _ _ _), (by first | decide | omega), (by first | decide | omega), ?_⟩
  | refine ⟨_, _, _, rfl, (by with_reducible assumption : Wd _ _ _ _), ?_⟩
  | refine iT (by contradiction) ?_
  | refine iF (by contradiction) ?_))
-- USE RD
abbrev Bst := Fm × Bd × Nat × Bd
def BstV (H : Hp) : V → Option Bst → Prop
  | v, none => v = .non
  | v, some b => ∃ t fa, v = .ref t ∧ H t = some (.tup [.ref fa, oV b.2.1, .int (b.2.2.1 : Nat), oV b.2.2.2]) ∧ FmA H fa b.1
theorem BstV.same {H H' : Hp} (s : Same H H') : ∀ {v : V} {b : Option Bst}, BstV H v b → BstV H' v b
  | _, none, h => h
  | _, some b, ⟨t, fa, e, h1, h2⟩ => ⟨t, fa, e, s _ _ h1, s _ _ h2⟩
section
variable {P : Program} {w : World} {K : PySem.W.Frag} {mg : Str → Option Value} {base : Heap}
def spFarthest : Sp := fun vs H Q _ => ∃ (a : Addr) (rs : List (Pc Fm)) (A : Int → Option Int), vs = [.ref a] ∧ PcL H a rs ∧ Rem A none rs ∧ rs.length ≤ 1000000 ∧ ∀ r H', Same H H' → H r = none → PcL H' r (farP rs.length rs 0 none) → Q (.ref r) H'
theorem ok_farthest (T : Txt P K mg) {k : Nat} : FnOk P w K mg base CX0 (k + 3) T.farthest.f T.farthest.fd ["rows"] spFarthest := by
  have G_reach : FnOk P w K mg base CX0 (k + 2) T.reach.f T.reach.fd ["rows", "at", "start", "form"] spReach := ok_reach T
  have G_forms_at : FnOk P w K mg base CX0 (k + 1) T.forms_at.f T.forms_at.fd ["piece", "start"] spForms := ok_forms_at T
  refine T.farthest.F.ok (k := k + 2) sc_farthest (fun vs H Q E h => ?_) (fun cdv A outer s H vs Q E hr h => ?_)
  · obtain ⟨a, rs, A, rfl, _⟩ := h
    rfl
  · obtain ⟨a, rs, F, rfl, ⟨us, ha, hu⟩, hrem, hl, q⟩ := h
    refine ⟨_, (pss_cons (ps_set (i := 1) sc_farthest.nd rfl (.inl rfl) (pe_lst pa_nil))
  (pss_cons (ps_set (i := 2) sc_farthest.nd rfl (.inl rfl) pe_int)
  (pss_cons (ps_set (i := 3) sc_farthest.nd rfl (.inl rfl) pe_non)
  (pss_cons (ps_while PassesOwn.never (pt_cmpR op_lt (pv 2) (pe_callB call_len_seq (by rfl) T.n_len PySem.boot_len (pa_cons (pv 0) pa_nil)) (nomark _)) (pss_cons (ps_set (i := 4) sc_farthest.nd rfl (.inl rfl) pe_non)
  (pss_cons (ps_for PassesOwn.never rfl (pi_list (pe_call G_forms_at (hr.mono (by omega)) (by rfl) T.forms_at.g T.forms_at.F.kp T.forms_at.b .nil pass0 (pa_cons (pe_ix ix_list (pv 0) (pv 2) (fun _ _ => rfl)) (pa_cons (pv 3) pa_nil)))) (pg_name (i := 5) sc_farthest.nd rfl (.inl rfl))
   (pss_cons (ps_asg (pe_call G_reach (hr.mono (by omega)) (by rfl) T.reach.g T.reach.F.kp T.reach.b .nil pass0 (pa_cons (pv 0) (pa_cons (pv 2) (pa_cons (pv 3) (pa_cons (pv 5) pa_nil))))) (pg_tup rfl (pgs_cons (pg_name (i := 6) sc_farthest.nd rfl (.inl rfl)) (pgs_cons (pg_name (i := 8) sc_farthest.nd rfl (.inl rfl)) (pgs_cons (pg_name (i := 7) sc_farthest.nd rfl (.inl rfl)) pgs_nil)))))
  (pss_one (ps_if (PW.pt (pw_or (pt_cmpR op_isN (pv 4) pe_non (nomark _)) (pw_or1 (PW.pt (pw_and (pt_cmpR op_notN (pe_ix ix_tup (pv 4) pe_int (fun _ _ => rfl)) pe_non (nomark _)) (pw_and1 (PW.pt (pw_or (pt_cmpR op_isN (pv 6) pe_non (nomark _)) (pw_or1 (pt_cmpR op_gt (pv 6) (pe_ix ix_tup (pv 4) pe_int (fun _ _ => rfl)) (nomark _))))))))))) (pss_one (ps_set (i := 4) sc_farthest.nd rfl (.inl rfl) (pe_tup (pa_cons (pv 5) (pa_cons (pv 6) (pa_cons (pv 8) (pa_cons (pv 7) pa_nil))))))) pss_nil))))
  (pss_cons (ps_asg (pv 4) (pg_tup rfl (pgs_cons (pg_name (i := 5) sc_farthest.nd rfl (.inl rfl)) (pgs_cons (pg_name (i := 6) sc_farthest.nd rfl (.inl rfl)) (pgs_cons (pg_name (i := 2) sc_farthest.nd rfl (.inl rfl)) (pgs_cons (pg_name (i := 7) sc_farthest.nd rfl (.inl rfl)) pgs_nil))))))
  (pss_cons (ps_expr (pe_bm PySem.F.plainAttrs_list PySem.F.slot_list_append PySem.F.type_list_append mt_append (pv 1) (pa_cons (pe_tup (pa_cons (pv 3) (pa_cons (pv 6) (StX.pa_star (pv 5) pa_nil)))) pa_nil)))
  (pss_one (ps_set (i := 3) sc_farthest.nd rfl (.inl rfl) (pv 7))))))))
  (pss_one (ps_ret (pv 1))))))), ?_⟩
    and_intros
    intro r hr0
    have s0 := same_upd (o := .lst []) hr0
    generalize hL : farP rs.length rs 0 none = L at q
    refine while_by (fun σ H' => ∃ (i : Nat) (s : Bd) (acc : List (Pc Fm)) (n : Nat) (ws : List V) (z : List (Option V)), z.length = 5 ∧ σ = [some (.ref a), some (.ref r), some (.int (i : Nat)), some (oV s)] ++ z ∧ Same H H' ∧ H' r = some (.lst ws) ∧ Lw (PcA H') ws acc ∧ acc.length ≤ i ∧ i ≤ rs.length ∧ (rs.drop i).length ≤ n ∧ L = acc ++ farP n (rs.drop i) i s ∧ (i < rs.length → Rem F s (rs.drop i))) (fun σ _ => match σ with | _ :: _ :: some (.int i) :: _ => rs.length - i.toNat | _ => 0) ⟨0, none, [], rs.length, [], _, rfl, rfl, s0, upd_same, trivial, Nat.zero_le _, Nat.zero_le _, Nat.le_refl _, hL.symm, fun _ => hrem⟩ (fun σ H' pp => ?_) (fun σ H Q Q' m h => ?_)
    · obtain ⟨i, s, acc, n, ws, z, hz, rfl, s1, hr1, hw, hac, hi, hn, hfar, hrm⟩ := pp
      match z, hz with
      | [z1, z2, z3, z4, z5], _ =>
      have ha1 := s1 _ _ ha
      refine ⟨_, rfl, _, rfl, _, _, rfl, .inl (SqL.of ha1), _, _, rfl, rfl, _, rfl, ?_⟩
      rw [hu.len]
      by_cases hlt : i < rs.length
      · rw [decide_eq_true (show (i : Int) < (rs.length : Int) by omega)]
        refine iT rfl ?_
        have hd := List.drop_eq_getElem_cons hlt
        have hux : i < us.length := by rw [hu.len]; exact hlt
        obtain ⟨p, hp, t, et, ht⟩ := hu.get i _ (List.getElem?_eq_getElem hux)
        rw [List.getElem?_eq_getElem hlt] at hp
        cases hp
        have hrm1 := hrm hlt
        rw [hd] at hrm1 hfar hn
        obtain ⟨b, hb, st⟩ := best_stp i hrm1
        have ht1 := s1 _ _ ht
        generalize hps : List.drop (i + 1) rs = ps at hrm1 hfar hn hd hb st
        generalize rs[i] = p at *
        cases n with
        | zero => simp at hn
        | succ n =>
        unfold farP at hfar
        rw [hb] at hfar
        dsimp only at hfar
        and_intros
        refine ⟨a, _, _, _, rfl, rfl, SqL.of ha1, at_ix (Int.natCast_nonneg i) (by rw [Int.toNat_natCast]; exact List.getElem?_eq_getElem hux), ?_⟩
        rw [et]
        and_intros
        refine ⟨t, p, s, rfl, ⟨t, rfl, ht1⟩, fun fl H2 s2 hfl0 ⟨vs, hfl, hvs⟩ => ?_⟩
        refine ⟨fl, rfl, ⟨_, SqL.of hfl⟩, ?_⟩
        have s12 := s1.trans s2
        refine for_list (K := K) (a := fl) (xs := vs) (fun j σ H' => ∃ (bv : V) (b : Option Bst) (z : List (Option V)), z.length = 4 ∧ σ = [some (.ref a), some (.ref r), some (.int (i : Nat)), some (oV s), some bv] ++ z ∧ Same H2 H' ∧ BstV H' bv b ∧ bestP (p :: ps) i s ((formsP p.2.2 s).drop j) b = bestP (p :: ps) i s (formsP p.2.2 s) none) ⟨.non, none, _, rfl, rfl, Same.refl _, rfl, rfl⟩ (fun j σ H' _ pp => ?_) (fun j x σ H3 hx pp => ?_) (fun σ H3 pp => ?_)
        · obtain ⟨_, _, _, _, _, h3, _⟩ := pp
          exact SqL.of (h3 _ _ hfl)
        · obtain ⟨bv, ob, z, hz, rfl, s3, hbv, hbe⟩ := pp
          match z, hz with
          | [y1, y2, y3, y4], _ =>
          obtain ⟨m, hm, t2, rfl, ht2⟩ := hvs.get j x hx
          have hj : j < (formsP p.2.2 s).length := (List.getElem?_eq_some_iff.mp hm).1
          have hmj : (formsP p.2.2 s)[j] = m := by
            rw [List.getElem?_eq_getElem hj] at hm
            exact Option.some.inj hm
          rw [List.drop_eq_getElem_cons hj, hmj] at hbe
          have s13 := s12.trans s3
          and_intros
          refine ⟨a, t2, rs, i, s, m, rfl, ⟨us, s13 _ _ ha, hu.mono (PcA.kt (KT.of s13))⟩, hi, hl, s3 _ _ ht2, fun r3 H4 s4 hr3 => ?_⟩
          rw [hd] at hr3
          have s14 := s13.trans s4
          have ht4 := s4 _ _ (s3 _ _ ht2)
          have fin : ∀ f1, H4 f1 = none → (∀ b : Bst, ob = some b → gtB (reachP (p :: ps) none i s m).1 b.2.1 = true) → ∃ (bv : V) (b : Option Bst) (z : List (Option V)), z.length = 4 ∧ [some (V.ref a), some (.ref r), some (.int (i : Nat)), some (oV s), some (.ref f1), some (.ref t2), some (oV (reachP (p :: ps) none i s m).1), some (oV (reachP (p :: ps) none i s m).2.2), some (.int ((reachP (p :: ps) none i s m).2.1 : Nat))] = [some (V.ref a), some (.ref r), some (.int (i : Nat)), some (oV s), some bv] ++ z ∧ Same H2 (upd H4 f1 (.tup [.ref t2, oV (reachP (p :: ps) none i s m).1, .int ((reachP (p :: ps) none i s m).2.1 : Nat), oV (reachP (p :: ps) none i s m).2.2])) ∧ BstV (upd H4 f1 (.tup [.ref t2, oV (reachP (p :: ps) none i s m).1, .int ((reachP (p :: ps) none i s m).2.1 : Nat), oV (reachP (p :: ps) none i s m).2.2])) bv b ∧ bestP (p :: ps) i s ((formsP p.2.2 s).drop (j + 1)) b = bestP (p :: ps) i s (formsP p.2.2 s) none := fun f1 hf1 hg => by
            have s5 := same_upd (o := .tup [.ref t2, oV (reachP (p :: ps) none i s m).1, .int ((reachP (p :: ps) none i s m).2.1 : Nat), oV (reachP (p :: ps) none i s m).2.2]) hf1
            refine ⟨_, some (m, reachP (p :: ps) none i s m), [_, _, _, _], rfl, rfl, (s3.trans s4).trans s5, ⟨f1, t2, rfl, upd_same, s5 _ _ ht4⟩, ?_⟩
            rw [← hbe]
            cases ob with
            | none => rfl
            | some b =>
              simp only [bestP]
              rw [if_pos (hg b rfl)]
          have stay : ∀ b, ob = some b → gtB (reachP (p :: ps) none i s m).1 b.2.1 = false → bestP (p :: ps) i s ((formsP p.2.2 s).drop (j + 1)) (some b) = bestP (p :: ps) i s (formsP p.2.2 s) none := fun b e hg => by
            rw [← hbe, e]
            simp only [bestP]
            rw [if_neg (by rw [hg]; exact Bool.false_ne_true)]
          clear hbe
          generalize reachP (p :: ps) none i s m = rc at hr3 fin stay
          and_intros
          cases ob with
          | none =>
            have e : bv = .non := hbv
            subst e
            refine iT rfl ?_
            and_intros
            intro f1 hf1
            exact fin f1 hf1 nofun
          | some b =>
            obtain ⟨t3, fa, rfl, ht3, hfa⟩ := hbv
            have ht34 := s4 _ _ ht3
            refine iF rfl ?_
            obtain ⟨bm, bl, ba, bg⟩ := b
            have stay1 := stay _ rfl
            have fin1 := fun f1 hf1 (hg : gtB rc.1 bl = true) => fin f1 hf1 (fun b e => by cases e; exact hg)
            have keep : ∀ {z' : List (Option V)}, gtB rc.1 bl = false → z'.length = 4 → ∃ (bv : V) (b : Option Bst) (z : List (Option V)), z.length = 4 ∧ [some (V.ref a), some (.ref r), some (.int (i : Nat)), some (oV s), some (.ref t3)] ++ z' = [some (V.ref a), some (.ref r), some (.int (i : Nat)), some (oV s), some bv] ++ z ∧ Same H2 H4 ∧ BstV H4 bv b ∧ bestP (p :: ps) i s ((formsP p.2.2 s).drop (j + 1)) b = bestP (p :: ps) i s (formsP p.2.2 s) none := fun {z'} hg hz => ⟨_, some _, z', hz, rfl, s3.trans s4, ⟨t3, fa, rfl, ht34, s4 _ _ hfa⟩, stay1 hg⟩
            cases bl with
            | none =>
              and_intros
              exact keep rfl rfl
            | some c =>
              cases hrc : rc.1 with
              | none =>
                rw [hrc] at fin1
                and_intros
                intro f1 hf1
                exact fin1 f1 hf1 rfl
              | some d =>
                rw [hrc] at fin1 keep
                by_cases hdc : d > c
                · and_intros
                  intro f1 hf1
                  exact fin1 f1 hf1 (decide_eq_true hdc)
                · and_intros
                  exact keep (decide_eq_false hdc) rfl
        · obtain ⟨bv, ob, z, hz, rfl, s3, hbv, hbe⟩ := pp
          match z, hz with
          | [y1, y2, y3, y4], _ =>
          rw [hvs.len, List.drop_length, hb] at hbe
          unfold bestP at hbe
          subst hbe
          obtain ⟨t3, fa, rfl, ht3, hfa⟩ := hbv
          have hfa2 : H3 fa = _ := hfa
          have s13 := s12.trans s3
          have hlt2 := st.lt
          have hr33 := s3 _ _ (s2 _ _ hr1)
          have hpl : (p :: ps).length = rs.length - i := by rw [← hd]; exact List.length_drop
          have hdd : (p :: ps).drop (b.2.2.1 - i) = rs.drop b.2.2.1 := by
            rw [← hd, List.drop_drop]
            congr 1
            omega
          have hend : b.2.2.1 ≤ rs.length ∧ (b.2.2.1 < rs.length → Rem F b.2.2.2 (rs.drop b.2.2.1)) := by
            cases hb1 : b.2.1 with
            | none =>
              have := (st.rch.all hb1).1
              exact ⟨by omega, fun h => absurd h (by omega)⟩
            | some d =>
              obtain ⟨g1, g2, g3, _⟩ := st.rch.on d hb1
              rw [hdd] at g3
              refine ⟨?_, fun _ => by rw [g1]; exact g3⟩
              refine Nat.le_of_lt (Nat.lt_of_not_le fun hle => ?_)
              rw [List.drop_of_length_le hle] at g3
              exact g3
          rw [hdd] at hfar
          and_intros
          refine ⟨fa, _, rfl, .inl (SqT.of hfa2), ?_⟩
          and_intros
          intro p2 hp2
          generalize el : upd _ p2 _ = H4
          obtain ⟨s4, q4⟩ := nw1 el hp2
          clear el
          have hr34 := s4 _ _ hr33
          refine ⟨r, ws, _, rfl, rfl, hr34, szm (by have := hw.len; omega), ?_⟩
          and_intros
          have s14 := (s2.trans s3).trans s4
          refine ⟨⟨b.2.2.1, b.2.2.2, acc ++ [(s, b.2.1, b.1)], n, ws ++ [.ref p2], [_, _, _, _, _], rfl, rfl, same_put (s1.trans s14) hr0, upd_same, PcL.push (p := (s, b.2.1, b.1)) hw hr1 s14 q4, ?_, hend.1, ?_, ?_, hend.2⟩, ?_⟩
          · rw [List.length_append, List.length_singleton]; omega
          · rw [List.length_drop]; rw [hpl] at hn; omega
          · rw [hfar, List.append_assoc]; rfl
          · show rs.length - ((b.2.2.1 : Nat) : Int).toNat < rs.length - ((i : Nat) : Int).toNat
            omega
      · rw [decide_eq_false (show ¬ (i : Int) < (rs.length : Int) by omega)]
        refine iF rfl ?_
        rw [List.drop_of_length_le (by omega)] at hfar
        and_intros
        have : acc = L := by
          rw [hfar]
          cases n <;> simp [farP]
        exact q r H' s1 hr0 ⟨ws, hr1, by rw [← this]; exact hw⟩
    · obtain ⟨v, h1, v2, h2, p, n, h3, h4, i, j, h5, h6, k, h7, h8⟩ := h
      exact ⟨v, h1, v2, h2, p, n, h3, h4, i, j, h5, h6, k, h7, m _ _ h8⟩
theorem raw_rem {t : Tm} {rows : Str → List Int} (hs : ∀ s, (rows s).Pairwise (· ≤ ·)) (hw : t.wf) : Rem (fun x => t.ans rows x) none (t.raw rows) := til_rem (raw_til hs t hw)
def Tm.pcs (t : Tm) (rows : Str → List Int) : List (Pc Fm) := farP (t.raw rows).length (t.raw rows) 0 none
def spPieces (T : Txt P K mg) : Sp := fun vs H Q _ => ∃ (t : Tm) (a wa l : Addr) (ps : List (Str × Int)) (m : Nat), vs = [.ref a, .ref wa] ∧ TmAt T.ca H t a ∧ t.depth ≤ 12 ∧ t.wf ∧ WoA T H wa l ps ∧ ps.Pairwise leP ∧ ps.length ≤ 1000 ∧ (∀ s, (rowsOf ps s).length ≤ m) ∧ t.pcb m ≤ 1000000 ∧ ∀ r H', Same H H' → H r = none → PcL H' r (t.pcs (rowsOf ps)) → Q (.ref r) H'
theorem ok_pieces (T : Txt P K mg) {k : Nat} : FnOk P w K mg base CX0 (k + 30) T.pieces.f T.pieces.fd ["term", "world"] (spPieces T) := by
  have G_check_term : FnOk P w K mg base CX0 (k + 1) T.check_term.f T.check_term.fd ["value"] (spCkTerm T) := ok_check_term T
  have G_check_world : FnOk P w K mg base CX0 (k + 1) T.check_world.f T.check_world.fd ["value"] (spCkWorld T) := ok_check_world T
  have G_raw_pieces : FnOk P w K mg base CX0 (k + 5 + 2 * 12) T.raw_pieces.f T.raw_pieces.fd ["term", "world"] (spRaw T 12) := ok_raw_pieces T 12
  have G_farthest : FnOk P w K mg base CX0 (k + 3) T.farthest.f T.farthest.fd ["rows"] spFarthest := ok_farthest T
  refine T.pieces.F.ok (k := k + 29) sc_pieces (fun vs H Q E h => ?_) (fun cdv A outer s H vs Q E hr h => ?_)
  · obtain ⟨t, a, wa, l, ps, m, rfl, _⟩ := h
    rfl
  · obtain ⟨t, a, wa, l, ps, m, rfl, ht, hd, hw, ho, hsr, hps, hm, hpc, q⟩ := h
    refine ⟨_, (pss_cons (ps_expr (pe_call G_check_term (hr.mono (by omega)) (by rfl) T.check_term.g T.check_term.F.kp T.check_term.b .nil pass0 (pa_cons (pv 0) pa_nil)))
  (pss_cons (ps_expr (pe_call G_check_world (hr.mono (by omega)) (by rfl) T.check_world.g T.check_world.F.kp T.check_world.b .nil pass0 (pa_cons (pv 1) pa_nil)))
  (pss_one (ps_ret (pe_call G_farthest (hr.mono (by omega)) (by rfl) T.farthest.g T.farthest.F.kp T.farthest.b .nil pass0 (pa_cons (pe_call G_raw_pieces (hr.mono (by omega)) (by rfl) T.raw_pieces.g T.raw_pieces.F.kp T.raw_pieces.b .nil pass0 (pa_cons (pv 0) (pa_cons (pv 1) pa_nil))) pa_nil)))))), ?_⟩
    refine ⟨_, rfl, t, a, rfl, ht, _, rfl, wa, rfl, ho.is, ?_⟩
    refine ⟨_, rfl, _, rfl, t, a, wa, l, ps, m, rfl, ht, hd, hw, ho, hps, hm, hpc, fun r1 H1 s1 hr10 hr1 => ?_⟩
    exact ⟨r1, _, _, rfl, hr1, raw_rem (fun s => rowsOf_sorted hsr s) hw, Nat.le_trans (raw_len hm t) hpc, fun r2 H2 s2 hr2 hp2 => q r2 H2 (s1.trans s2) (s1.free hr2) hp2⟩
end
end Pl

set_option Elab.async false
set_option linter.all false
set_option maxRecDepth 100000
set_option maxHeartbeats 4000000
/-! Stretches at which two forms differ, in plain words. -/
namespace Pl
open PySem L2
abbrev St2 := Bd × Bd
def Rel (k : Int) (e1 e2 : St2) : Prop := ∃ b c, e1.2 = some b ∧ e2.1 = some c ∧ b + k ≤ c
structure Asc (k : Int) (es : List St2) : Prop where
  str : ∀ e ∈ es, strB e.1 e.2 = true
  rel : es.Pairwise (Rel k)
def Mem (es : List St2) (x : Int) : Prop := ∃ e ∈ es, cov e.1 e.2 x
theorem Asc.nil {k : Int} : Asc k [] := ⟨nofun, .nil⟩
theorem Asc.tail {k : Int} {e : St2} {es : List St2} (h : Asc k (e :: es)) : Asc k es := ⟨fun a ha => h.str a (List.mem_cons_of_mem _ ha), (List.pairwise_cons.mp h.rel).2⟩
theorem strB_le {f l : Bd} {a b : Int} (h : strB f l = true) (hf : f = some a) (hl : l = some b) : a ≤ b := by
  subst hf hl
  exact of_decide_eq_true h
/-- the first moments of a list lie in its head -/
theorem Asc.lo {k : Int} (hk : 0 < k) {e : St2} {es : List St2} (h : Asc k (e :: es)) {c x : Int} (he : e.1 = some c) (hx : Mem (e :: es) x) : c ≤ x := by
  obtain ⟨a, ha, hc⟩ := hx
  rcases List.mem_cons.mp ha with rfl | ha
  · exact hc.1 c he
  · obtain ⟨b, d, h1, h2, h3⟩ := (List.pairwise_cons.mp h.rel).1 a ha
    have h4 := strB_le (h.str e List.mem_cons_self) he h1
    have h5 := hc.1 d h2
    omega
theorem Asc.past {k : Int} {e : St2} {es : List St2} (h : Asc k (e :: es)) {b x : Int} (he : e.2 = some b) (hx : Mem es x) : b + k ≤ x := by
  obtain ⟨a, ha, hc⟩ := hx
  obtain ⟨b', d, h1, h2, h3⟩ := (List.pairwise_cons.mp h.rel).1 a ha
  rw [he] at h1
  cases h1
  have := hc.1 d h2
  omega
theorem Asc.end_ {k : Int} {e : St2} {es : List St2} (h : Asc k (e :: es)) (he : e.2 = none) : es = [] := by
  cases es with
  | nil => rfl
  | cons a es =>
    obtain ⟨b', d, h1, _⟩ := (List.pairwise_cons.mp h.rel).1 a List.mem_cons_self
    rw [he] at h1
    cases h1
theorem str_wit {f l : Bd} (h : strB f l = true) (n : Int) (hf : f = none) : ∃ x, x < n ∧ cov f l x := by
  subst hf
  cases l with
  | none => exact ⟨n - 1, by omega, nofun, nofun⟩
  | some b =>
    refine ⟨(if n - 1 < b then n - 1 else b), by split <;> omega, nofun, fun c e => ?_⟩
    cases e
    split <;> omega
theorem asc_uniq : ∀ {es es' : List St2}, Asc 2 es → Asc 2 es' → (∀ x, Mem es x ↔ Mem es' x) → es = es'
  | [], [], _, _, _ => rfl
  | [], e :: es', _, h', hm => by
    exfalso
    have hs := h'.str e List.mem_cons_self
    have : ∃ x, cov e.1 e.2 x := by
      cases hf : e.1 with
      | none => obtain ⟨x, _, h⟩ := str_wit hs 0 hf; exact ⟨x, by rw [← hf]; exact h⟩
      | some a =>
        refine ⟨a, fun c e => by cases e; exact Int.le_refl _, fun b e2 => strB_le hs hf e2⟩
    obtain ⟨x, hx⟩ := this
    obtain ⟨a, ha, _⟩ := (hm x).mpr ⟨e, List.mem_cons_self, hx⟩
    cases ha
  | e :: es, [], h, _, hm => by
    exfalso
    have hs := h.str e List.mem_cons_self
    have : ∃ x, cov e.1 e.2 x := by
      cases hf : e.1 with
      | none => obtain ⟨x, _, h⟩ := str_wit hs 0 hf; exact ⟨x, by rw [← hf]; exact h⟩
      | some a =>
        refine ⟨a, fun c e => by cases e; exact Int.le_refl _, fun b e2 => strB_le hs hf e2⟩
    obtain ⟨x, hx⟩ := this
    obtain ⟨a, ha, _⟩ := (hm x).mp ⟨e, List.mem_cons_self, hx⟩
    cases ha
  | e :: es, e' :: es', h, h', hm => by
    have hs := h.str e List.mem_cons_self
    have hs' := h'.str e' List.mem_cons_self
    have k1 : ∀ {e e' : St2} {es es' : List St2}, Asc 2 (e :: es) → Asc 2 (e' :: es') → (∀ x, Mem (e :: es) x → Mem (e' :: es') x) → ∀ c', e'.1 = some c' → ∃ c, e.1 = some c ∧ c' ≤ c := fun {e e' es es'} h h' hm c' hc' => by
      have hs := h.str e List.mem_cons_self
      cases hf : e.1 with
      | none =>
        obtain ⟨x, hx, hc⟩ := str_wit hs c' hf
        have := h'.lo (by decide) hc' (hm x ⟨e, List.mem_cons_self, hc⟩)
        omega
      | some c =>
        refine ⟨c, rfl, h'.lo (by decide) hc' (hm c ⟨e, List.mem_cons_self, fun d e => by rw [hf] at e; cases e; exact Int.le_refl _, fun b e2 => strB_le hs hf e2⟩)⟩
    have hfe : e.1 = e'.1 := by
      cases hf : e.1 with
      | none =>
        cases hf' : e'.1 with
        | none => rfl
        | some c' =>
          obtain ⟨c, h1, _⟩ := k1 h h' (fun x => (hm x).mp) c' hf'
          rw [hf] at h1
          cases h1
      | some c =>
        obtain ⟨c', h1, h2⟩ := k1 h' h (fun x => (hm x).mpr) c hf
        obtain ⟨c2, h3, h4⟩ := k1 h h' (fun x => (hm x).mp) c' h1
        rw [hf] at h3
        cases h3
        rw [h1]
        exact congrArg some (by omega)
    have k2 : ∀ {e e' : St2} {es es' : List St2}, Asc 2 (e :: es) → Asc 2 (e' :: es') → e.1 = e'.1 → (∀ x, Mem (e' :: es') x → Mem (e :: es) x) → ∀ b, e.2 = some b → ∃ b', e'.2 = some b' ∧ b' ≤ b := fun {e e' es es'} h h' hf hm b hb => by
      have hs := h.str e List.mem_cons_self
      have hcov : (∀ b', e'.2 = some b' → b + 1 ≤ b') → cov e'.1 e'.2 (b + 1) := fun z => ⟨fun a ha => by rw [← hf] at ha; have := strB_le hs ha hb; omega, z⟩
      have hno : ¬ cov e'.1 e'.2 (b + 1) := fun hc => by
        obtain ⟨a, ha, hc2⟩ := hm (b + 1) ⟨e', List.mem_cons_self, hc⟩
        rcases List.mem_cons.mp ha with rfl | ha
        · have := hc2.2 b hb; omega
        · have := h.past hb ⟨a, ha, hc2⟩; omega
      cases hl : e'.2 with
      | none => exact absurd (hcov (by rw [hl]; exact nofun)) hno
      | some b' =>
        refine ⟨b', rfl, ?_⟩
        by_cases hle : b' ≤ b
        · exact hle
        · exact absurd (hcov (fun b2 e2 => by rw [hl] at e2; cases e2; omega)) hno
    have hle : e.2 = e'.2 := by
      cases hl : e.2 with
      | none =>
        cases hl' : e'.2 with
        | none => rfl
        | some b' =>
          obtain ⟨b, h1, _⟩ := k2 h' h hfe.symm (fun x => (hm x).mp) b' hl'
          rw [hl] at h1
          cases h1
      | some b =>
        obtain ⟨b', h1, h2⟩ := k2 h h' hfe (fun x => (hm x).mpr) b hl
        obtain ⟨b2, h3, h4⟩ := k2 h' h hfe.symm (fun x => (hm x).mp) b' h1
        rw [hl] at h3
        cases h3
        rw [h1]
        exact congrArg some (by omega)
    have hee : e = e' := Prod.ext hfe hle
    subst hee
    congr 1
    refine asc_uniq h.tail h'.tail fun x => ?_
    cases hl : e.2 with
    | none => rw [h.end_ hl, h'.end_ hl]
    | some b =>
      constructor
      · intro hx
        have hp := h.past hl hx
        obtain ⟨a, ha, hc⟩ := hx
        obtain ⟨a', ha', hc'⟩ := (hm x).mp ⟨a, List.mem_cons_of_mem _ ha, hc⟩
        rcases List.mem_cons.mp ha' with rfl | ha'
        · have := hc'.2 b hl; omega
        · exact ⟨a', ha', hc'⟩
      · intro hx
        have hp := h'.past hl hx
        obtain ⟨a, ha, hc⟩ := hx
        obtain ⟨a', ha', hc'⟩ := (hm x).mpr ⟨a, List.mem_cons_of_mem _ ha, hc⟩
        rcases List.mem_cons.mp ha' with rfl | ha'
        · have := hc'.2 b hl; omega
        · exact ⟨a', ha', hc'⟩
/-- one more stretch, joined with the last one if it follows without gap -/
def joinP (acc : List St2) (e : St2) : List St2 := match acc.getLast? with
  | some (f, some b) => if some (b + 1) = e.1 then acc.dropLast ++ [(f, e.2)] else acc ++ [e]
  | _ => acc ++ [e]
theorem joinP_len (acc : List St2) (e : St2) : (joinP acc e).length ≤ acc.length + 1 := by
  unfold joinP
  split
  · split
    · rw [List.length_append, List.length_dropLast]; show _ + 1 ≤ _; omega
    · simp
  · simp
theorem mem_app {a b : List St2} {x : Int} : Mem (a ++ b) x ↔ Mem a x ∨ Mem b x := by
  unfold Mem
  constructor
  · rintro ⟨e, he, hc⟩
    rcases List.mem_append.mp he with h | h
    · exact .inl ⟨e, h, hc⟩
    · exact .inr ⟨e, h, hc⟩
  · rintro (⟨e, he, hc⟩ | ⟨e, he, hc⟩)
    · exact ⟨e, List.mem_append.mpr (.inl he), hc⟩
    · exact ⟨e, List.mem_append.mpr (.inr he), hc⟩
theorem mem_one {e : St2} {x : Int} : Mem [e] x ↔ cov e.1 e.2 x := ⟨fun ⟨a, ha, hc⟩ => by rw [List.mem_singleton.mp ha] at hc; exact hc, fun h => ⟨e, List.mem_cons_self, h⟩⟩
theorem join_ok {acc : List St2} {e : St2} (h : Asc 2 acc) (he : strB e.1 e.2 = true) (hr : ∀ a ∈ acc, Rel 1 a e) : Asc 2 (joinP acc e) ∧ (∀ x, Mem (joinP acc e) x ↔ Mem acc x ∨ cov e.1 e.2 x) ∧ ∀ e2, Rel 1 e e2 → (∀ a ∈ acc, Rel 1 a e2) → ∀ a ∈ joinP acc e, Rel 1 a e2 := by
  rcases List.eq_nil_or_concat acc with rfl | ⟨ini, a, rfl⟩
  · have : joinP [] e = [e] := rfl
    rw [this]
    refine ⟨⟨fun z hz => by rw [List.mem_singleton.mp hz]; exact he, List.pairwise_singleton _ _⟩, fun x => ?_, fun e2 h1 _ z hz => by rw [List.mem_singleton.mp hz]; exact h1⟩
    rw [mem_one]
    exact ⟨.inr, fun z => z.resolve_left (fun ⟨_, h, _⟩ => nomatch h)⟩
  · rw [List.concat_eq_append] at h hr ⊢
    obtain ⟨b, c, h1, h2, h3⟩ := hr a (by simp)
    have hj : joinP (ini ++ [a]) e = if some (b + 1) = e.1 then ini ++ [(a.1, e.2)] else ini ++ [a] ++ [e] := by
      unfold joinP
      rw [List.getLast?_concat]
      obtain ⟨f, l⟩ := a
      simp only at h1
      subst h1
      simp only [List.dropLast_concat]
    have hpa := List.pairwise_append.mp h.rel
    have hsa := h.str a (by simp)
    by_cases hb : some (b + 1) = e.1
    · rw [hj, if_pos hb]
      rw [h2] at hb
      have hb := Option.some.inj hb
      refine ⟨⟨fun z hz => ?_, ?_⟩, fun x => ?_, fun e2 g1 g2 z hz => ?_⟩
      · rcases List.mem_append.mp hz with hz | hz
        · exact h.str z (List.mem_append.mpr (.inl hz))
        · rw [List.mem_singleton.mp hz]
          show strB a.1 e.2 = true
          cases hf : a.1 with
          | none => rfl
          | some d =>
            cases hl : e.2 with
            | none => rfl
            | some g =>
              have := strB_le hsa hf h1
              have := strB_le he h2 hl
              exact decide_eq_true (by omega)
      · rw [List.pairwise_append]
        refine ⟨hpa.1, List.pairwise_singleton _ _, fun x hx y hy => ?_⟩
        rw [List.mem_singleton.mp hy]
        obtain ⟨b', c', g1, g2, g3⟩ := hpa.2.2 x hx a (by simp)
        exact ⟨b', c', g1, g2, g3⟩
      · rw [mem_app, mem_app, mem_one, mem_one, or_assoc]
        refine or_congr_right ?_
        constructor
        · rintro ⟨c1, c2⟩
          by_cases hx : x ≤ b
          · exact .inl ⟨c1, fun b' e' => by rw [h1] at e'; cases e'; exact hx⟩
          · exact .inr ⟨fun c' e' => by rw [h2] at e'; cases e'; omega, c2⟩
        · rintro (⟨c1, c2⟩ | ⟨c1, c2⟩)
          · have hx := c2 b h1
            refine ⟨c1, fun g e' => ?_⟩
            have := strB_le he h2 e'
            omega
          · have hx := c1 c h2
            refine ⟨fun d e' => ?_, c2⟩
            have := strB_le hsa e' h1
            show d ≤ x
            omega
      · rcases List.mem_append.mp hz with hz | hz
        · exact g2 z (List.mem_append.mpr (.inl hz))
        · rw [List.mem_singleton.mp hz]
          exact g1
    · rw [hj, if_neg hb]
      have hb2 : b + 2 ≤ c := by
        rw [h2] at hb
        have : b + 1 ≠ c := fun z => hb (congrArg some z)
        omega
      refine ⟨⟨fun z hz => ?_, ?_⟩, fun x => ?_, fun e2 g1 g2 z hz => ?_⟩
      · rcases List.mem_append.mp hz with hz | hz
        · exact h.str z hz
        · rw [List.mem_singleton.mp hz]; exact he
      · rw [List.pairwise_append]
        refine ⟨h.rel, List.pairwise_singleton _ _, fun x hx y hy => ?_⟩
        rw [List.mem_singleton.mp hy]
        rcases List.mem_append.mp hx with hx | hx
        · obtain ⟨b', c', g1, g2, g3⟩ := hpa.2.2 x hx a (by simp)
          have := strB_le hsa g2 h1
          exact ⟨b', c, g1, h2, by omega⟩
        · rw [List.mem_singleton.mp hx]
          exact ⟨b, c, h1, h2, hb2⟩
      · rw [mem_app, mem_one]
      · rcases List.mem_append.mp hz with hz | hz
        · exact g2 z hz
        · rw [List.mem_singleton.mp hz]
          exact g1
theorem joins_ok : ∀ {es acc : List St2}, Asc 2 acc → Asc 1 es → (∀ a ∈ acc, ∀ e ∈ es, Rel 1 a e) → Asc 2 (es.foldl joinP acc) ∧ ∀ x, Mem (es.foldl joinP acc) x ↔ Mem acc x ∨ Mem es x
  | [], acc, h, _, _ => ⟨h, fun x => ⟨.inl, fun z => z.resolve_right (fun ⟨_, h, _⟩ => nomatch h)⟩⟩
  | e :: es, acc, h, he, hr => by
    obtain ⟨p1, p2⟩ := List.pairwise_cons.mp he.rel
    obtain ⟨j1, j2, j3⟩ := join_ok h (he.str e List.mem_cons_self) fun a ha => hr a ha e List.mem_cons_self
    obtain ⟨i1, i2⟩ := joins_ok (es := es) j1 he.tail fun a ha e2 he2 => j3 e2 (p1 e2 he2) (fun a2 ha2 => hr a2 ha2 e2 (List.mem_cons_of_mem _ he2)) a ha
    refine ⟨i1, fun x => ?_⟩
    rw [List.foldl_cons, i2 x, j2 x, show e :: es = [e] ++ es from rfl, mem_app, mem_one, or_assoc]
theorem joins_len : ∀ (es acc : List St2), (es.foldl joinP acc).length ≤ acc.length + es.length
  | [], acc => Nat.le_refl _
  | e :: es, acc => by
    rw [List.foldl_cons, List.length_cons]
    have := joins_len es (joinP acc e)
    have := joinP_len acc e
    omega
def unqP (p : Pc (Fm × Fm)) : List St2 := match meetF p.2.2.1 p.2.2.2 with
  | none => if p.2.2.1 = p.2.2.2 then [] else [(p.1, p.2.1)]
  | some m => [(p.1, lsL p.2.1 (some (m - 1))), (grF p.1 (some (m + 1)), p.2.1)].filter fun e => strB e.1 e.2
theorem unq_len (p : Pc (Fm × Fm)) : (unqP p).length ≤ 2 := by
  unfold unqP
  split
  · split <;> simp
  · exact List.length_filter_le _ _
theorem lsL_cov {l : Bd} {c x : Int} : (∀ b, lsL l (some c) = some b → x ≤ b) ↔ (∀ b, l = some b → x ≤ b) ∧ x ≤ c := by
  rw [lsL_le]
  exact And.comm
theorem grF_cov {f : Bd} {c x : Int} : (∀ b, grF f (some c) = some b → b ≤ x) ↔ (∀ b, f = some b → b ≤ x) ∧ c ≤ x := by
  rw [grF_le]
  exact And.comm
theorem unq_ok {A B : Int → Option Int} {p : Pc (Fm × Fm)} (hs : strB p.1 p.2.1 = true) (hr : ∀ x, cov p.1 p.2.1 x → BoR A B p.2.2 x) : Asc 1 (unqP p) ∧ (∀ x, Mem (unqP p) x ↔ cov p.1 p.2.1 x ∧ A x ≠ B x) ∧ (∀ e ∈ unqP p, (∀ b, p.2.1 = some b → ∃ b', e.2 = some b' ∧ b' ≤ b) ∧ ∀ c, p.1 = some c → ∃ c', e.1 = some c' ∧ c ≤ c') := by
  have key : ∀ x, cov p.1 p.2.1 x → (A x ≠ B x ↔ p.2.2.1 ≠ p.2.2.2 ∧ meetF p.2.2.1 p.2.2.2 ≠ some x) := fun x hx => by
    obtain ⟨h1, h2⟩ := hr x hx
    rw [← h1, ← h2]
    by_cases e : p.2.2.1 = p.2.2.2
    · rw [e]; simp
    · rw [ne_eq, meet_val e x]
      exact ⟨fun z => ⟨e, z⟩, fun z => z.2⟩
  unfold unqP
  cases hm : meetF p.2.2.1 p.2.2.2 with
  | none =>
    dsimp only
    by_cases e : p.2.2.1 = p.2.2.2
    · rw [if_pos e]
      refine ⟨Asc.nil, fun x => ⟨fun ⟨_, h, _⟩ => (nomatch h), fun ⟨h1, h2⟩ => absurd e ((key x h1).mp h2).1⟩, nofun⟩
    · rw [if_neg e]
      refine ⟨⟨fun z hz => by rw [List.mem_singleton.mp hz]; exact hs, List.pairwise_singleton _ _⟩, fun x => ?_, fun z hz => ?_⟩
      · rw [mem_one]
        exact ⟨fun h => ⟨h, (key x h).mpr ⟨e, by rw [hm]; exact nofun⟩⟩, fun h => h.1⟩
      · rw [List.mem_singleton.mp hz]
        exact ⟨fun b hb => ⟨b, hb, Int.le_refl _⟩, fun c hc => ⟨c, hc, Int.le_refl _⟩⟩
  | some m =>
    have hne : p.2.2.1 ≠ p.2.2.2 := fun e => by
      rw [e] at hm
      cases h2 : p.2.2.2 <;> rw [h2] at hm <;> cases hm
    dsimp only
    refine ⟨⟨fun z hz => ?_, ?_⟩, fun x => ?_, fun z hz => ?_⟩
    · exact (List.mem_filter.mp hz).2
    · refine List.Pairwise.filter _ ?_
      rw [List.pairwise_cons]
      refine ⟨fun z hz => ?_, List.pairwise_singleton _ _⟩
      rw [List.mem_singleton.mp hz]
      show ∃ b c, lsL p.2.1 (some (m - 1)) = some b ∧ grF p.1 (some (m + 1)) = some c ∧ b + 1 ≤ c
      have e1 : ∃ b, lsL p.2.1 (some (m - 1)) = some b ∧ b ≤ m - 1 := by
        cases p.2.1 with
        | none => exact ⟨_, rfl, Int.le_refl _⟩
        | some b => exact ⟨_, rfl, by split <;> omega⟩
      have e2 : ∃ c, grF p.1 (some (m + 1)) = some c ∧ m + 1 ≤ c := by
        cases p.1 with
        | none => exact ⟨_, rfl, Int.le_refl _⟩
        | some b => exact ⟨_, rfl, by split <;> omega⟩
      obtain ⟨b, g1, g2⟩ := e1
      obtain ⟨c, g3, g4⟩ := e2
      exact ⟨b, c, g1, g3, by omega⟩
    · have hmem : ∀ e : St2, (e ∈ [(p.1, lsL p.2.1 (some (m - 1))), (grF p.1 (some (m + 1)), p.2.1)]) → cov e.1 e.2 x → Mem (List.filter (fun e : St2 => strB e.1 e.2) [(p.1, lsL p.2.1 (some (m - 1))), (grF p.1 (some (m + 1)), p.2.1)]) x := fun e he hc => ⟨e, List.mem_filter.mpr ⟨he, cov_str hc⟩, hc⟩
      constructor
      · rintro ⟨e, he, hc⟩
        have he := (List.mem_filter.mp he).1
        rcases List.mem_cons.mp he with rfl | he
        · obtain ⟨c1, c2⟩ := hc
          obtain ⟨c3, c4⟩ := lsL_cov.mp c2
          have hx : cov p.1 p.2.1 x := ⟨c1, c3⟩
          exact ⟨hx, (key x hx).mpr ⟨hne, by rw [hm]; intro z; have := Option.some.inj z; omega⟩⟩
        · rw [List.mem_singleton.mp he] at hc
          obtain ⟨c1, c2⟩ := hc
          obtain ⟨c3, c4⟩ := grF_cov.mp c1
          have hx : cov p.1 p.2.1 x := ⟨c3, c2⟩
          exact ⟨hx, (key x hx).mpr ⟨hne, by rw [hm]; intro z; have := Option.some.inj z; omega⟩⟩
      · rintro ⟨hx, hd⟩
        have hmx : m ≠ x := fun z => ((key x hx).mp hd).2 (by rw [hm, z])
        by_cases hlt : x < m
        · exact hmem _ List.mem_cons_self ⟨hx.1, lsL_cov.mpr ⟨hx.2, by omega⟩⟩
        · exact hmem _ (List.mem_cons_of_mem _ List.mem_cons_self) ⟨grF_cov.mpr ⟨hx.1, by omega⟩, hx.2⟩
    · have hz := (List.mem_filter.mp hz).1
      rcases List.mem_cons.mp hz with rfl | hz
      · refine ⟨fun b hb => ?_, fun c hc => ⟨c, hc, Int.le_refl _⟩⟩
        show ∃ b', lsL p.2.1 (some (m - 1)) = some b' ∧ b' ≤ b
        rw [hb]
        exact ⟨_, rfl, by split <;> omega⟩
      · rw [List.mem_singleton.mp hz]
        refine ⟨fun b hb => ⟨b, hb, Int.le_refl _⟩, fun c hc => ?_⟩
        show ∃ c', grF p.1 (some (m + 1)) = some c' ∧ c ≤ c'
        rw [hc]
        exact ⟨_, rfl, by split <;> omega⟩
theorem til_pw {α : Type} {R : α → Int → Prop} : ∀ {ps : List (Pc α)} {f l : Bd}, Til R f l ps → (∀ p ∈ ps, strB p.1 p.2.1 = true ∧ ∀ x, cov p.1 p.2.1 x → R p.2.2 x) ∧ ps.Pairwise (fun p q => ∃ b c, p.2.1 = some b ∧ q.1 = some c ∧ b + 1 ≤ c) ∧ ∀ c, f = some c → ∀ p ∈ ps, ∃ d, p.1 = some d ∧ c ≤ d
  | [p], f, l, h => by
    obtain ⟨h1, h2, h3, h4⟩ := h
    refine ⟨fun q hq => ?_, List.pairwise_singleton _ _, fun c hc q hq => ?_⟩
    · rw [List.mem_singleton.mp hq, h1, h2]; exact ⟨h3, h4⟩
    · rw [List.mem_singleton.mp hq, h1]; exact ⟨c, hc, Int.le_refl _⟩
  | p :: q :: r, f, l, h => by
    obtain ⟨h0, b, h1, h2, h3, h4⟩ := h
    obtain ⟨i1, i2, i3⟩ := til_pw h4
    refine ⟨fun z hz => ?_, ?_, fun c hc z hz => ?_⟩
    · rcases List.mem_cons.mp hz with rfl | hz
      · rw [h0, h1]; exact ⟨h2, h3⟩
      · exact i1 z hz
    · rw [List.pairwise_cons]
      refine ⟨fun z hz => ?_, i2⟩
      obtain ⟨d, hd, hle⟩ := i3 (b + 1) rfl z hz
      exact ⟨b, d, h1, hd, hle⟩
    · rcases List.mem_cons.mp hz with rfl | hz
      · exact ⟨c, by rw [h0]; exact hc, Int.le_refl _⟩
      · obtain ⟨d, hd, hle⟩ := i3 (b + 1) rfl z hz
        have := strB_le h2 hc rfl
        exact ⟨d, hd, by omega⟩
def diffP (ps : List (Pc (Fm × Fm))) : List St2 := (ps.flatMap unqP).foldl joinP []
theorem diff_ok {A B : Int → Option Int} {ps : List (Pc (Fm × Fm))} (h : Til (BoR A B) none none ps) : Asc 2 (diffP ps) ∧ ∀ x, Mem (diffP ps) x ↔ A x ≠ B x := by
  obtain ⟨h1, h2, _⟩ := til_pw h
  have hu := fun p hp => unq_ok (A := A) (B := B) (h1 p hp).1 (h1 p hp).2
  have ha : Asc 1 (ps.flatMap unqP) := by
    refine ⟨fun e he => ?_, ?_⟩
    · obtain ⟨p, hp, hpe⟩ := List.mem_flatMap.mp he
      exact (hu p hp).1.str e hpe
    · rw [List.pairwise_flatMap]
      refine ⟨fun p hp => (hu p hp).1.rel, ?_⟩
      refine (List.Pairwise.and_mem.mp h2).imp ?_
      rintro p q ⟨hp, hq, b, c, e1, e2, hbc⟩ x hx y hy
      obtain ⟨b', g1, g2⟩ := ((hu p hp).2.2 x hx).1 b e1
      obtain ⟨c', g3, g4⟩ := ((hu q hq).2.2 y hy).2 c e2
      exact ⟨b', c', g1, g3, by omega⟩
  obtain ⟨j1, j2⟩ := joins_ok Asc.nil ha nofun
  refine ⟨j1, fun x => ?_⟩
  rw [diffP, j2 x]
  constructor
  · rintro (⟨_, h, _⟩ | ⟨e, he, hc⟩)
    · cases h
    · obtain ⟨p, hp, hpe⟩ := List.mem_flatMap.mp he
      exact (((hu p hp).2.1 x).mp ⟨e, hpe, hc⟩).2
  · intro hd
    obtain ⟨p, hp, hc⟩ := h.cover x ⟨nofun, nofun⟩
    obtain ⟨e, he, hce⟩ := ((hu p hp).2.1 x).mpr ⟨hc, hd⟩
    exact .inr ⟨e, List.mem_flatMap.mpr ⟨p, hp, he⟩, hce⟩
theorem diff_len (ps : List (Pc (Fm × Fm))) : (diffP ps).length ≤ ps.length * 2 := by
  have h1 := joins_len (ps.flatMap unqP) []
  have h2 := flatMap_le (F := unqP) (n := 2) ps fun p _ => unq_len p
  unfold diffP
  simp only [List.length_nil] at h1
  omega
/-! ### how many common stretches -/
theorem nodup_le {α : Type} [DecidableEq α] : ∀ {l m : List α}, l.Nodup → (∀ a ∈ l, a ∈ m) → l.length ≤ m.length
  | [], _, _, _ => Nat.zero_le _
  | a :: l, m, hn, hs => by
    rw [List.nodup_cons] at hn
    have ha := hs a List.mem_cons_self
    have h1 : l.length ≤ (m.erase a).length := nodup_le hn.2 fun b hb => (List.mem_erase_of_ne (a := b) (b := a) (fun e => hn.1 (by rw [← e]; exact hb))).mpr (hs b (List.mem_cons_of_mem _ hb))
    have h2 := List.length_erase_of_mem ha
    have h3 := List.length_pos_of_mem ha
    rw [List.length_cons]
    omega
theorem over_add {A B : Int → Option Int} {ps qs : List (Pc Fm)} (h : Til (AnR A) none none ps) (g : Til (AnR B) none none qs) : (overP ps qs).length ≤ ps.length + qs.length := by
  obtain ⟨h1, h2, _⟩ := til_pw (over_til h g)
  have hn : ((overP ps qs).map fun p => p.2.1).Nodup := by
    rw [List.Nodup, List.pairwise_map]
    refine (List.Pairwise.and_mem.mp h2).imp ?_
    rintro p q ⟨_, hq, b, c, e1, e2, hbc⟩ e
    have := strB_le (h1 q hq).1 e2 (e.symm.trans e1)
    omega
  have hm := nodup_le (m := ps.map (fun p => p.2.1) ++ qs.map (fun p => p.2.1)) hn fun e he => by
    obtain ⟨x, hx, rfl⟩ := List.mem_map.mp he
    obtain ⟨p, hp, hx⟩ := List.mem_flatMap.mp hx
    obtain ⟨q, hq, rfl⟩ := List.mem_map.mp hx
    obtain ⟨q0, hq0, hs⟩ := List.mem_filterMap.mp hq
    split at hs
    · cases hs
      rw [List.mem_append]
      show lsL p.2.1 q0.2.1 ∈ _ ∨ lsL p.2.1 q0.2.1 ∈ _
      have : lsL p.2.1 q0.2.1 = p.2.1 ∨ lsL p.2.1 q0.2.1 = q0.2.1 := by
        cases p.2.1 with
        | none => exact .inr rfl
        | some a =>
          cases q0.2.1 with
          | none => exact .inl rfl
          | some b =>
            by_cases hb : b < a
            · exact .inr (congrArg some (if_pos hb))
            · exact .inl (congrArg some (if_neg hb))
      rcases this with e | e
      · rw [e]; exact .inl (List.mem_map.mpr ⟨p, hp, rfl⟩)
      · rw [e]; exact .inr (List.mem_map.mpr ⟨q0, hq0, rfl⟩)
    · cases hs
  rw [List.length_append, List.length_map, List.length_map, List.length_map] at hm
  exact hm
end Pl

set_option Elab.async false
set_option linter.all false
set_option maxRecDepth 100000
set_option maxHeartbeats 4000000
/-! Pieces that go as far as they can are determined by the answers; moved and mirrored. -/
namespace Pl
open PySem L2
/-- two forms that agree at two moments are one -/
theorem fm_two {m m' : Fm} {x y : Int} (hxy : x ≠ y) (h1 : m.val x = m'.val x) (h2 : m.val y = m'.val y) : m = m' := by
  cases m with
  | none =>
    cases m' with
    | none => rfl
    | row => cases h1
    | shift => cases h1
  | row a =>
    cases m' with
    | none => cases h1
    | row b => exact congrArg Fm.row (Option.some.inj h1)
    | shift b =>
      have e1 : a = x + b := Option.some.inj h1
      have e2 : a = y + b := Option.some.inj h2
      omega
  | shift a =>
    cases m' with
    | none => cases h1
    | row b =>
      have e1 : x + a = b := Option.some.inj h1
      have e2 : y + a = b := Option.some.inj h2
      omega
    | shift b =>
      have e1 : x + a = x + b := Option.some.inj h1
      exact congrArg Fm.shift (by omega)
theorem head_uniq {A : Int → Option Int} {s : Bd} {p q : Pc Fm} (hp : p.1 = s) (hq : q.1 = s) (sp : strB p.1 p.2.1 = true) (sq : strB q.1 q.2.1 = true) (vp : ∀ x, cov p.1 p.2.1 x → p.2.2.val x = A x) (vq : ∀ x, cov q.1 q.2.1 x → q.2.2.val x = A x) (mp : MaxP A p) (mq : MaxP A q) : p = q := by
  obtain ⟨pf, pl, pm⟩ := p
  obtain ⟨qf, ql, qm⟩ := q
  simp only at hp hq
  have hpq : pf = qf := hp.trans hq.symm
  clear hp hq
  subst hpq
  simp only at sp sq vp vq
  -- the ends, once the forms are one
  have ends : pm = qm → pl = ql := fun e => by
    subst e
    have le : ∀ {l l' : Bd}, strB pf l = true → strB pf l' = true → (∀ x, cov pf l' x → pm.val x = A x) → MaxP A (pf, l, pm) → ∀ b, l = some b → ∃ b', l' = some b' ∧ b' ≤ b := fun {l l'} sl sl' v' m b hb => by
      have h1 := (m b hb).1
      cases hl : l' with
      | none =>
        exfalso
        refine h1 (v' (b + 1) ⟨fun a ha => ?_, by rw [hl]; exact nofun⟩)
        have := strB_le sl ha hb
        omega
      | some b' =>
        refine ⟨b', rfl, ?_⟩
        by_cases hle : b' ≤ b
        · exact hle
        · exfalso
          refine h1 (v' (b + 1) ⟨fun a ha => ?_, fun c hc => ?_⟩)
          · have := strB_le sl ha hb
            omega
          · rw [hl] at hc; cases hc; omega
    cases hl : pl with
    | none =>
      cases hl' : ql with
      | none => rfl
      | some b' =>
        obtain ⟨b, h, _⟩ := le sq sp vp mq b' hl'
        rw [hl] at h
        cases h
    | some b =>
      obtain ⟨b', h1, h2⟩ := le sp sq vq mp b hl
      obtain ⟨b2, h3, h4⟩ := le sq sp vp mq b' h1
      rw [hl] at h3
      cases h3
      rw [h1]
      exact congrArg some (by omega)
  have forms : pm = qm := by
    cases hs : pf with
    | none =>
      -- two moments far back
      have far : ∃ n : Int, ∀ x, x ≤ n → cov pf pl x ∧ cov pf ql x := by
        rw [hs]
        cases pl with
        | none =>
          cases ql with
          | none => exact ⟨0, fun x _ => ⟨⟨nofun, nofun⟩, ⟨nofun, nofun⟩⟩⟩
          | some b => exact ⟨b, fun x hx => ⟨⟨nofun, nofun⟩, ⟨nofun, fun c e => by cases e; exact hx⟩⟩⟩
        | some a =>
          cases ql with
          | none => exact ⟨a, fun x hx => ⟨⟨nofun, fun c e => by cases e; exact hx⟩, ⟨nofun, nofun⟩⟩⟩
          | some b => exact ⟨if a < b then a else b, fun x hx => ⟨⟨nofun, fun c e => by cases e; split at hx <;> omega⟩, ⟨nofun, fun c e => by cases e; split at hx <;> omega⟩⟩⟩
      obtain ⟨n, hn⟩ := far
      have h1 := hn n (Int.le_refl _)
      have h2 := hn (n - 1) (by omega)
      exact fm_two (x := n) (y := n - 1) (by omega) ((vp _ h1.1).trans (vq _ h1.2).symm) ((vp _ h2.1).trans (vq _ h2.2).symm)
    | some c =>
      have cp : cov pf pl c := ⟨fun a e => by rw [hs] at e; cases e; exact Int.le_refl _, fun b e => strB_le sp hs e⟩
      have cq : cov pf ql c := ⟨fun a e => by rw [hs] at e; cases e; exact Int.le_refl _, fun b e => strB_le sq hs e⟩
      have hc := (vp _ cp).trans (vq _ cq).symm
      have two : ∀ {l l' : Bd} {m m' : Fm}, strB pf l = true → strB pf l' = true → (∀ x, cov pf l x → m.val x = A x) → (∀ x, cov pf l' x → m'.val x = A x) → MaxP A (pf, l', m') → m.val c = m'.val c → l' = some c → l ≠ some c → m = m' := fun {l l' m m'} sl sl' v v' mx hcc hl' hl => by
        have h1 : m.val (c + 1) = A (c + 1) := v _ ⟨fun a e => by rw [hs] at e; cases e; omega, fun b e => by
          have h2 := strB_le sl hs e
          have : b ≠ c := fun z => hl (by rw [e, z])
          omega⟩
        have h2 := (mx c hl').2 hs
        rcases h2 with e | ⟨x, e, hne⟩
        · have e : m' = .none := e
          subst e
          cases m with
          | none => rfl
          | row => cases hcc
          | shift => cases hcc
        · have e : m' = .row x := e
          subst e
          cases m with
          | none => cases hcc
          | row y => exact congrArg Fm.row (Option.some.inj hcc)
          | shift y =>
            exfalso
            refine hne ?_
            rw [← h1]
            have : c + y = x := Option.some.inj hcc
            exact congrArg some (show c + 1 + y = x + 1 by omega)
      by_cases hpl : pl = some c
      · by_cases hql : ql = some c
        · have h1 := (mp c hpl).2 hs
          have h2 := (mq c hql).2 hs
          have hc' : pm.val c = qm.val c := hc
          rcases h1 with e | ⟨x, e, _⟩ <;> rcases h2 with e' | ⟨y, e', _⟩
          · exact (show pm = .none from e).trans (show qm = .none from e').symm
          · rw [show pm = .none from e, show qm = .row y from e'] at hc'
            cases hc'
          · rw [show pm = .row x from e, show qm = .none from e'] at hc'
            cases hc'
          · rw [show pm = .row x from e, show qm = .row y from e'] at hc' ⊢
            exact congrArg Fm.row (Option.some.inj hc')
        · exact (two sq sp vq vp mp hc.symm hpl hql).symm
      · by_cases hql : ql = some c
        · exact two sp sq vp vq mq hc hql hpl
        · have c1 : cov pf pl (c + 1) := ⟨fun a e => by rw [hs] at e; cases e; omega, fun b e => by
            have h2 := strB_le sp hs e
            have : b ≠ c := fun z => hpl (by rw [e, z])
            omega⟩
          have c2 : cov pf ql (c + 1) := ⟨fun a e => by rw [hs] at e; cases e; omega, fun b e => by
            have h2 := strB_le sq hs e
            have : b ≠ c := fun z => hql (by rw [e, z])
            omega⟩
          exact fm_two (x := c) (y := c + 1) (by omega) hc ((vp _ c1).trans (vq _ c2).symm)
  rw [forms, ends forms]
theorem pieces_uniq {A : Int → Option Int} : ∀ {ps qs : List (Pc Fm)} {s : Bd}, Til (AnR A) s none ps → Til (AnR A) s none qs → (∀ p ∈ ps, MaxP A p) → (∀ p ∈ qs, MaxP A p) → ps = qs
  | [], _, _, h, _, _, _ => h.elim
  | _, [], _, _, h, _, _ => h.elim
  | p :: ps, q :: qs, s, h, g, mp, mq => by
    have a1 := h.at 0 p rfl
    have a2 := g.at 0 q rfl
    have e := head_uniq (A := A) (a1.fst rfl) (a2.fst rfl) a1.str a2.str a1.val a2.val (mp p List.mem_cons_self) (mq q List.mem_cons_self)
    subst e
    congr 1
    cases ps with
    | nil =>
      cases qs with
      | nil => rfl
      | cons q2 qs =>
        obtain ⟨_, b, h1, _⟩ := g
        rw [h.2.1] at h1
        cases h1
    | cons p2 ps =>
      cases qs with
      | nil =>
        obtain ⟨_, b, h1, _⟩ := h
        rw [g.2.1] at h1
        cases h1
      | cons q2 qs =>
        obtain ⟨_, b, h1, _, _, h2⟩ := h
        obtain ⟨_, b', g1, _, _, g2⟩ := g
        rw [h1] at g1
        cases g1
        exact pieces_uniq h2 g2 (fun z hz => mp z (List.mem_cons_of_mem _ hz)) (fun z hz => mq z (List.mem_cons_of_mem _ hz))
/-! ### moved by an amount -/
def Fm.mov : Fm → Int → Fm
  | .row x, n => .row (x + n)
  | m, _ => m
def movP (n : Int) (p : Pc Fm) : Pc Fm := (mvd p.1 n, mvd p.2.1 n, p.2.2.mov n)
theorem mov_val (m : Fm) (n x : Int) : (m.mov n).val (x + n) = (m.val x).map (· + n) := by
  cases m with
  | none => rfl
  | row y => rfl
  | shift y => exact congrArg some (show x + n + y = x + y + n by omega)
theorem cov_mov {f l : Bd} {n x : Int} : cov (mvd f n) (mvd l n) x ↔ cov f l (x - n) := by
  unfold cov
  cases f <;> cases l <;> simp only [mvd, reduceCtorEq, Option.some.injEq, false_implies, implies_true, true_and, and_true, forall_eq'] <;> omega
theorem til_mov {A B : Int → Option Int} {n : Int} (hab : ∀ x, B (x + n) = (A x).map (· + n)) : ∀ {ps : List (Pc Fm)} {f l : Bd}, Til (AnR A) f l ps → Til (AnR B) (mvd f n) (mvd l n) (ps.map (movP n))
  | [p], f, l, h => by
    refine ⟨congrArg (mvd · n) h.1, congrArg (mvd · n) h.2.1, by rw [strB_mvd]; exact h.2.2.1, fun x hx => ?_⟩
    have h1 := h.2.2.2 (x - n) (cov_mov.mp hx)
    show (p.2.2.mov n).val x = B x
    rw [show x = x - n + n by omega, mov_val, hab, show p.2.2.val (x - n) = A (x - n) from h1]
  | p :: q :: r, f, l, h => by
    obtain ⟨h0, b, h1, h2, h3, h4⟩ := h
    refine ⟨congrArg (mvd · n) h0, b + n, congrArg (mvd · n) h1, (strB_mvd f (some b) n).trans h2, fun x hx => ?_, ?_⟩
    · have h5 := h3 (x - n) (cov_mov.mp hx)
      show (p.2.2.mov n).val x = B x
      rw [show x = x - n + n by omega, mov_val, hab, show p.2.2.val (x - n) = A (x - n) from h5]
    · have ih := til_mov hab h4
      rw [show mvd (some (b + 1)) n = some (b + n + 1) from congrArg some (by omega)] at ih
      exact ih
theorem max_mov {A B : Int → Option Int} {n : Int} (hab : ∀ x, B (x + n) = (A x).map (· + n)) {p : Pc Fm} (h : MaxP A p) : MaxP B (movP n p) := by
  intro b' hb'
  obtain ⟨b, hb, rfl⟩ := mvd_some.mp hb'
  obtain ⟨h1, h2⟩ := h b hb
  have e1 : (movP n p).2.2.val (b + n + 1) = (p.2.2.val (b + 1)).map (· + n) := by
    rw [show b + n + 1 = b + 1 + n by omega]
    exact mov_val _ _ _
  have e2 : B (b + n + 1) = (A (b + 1)).map (· + n) := by
    rw [show b + n + 1 = b + 1 + n by omega]
    exact hab _
  have inj : ∀ {o o' : Option Int}, o.map (· + n) = o'.map (· + n) → o = o' := fun {o o'} e => by
    cases o <;> cases o' <;> simp only [Option.map_some, Option.map_none, Option.some.injEq, reduceCtorEq] at e ⊢
    omega
  refine ⟨fun z => h1 (inj (e1.symm.trans (z.trans e2))), fun hf => ?_⟩
  obtain ⟨c, hc, ec⟩ := mvd_some.mp (show mvd p.1 n = some (b + n) from hf)
  have : c = b := by omega
  subst this
  rcases h2 hc with e | ⟨x, e, hne⟩
  · exact .inl (by show p.2.2.mov n = .none; rw [e]; rfl)
  · refine .inr ⟨x + n, by show p.2.2.mov n = _; rw [e]; rfl, fun z => hne ?_⟩
    rw [e2] at z
    exact inj (z.trans (by show some (x + n + 1) = some (x + 1 + n); exact congrArg some (by omega)))
/-! ### mirrored stretches -/
def negB : Bd → Bd
  | none => none
  | some a => some (-a)
def negS (e : St2) : St2 := (negB e.2, negB e.1)
theorem cov_neg {f l : Bd} {x : Int} : cov (negB l) (negB f) x ↔ cov f l (-x) := by
  unfold cov
  cases f <;> cases l <;> simp only [negB, reduceCtorEq, Option.some.injEq, false_implies, implies_true, true_and, and_true, forall_eq'] <;> omega
theorem strB_neg (f l : Bd) : strB (negB l) (negB f) = strB f l := by
  cases f <;> cases l <;> try rfl
  simp only [negB, strB]
  exact decide_eq_decide.mpr (by omega)
theorem asc_neg {es : List St2} (h : Asc 2 es) : Asc 2 (es.map negS).reverse := by
  refine ⟨fun e he => ?_, ?_⟩
  · obtain ⟨e0, h0, rfl⟩ := List.mem_map.mp (List.mem_reverse.mp he)
    show strB (negB e0.2) (negB e0.1) = true
    rw [strB_neg]
    exact h.str e0 h0
  · rw [List.pairwise_reverse, List.pairwise_map]
    refine h.rel.imp ?_
    rintro a b ⟨x, y, h1, h2, h3⟩
    refine ⟨-y, -x, ?_, ?_, by omega⟩
    · show negB b.1 = _
      rw [h2]; rfl
    · show negB a.2 = _
      rw [h1]; rfl
theorem mem_neg {es : List St2} {x : Int} : Mem (es.map negS).reverse x ↔ Mem es (-x) := by
  constructor
  · rintro ⟨e, he, hc⟩
    obtain ⟨e0, h0, rfl⟩ := List.mem_map.mp (List.mem_reverse.mp he)
    exact ⟨e0, h0, cov_neg.mp hc⟩
  · rintro ⟨e, he, hc⟩
    exact ⟨negS e, List.mem_reverse.mpr (List.mem_map.mpr ⟨e, he, rfl⟩), cov_neg.mpr hc⟩
end Pl

namespace Pl
open PySem L2
local macro_rules | `(tactic| infer_instance) => `(tactic| first
  | with_reducible assumption
  | with_reducible exact Same.refl _
  | exact Wd.gh (by with_reducible assumption)
  | exact sm2 (by with_reducible assumption) (by infer_instance)
  | exact sm2 (same_upd (by with_reducible assumption)) (by infer_instance)
  | exact sm2 (Wd.gh (by with_reducible assumption)) (by infer_instance))
local macro_rules | `(tactic| trivial) => `(tactic| first
  | with_reducible assumption
  | with_reducible exact upd_same
  | exact at_same (by with_reducible assumption) (by trivial)
  | exact at_same (same_upd (by with_reducible assumption)) (by trivial)
  | exact at_same (Wd.gh (by with_reducible assumption)) (by trivial))
local macro_rules | `(tactic| ac_rfl) => `(tactic| first
  | exact Ty.int _
  | exact Ty.str _
  | exact Ty.non
  | exact Ty.bl _
  | exact Ty.tup (by trivial)
  | exact Ty.lst (by trivial))
local macro_rules | `(tactic| contradiction) => `(tactic| first
  | exact rfl
  | exact decide_eq_true (by first | assumption | omega)
  | exact decide_eq_false (by first | assumption | omega)
  | exact dI_t (by first | assumption | omega)
  | exact dI_f (by first | assumption | omega)
  | exact dS_t (by first | assumption | decide)
  | exact dS_f (by first | assumption | decide)
  | exact nI_t (by first | assumption | omega)
  | exact nI_f (by first | assumption | omega)
  | exact nS_t (by first | assumption | decide)
  | exact nS_f (by first | assumption | decide)
  | assumption
  | exact q_none_int | exact q_none_bool | exact q_none_tuple | exact q_none_list | exact q_none_str | exact q_bool_int | exact q_bool_bool | exact q_bool_tuple | exact q_bool_list | exact q_bool_str | exact q_int_int | exact q_int_bool | exact q_int_tuple | exact q_int_list | exact q_int_str | exact q_str_int | exact q_str_bool | exact q_str_tuple | exact q_str_list | exact q_str_str | exact q_list_int | exact q_list_bool | exact q_list_tuple | exact q_list_list | exact q_list_str | exact q_tuple_int | exact q_tuple_bool | exact q_tuple_tuple | exact q_tuple_list | exact q_tuple_str
  | exact nb_t (by contradiction)
  | exact nb_f (by contradiction))
local macro_rules | `(tactic| and_intros) => `(tactic| repeat (first
  | refine ⟨_, rfl, ?_⟩
  | refine ⟨_, _, rfl, rfl, ?_⟩
  | refine ⟨rfl, ?_⟩
  | refine ⟨_, _, _, _, rfl, rfl, SqT.of (by trivial), at_ix (by decide) rfl, ?_⟩
  | refine ⟨_, _, _, _, rfl, rfl, SqL.of (by trivial), at_ix (by decide) rfl, ?_⟩
  | refine ⟨_, _, rfl, Or.inl (SqL.of (by trivial)), ?_⟩
  | refine ⟨_, _, rfl, Or.inr (SqT.of (by trivial)), ?_⟩
  | refine ⟨_, _, _, _, _, rfl, (by trivial), (by trivial), (by trivial), rfl, ?_⟩
  | refine ⟨_, _, _, _, _, rfl, ClsV.ty _, Ty.x (by ac_rfl), isI_tuple (by ac_rfl), ?_⟩
  | refine ⟨_, _, _, _, _, rfl, ClsV.ty _, Ty.x (by ac_rfl), isI_list (by ac_rfl), ?_⟩
  | refine ⟨_, _, _, _, _, rfl, ClsV.ty _, Ty.x (by ac_rfl), isI_int (by ac_rfl), ?_⟩
  | refine ⟨_, _, _, _, _, rfl, ClsV.ty _, Ty.x (by ac_rfl), isI_bool (by ac_rfl), ?_⟩
  | refine ⟨_, _, _, _, _, rfl, ClsV.ty _, Ty.x (by ac_rfl), isI_str (by ac_rfl), ?_⟩
  | refine ⟨sz (Nat.le_of_ble_eq_true rfl), ?_⟩
  | refine ⟨Or.inl ⟨rfl, _, SqL.of (by trivial)⟩, ?_⟩
  | refine ⟨_, _, rfl, SqT.of (by trivial), rfl, _, _, rfl, _, _, rfl, _, _, rfl, _, _, rfl, rfl, ?_⟩
  | refine ⟨_, _, rfl, SqT.of (by trivial), rfl, _, _, rfl, _, _, rfl, _, _, rfl, rfl, ?_⟩
  | refine ⟨_, _, rfl, SqT.of (by trivial), rfl, _, _, rfl, _, _, rfl, rfl, ?_⟩
  | refine ⟨_, _, _, _, rfl, (by with_reducible assumption : Wd _ _ _ _), (by first | decide | omega), (by first | decide | omega), ?_⟩
  | refine ⟨_, _, _, rfl, (by with_reducible assumption : Wd _ _ _ _), ?_⟩
  | refine iT (by contradiction) ?_
  | refine iF (by contradiction) ?_))
-- USE RD
def mirW (wy : Str) : Str := if wy = "at" then "since" else if wy = "since" then "at" else if wy = "before" then "after" else "before"
def Tm.mir : Tm → Tm
  | .now => .now
  | .shift m n => .shift m.mir (0 - n)
  | .look s m wy lim => .look s m.mir (mirW wy) lim
  | .either a b => .either a.mir b.mir
  | .later a b => .earlier a.mir b.mir
  | .earlier a b => .later a.mir b.mir
def Tm.ren (f : Str → Str) : Tm → Tm
  | .now => .now
  | .shift m n => .shift (m.ren f) n
  | .look s m wy lim => .look (f s) (m.ren f) wy lim
  | .either a b => .either (a.ren f) (b.ren f)
  | .later a b => .later (a.ren f) (b.ren f)
  | .earlier a b => .earlier (a.ren f) (b.ren f)
section
variable {P : Program} {w : World} {K : PySem.W.Frag} {mg : Str → Option Value} {base : Heap}
def spMinus : Sp := fun vs H Q _ => ∃ o : Bd, vs = [oV o] ∧ Q (oV (o.map (0 - ·))) H
theorem ok_law_minus (T : Txt P K mg) {k : Nat} : FnOk P w K mg base CX0 (k + 1) T.law_minus.f T.law_minus.fd ["_law_value"] spMinus := by
  refine T.law_minus.F.ok (k := k) sc_law_minus (fun vs H Q E h => ?_) (fun cdv A outer s H vs Q E hr h => ?_)
  · obtain ⟨o, rfl, _⟩ := h
    rfl
  · obtain ⟨o, rfl, q⟩ := h
    refine ⟨_, (pss_cons (ps_if (pt_cmpR op_isN (pv 0) pe_non (nomark _)) (pss_one (ps_ret pe_non)) pss_nil)
  (pss_one (ps_ret (pe_op op_sub pe_int (pv 0))))), ?_⟩
    cases o with
    | none =>
      and_intros
      exact q
    | some x =>
      and_intros
      exact q
def spMovedPiece : Sp := fun vs H Q _ => ∃ (v : V) (p : Pc Fm) (n : Int), vs = [v, .int n] ∧ PcA H v p ∧ ∀ r H', Same H H' → PcA H' (.ref r) (movP n p) → Q (.ref r) H'
theorem ok_law_moved_piece (T : Txt P K mg) {k : Nat} : FnOk P w K mg base CX0 (k + 1) T.law_moved_piece.f T.law_moved_piece.fd ["_law_piece", "_law_amount"] spMovedPiece := by
  refine T.law_moved_piece.F.ok (k := k) sc_law_moved_piece (fun vs H Q E h => ?_) (fun cdv A outer s H vs Q E hr h => ?_)
  · obtain ⟨v, p, n, rfl, _⟩ := h
    rfl
  · obtain ⟨v, p, n, rfl, ⟨t, rfl, ht⟩, q⟩ := h
    refine ⟨_, (pss_cons (ps_set (i := 2) sc_law_moved_piece.nd rfl (.inl rfl) (pe_ifExp (pt_cmpR op_isN (pe_ix ix_tup (pv 0) pe_int (fun _ _ => rfl)) pe_non (nomark _)) pe_non (pe_op op_add (pe_ix ix_tup (pv 0) pe_int (fun _ _ => rfl)) (pv 1))))
  (pss_cons (ps_set (i := 3) sc_law_moved_piece.nd rfl (.inl rfl) (pe_ifExp (pt_cmpR op_isN (pe_ix ix_tup (pv 0) pe_int (fun _ _ => rfl)) pe_non (nomark _)) pe_non (pe_op op_add (pe_ix ix_tup (pv 0) pe_int (fun _ _ => rfl)) (pv 1))))
  (pss_cons (ps_set (i := 4) sc_law_moved_piece.nd rfl (.inl rfl) (pe_ifExp (pt_cmpR op_eq (pe_ix ix_tup (pv 0) pe_int (fun _ _ => rfl)) pe_str (nomark _)) (pe_op op_add (pe_ix ix_tup (pv 0) pe_int (fun _ _ => rfl)) (pv 1)) (pe_ix ix_tup (pv 0) pe_int (fun _ _ => rfl))))
  (pss_one (ps_ret (pe_tup (pa_cons (pv 2) (pa_cons (pv 3) (pa_cons (pe_ix ix_tup (pv 0) pe_int (fun _ _ => rfl)) (pa_cons (pv 4) pa_nil)))))))))), ?_⟩
    obtain ⟨f, l, m⟩ := p
    have fin : ∀ r, H r = none → Q (.ref r) (upd H r (.tup [oV (mvd f n), oV (mvd l n), .str (m.mov n).word, oV (m.mov n).num])) := fun r hr' => q r _ (same_upd hr') ⟨r, rfl, upd_same⟩
    cases f with
    | none =>
      cases l with
      | none =>
        cases m with
        | none => and_intros; intro r hr'; exact fin r hr'
        | row x => and_intros; intro r hr'; exact fin r hr'
        | shift x => and_intros; intro r hr'; exact fin r hr'
      | some b =>
        cases m with
        | none => and_intros; intro r hr'; exact fin r hr'
        | row x => and_intros; intro r hr'; exact fin r hr'
        | shift x => and_intros; intro r hr'; exact fin r hr'
    | some a =>
      cases l with
      | none =>
        cases m with
        | none => and_intros; intro r hr'; exact fin r hr'
        | row x => and_intros; intro r hr'; exact fin r hr'
        | shift x => and_intros; intro r hr'; exact fin r hr'
      | some b =>
        cases m with
        | none => and_intros; intro r hr'; exact fin r hr'
        | row x => and_intros; intro r hr'; exact fin r hr'
        | shift x => and_intros; intro r hr'; exact fin r hr'
def spMirror (n : Nat) : Sp := fun vs H Q _ => ∃ (t : Tm) (a : Addr), vs = [.ref a] ∧ TrAt H t a ∧ t.depth ≤ n ∧ t.wf ∧ ∀ r H', Same H H' → TrAt H' t.mir r → Q (.ref r) H'
theorem ok_law_mirror (T : Txt P K mg) {k : Nat} : ∀ n, FnOk P w K mg base CX0 (k + 1 + n) T.law_mirror.f T.law_mirror.fd ["_law_tree_here"] (spMirror n)
  | 0 => T.law_mirror.F.ok (k := k) sc_law_mirror (fun vs H Q E h => by obtain ⟨t, _, _, _, h, _⟩ := h; have := depth_pos t; omega) (fun _ _ _ _ _ _ _ _ _ h => by obtain ⟨t, _, _, _, h, _⟩ := h; have := depth_pos t; omega)
  | n + 1 => by
    have G_law_mirror : FnOk P w K mg base CX0 (k + 1 + n) T.law_mirror.f T.law_mirror.fd ["_law_tree_here"] (spMirror n) := ok_law_mirror T n
    refine T.law_mirror.F.ok (k := k + 1 + n) sc_law_mirror (fun vs H Q E h => ?_) (fun cdv A outer s H vs Q E hr h => ?_)
    · obtain ⟨t, a, rfl, _⟩ := h
      rfl
    · obtain ⟨t, a, rfl, ht, hd, hw, q⟩ := h
      refine ⟨_, (pss_cons (ps_if (pt_cmpR op_eq (pe_ix ix_tup (pv 0) pe_int (fun _ _ => rfl)) pe_str (nomark _)) (pss_one (ps_ret (pv 0))) pss_nil)
  (pss_cons (ps_if (pt_cmpR op_eq (pe_ix ix_tup (pv 0) pe_int (fun _ _ => rfl)) pe_str (nomark _)) (pss_one (ps_ret (pe_tup (pa_cons pe_str (pa_cons (pe_op op_sub pe_int (pe_ix ix_tup (pv 0) pe_int (fun _ _ => rfl))) (pa_cons (pe_call G_law_mirror (hr.mono (by omega)) (by rfl) T.law_mirror.g T.law_mirror.F.kp T.law_mirror.b .nil pass0 (pa_cons (pe_ix ix_tup (pv 0) pe_int (fun _ _ => rfl)) pa_nil)) pa_nil)))))) pss_nil)
  (pss_cons (ps_if (pt_cmpR op_eq (pe_ix ix_tup (pv 0) pe_int (fun _ _ => rfl)) pe_str (nomark _)) (pss_cons (ps_set (i := 2) sc_law_mirror.nd rfl (.inl rfl) (pe_disp (pps_cons pe_str pe_str (pps_cons pe_str pe_str (pps_cons pe_str pe_str (pps_cons pe_str pe_str pps_nil)))) (by rfl) (by rfl) (fun z => by cases z) (by decide)))
  (pss_one (ps_ret (pe_tup (pa_cons pe_str (pa_cons (pe_ix ix_tup (pv 0) pe_int (fun _ _ => rfl)) (pa_cons (pe_dget (hu_of hr) (pv 2) (pe_ix ix_tup (pv 0) pe_int (fun _ _ => rfl)) (fun _ _ => rfl)) (pa_cons (pe_ix ix_tup (pv 0) pe_int (fun _ _ => rfl)) (pa_cons (pe_call G_law_mirror (hr.mono (by omega)) (by rfl) T.law_mirror.g T.law_mirror.F.kp T.law_mirror.b .nil pass0 (pa_cons (pe_ix ix_tup (pv 0) pe_int (fun _ _ => rfl)) pa_nil)) pa_nil))))))))) pss_nil)
  (pss_cons (ps_set (i := 1) sc_law_mirror.nd rfl (.inl rfl) (pe_disp (pps_cons pe_str pe_str (pps_cons pe_str pe_str (pps_cons pe_str pe_str pps_nil))) (by rfl) (by rfl) (fun z => by cases z) (by decide)))
  (pss_one (ps_ret (pe_tup (pa_cons (pe_dget (hu_of hr) (pv 1) (pe_ix ix_tup (pv 0) pe_int (fun _ _ => rfl)) (fun _ _ => rfl)) (pa_cons (pe_call G_law_mirror (hr.mono (by omega)) (by rfl) T.law_mirror.g T.law_mirror.F.kp T.law_mirror.b .nil pass0 (pa_cons (pe_ix ix_tup (pv 0) pe_int (fun _ _ => rfl)) pa_nil)) (pa_cons (pe_call G_law_mirror (hr.mono (by omega)) (by rfl) T.law_mirror.g T.law_mirror.F.kp T.law_mirror.b .nil pass0 (pa_cons (pe_ix ix_tup (pv 0) pe_int (fun _ _ => rfl)) pa_nil)) pa_nil)))))))))), ?_⟩
      cases t with
      | now =>
        have ha : H a = _ := ht
        and_intros
        exact q a H (Same.refl _) ht
      | shift m i =>
        obtain ⟨b, ha, hm⟩ := id ht
        simp only [Tm.depth] at hd
        and_intros
        refine ⟨m, b, rfl, hm, by omega, hw, fun r1 H1 s1 hr1 => ?_⟩
        and_intros
        intro r hr'
        have s2 := same_upd (o := .tup [.str "shift", .int (0 - i), .ref r1]) hr'
        exact q r _ (s1.trans s2) ⟨r1, upd_same, hr1.same s2⟩
      | look z m wy lim =>
        obtain ⟨b, ha, hm⟩ := id ht
        simp only [Tm.depth] at hd
        obtain ⟨w1, w2, w3, w4⟩ := hw
        and_intros
        intro dd hdd
        generalize elm : upd H dd (.dK []) = H1
        obtain ⟨s1, q1⟩ := nw1 elm hdd
        clear elm
        refine ⟨q1, [(.inr "at", .str "since"), (.inr "since", .str "at"), (.inr "before", .str "after"), (.inr "after", .str "before")], rfl, Nat.le_of_ble_eq_true rfl, ?_⟩
        have s2 : Same H (upd H1 dd (.dK (mergeK [] [((.inr "at" : Key), V.str "since"), (.inr "since", .str "at"), (.inr "before", .str "after"), (.inr "after", .str "before")]))) := same_put s1 hdd
        have q2 : upd H1 dd (.dK (mergeK [] [((.inr "at" : Key), V.str "since"), (.inr "since", .str "at"), (.inr "before", .str "after"), (.inr "after", .str "before")])) dd = _ := upd_same
        have hv : valV (mergeK [] [((.inr "at" : Key), V.str "since"), (.inr "since", .str "at"), (.inr "before", .str "after"), (.inr "after", .str "before")]) (.inr wy) = some (.str (mirW wy)) := by
          simp only [ways, List.mem_cons, List.not_mem_nil, or_false] at w2
          rcases w2 with rfl | rfl | rfl | rfl <;> rfl
        generalize upd H1 dd _ = H2 at s2 q2
        have ha2 := s2 _ _ ha
        refine ⟨_, rfl, a, _, _, _, rfl, rfl, SqT.of ha2, at_ix (by decide) rfl, ?_⟩
        refine ⟨_, rfl, _, rfl, a, _, _, _, rfl, rfl, SqT.of ha2, at_ix (by decide) rfl, dd, .str (mirW wy), rfl, .inl ⟨_, .inr wy, .inl q2, rfl, hv.symm⟩, ?_⟩
        refine ⟨_, rfl, a, _, _, _, rfl, rfl, SqT.of ha2, at_ix (by decide) rfl, ?_⟩
        refine ⟨_, rfl, a, _, _, _, rfl, rfl, SqT.of ha2, at_ix (by decide) rfl, ?_⟩
        refine ⟨m, b, rfl, hm.same s2, by omega, w4, fun r1 H3 s3 hr1 => ?_⟩
        refine ⟨sz (Nat.le_of_ble_eq_true rfl), fun r hr' => ?_⟩
        have s4 := same_upd (o := .tup [.str "look", .str z, .str (mirW wy), oV lim, .ref r1]) hr'
        exact q r _ ((s2.trans s3).trans s4) ⟨r1, upd_same, hr1.same s4⟩
      | either x y =>
        obtain ⟨b, d, ha, hx, hy⟩ := id ht
        simp only [Tm.depth] at hd
        and_intros
        refine fun dd hdd => ?_
        generalize elm : upd H dd (.dK []) = H1
        obtain ⟨s1, q1⟩ := nw1 elm hdd
        clear elm
        refine ⟨q1, [(.inr "either", .str "either"), (.inr "later", .str "earlier"), (.inr "earlier", .str "later")], rfl, Nat.le_of_ble_eq_true rfl, ?_⟩
        have s2 : Same H (upd H1 dd (.dK (mergeK [] [((.inr "either" : Key), V.str "either"), (.inr "later", .str "earlier"), (.inr "earlier", .str "later")]))) := same_put s1 hdd
        have q2 : upd H1 dd (.dK (mergeK [] [((.inr "either" : Key), V.str "either"), (.inr "later", .str "earlier"), (.inr "earlier", .str "later")])) dd = _ := upd_same
        have hv : valV (mergeK [] [((.inr "either" : Key), V.str "either"), (.inr "later", .str "earlier"), (.inr "earlier", .str "later")]) (.inr "either") = some (.str "either") := rfl
        generalize upd H1 dd _ = H2 at s2 q2
        have ha2 := s2 _ _ ha
        refine ⟨_, rfl, _, rfl, a, _, _, _, rfl, rfl, SqT.of ha2, at_ix (by decide) rfl, dd, .str "either", rfl, .inl ⟨_, .inr "either", .inl q2, rfl, hv.symm⟩, ?_⟩
        refine ⟨_, rfl, a, _, _, _, rfl, rfl, SqT.of ha2, at_ix (by decide) rfl, ?_⟩
        refine ⟨x, b, rfl, hx.same s2, by omega, hw.1, fun r1 H3 s3 hr1 => ?_⟩
        refine ⟨_, rfl, a, _, _, _, rfl, rfl, SqT.of (s3 _ _ ha2), at_ix (by decide) rfl, ?_⟩
        refine ⟨y, d, rfl, (hy.same s2).same s3, by omega, hw.2, fun r2 H4 s4 hr2 => ?_⟩
        refine ⟨sz (Nat.le_of_ble_eq_true rfl), fun r hr' => ?_⟩
        have s5 := same_upd (o := .tup [.str "either", .ref r1, .ref r2]) hr'
        exact q r _ (((s2.trans s3).trans s4).trans s5) ⟨r1, r2, upd_same, (hr1.same s4).same s5, hr2.same s5⟩
      | later x y =>
        obtain ⟨b, d, ha, hx, hy⟩ := id ht
        simp only [Tm.depth] at hd
        and_intros
        refine fun dd hdd => ?_
        generalize elm : upd H dd (.dK []) = H1
        obtain ⟨s1, q1⟩ := nw1 elm hdd
        clear elm
        refine ⟨q1, [(.inr "either", .str "either"), (.inr "later", .str "earlier"), (.inr "earlier", .str "later")], rfl, Nat.le_of_ble_eq_true rfl, ?_⟩
        have s2 : Same H (upd H1 dd (.dK (mergeK [] [((.inr "either" : Key), V.str "either"), (.inr "later", .str "earlier"), (.inr "earlier", .str "later")]))) := same_put s1 hdd
        have q2 : upd H1 dd (.dK (mergeK [] [((.inr "either" : Key), V.str "either"), (.inr "later", .str "earlier"), (.inr "earlier", .str "later")])) dd = _ := upd_same
        have hv : valV (mergeK [] [((.inr "either" : Key), V.str "either"), (.inr "later", .str "earlier"), (.inr "earlier", .str "later")]) (.inr "later") = some (.str "earlier") := rfl
        generalize upd H1 dd _ = H2 at s2 q2
        have ha2 := s2 _ _ ha
        refine ⟨_, rfl, _, rfl, a, _, _, _, rfl, rfl, SqT.of ha2, at_ix (by decide) rfl, dd, .str "earlier", rfl, .inl ⟨_, .inr "later", .inl q2, rfl, hv.symm⟩, ?_⟩
        refine ⟨_, rfl, a, _, _, _, rfl, rfl, SqT.of ha2, at_ix (by decide) rfl, ?_⟩
        refine ⟨x, b, rfl, hx.same s2, by omega, hw.1, fun r1 H3 s3 hr1 => ?_⟩
        refine ⟨_, rfl, a, _, _, _, rfl, rfl, SqT.of (s3 _ _ ha2), at_ix (by decide) rfl, ?_⟩
        refine ⟨y, d, rfl, (hy.same s2).same s3, by omega, hw.2, fun r2 H4 s4 hr2 => ?_⟩
        refine ⟨sz (Nat.le_of_ble_eq_true rfl), fun r hr' => ?_⟩
        have s5 := same_upd (o := .tup [.str "earlier", .ref r1, .ref r2]) hr'
        exact q r _ (((s2.trans s3).trans s4).trans s5) ⟨r1, r2, upd_same, (hr1.same s4).same s5, hr2.same s5⟩
      | earlier x y =>
        obtain ⟨b, d, ha, hx, hy⟩ := id ht
        simp only [Tm.depth] at hd
        and_intros
        refine fun dd hdd => ?_
        generalize elm : upd H dd (.dK []) = H1
        obtain ⟨s1, q1⟩ := nw1 elm hdd
        clear elm
        refine ⟨q1, [(.inr "either", .str "either"), (.inr "later", .str "earlier"), (.inr "earlier", .str "later")], rfl, Nat.le_of_ble_eq_true rfl, ?_⟩
        have s2 : Same H (upd H1 dd (.dK (mergeK [] [((.inr "either" : Key), V.str "either"), (.inr "later", .str "earlier"), (.inr "earlier", .str "later")]))) := same_put s1 hdd
        have q2 : upd H1 dd (.dK (mergeK [] [((.inr "either" : Key), V.str "either"), (.inr "later", .str "earlier"), (.inr "earlier", .str "later")])) dd = _ := upd_same
        have hv : valV (mergeK [] [((.inr "either" : Key), V.str "either"), (.inr "later", .str "earlier"), (.inr "earlier", .str "later")]) (.inr "earlier") = some (.str "later") := rfl
        generalize upd H1 dd _ = H2 at s2 q2
        have ha2 := s2 _ _ ha
        refine ⟨_, rfl, _, rfl, a, _, _, _, rfl, rfl, SqT.of ha2, at_ix (by decide) rfl, dd, .str "later", rfl, .inl ⟨_, .inr "earlier", .inl q2, rfl, hv.symm⟩, ?_⟩
        refine ⟨_, rfl, a, _, _, _, rfl, rfl, SqT.of ha2, at_ix (by decide) rfl, ?_⟩
        refine ⟨x, b, rfl, hx.same s2, by omega, hw.1, fun r1 H3 s3 hr1 => ?_⟩
        refine ⟨_, rfl, a, _, _, _, rfl, rfl, SqT.of (s3 _ _ ha2), at_ix (by decide) rfl, ?_⟩
        refine ⟨y, d, rfl, (hy.same s2).same s3, by omega, hw.2, fun r2 H4 s4 hr2 => ?_⟩
        refine ⟨sz (Nat.le_of_ble_eq_true rfl), fun r hr' => ?_⟩
        have s5 := same_upd (o := .tup [.str "later", .ref r1, .ref r2]) hr'
        exact q r _ (((s2.trans s3).trans s4).trans s5) ⟨r1, r2, upd_same, (hr1.same s4).same s5, hr2.same s5⟩
end
end Pl

namespace Pl
open PySem L2
theorem f_at (y m : Int) : fitsB y m "at" = decide (y ≤ m) := by unfold fitsB; rw [if_pos rfl]
theorem f_before (y m : Int) : fitsB y m "before" = decide (y < m) := by unfold fitsB; rw [if_neg (by decide), if_pos rfl]
theorem f_since (y m : Int) : fitsB y m "since" = decide (y ≥ m) := by unfold fitsB; rw [if_neg (by decide), if_neg (by decide), if_pos rfl]
theorem f_after (y m : Int) : fitsB y m "after" = decide (y > m) := by unfold fitsB; rw [if_neg (by decide), if_neg (by decide), if_neg (by decide)]
theorem b_at : isBack "at" = true := by decide
theorem b_before : isBack "before" = true := by decide
theorem b_since : isBack "since" = false := by decide
theorem b_after : isBack "after" = false := by decide
/-- a look carried over by a map -/
theorem lookedUp_map {l l' : List Int} (h : l.Pairwise (· ≤ ·)) (h' : l'.Pairwise (· ≤ ·)) (f : Int → Int) {m m' : Int} {w w' : Str} {lim lim' : Option Int} (hm : ∀ y, y ∈ l' ↔ ∃ x ∈ l, y = f x) (hf : ∀ x, fitsB (f x) m' w' = fitsB x m w)
    (ho : ∀ x y, (if isBack w then y ≤ x else x ≤ y) → (if isBack w' then f y ≤ f x else f x ≤ f y)) (ht : ∀ x, fitsB x m w = true → tooFar (f x) m' lim' = tooFar x m lim) : lookedUp l' m' w' lim' = (lookedUp l m w lim).map f := by
  rcases lookedUp_cases h m w lim with ⟨a1, a2⟩ | ⟨x, bx, ex⟩
  · rcases lookedUp_cases h' m' w' lim' with ⟨b1, b2⟩ | ⟨y, by_, ey⟩
    · rw [a2, b2]; rfl
    · obtain ⟨x, hx, e⟩ := (hm y).mp by_.mem
      have := a1 x hx
      rw [← hf, ← e, by_.fit] at this
      cases this
  · have bf : Best l' m' w' (f x) := ⟨(hm _).mpr ⟨x, bx.mem, rfl⟩, by rw [hf]; exact bx.fit, fun y hy hyf => by
      obtain ⟨z, hz, rfl⟩ := (hm y).mp hy
      rw [hf] at hyf
      exact ho x z (bx.top z hz hyf)⟩
    rcases lookedUp_cases h' m' w' lim' with ⟨b1, b2⟩ | ⟨y, by_, ey⟩
    · have := b1 _ bf.mem
      rw [bf.fit] at this
      cases this
    · rw [ex, ey, by_.uniq bf (fun _ => Iff.rfl), ht x bx.fit]
      cases tooFar x m lim <;> rfl
inductive Mir : Str → Str → Prop
  | a : Mir "at" "since"
  | b : Mir "since" "at"
  | c : Mir "before" "after"
  | d : Mir "after" "before"
theorem Mir.w1 {a b : Str} (h : Mir a b) : a ∈ ways := by cases h <;> decide
theorem Mir.w2 {a b : Str} (h : Mir a b) : b ∈ ways := by cases h <;> decide
theorem far_neg (x m : Int) (lim : Option Int) : tooFar (0 - x) (0 - m) lim = tooFar x m lim := by
  cases lim with
  | none => rfl
  | some l =>
    simp only [tooFar]
    congr 1
    have : (if 0 - x - (0 - m) < 0 then -(0 - x - (0 - m)) else 0 - x - (0 - m)) = (if x - m < 0 then -(x - m) else x - m) := by split <;> split <;> omega
    rw [this]
theorem look_mirror {l l' : List Int} (h : l.Pairwise (· ≤ ·)) (h' : l'.Pairwise (· ≤ ·)) (hm : ∀ y, y ∈ l' ↔ ∃ x ∈ l, y = 0 - x) {w w' : Str} (hw : Mir w w') (m : Int) (lim : Option Int) : lookedUp l' (0 - m) w' lim = (lookedUp l m w lim).map (fun x => 0 - x) := by
  refine lookedUp_map h h' (fun x => 0 - x) hm (fun x => ?_) (fun x y => ?_) (fun x _ => far_neg x m lim)
  · cases hw
    · rw [f_at, f_since]; congr 1 <;> (apply propext; omega)
    · rw [f_at, f_since]; congr 1 <;> (apply propext; omega)
    · rw [f_before, f_after]; congr 1 <;> (apply propext; omega)
    · rw [f_before, f_after]; congr 1 <;> (apply propext; omega)
  · cases hw
    · rw [b_at, b_since]; simp only [if_true, Bool.false_eq_true, if_false]; omega
    · rw [b_at, b_since]; simp only [if_true, Bool.false_eq_true, if_false]; omega
    · rw [b_before, b_after]; simp only [if_true, Bool.false_eq_true, if_false]; omega
    · rw [b_before, b_after]; simp only [if_true, Bool.false_eq_true, if_false]; omega
inductive Nxt : Str → Str → Int → Prop
  | a : Nxt "before" "at" (-1)
  | b : Nxt "after" "since" 1
theorem Nxt.w1 {a b : Str} {k : Int} (h : Nxt a b k) : a ∈ ways := by cases h <;> decide
theorem Nxt.w2 {a b : Str} {k : Int} (h : Nxt a b k) : b ∈ ways := by cases h <;> decide
def wide : Option Int → Option Int
  | none => none
  | some l => some (l + 1)
theorem look_next {l : List Int} (h : l.Pairwise (· ≤ ·)) {w w' : Str} {k : Int} (hw : Nxt w w' k) (m : Int) (lim : Option Int) : lookedUp l (m + k) w' lim = lookedUp l m w (wide lim) := by
  have z := lookedUp_map h h (fun x => x) (m := m) (m' := m + k) (w := w) (w' := w') (lim := wide lim) (lim' := lim) (fun y => ⟨fun h => ⟨y, h, rfl⟩, fun ⟨x, h, e⟩ => by rw [e]; exact h⟩) (fun x => ?_) (fun x y => ?_) (fun x hx => ?_)
  · rw [z]
    cases lookedUp l m w (wide lim) <;> rfl
  · cases hw
    · rw [f_at, f_before]; congr 1 <;> (apply propext; omega)
    · rw [f_since, f_after]; congr 1 <;> (apply propext; omega)
  · cases hw
    · rw [b_at, b_before]; exact fun h => h
    · rw [b_since, b_after]; exact fun h => h
  · cases lim with
    | none => rfl
    | some q =>
      simp only [tooFar, wide]
      congr 1
      apply propext
      cases hw
      · rw [f_before] at hx
        have := of_decide_eq_true hx
        split <;> split <;> omega
      · rw [f_after] at hx
        have := of_decide_eq_true hx
        split <;> split <;> omega
section
variable {P : Program} {w : World} {K : PySem.W.Frag} {mg : Str → Option Value} {base : Heap}
end
end Pl

namespace Pl
open PySem L2
local macro_rules | `(tactic| infer_instance) => `(tactic| first
  | with_reducible assumption
  | with_reducible exact Same.refl _
  | exact Wd.gh (by with_reducible assumption)
  | exact sm2 (by with_reducible assumption) (by infer_instance)
  | exact sm2 (same_upd (by with_reducible assumption)) (by infer_instance)
  | exact sm2 (Wd.gh (by with_reducible assumption)) (by infer_instance))
local macro_rules | `(tactic| trivial) => `(tactic| first
  | with_reducible assumption
  | with_reducible exact upd_same
  | exact at_same (by with_reducible assumption) (by trivial)
  | exact at_same (same_upd (by with_reducible assumption)) (by trivial)
  | exact at_same (Wd.gh (by with_reducible assumption)) (by trivial))
local macro_rules | `(tactic| ac_rfl) => `(tactic| first
  | exact Ty.int _
  | exact Ty.str _
  | exact Ty.non
  | exact Ty.bl _
  | exact Ty.tup (by trivial)
  | exact Ty.lst (by trivial))
local macro_rules | `(tactic| contradiction) => `(tactic| first
  | exact rfl
  | exact decide_eq_true (by first | assumption | omega)
  | exact decide_eq_false (by first | assumption | omega)
  | exact dI_t (by first | assumption | omega)
  | exact dI_f (by first | assumption | omega)
  | exact dS_t (by first | assumption | decide)
  | exact dS_f (by first | assumption | decide)
  | exact nI_t (by first | assumption | omega)
  | exact nI_f (by first | assumption | omega)
  | exact nS_t (by first | assumption | decide)
  | exact nS_f (by first | assumption | decide)
  | assumption
  | exact q_none_int | exact q_none_bool | exact q_none_tuple | exact q_none_list | exact q_none_str | exact q_bool_int | exact q_bool_bool | exact q_bool_tuple | exact q_bool_list | exact q_bool_str | exact q_int_int | exact q_int_bool | exact q_int_tuple | exact q_int_list | exact q_int_str | exact q_str_int | exact q_str_bool | exact q_str_tuple | exact q_str_list | exact q_str_str | exact q_list_int | exact q_list_bool | exact q_list_tuple | exact q_list_list | exact q_list_str | exact q_tuple_int | exact q_tuple_bool | exact q_tuple_tuple | exact q_tuple_list | exact q_tuple_str
  | exact nb_t (by contradiction)
  | exact nb_f (by contradiction))
local macro_rules | `(tactic| and_intros) => `(tactic| repeat (first
  | refine ⟨_, rfl, ?_⟩
  | refine ⟨_, _, rfl, rfl, ?_⟩
  | refine ⟨rfl, ?_⟩
  | refine ⟨_, _, _, _, rfl, rfl, SqT.of (by trivial), at_ix (by decide) rfl, ?_⟩
  | refine ⟨_, _, _, _, rfl, rfl, SqL.of (by trivial), at_ix (by decide) rfl, ?_⟩
  | refine ⟨_, _, rfl, Or.inl (SqL.of (by trivial)), ?_⟩
  | refine ⟨_, _, rfl, Or.inr (SqT.of (by trivial)), ?_⟩
  | refine ⟨_, _, _, _, _, rfl, (by trivial), (by trivial), (by trivial), rfl, ?_⟩
  | refine ⟨_, _, _, _, _, rfl, ClsV.ty _, Ty.x (by ac_rfl), isI_tuple (by ac_rfl), ?_⟩
  | refine ⟨_, _, _, _, _, rfl, ClsV.ty _, Ty.x (by ac_rfl), isI_list (by ac_rfl), ?_⟩
  | refine ⟨_, _, _, _, _, rfl, ClsV.ty _, Ty.x (by ac_rfl), isI_int (by ac_rfl), ?_⟩
  | refine ⟨_, _, _, _, _, rfl, ClsV.ty _, Ty.x (by ac_rfl), isI_bool (by ac_rfl), ?_⟩
  | refine ⟨_, _, _, _, _, rfl, ClsV.ty _, Ty.x (by ac_rfl), isI_str (by ac_rfl), ?_⟩
  | refine ⟨sz (Nat.le_of_ble_eq_true rfl), ?_⟩
  | refine ⟨Or.inl ⟨rfl, _, SqL.of (by trivial)⟩, ?_⟩
  | refine ⟨_, _, rfl, SqT.of (by trivial), rfl, _, _, rfl, _, _, rfl, _, _, rfl, _, _, rfl, rfl, ?_⟩
  | refine ⟨_, _, rfl, SqT.of (by trivial), rfl, _, _, rfl, _, _, rfl, _, _, rfl, rfl, ?_⟩
  | refine ⟨_, _, rfl, SqT.of (by trivial), rfl, _, _, rfl, _, _, rfl, rfl, ?_⟩
  | refine ⟨_, _, _, _, rfl, (by with_reducible assumption : Wd _ _ _ _), (by first | decide | omega), (by first | decide | omega), ?_⟩
  | refine ⟨_, _, _, rfl, (by with_reducible assumption : Wd _ _ _ _), ?_⟩
  | refine iT (by contradiction) ?_
  | refine iF (by contradiction) ?_))
-- USE RD
theorem mirW_mir {wy : Str} (h : wy ∈ ways) : Mir wy (mirW wy) := by
  simp only [ways, List.mem_cons, List.not_mem_nil, or_false] at h
  rcases h with rfl | rfl | rfl | rfl
  · exact .a
  · exact .c
  · exact .b
  · exact .d
/-- the mirrored term in the mirrored rows -/
theorem ans_mir {r1 r2 : Str → List Int} (h1 : ∀ s, (r1 s).Pairwise (· ≤ ·)) (h2 : ∀ s, (r2 s).Pairwise (· ≤ ·)) (hm : ∀ s y, y ∈ r2 s ↔ ∃ x ∈ r1 s, y = 0 - x) (x : Int) : ∀ t : Tm, t.wf → t.mir.ans r2 (0 - x) = (t.ans r1 x).map (0 - ·)
  | .now, _ => rfl
  | .shift m n, h => by
    simp only [Tm.mir, Tm.ans]
    rw [ans_mir h1 h2 hm x m h]
    cases m.ans r1 x with
    | none => rfl
    | some y => exact congrArg some (show 0 - y + (0 - n) = 0 - (y + n) by omega)
  | .look s m wy lim, h => by
    simp only [Tm.mir, Tm.ans]
    rw [ans_mir h1 h2 hm x m h.2.2.2]
    cases m.ans r1 x with
    | none => rfl
    | some y => exact look_mirror (h1 s) (h2 s) (hm s) (mirW_mir h.2.1) y lim
  | .either a b, h => by
    simp only [Tm.mir, Tm.ans]
    rw [ans_mir h1 h2 hm x a h.1, ans_mir h1 h2 hm x b h.2]
    cases a.ans r1 x <;> rfl
  | .later a b, h => by
    simp only [Tm.mir, Tm.ans]
    rw [ans_mir h1 h2 hm x a h.1, ans_mir h1 h2 hm x b h.2]
    cases a.ans r1 x with
    | none => rfl
    | some u =>
      cases b.ans r1 x with
      | none => rfl
      | some v => exact congrArg some (show (if 0 - v < 0 - u then 0 - v else 0 - u) = 0 - (if v > u then v else u) by split <;> split <;> omega)
  | .earlier a b, h => by
    simp only [Tm.mir, Tm.ans]
    rw [ans_mir h1 h2 hm x a h.1, ans_mir h1 h2 hm x b h.2]
    cases a.ans r1 x with
    | none => rfl
    | some u =>
      cases b.ans r1 x with
      | none => rfl
      | some v => exact congrArg some (show (if 0 - v > 0 - u then 0 - v else 0 - u) = 0 - (if v < u then v else u) by split <;> split <;> omega)
theorem look_moved {l l' : List Int} (h : l.Pairwise (· ≤ ·)) (h' : l'.Pairwise (· ≤ ·)) {n : Int} (hm : ∀ y, y ∈ l' ↔ ∃ x ∈ l, y = x + n) (w : Str) (m : Int) (lim : Option Int) : lookedUp l' (m + n) w lim = (lookedUp l m w lim).map (· + n) := by
  refine lookedUp_map h h' (fun x => x + n) hm (fun x => ?_) (fun x y => ?_) (fun x _ => ?_)
  · unfold fitsB
    split
    · exact decide_eq_decide.mpr (by omega)
    · split
      · exact decide_eq_decide.mpr (by omega)
      · split <;> exact decide_eq_decide.mpr (by omega)
  · split <;> omega
  · cases lim with
    | none => rfl
    | some l => unfold tooFar; exact decide_eq_decide.mpr (by split <;> split <;> omega)
theorem ans_mov {r1 r2 : Str → List Int} {n : Int} (h1 : ∀ s, (r1 s).Pairwise (· ≤ ·)) (h2 : ∀ s, (r2 s).Pairwise (· ≤ ·)) (hm : ∀ s y, y ∈ r2 s ↔ ∃ x ∈ r1 s, y = x + n) (x : Int) : ∀ t : Tm, t.wf → t.ans r2 (x + n) = (t.ans r1 x).map (· + n)
  | .now, _ => rfl
  | .shift m k, h => by
    simp only [Tm.ans]
    rw [ans_mov h1 h2 hm x m h]
    cases m.ans r1 x with
    | none => rfl
    | some y => exact congrArg some (show y + n + k = y + k + n by omega)
  | .look s m wy lim, h => by
    simp only [Tm.ans]
    rw [ans_mov h1 h2 hm x m h.2.2.2]
    cases m.ans r1 x with
    | none => rfl
    | some y => exact look_moved (h1 s) (h2 s) (hm s) wy y lim
  | .either a b, h => by
    simp only [Tm.ans]
    rw [ans_mov h1 h2 hm x a h.1, ans_mov h1 h2 hm x b h.2]
    cases a.ans r1 x <;> rfl
  | .later a b, h => by
    simp only [Tm.ans]
    rw [ans_mov h1 h2 hm x a h.1, ans_mov h1 h2 hm x b h.2]
    cases a.ans r1 x with
    | none => rfl
    | some u =>
      cases b.ans r1 x with
      | none => rfl
      | some v => exact congrArg some (show (if v + n > u + n then v + n else u + n) = (if v > u then v else u) + n by split <;> split <;> omega)
  | .earlier a b, h => by
    simp only [Tm.ans]
    rw [ans_mov h1 h2 hm x a h.1, ans_mov h1 h2 hm x b h.2]
    cases a.ans r1 x with
    | none => rfl
    | some u =>
      cases b.ans r1 x with
      | none => rfl
      | some v => exact congrArg some (show (if v + n < u + n then v + n else u + n) = (if v < u then v else u) + n by split <;> split <;> omega)
end Pl

namespace Pl
open PySem L2
local macro_rules | `(tactic| infer_instance) => `(tactic| first
  | with_reducible assumption
  | with_reducible exact Same.refl _
  | exact Wd.gh (by with_reducible assumption)
  | exact sm2 (by with_reducible assumption) (by infer_instance)
  | exact sm2 (same_upd (by with_reducible assumption)) (by infer_instance)
  | exact sm2 (Wd.gh (by with_reducible assumption)) (by infer_instance))
local macro_rules | `(tactic| trivial) => `(tactic| first
  | with_reducible assumption
  | with_reducible exact upd_same
  | exact at_same (by with_reducible assumption) (by trivial)
  | exact at_same (same_upd (by with_reducible assumption)) (by trivial)
  | exact at_same (Wd.gh (by with_reducible assumption)) (by trivial))
local macro_rules | `(tactic| ac_rfl) => `(tactic| first
  | exact Ty.int _
  | exact Ty.str _
  | exact Ty.non
  | exact Ty.bl _
  | exact Ty.tup (by trivial)
  | exact Ty.lst (by trivial))
local macro_rules | `(tactic| contradiction) => `(tactic| first
  | exact rfl
  | exact decide_eq_true (by first | assumption | omega)
  | exact decide_eq_false (by first | assumption | omega)
  | exact dI_t (by first | assumption | omega)
  | exact dI_f (by first | assumption | omega)
  | exact dS_t (by first | assumption | decide)
  | exact dS_f (by first | assumption | decide)
  | exact nI_t (by first | assumption | omega)
  | exact nI_f (by first | assumption | omega)
  | exact nS_t (by first | assumption | decide)
  | exact nS_f (by first | assumption | decide)
  | assumption
  | exact q_none_int | exact q_none_bool | exact q_none_tuple | exact q_none_list | exact q_none_str | exact q_bool_int | exact q_bool_bool | exact q_bool_tuple | exact q_bool_list | exact q_bool_str | exact q_int_int | exact q_int_bool | exact q_int_tuple | exact q_int_list | exact q_int_str | exact q_str_int | exact q_str_bool | exact q_str_tuple | exact q_str_list | exact q_str_str | exact q_list_int | exact q_list_bool | exact q_list_tuple | exact q_list_list | exact q_list_str | exact q_tuple_int | exact q_tuple_bool | exact q_tuple_tuple | exact q_tuple_list | exact q_tuple_str
  | exact nb_t (by contradiction)
  | exact nb_f (by contradiction))
local macro_rules | `(tactic| and_intros) => `(tactic| repeat (first
  | refine ⟨_, rfl, ?_⟩
  | refine ⟨_, _, rfl, rfl, ?_⟩
  | refine ⟨rfl, ?_⟩
  | refine ⟨_, _, _, _, rfl, rfl, SqT.of (by trivial), at_ix (by decide) rfl, ?_⟩
  | refine ⟨_, _, _, _, rfl, rfl, SqL.of (by trivial), at_ix (by decide) rfl, ?_⟩
  | refine ⟨_, _, rfl, Or.inl (SqL.of (by trivial)), ?_⟩
  | refine ⟨_, _, rfl, Or.inr (SqT.of (by trivial)), ?_⟩
  | refine ⟨_, _, _, _, _, rfl, (by trivial), (by trivial), (by trivial), rfl, ?_⟩
  | refine ⟨_, _, _, _, _, rfl, ClsV.ty _, Ty.x (by ac_rfl), isI_tuple (by ac_rfl), ?_⟩
  | refine ⟨_, _, _, _, _, rfl, ClsV.ty _, Ty.x (by ac_rfl), isI_list (by ac_rfl), ?_⟩
  | refine ⟨_, _, _, _, _, rfl, ClsV.ty _, Ty.x (by ac_rfl), isI_int (by ac_rfl), ?_⟩
  | refine ⟨_, _, _, _, _, rfl, ClsV.ty _, Ty.x (by ac_rfl), isI_bool (by ac_rfl), ?_⟩
  | refine ⟨_, _, _, _, _, rfl, ClsV.ty _, Ty.x (by ac_rfl), isI_str (by ac_rfl), ?_⟩
  | refine ⟨sz (Nat.le_of_ble_eq_true rfl), ?_⟩
  | refine ⟨Or.inl ⟨rfl, _, SqL.of (by trivial)⟩, ?_⟩
  | refine ⟨_, _, rfl, SqT.of (by trivial), rfl, _, _, rfl, _, _, rfl, _, _, rfl, _, _, rfl, rfl, ?_⟩
  | refine ⟨_, _, rfl, SqT.of (by trivial), rfl, _, _, rfl, _, _, rfl, _, _, rfl, rfl, ?_⟩
  | refine ⟨_, _, rfl, SqT.of (by trivial), rfl, _, _, rfl, _, _, rfl, rfl, ?_⟩
  | refine ⟨_, _, _, _, rfl, (by with_reducible assumption : Wd _ _ _ _), (by first | decide | omega), (by first | decide | omega), ?_⟩
  | refine ⟨_, _, _, rfl, (by with_reducible assumption : Wd _ _ _ _), ?_⟩
  | refine iT (by contradiction) ?_
  | refine iF (by contradiction) ?_))
-- USE RD
section
variable {P : Program} {w : World} {K : PySem.W.Frag} {mg : Str → Option Value} {base : Heap}
def spRenamed (n : Nat) : Sp := fun vs H Q _ => ∃ (t : Tm) (a d : Addr) (kvs : List (Key × V)) (f : Str → Str) (zs : List Str), vs = [.ref a, .ref d] ∧ TrAt H t a ∧ H d = some (.dK kvs) ∧ (∀ z ∈ zs, valV kvs (.inr z) = some (.str (f z))) ∧ t.over zs ∧ t.depth ≤ n ∧ ∀ r H', Same H H' → TrAt H' (t.ren f) r → Q (.ref r) H'
theorem ok_law_renamed (T : Txt P K mg) {k : Nat} : ∀ n, FnOk P w K mg base CX0 (k + 1 + n) T.law_renamed.f T.law_renamed.fd ["_law_tree_here", "_law_words"] (spRenamed n)
  | 0 => T.law_renamed.F.ok (k := k) sc_law_renamed (fun vs H Q E h => by obtain ⟨t, _, _, _, _, _, _, _, _, _, _, h, _⟩ := h; have := depth_pos t; omega) (fun _ _ _ _ _ _ _ _ _ h => by obtain ⟨t, _, _, _, _, _, _, _, _, _, _, h, _⟩ := h; have := depth_pos t; omega)
  | n + 1 => by
    have G_law_renamed : FnOk P w K mg base CX0 (k + 1 + n) T.law_renamed.f T.law_renamed.fd ["_law_tree_here", "_law_words"] (spRenamed n) := ok_law_renamed T n
    refine T.law_renamed.F.ok (k := k + 1 + n) sc_law_renamed (fun vs H Q E h => ?_) (fun cdv A outer s H vs Q E hr h => ?_)
    · obtain ⟨t, a, d, kvs, f, zs, rfl, _⟩ := h
      rfl
    · obtain ⟨t, a, d, kvs, f, zs, rfl, ht, hdd, hv, hov, hd, q⟩ := h
      refine ⟨_, (pss_cons (ps_if (pt_cmpR op_eq (pe_ix ix_tup (pv 0) pe_int (fun _ _ => rfl)) pe_str (nomark _)) (pss_one (ps_ret (pv 0))) pss_nil)
  (pss_cons (ps_if (pt_cmpR op_eq (pe_ix ix_tup (pv 0) pe_int (fun _ _ => rfl)) pe_str (nomark _)) (pss_one (ps_ret (pe_tup (pa_cons pe_str (pa_cons (pe_ix ix_tup (pv 0) pe_int (fun _ _ => rfl)) (pa_cons (pe_call G_law_renamed (hr.mono (by omega)) (by rfl) T.law_renamed.g T.law_renamed.F.kp T.law_renamed.b .nil pass0 (pa_cons (pe_ix ix_tup (pv 0) pe_int (fun _ _ => rfl)) (pa_cons (pv 1) pa_nil))) pa_nil)))))) pss_nil)
  (pss_cons (ps_if (pt_cmpR op_eq (pe_ix ix_tup (pv 0) pe_int (fun _ _ => rfl)) pe_str (nomark _)) (pss_one (ps_ret (pe_tup (pa_cons pe_str (pa_cons (pe_dget (hu_of hr) (pv 1) (pe_ix ix_tup (pv 0) pe_int (fun _ _ => rfl)) (fun _ _ => rfl)) (pa_cons (pe_ix ix_tup (pv 0) pe_int (fun _ _ => rfl)) (pa_cons (pe_ix ix_tup (pv 0) pe_int (fun _ _ => rfl)) (pa_cons (pe_call G_law_renamed (hr.mono (by omega)) (by rfl) T.law_renamed.g T.law_renamed.F.kp T.law_renamed.b .nil pass0 (pa_cons (pe_ix ix_tup (pv 0) pe_int (fun _ _ => rfl)) (pa_cons (pv 1) pa_nil))) pa_nil)))))))) pss_nil)
  (pss_one (ps_ret (pe_tup (pa_cons (pe_ix ix_tup (pv 0) pe_int (fun _ _ => rfl)) (pa_cons (pe_call G_law_renamed (hr.mono (by omega)) (by rfl) T.law_renamed.g T.law_renamed.F.kp T.law_renamed.b .nil pass0 (pa_cons (pe_ix ix_tup (pv 0) pe_int (fun _ _ => rfl)) (pa_cons (pv 1) pa_nil))) (pa_cons (pe_call G_law_renamed (hr.mono (by omega)) (by rfl) T.law_renamed.g T.law_renamed.F.kp T.law_renamed.b .nil pass0 (pa_cons (pe_ix ix_tup (pv 0) pe_int (fun _ _ => rfl)) (pa_cons (pv 1) pa_nil))) pa_nil))))))))), ?_⟩
      cases t with
      | now =>
        have ha : H a = _ := ht
        and_intros
        exact q a H (Same.refl _) ht
      | shift m i =>
        obtain ⟨b, ha, hm⟩ := id ht
        simp only [Tm.depth] at hd
        and_intros
        refine ⟨m, b, d, kvs, f, zs, rfl, hm, hdd, hv, hov, by omega, fun r1 H1 s1 hr1 => ?_⟩
        and_intros
        intro r hr'
        have s2 := same_upd (o := .tup [.str "shift", .int i, .ref r1]) hr'
        exact q r _ (s1.trans s2) ⟨r1, upd_same, hr1.same s2⟩
      | look z m wy lim =>
        obtain ⟨b, ha, hm⟩ := id ht
        simp only [Tm.depth] at hd
        and_intros
        refine ⟨d, .str (f z), rfl, .inl ⟨_, .inr z, .inl hdd, rfl, (hv z hov.1).symm⟩, ?_⟩
        and_intros
        refine ⟨m, b, d, kvs, f, zs, rfl, hm, hdd, hv, hov.2, by omega, fun r1 H1 s1 hr1 => ?_⟩
        and_intros
        intro r hr'
        have s2 := same_upd (o := .tup [.str "look", .str (f z), .str wy, oV lim, .ref r1]) hr'
        exact q r _ (s1.trans s2) ⟨r1, upd_same, hr1.same s2⟩
      | either x y =>
        obtain ⟨b, e, ha, hx, hy⟩ := id ht
        simp only [Tm.depth] at hd
        and_intros
        refine ⟨x, b, d, kvs, f, zs, rfl, hx, hdd, hv, hov.1, by omega, fun r1 H1 s1 hr1 => ?_⟩
        have ha1 := s1 _ _ ha
        and_intros
        refine ⟨y, e, d, kvs, f, zs, rfl, hy.same s1, s1 _ _ hdd, hv, hov.2, by omega, fun r2 H2 s2 hr2 => ?_⟩
        and_intros
        intro r hr'
        have s3 := same_upd (o := .tup [.str "either", .ref r1, .ref r2]) hr'
        exact q r _ ((s1.trans s2).trans s3) ⟨r1, r2, upd_same, (hr1.same s2).same s3, hr2.same s3⟩
      | later x y =>
        obtain ⟨b, e, ha, hx, hy⟩ := id ht
        simp only [Tm.depth] at hd
        and_intros
        refine ⟨x, b, d, kvs, f, zs, rfl, hx, hdd, hv, hov.1, by omega, fun r1 H1 s1 hr1 => ?_⟩
        have ha1 := s1 _ _ ha
        and_intros
        refine ⟨y, e, d, kvs, f, zs, rfl, hy.same s1, s1 _ _ hdd, hv, hov.2, by omega, fun r2 H2 s2 hr2 => ?_⟩
        and_intros
        intro r hr'
        have s3 := same_upd (o := .tup [.str "later", .ref r1, .ref r2]) hr'
        exact q r _ ((s1.trans s2).trans s3) ⟨r1, r2, upd_same, (hr1.same s2).same s3, hr2.same s3⟩
      | earlier x y =>
        obtain ⟨b, e, ha, hx, hy⟩ := id ht
        simp only [Tm.depth] at hd
        and_intros
        refine ⟨x, b, d, kvs, f, zs, rfl, hx, hdd, hv, hov.1, by omega, fun r1 H1 s1 hr1 => ?_⟩
        have ha1 := s1 _ _ ha
        and_intros
        refine ⟨y, e, d, kvs, f, zs, rfl, hy.same s1, s1 _ _ hdd, hv, hov.2, by omega, fun r2 H2 s2 hr2 => ?_⟩
        and_intros
        intro r hr'
        have s3 := same_upd (o := .tup [.str "earlier", .ref r1, .ref r2]) hr'
        exact q r _ ((s1.trans s2).trans s3) ⟨r1, r2, upd_same, (hr1.same s2).same s3, hr2.same s3⟩
end
end Pl

namespace Pl
open PySem L2
theorem sum_le {rs : Rws} {m : Nat} (h : ∀ r ∈ rs, r.2.length ≤ m) : (rs.map fun r => r.2.length).sum ≤ rs.length * m := by
  induction rs with
  | nil => simp
  | cons r rs ih =>
    have h1 := h r (by simp)
    have h2 := ih fun q hq => h q (by simp [hq])
    simp only [List.map_cons, List.sum_cons, List.length_cons]
    rw [Nat.succ_mul]
    omega
theorem rows_good {rs : Rws} {zs : List Str} {m : Nat} (hk : rs.map (·.1) = zs) (hg : ∀ z ∈ zs, goodName z) (hrs : ∀ r ∈ rs, r.2.Nodup ∧ r.2.length ≤ m) (hl : zs.length ≤ 4) (hm : m ≤ 50) : goodRows rs := by
  refine ⟨fun r hr0 => ⟨hg r.1 (by rw [← hk]; exact List.mem_map.mpr ⟨r, hr0, rfl⟩), (hrs r hr0).1, by have := (hrs r hr0).2; omega⟩, ?_⟩
  have h1 := sum_le fun r hr0 => (hrs r hr0).2
  have h2 : rs.length ≤ 4 := by
    have := congrArg List.length hk
    rw [List.length_map] at this
    omega
  have h3 : rs.length * m ≤ 4 * 50 := Nat.mul_le_mul h2 hm
  omega
end Pl

namespace Pl
open PySem L2
local macro_rules | `(tactic| infer_instance) => `(tactic| first
  | with_reducible assumption
  | with_reducible exact Same.refl _
  | exact Wd.gh (by with_reducible assumption)
  | exact sm2 (by with_reducible assumption) (by infer_instance)
  | exact sm2 (same_upd (by with_reducible assumption)) (by infer_instance)
  | exact sm2 (Wd.gh (by with_reducible assumption)) (by infer_instance))
local macro_rules | `(tactic| trivial) => `(tactic| first
  | with_reducible assumption
  | with_reducible exact upd_same
  | exact at_same (by with_reducible assumption) (by trivial)
  | exact at_same (same_upd (by with_reducible assumption)) (by trivial)
  | exact at_same (Wd.gh (by with_reducible assumption)) (by trivial))
local macro_rules | `(tactic| ac_rfl) => `(tactic| first
  | exact Ty.int _
  | exact Ty.str _
  | exact Ty.non
  | exact Ty.bl _
  | exact Ty.tup (by trivial)
  | exact Ty.lst (by trivial))
local macro_rules | `(tactic| contradiction) => `(tactic| first
  | exact rfl
  | exact decide_eq_true (by first | assumption | omega)
  | exact decide_eq_false (by first | assumption | omega)
  | exact dI_t (by first | assumption | omega)
  | exact dI_f (by first | assumption | omega)
  | exact dS_t (by first | assumption | decide)
  | exact dS_f (by first | assumption | decide)
  | exact nI_t (by first | assumption | omega)
  | exact nI_f (by first | assumption | omega)
  | exact nS_t (by first | assumption | decide)
  | exact nS_f (by first | assumption | decide)
  | assumption
  | exact q_none_int | exact q_none_bool | exact q_none_tuple | exact q_none_list | exact q_none_str | exact q_bool_int | exact q_bool_bool | exact q_bool_tuple | exact q_bool_list | exact q_bool_str | exact q_int_int | exact q_int_bool | exact q_int_tuple | exact q_int_list | exact q_int_str | exact q_str_int | exact q_str_bool | exact q_str_tuple | exact q_str_list | exact q_str_str | exact q_list_int | exact q_list_bool | exact q_list_tuple | exact q_list_list | exact q_list_str | exact q_tuple_int | exact q_tuple_bool | exact q_tuple_tuple | exact q_tuple_list | exact q_tuple_str
  | exact nb_t (by contradiction)
  | exact nb_f (by contradiction))
local macro_rules | `(tactic| and_intros) => `(tactic| repeat (first
  | refine ⟨_, rfl, ?_⟩
  | refine ⟨_, _, rfl, rfl, ?_⟩
  | refine ⟨rfl, ?_⟩
  | refine ⟨_, _, _, _, rfl, rfl, SqT.of (by trivial), at_ix (by decide) rfl, ?_⟩
  | refine ⟨_, _, _, _, rfl, rfl, SqL.of (by trivial), at_ix (by decide) rfl, ?_⟩
  | refine ⟨_, _, rfl, Or.inl (SqL.of (by trivial)), ?_⟩
  | refine ⟨_, _, rfl, Or.inr (SqT.of (by trivial)), ?_⟩
  | refine ⟨_, _, _, _, _, rfl, (by trivial), (by trivial), (by trivial), rfl, ?_⟩
  | refine ⟨_, _, _, _, _, rfl, ClsV.ty _, Ty.x (by ac_rfl), isI_tuple (by ac_rfl), ?_⟩
  | refine ⟨_, _, _, _, _, rfl, ClsV.ty _, Ty.x (by ac_rfl), isI_list (by ac_rfl), ?_⟩
  | refine ⟨_, _, _, _, _, rfl, ClsV.ty _, Ty.x (by ac_rfl), isI_int (by ac_rfl), ?_⟩
  | refine ⟨_, _, _, _, _, rfl, ClsV.ty _, Ty.x (by ac_rfl), isI_bool (by ac_rfl), ?_⟩
  | refine ⟨_, _, _, _, _, rfl, ClsV.ty _, Ty.x (by ac_rfl), isI_str (by ac_rfl), ?_⟩
  | refine ⟨sz (Nat.le_of_ble_eq_true rfl), ?_⟩
  | refine ⟨Or.inl ⟨rfl, _, SqL.of (by trivial)⟩, ?_⟩
  | refine ⟨_, _, rfl, SqT.of (by trivial), rfl, _, _, rfl, _, _, rfl, _, _, rfl, _, _, rfl, rfl, ?_⟩
  | refine ⟨_, _, rfl, SqT.of (by trivial), rfl, _, _, rfl, _, _, rfl, _, _, rfl, rfl, ?_⟩
  | refine ⟨_, _, rfl, SqT.of (by trivial), rfl, _, _, rfl, _, _, rfl, rfl, ?_⟩
  | refine ⟨_, _, _, _, rfl, (by with_reducible assumption : Wd _ _ _ _), (by first | decide | omega), (by first | decide | omega), ?_⟩
  | refine ⟨_, _, _, rfl, (by with_reducible assumption : Wd _ _ _ _), ?_⟩
  | refine iT (by contradiction) ?_
  | refine iF (by contradiction) ?_))
-- USE RD
def Tm.joins : Tm → Nat
  | .now => 0
  | .shift m _ => m.joins
  | .look _ m _ _ => m.joins
  | .either a b => a.joins + b.joins + 1
  | .later a b => a.joins + b.joins + 1
  | .earlier a b => a.joins + b.joins + 1
theorem joins_parts : ∀ t : Tm, 2 * t.joins + 1 + t.looks ≤ t.parts
  | .now => by simp [Tm.joins, Tm.looks, Tm.parts]
  | .shift m _ => by have := joins_parts m; simp only [Tm.joins, Tm.looks, Tm.parts]; omega
  | .look _ m _ _ => by have := joins_parts m; simp only [Tm.joins, Tm.looks, Tm.parts]; omega
  | .either a b => by have := joins_parts a; have := joins_parts b; simp only [Tm.joins, Tm.looks, Tm.parts]; omega
  | .later a b => by have := joins_parts a; have := joins_parts b; simp only [Tm.joins, Tm.looks, Tm.parts]; omega
  | .earlier a b => by have := joins_parts a; have := joins_parts b; simp only [Tm.joins, Tm.looks, Tm.parts]; omega
theorem pow_join (r a b x y : Nat) : (r ^ a * 2 ^ x) * (r ^ b * 2 ^ y) * 2 = r ^ (a + b) * 2 ^ (x + y + 1) := by
  rw [Nat.pow_add, Nat.pow_succ, Nat.pow_add]
  ac_nf
theorem pcb_eq (r : Nat) : ∀ t : Tm, t.pcb r = (2 * r + 1) ^ t.looks * 2 ^ t.joins
  | .now => by simp [Tm.pcb, Tm.looks, Tm.joins]
  | .shift m _ => pcb_eq r m
  | .look _ m _ _ => by
    show m.pcb r * (2 * r + 1) = (2 * r + 1) ^ (m.looks + 1) * 2 ^ m.joins
    rw [pcb_eq r m, Nat.pow_succ]
    ac_nf
  | .either a b => by
    show a.pcb r * b.pcb r * 2 = _
    rw [pcb_eq r a, pcb_eq r b]
    exact pow_join _ _ _ _ _
  | .later a b => by
    show a.pcb r * b.pcb r * 2 = _
    rw [pcb_eq r a, pcb_eq r b]
    exact pow_join _ _ _ _ _
  | .earlier a b => by
    show a.pcb r * b.pcb r * 2 = _
    rw [pcb_eq r a, pcb_eq r b]
    exact pow_join _ _ _ _ _
theorem pcb_le {t : Tm} {r L J n : Nat} (h1 : t.looks ≤ L) (h2 : t.joins ≤ J) (h : (2 * r + 1) ^ L * 2 ^ J ≤ n) : t.pcb r ≤ n := by
  rw [pcb_eq]
  exact Nat.le_trans (Nat.mul_le_mul (Nat.pow_le_pow_right (by omega) h1) (Nat.pow_le_pow_right (by omega) h2)) h
theorem rows_none {rs : Rws} {s : Str} (h : ∀ r ∈ rs, r.1 ≠ s) : rowsOf (rs.flatMap prsOf) s = [] := by
  cases e : rowsOf (rs.flatMap prsOf) s with
  | nil => rfl
  | cons x xs =>
    have hx : x ∈ rowsOf (rs.flatMap prsOf) s := by rw [e]; exact List.mem_cons_self
    obtain ⟨r, h1, h2, _⟩ := mem_prs.mp (mem_rowsOf.mp hx)
    exact absurd h2 (h r h1)
theorem rowsOf_app (a b : List (Str × Int)) (s : Str) : rowsOf (a ++ b) s = rowsOf a s ++ rowsOf b s := by
  unfold rowsOf
  rw [List.filter_append, List.map_append]
theorem rows_le1 {m : Nat} {s : Str} : ∀ {rs : Rws}, (rs.map (·.1)).Nodup → (∀ r ∈ rs, r.2.length ≤ m) → (rowsOf (rs.flatMap prsOf) s).length ≤ m
  | [], _, _ => Nat.zero_le _
  | r :: rs, hn, h => by
    rw [List.map_cons, List.nodup_cons] at hn
    rw [List.flatMap_cons, rowsOf_app, List.length_append]
    have h1 : (rowsOf (prsOf r) s).length ≤ r.2.length := by
      unfold rowsOf prsOf
      rw [List.length_map]
      refine Nat.le_trans (List.length_filter_le _ _) ?_
      rw [List.length_map]
      exact Nat.le_refl _
    by_cases e : r.1 = s
    · rw [rows_none (rs := rs) fun q hq z => hn.1 (List.mem_map.mpr ⟨q, hq, z.trans e.symm⟩)]
      exact Nat.le_trans h1 (h r List.mem_cons_self)
    · have : rowsOf (prsOf r) s = [] := by
        unfold rowsOf prsOf
        rw [List.map_eq_nil_iff, List.filter_eq_nil_iff]
        intro p hp
        obtain ⟨y, _, rfl⟩ := List.mem_map.mp hp
        simpa using e
      rw [this]
      rw [List.length_nil, Nat.zero_add]
      exact rows_le1 hn.2 fun q hq => h q (List.mem_cons_of_mem _ hq)
theorem rows_le {m : Nat} {rs : Rws} (hn : (rs.map (·.1)).Nodup) (h : ∀ r ∈ rs, r.2.length ≤ m) (s : Str) : (rowsOf (wRows rs) s).length ≤ m := by
  unfold wRows
  rw [(rowsOf_perm (sortP_perm _) s).length_eq]
  exact rows_le1 hn h
theorem wRows_pw (rs : Rws) : (wRows rs).Pairwise leP := sortP_pw _
end Pl

namespace Pl
open PySem L2
local macro_rules | `(tactic| infer_instance) => `(tactic| first
  | with_reducible assumption
  | with_reducible exact Same.refl _
  | exact Wd.gh (by with_reducible assumption)
  | exact sm2 (by with_reducible assumption) (by infer_instance)
  | exact sm2 (same_upd (by with_reducible assumption)) (by infer_instance)
  | exact sm2 (Wd.gh (by with_reducible assumption)) (by infer_instance))
local macro_rules | `(tactic| trivial) => `(tactic| first
  | with_reducible assumption
  | with_reducible exact upd_same
  | exact at_same (by with_reducible assumption) (by trivial)
  | exact at_same (same_upd (by with_reducible assumption)) (by trivial)
  | exact at_same (Wd.gh (by with_reducible assumption)) (by trivial))
local macro_rules | `(tactic| ac_rfl) => `(tactic| first
  | exact Ty.int _
  | exact Ty.str _
  | exact Ty.non
  | exact Ty.bl _
  | exact Ty.tup (by trivial)
  | exact Ty.lst (by trivial))
local macro_rules | `(tactic| contradiction) => `(tactic| first
  | exact rfl
  | exact decide_eq_true (by first | assumption | omega)
  | exact decide_eq_false (by first | assumption | omega)
  | exact dI_t (by first | assumption | omega)
  | exact dI_f (by first | assumption | omega)
  | exact dS_t (by first | assumption | decide)
  | exact dS_f (by first | assumption | decide)
  | exact nI_t (by first | assumption | omega)
  | exact nI_f (by first | assumption | omega)
  | exact nS_t (by first | assumption | decide)
  | exact nS_f (by first | assumption | decide)
  | assumption
  | exact q_none_int | exact q_none_bool | exact q_none_tuple | exact q_none_list | exact q_none_str | exact q_bool_int | exact q_bool_bool | exact q_bool_tuple | exact q_bool_list | exact q_bool_str | exact q_int_int | exact q_int_bool | exact q_int_tuple | exact q_int_list | exact q_int_str | exact q_str_int | exact q_str_bool | exact q_str_tuple | exact q_str_list | exact q_str_str | exact q_list_int | exact q_list_bool | exact q_list_tuple | exact q_list_list | exact q_list_str | exact q_tuple_int | exact q_tuple_bool | exact q_tuple_tuple | exact q_tuple_list | exact q_tuple_str
  | exact nb_t (by contradiction)
  | exact nb_f (by contradiction))
local macro_rules | `(tactic| and_intros) => `(tactic| repeat (first
  | refine ⟨_, rfl, ?_⟩
  | refine ⟨_, _, rfl, rfl, ?_⟩
  | refine ⟨rfl, ?_⟩
  | refine ⟨_, _, _, _, rfl, rfl, SqT.of (by trivial), at_ix (by decide) rfl, ?_⟩
  | refine ⟨_, _, _, _, rfl, rfl, SqL.of (by trivial), at_ix (by decide) rfl, ?_⟩
  | refine ⟨_, _, rfl, Or.inl (SqL.of (by trivial)), ?_⟩
  | refine ⟨_, _, rfl, Or.inr (SqT.of (by trivial)), ?_⟩
  | refine ⟨_, _, _, _, _, rfl, (by trivial), (by trivial), (by trivial), rfl, ?_⟩
  | refine ⟨_, _, _, _, _, rfl, ClsV.ty _, Ty.x (by ac_rfl), isI_tuple (by ac_rfl), ?_⟩
  | refine ⟨_, _, _, _, _, rfl, ClsV.ty _, Ty.x (by ac_rfl), isI_list (by ac_rfl), ?_⟩
  | refine ⟨_, _, _, _, _, rfl, ClsV.ty _, Ty.x (by ac_rfl), isI_int (by ac_rfl), ?_⟩
  | refine ⟨_, _, _, _, _, rfl, ClsV.ty _, Ty.x (by ac_rfl), isI_bool (by ac_rfl), ?_⟩
  | refine ⟨_, _, _, _, _, rfl, ClsV.ty _, Ty.x (by ac_rfl), isI_str (by ac_rfl), ?_⟩
  | refine ⟨sz (Nat.le_of_ble_eq_true rfl), ?_⟩
  | refine ⟨Or.inl ⟨rfl, _, SqL.of (by trivial)⟩, ?_⟩
  | refine ⟨_, _, rfl, SqT.of (by trivial), rfl, _, _, rfl, _, _, rfl, _, _, rfl, _, _, rfl, rfl, ?_⟩
  | refine ⟨_, _, rfl, SqT.of (by trivial), rfl, _, _, rfl, _, _, rfl, _, _, rfl, rfl, ?_⟩
  | refine ⟨_, _, rfl, SqT.of (by trivial), rfl, _, _, rfl, _, _, rfl, rfl, ?_⟩
  | refine ⟨_, _, _, _, rfl, (by with_reducible assumption : Wd _ _ _ _), (by first | decide | omega), (by first | decide | omega), ?_⟩
  | refine ⟨_, _, _, rfl, (by with_reducible assumption : Wd _ _ _ _), ?_⟩
  | refine iT (by contradiction) ?_
  | refine iF (by contradiction) ?_))
-- USE RD
def covB (f l : Bd) (x : Int) : Bool := (match f with | none => true | some a => decide (a ≤ x)) && (match l with | none => true | some b => decide (x ≤ b))
theorem covB_iff {f l : Bd} {x : Int} : covB f l x = true ↔ cov f l x := by
  unfold covB cov
  cases f <;> cases l <;> simp
/-- entries that begin with a first and a last moment -/
def EdL (H : Hp) (a : Addr) (es : List (Bd × Bd)) : Prop := ∃ vs, H a = some (.lst vs) ∧ Lw (fun v (e : Bd × Bd) => ∃ t rest, v = .ref t ∧ H t = some (.tup (oV e.1 :: oV e.2 :: rest))) vs es
theorem EdL.same {H H' : Hp} {a : Addr} {es : List (Bd × Bd)} (h : EdL H a es) (s : Same H H') : EdL H' a es := by
  obtain ⟨vs, h1, h2⟩ := h
  exact ⟨vs, s _ _ h1, h2.mono fun v e ⟨t, rest, e1, e2⟩ => ⟨t, rest, e1, s _ _ e2⟩⟩
theorem Lw.map {α β : Type} {E : V → α → Prop} {E' : V → β → Prop} {g : α → β} (m : ∀ v a, E v a → E' v (g a)) : ∀ {vs : List V} {as : List α}, Lw E vs as → Lw E' vs (as.map g)
  | [], [], _ => trivial
  | v :: vs, a :: as, h => ⟨m _ _ h.1, h.2.map m⟩
theorem PcL.ed {H : Hp} {a : Addr} {ps : List (Pc Fm)} (h : PcL H a ps) : EdL H a (ps.map fun p => (p.1, p.2.1)) := by
  obtain ⟨vs, h1, h2⟩ := h
  exact ⟨vs, h1, h2.map fun v p ⟨t, e1, e2⟩ => ⟨t, _, e1, e2⟩⟩
theorem cut_ints (ns : List Int) (lo hi : Option Int) : ∃ ms : List Int, cutV (ns.map V.int) lo hi = ms.map V.int ∧ ms.length ≤ ns.length := by
  refine ⟨(ns.drop (HT.sIx (ns.map V.int).length 0 lo)).take (HT.sIx (ns.map V.int).length (ns.map V.int).length hi - HT.sIx (ns.map V.int).length 0 lo), ?_, ?_⟩
  · unfold cutV
    rw [List.map_take, List.map_drop]
  · rw [List.length_take, List.length_drop]
    omega
end Pl

namespace Pl
open PySem L2
local macro_rules | `(tactic| infer_instance) => `(tactic| first
  | with_reducible assumption
  | with_reducible exact Same.refl _
  | exact Wd.gh (by with_reducible assumption)
  | exact sm2 (by with_reducible assumption) (by infer_instance)
  | exact sm2 (same_upd (by with_reducible assumption)) (by infer_instance)
  | exact sm2 (Wd.gh (by with_reducible assumption)) (by infer_instance))
local macro_rules | `(tactic| trivial) => `(tactic| first
  | with_reducible assumption
  | with_reducible exact upd_same
  | exact at_same (by with_reducible assumption) (by trivial)
  | exact at_same (same_upd (by with_reducible assumption)) (by trivial)
  | exact at_same (Wd.gh (by with_reducible assumption)) (by trivial))
local macro_rules | `(tactic| ac_rfl) => `(tactic| first
  | exact Ty.int _
  | exact Ty.str _
  | exact Ty.non
  | exact Ty.bl _
  | exact Ty.tup (by trivial)
  | exact Ty.lst (by trivial))
local macro_rules | `(tactic| contradiction) => `(tactic| first
  | exact rfl
  | exact decide_eq_true (by first | assumption | omega)
  | exact decide_eq_false (by first | assumption | omega)
  | exact dI_t (by first | assumption | omega)
  | exact dI_f (by first | assumption | omega)
  | exact dS_t (by first | assumption | decide)
  | exact dS_f (by first | assumption | decide)
  | exact nI_t (by first | assumption | omega)
  | exact nI_f (by first | assumption | omega)
  | exact nS_t (by first | assumption | decide)
  | exact nS_f (by first | assumption | decide)
  | assumption
  | exact q_none_int | exact q_none_bool | exact q_none_tuple | exact q_none_list | exact q_none_str | exact q_bool_int | exact q_bool_bool | exact q_bool_tuple | exact q_bool_list | exact q_bool_str | exact q_int_int | exact q_int_bool | exact q_int_tuple | exact q_int_list | exact q_int_str | exact q_str_int | exact q_str_bool | exact q_str_tuple | exact q_str_list | exact q_str_str | exact q_list_int | exact q_list_bool | exact q_list_tuple | exact q_list_list | exact q_list_str | exact q_tuple_int | exact q_tuple_bool | exact q_tuple_tuple | exact q_tuple_list | exact q_tuple_str
  | exact nb_t (by contradiction)
  | exact nb_f (by contradiction))
local macro_rules | `(tactic| and_intros) => `(tactic| repeat (first
  | refine ⟨_, rfl, ?_⟩
  | refine ⟨_, _, rfl, rfl, ?_⟩
  | refine ⟨rfl, ?_⟩
  | refine ⟨_, _, _, _, rfl, rfl, SqT.of (by trivial), at_ix (by decide) rfl, ?_⟩
  | refine ⟨_, _, _, _, rfl, rfl, SqL.of (by trivial), at_ix (by decide) rfl, ?_⟩
  | refine ⟨_, _, rfl, Or.inl (SqL.of (by trivial)), ?_⟩
  | refine ⟨_, _, rfl, Or.inr (SqT.of (by trivial)), ?_⟩
  | refine ⟨_, _, _, _, _, rfl, (by trivial), (by trivial), (by trivial), rfl, ?_⟩
  | refine ⟨_, _, _, _, _, rfl, ClsV.ty _, Ty.x (by ac_rfl), isI_tuple (by ac_rfl), ?_⟩
  | refine ⟨_, _, _, _, _, rfl, ClsV.ty _, Ty.x (by ac_rfl), isI_list (by ac_rfl), ?_⟩
  | refine ⟨_, _, _, _, _, rfl, ClsV.ty _, Ty.x (by ac_rfl), isI_int (by ac_rfl), ?_⟩
  | refine ⟨_, _, _, _, _, rfl, ClsV.ty _, Ty.x (by ac_rfl), isI_bool (by ac_rfl), ?_⟩
  | refine ⟨_, _, _, _, _, rfl, ClsV.ty _, Ty.x (by ac_rfl), isI_str (by ac_rfl), ?_⟩
  | refine ⟨sz (Nat.le_of_ble_eq_true rfl), ?_⟩
  | refine ⟨Or.inl ⟨rfl, _, SqL.of (by trivial)⟩, ?_⟩
  | refine ⟨_, _, rfl, SqT.of (by trivial), rfl, _, _, rfl, _, _, rfl, _, _, rfl, _, _, rfl, rfl, ?_⟩
  | refine ⟨_, _, rfl, SqT.of (by trivial), rfl, _, _, rfl, _, _, rfl, _, _, rfl, rfl, ?_⟩
  | refine ⟨_, _, rfl, SqT.of (by trivial), rfl, _, _, rfl, _, _, rfl, rfl, ?_⟩
  | refine ⟨_, _, _, _, rfl, (by with_reducible assumption : Wd _ _ _ _), (by first | decide | omega), (by first | decide | omega), ?_⟩
  | refine ⟨_, _, _, rfl, (by with_reducible assumption : Wd _ _ _ _), ?_⟩
  | refine iT (by contradiction) ?_
  | refine iF (by contradiction) ?_))
-- USE RD
def StA (H : Hp) (v : V) (e : St2) : Prop := ∃ t, v = .ref t ∧ H t = some (.tup [oV e.1, oV e.2])
theorem StA.kt {H H' : Hp} (k : KT H H') (v : V) (e : St2) (h : StA H v e) : StA H' v e := by
  obtain ⟨t, e1, h⟩ := h
  exact ⟨t, e1, k _ _ h⟩
def StL (H : Hp) (a : Addr) (es : List St2) : Prop := ∃ vs, H a = some (.lst vs) ∧ Lw (StA H) vs es
theorem StL.same {H H' : Hp} {a : Addr} {es : List St2} (h : StL H a es) (s : Same H H') : StL H' a es := by
  obtain ⟨vs, h1, h2⟩ := h
  exact ⟨vs, s _ _ h1, h2.mono (StA.kt (KT.of s))⟩
theorem StL.ed {H : Hp} {a : Addr} {es : List St2} (h : StL H a es) : EdL H a es := by
  obtain ⟨vs, h1, h2⟩ := h
  exact ⟨vs, h1, h2.mono fun v p ⟨t, e1, e2⟩ => ⟨t, _, e1, e2⟩⟩
theorem StL.push {H H1 : Hp} {l t : Addr} {ws : List V} {acc : List St2} {e : St2} (h : Lw (StA H) ws acc) (hl : H l = some (.lst ws)) (s : Same H H1) (ht : H1 t = some (.tup [oV e.1, oV e.2])) : Lw (StA (upd H1 l (.lst (ws ++ [.ref t])))) (ws ++ [.ref t]) (acc ++ [e]) := by
  have k : KT H (upd H1 l (.lst (ws ++ [.ref t]))) := (KT.of s).trans (KT.put (s _ _ hl))
  exact (h.mono (StA.kt k)).app ⟨⟨t, rfl, KT.put (s _ _ hl) _ _ ht⟩, trivial⟩
theorem Lw.snoc {α : Type} {E : V → α → Prop} : ∀ {vs : List V} {as : List α} {a : α}, Lw E vs (as ++ [a]) → ∃ ws w, vs = ws ++ [w] ∧ Lw E ws as ∧ E w a
  | [v], [], a, h => ⟨[], v, rfl, trivial, h.1⟩
  | v :: v2 :: vs, [], a, h => h.2.elim
  | v :: vs, b :: as, a, h => by
    obtain ⟨ws, w, e, h1, h2⟩ := Lw.snoc h.2
    exact ⟨v :: ws, w, by rw [e]; rfl, ⟨h.1, h1⟩, h2⟩
  | [], [], a, h => h.elim
  | [], _ :: _, a, h => h.elim
section
variable {P : Program} {w : World} {K : PySem.W.Frag} {mg : Str → Option Value} {base : Heap}
def spUnequal : Sp := fun vs H Q _ => ∃ (a b : Addr) (f l : Bd) (x y : Fm), vs = [oV f, oV l, .ref a, .ref b] ∧ FmA H a x ∧ FmA H b y ∧ ∀ r H', Same H H' → H r = none → StL H' r (unqP (f, l, (x, y))) → Q (.ref r) H'
theorem ok_unequal (T : Txt P K mg) {k : Nat} : FnOk P w K mg base CX0 (k + 2) T.unequal.f T.unequal.fd ["first", "last", "form", "other"] spUnequal := by
  have G_meeting : FnOk P w K mg base CX0 (k + 1) T.meeting.f T.meeting.fd ["form", "other"] spMeeting := ok_meeting T
  have G_greater_first : FnOk P w K mg base CX0 (k + 1) T.greater_first.f T.greater_first.fd ["one", "other"] (spBd2 grF) := ok_greater_first T
  have G_lesser_last : FnOk P w K mg base CX0 (k + 1) T.lesser_last.f T.lesser_last.fd ["one", "other"] (spBd2 lsL) := ok_lesser_last T
  have G_is_stretch : FnOk P w K mg base CX0 (k + 1) T.is_stretch.f T.is_stretch.fd ["first", "last"] spStr := ok_is_stretch T
  refine T.unequal.F.ok (k := k + 1) sc_unequal (fun vs H Q E h => ?_) (fun cdv A outer s H vs Q E hr h => ?_)
  · obtain ⟨a, b, f, l, x, y, rfl, _⟩ := h
    rfl
  · obtain ⟨a, b, f, l, x, y, rfl, ha, hb, q⟩ := h
    refine ⟨_, (pss_cons (ps_set (i := 4) sc_unequal.nd rfl (.inl rfl) (pe_call G_meeting (hr.mono (by omega)) (by rfl) T.meeting.g T.meeting.F.kp T.meeting.b .nil pass0 (pa_cons (pv 2) (pa_cons (pv 3) pa_nil))))
  (pss_cons (ps_if (pt_cmpR op_isN (pv 4) pe_non (nomark _)) (pss_one (ps_ret (pe_ifExp (pt_cmpR (op_eqD hr.units) (pv 2) (pv 3) (nomark _)) (pe_lst pa_nil) (pe_lst (pa_cons (pe_tup (pa_cons (pv 0) (pa_cons (pv 1) pa_nil))) pa_nil))))) pss_nil)
  (pss_cons (ps_set (i := 5) sc_unequal.nd rfl (.inl rfl) (pe_lst pa_nil))
  (pss_cons (ps_for PassesOwn.never rfl (pi_list (pe_lst (pa_cons (pe_tup (pa_cons (pv 0) (pa_cons (pe_call G_lesser_last (hr.mono (by omega)) (by rfl) T.lesser_last.g T.lesser_last.F.kp T.lesser_last.b .nil pass0 (pa_cons (pv 1) (pa_cons (pe_op op_sub (pv 4) pe_int) pa_nil))) pa_nil))) (pa_cons (pe_tup (pa_cons (pe_call G_greater_first (hr.mono (by omega)) (by rfl) T.greater_first.g T.greater_first.F.kp T.greater_first.b .nil pass0 (pa_cons (pv 0) (pa_cons (pe_op op_add (pv 4) pe_int) pa_nil))) (pa_cons (pv 1) pa_nil))) pa_nil)))) (pg_tup rfl (pgs_cons (pg_name (i := 6) sc_unequal.nd rfl (.inl rfl)) (pgs_cons (pg_name (i := 7) sc_unequal.nd rfl (.inl rfl)) pgs_nil)))
   (pss_one (ps_if (pt_val (pe_call G_is_stretch (hr.mono (by omega)) (by rfl) T.is_stretch.g T.is_stretch.F.kp T.is_stretch.b .nil pass0 (pa_cons (pv 6) (pa_cons (pv 7) pa_nil)))) (pss_one (ps_expr (pe_bm PySem.F.plainAttrs_list PySem.F.slot_list_append PySem.F.type_list_append mt_append (pv 5) (pa_cons (pe_tup (pa_cons (pv 6) (pa_cons (pv 7) pa_nil))) pa_nil)))) pss_nil)))
  (pss_one (ps_ret (pv 5))))))), ?_⟩
    refine ⟨_, rfl, _, rfl, a, b, x, y, rfl, ha, hb, ?_⟩
    unfold unqP at q
    dsimp only at q
    cases hm : meetF x y with
    | none =>
      rw [hm] at q
      dsimp only at q
      refine ⟨_, rfl, rfl, _, rfl, iT rfl ?_⟩
      refine ⟨_, rfl, _, rfl, fmD x, fmD y, fm_dp ha, fm_dp hb, fm_shaped _, fm_shaped _, _, rfl, ?_⟩
      rw [fm_eqv]
      by_cases e : x = y
      · rw [if_pos e] at q
        refine iT (decide_eq_true e) ?_
        and_intros
        intro r hr'
        exact q r _ (same_upd hr') hr' ⟨[], upd_same, trivial⟩
      · rw [if_neg e] at q
        refine iF (decide_eq_false e) ?_
        and_intros
        intro p hp
        and_intros
        intro r hr'
        have s1 := same_upd (o := .tup [oV f, oV l]) hp
        have s2 := same_upd (o := .lst [.ref p]) hr'
        exact q r _ (s1.trans s2) (s1.free hr') ⟨_, upd_same, ⟨p, rfl, s2 _ _ upd_same⟩, trivial⟩
    | some m =>
      rw [hm] at q
      dsimp only at q
      and_intros
      intro r hr0
      generalize el : upd H r _ = H1
      obtain ⟨s1, q1⟩ := nw1 el hr0
      clear el
      and_intros
      refine ⟨l, some (m - 1), rfl, ?_⟩
      and_intros
      intro t1 ht1
      generalize el : upd _ t1 _ = H2
      obtain ⟨s2, q2⟩ := nw1 el ht1
      clear el
      and_intros
      refine ⟨f, some (m + 1), rfl, ?_⟩
      and_intros
      intro t2 ht2
      generalize el : upd _ t2 _ = H3
      obtain ⟨s3, q3⟩ := nw1 el ht2
      clear el
      and_intros
      intro t3 ht3
      generalize el : upd _ t3 _ = H4
      obtain ⟨s4, q4⟩ := nw1 el ht3
      clear el
      refine ⟨t3, rfl, ⟨_, SqL.of q4⟩, ?_⟩
      have s14 := (s2.trans s3).trans s4
      have nr3 : t3 ≠ r := fun e => by rw [e, s3 _ _ (s2 _ _ q1)] at ht3; cases ht3
      generalize hes : [(f, lsL l (some (m - 1))), (grF f (some (m + 1)), l)] = es at q
      have hel : ∀ (i : Nat) v, [V.ref t1, V.ref t2][i]? = some v → ∃ (t : Addr) (e : St2), v = .ref t ∧ H4 t = some (.tup [oV e.1, oV e.2]) ∧ es[i]? = some e ∧ i < 2 := fun i v hv => by
        match i, hv with
        | 0, hv => cases hv; exact ⟨t1, _, rfl, s4 _ _ (s3 _ _ q2), by rw [← hes]; rfl, by decide⟩
        | 1, hv => cases hv; exact ⟨t2, _, rfl, s4 _ _ q3, by rw [← hes]; rfl, by decide⟩
      refine for_list (K := K) (a := t3) (xs := [.ref t1, .ref t2]) (fun i σ H' => ∃ (z : List (Option V)) (ws : List V), z.length = 2 ∧ σ = [some (oV f), some (oV l), some (.ref a), some (.ref b), some (.int m), some (.ref r)] ++ z ∧ But r H4 H' ∧ Same H H' ∧ H' r = some (.lst ws) ∧ Lw (StA H') ws ((es.take i).filter fun e => strB e.1 e.2) ∧ ws.length ≤ i) ⟨_, [], rfl, rfl, fun _ _ _ h => h, s1.trans s14, s14 _ _ q1, trivial, Nat.zero_le _⟩ (fun i σ H' _ pp => ?_) (fun i v σ H5 hx pp => ?_) (fun σ H5 pp => ?_)
      · obtain ⟨_, _, _, _, b5, _⟩ := pp
        exact SqL.of (b5 _ _ nr3 q4)
      · obtain ⟨z, ws, hz, rfl, b5, s5, hr5, hw5, hwl⟩ := pp
        match z, hz with
        | [z1, z2], _ =>
        obtain ⟨t, e, rfl, ht, he, hi⟩ := hel i v hx
        have ht5 := b5 t _ (fun z => by rw [z, s14 _ _ q1] at ht; cases ht) ht
        have htk : (es.take (i + 1)).filter (fun e => strB e.1 e.2) = (es.take i).filter (fun e => strB e.1 e.2) ++ (if strB e.1 e.2 then [e] else []) := by
          rw [List.take_add_one, he, List.filter_append]
          congr 1
          show List.filter _ [e] = _
          rw [List.filter_cons]
          rfl
        and_intros
        refine ⟨e.1, e.2, rfl, ?_⟩
        cases hs : strB e.1 e.2 with
        | false =>
          rw [hs, if_neg Bool.false_ne_true, List.append_nil] at htk
          and_intros
          exact ⟨[_, _], ws, rfl, rfl, b5, s5, hr5, by rw [htk]; exact hw5, by omega⟩
        | true =>
          rw [hs, if_pos rfl] at htk
          and_intros
          intro p hp
          have s6 := same_upd (o := .tup [oV e.1, oV e.2]) hp
          refine ⟨r, ws, _, rfl, rfl, s6 _ _ hr5, szm (by omega), [_, _], _, rfl, rfl, (b5.trans (But.of s6)).put, same_put (s5.trans s6) hr0, upd_same, ?_, by rw [List.length_append, List.length_singleton]; omega⟩
          rw [htk]
          exact StL.push hw5 hr5 s6 upd_same
      · obtain ⟨z, ws, hz, rfl, b5, s5, hr5, hw5, hwl⟩ := pp
        match z, hz with
        | [z1, z2], _ =>
        have : es.take [V.ref t1, V.ref t2].length = es := by rw [← hes]; rfl
        rw [this] at hw5
        and_intros
        exact q r H5 s5 hr0 ⟨ws, hr5, hw5⟩
end
end Pl

namespace Pl
open PySem L2
local macro_rules | `(tactic| infer_instance) => `(tactic| first
  | with_reducible assumption
  | with_reducible exact Same.refl _
  | exact Wd.gh (by with_reducible assumption)
  | exact sm2 (by with_reducible assumption) (by infer_instance)
  | exact sm2 (same_upd (by with_reducible assumption)) (by infer_instance)
  | exact sm2 (Wd.gh (by with_reducible assumption)) (by infer_instance))
local macro_rules | `(tactic| trivial) => `(tactic| first
  | with_reducible assumption
  | with_reducible exact upd_same
  | exact at_same (by with_reducible assumption) (by trivial)
  | exact at_same (same_upd (by with_reducible assumption)) (by trivial)
  | exact at_same (Wd.gh (by with_reducible assumption)) (by trivial))
local macro_rules | `(tactic| ac_rfl) => `(tactic| first
  | exact Ty.int _
  | exact Ty.str _
  | exact Ty.non
  | exact Ty.bl _
  | exact Ty.tup (by trivial)
  | exact Ty.lst (by trivial))
local macro_rules | `(tactic| contradiction) => `(tactic| first
  | exact rfl
  | exact decide_eq_true (by first | assumption | omega)
  | exact decide_eq_false (by first | assumption | omega)
  | exact dI_t (by first | assumption | omega)
  | exact dI_f (by first | assumption | omega)
  | exact dS_t (by first | assumption | decide)
  | exact dS_f (by first | assumption | decide)
  | exact nI_t (by first | assumption | omega)
  | exact nI_f (by first | assumption | omega)
  | exact nS_t (by first | assumption | decide)
  | exact nS_f (by first | assumption | decide)
  | assumption
  | exact q_none_int | exact q_none_bool | exact q_none_tuple | exact q_none_list | exact q_none_str | exact q_bool_int | exact q_bool_bool | exact q_bool_tuple | exact q_bool_list | exact q_bool_str | exact q_int_int | exact q_int_bool | exact q_int_tuple | exact q_int_list | exact q_int_str | exact q_str_int | exact q_str_bool | exact q_str_tuple | exact q_str_list | exact q_str_str | exact q_list_int | exact q_list_bool | exact q_list_tuple | exact q_list_list | exact q_list_str | exact q_tuple_int | exact q_tuple_bool | exact q_tuple_tuple | exact q_tuple_list | exact q_tuple_str
  | exact nb_t (by contradiction)
  | exact nb_f (by contradiction))
local macro_rules | `(tactic| and_intros) => `(tactic| repeat (first
  | refine ⟨_, rfl, ?_⟩
  | refine ⟨_, _, rfl, rfl, ?_⟩
  | refine ⟨rfl, ?_⟩
  | refine ⟨_, _, _, _, rfl, rfl, SqT.of (by trivial), at_ix (by decide) rfl, ?_⟩
  | refine ⟨_, _, _, _, rfl, rfl, SqL.of (by trivial), at_ix (by decide) rfl, ?_⟩
  | refine ⟨_, _, rfl, Or.inl (SqL.of (by trivial)), ?_⟩
  | refine ⟨_, _, rfl, Or.inr (SqT.of (by trivial)), ?_⟩
  | refine ⟨_, _, _, _, _, rfl, (by trivial), (by trivial), (by trivial), rfl, ?_⟩
  | refine ⟨_, _, _, _, _, rfl, ClsV.ty _, Ty.x (by ac_rfl), isI_tuple (by ac_rfl), ?_⟩
  | refine ⟨_, _, _, _, _, rfl, ClsV.ty _, Ty.x (by ac_rfl), isI_list (by ac_rfl), ?_⟩
  | refine ⟨_, _, _, _, _, rfl, ClsV.ty _, Ty.x (by ac_rfl), isI_int (by ac_rfl), ?_⟩
  | refine ⟨_, _, _, _, _, rfl, ClsV.ty _, Ty.x (by ac_rfl), isI_bool (by ac_rfl), ?_⟩
  | refine ⟨_, _, _, _, _, rfl, ClsV.ty _, Ty.x (by ac_rfl), isI_str (by ac_rfl), ?_⟩
  | refine ⟨sz (Nat.le_of_ble_eq_true rfl), ?_⟩
  | refine ⟨Or.inl ⟨rfl, _, SqL.of (by trivial)⟩, ?_⟩
  | refine ⟨_, _, rfl, SqT.of (by trivial), rfl, _, _, rfl, _, _, rfl, _, _, rfl, _, _, rfl, rfl, ?_⟩
  | refine ⟨_, _, rfl, SqT.of (by trivial), rfl, _, _, rfl, _, _, rfl, _, _, rfl, rfl, ?_⟩
  | refine ⟨_, _, rfl, SqT.of (by trivial), rfl, _, _, rfl, _, _, rfl, rfl, ?_⟩
  | refine ⟨_, _, _, _, rfl, (by with_reducible assumption : Wd _ _ _ _), (by first | decide | omega), (by first | decide | omega), ?_⟩
  | refine ⟨_, _, _, rfl, (by with_reducible assumption : Wd _ _ _ _), ?_⟩
  | refine iT (by contradiction) ?_
  | refine iF (by contradiction) ?_))
-- USE RD
def difT (t : Tm) (r1 r2 : Str → List Int) : List St2 := diffP (overP (t.raw r1) (t.raw r2))
theorem dif_ok {t : Tm} {r1 r2 : Str → List Int} (h1 : ∀ s, (r1 s).Pairwise (· ≤ ·)) (h2 : ∀ s, (r2 s).Pairwise (· ≤ ·)) (hw : t.wf) : Asc 2 (difT t r1 r2) ∧ ∀ x, Mem (difT t r1 r2) x ↔ t.ans r1 x ≠ t.ans r2 x := diff_ok (over_til (raw_til h1 t hw) (raw_til h2 t hw))
theorem dif_len {t : Tm} {r1 r2 : Str → List Int} {m : Nat} (h1 : ∀ s, (r1 s).Pairwise (· ≤ ·)) (h2 : ∀ s, (r2 s).Pairwise (· ≤ ·)) (hw : t.wf) (m1 : ∀ s, (r1 s).length ≤ m) (m2 : ∀ s, (r2 s).length ≤ m) : (difT t r1 r2).length ≤ t.pcb m * 4 := by
  have a1 := diff_len (overP (t.raw r1) (t.raw r2))
  have a2 := over_add (raw_til h1 t hw) (raw_til h2 t hw)
  have a3 := raw_len m1 t
  have a4 := raw_len m2 t
  unfold difT
  omega
theorem dif_sym {t : Tm} {r1 r2 : Str → List Int} (h1 : ∀ s, (r1 s).Pairwise (· ≤ ·)) (h2 : ∀ s, (r2 s).Pairwise (· ≤ ·)) (hw : t.wf) : difT t r1 r2 = difT t r2 r1 := asc_uniq (dif_ok h1 h2 hw).1 (dif_ok h2 h1 hw).1 fun x => by
  rw [(dif_ok h1 h2 hw).2, (dif_ok h2 h1 hw).2]
  exact ⟨fun h e => h e.symm, fun h e => h e.symm⟩
theorem dif_self {t : Tm} {r : Str → List Int} (h : ∀ s, (r s).Pairwise (· ≤ ·)) (hw : t.wf) : difT t r r = [] := asc_uniq (dif_ok h h hw).1 Asc.nil fun x => by
  rw [(dif_ok h h hw).2]
  exact ⟨fun z => absurd rfl z, fun ⟨_, z, _⟩ => nomatch z⟩
theorem unq_take {os : List (Pc (Fm × Fm))} {i : Nat} {p : Pc (Fm × Fm)} (h : os[i]? = some p) : (os.take (i + 1)).flatMap unqP = (os.take i).flatMap unqP ++ unqP p := by
  rw [List.take_add_one, h, List.flatMap_append]
  congr 1
  exact List.flatMap_singleton _ _
section
variable {P : Program} {w : World} {K : PySem.W.Frag} {mg : Str → Option Value} {base : Heap}
def spDiff (T : Txt P K mg) : Sp := fun vs H Q _ => ∃ (t : Tm) (a wa la wb lb : Addr) (ps qs : List (Str × Int)) (m : Nat), vs = [.ref a, .ref wa, .ref wb] ∧ TmAt T.ca H t a ∧ t.depth ≤ 12 ∧ t.wf ∧ WoA T H wa la ps ∧ WoA T H wb lb qs ∧ ps.Pairwise leP ∧ qs.Pairwise leP ∧ ps.length ≤ 1000 ∧ qs.length ≤ 1000 ∧ (∀ s, (rowsOf ps s).length ≤ m) ∧ (∀ s, (rowsOf qs s).length ≤ m) ∧ t.pcb m ≤ 100000 ∧
  ∀ r H', Same H H' → H r = none → StL H' r (difT t (rowsOf ps) (rowsOf qs)) → Q (.ref r) H'
theorem ok_differences (T : Txt P K mg) {k : Nat} : FnOk P w K mg base CX0 (k + 30) T.differences.f T.differences.fd ["term", "world", "other"] (spDiff T) := by
  have G_check_term : FnOk P w K mg base CX0 (k + 1) T.check_term.f T.check_term.fd ["value"] (spCkTerm T) := ok_check_term T
  have G_check_world : FnOk P w K mg base CX0 (k + 1) T.check_world.f T.check_world.fd ["value"] (spCkWorld T) := ok_check_world T
  have G_raw_pieces : FnOk P w K mg base CX0 (k + 5 + 2 * 12) T.raw_pieces.f T.raw_pieces.fd ["term", "world"] (spRaw T 12) := ok_raw_pieces T 12
  have G_overlaid : FnOk P w K mg base CX0 (k + 3) T.overlaid.f T.overlaid.fd ["rows", "others"] spOver := ok_overlaid T
  have G_unequal : FnOk P w K mg base CX0 (k + 2) T.unequal.f T.unequal.fd ["first", "last", "form", "other"] spUnequal := ok_unequal T
  refine T.differences.F.ok (k := k + 29) sc_differences (fun vs H Q E h => ?_) (fun cdv A outer s H vs Q E hr h => ?_)
  · obtain ⟨t, a, wa, la, wb, lb, ps, qs, m, rfl, _⟩ := h
    rfl
  · obtain ⟨t, a, wa, la, wb, lb, ps, qs, m, rfl, ht, hd, hw, ho1, ho2, hs1, hs2, hl1, hl2, hm1, hm2, hpc, q⟩ := h
    refine ⟨_, (pss_cons (ps_expr (pe_call G_check_term (hr.mono (by omega)) (by rfl) T.check_term.g T.check_term.F.kp T.check_term.b .nil pass0 (pa_cons (pv 0) pa_nil)))
  (pss_cons (ps_expr (pe_call G_check_world (hr.mono (by omega)) (by rfl) T.check_world.g T.check_world.F.kp T.check_world.b .nil pass0 (pa_cons (pv 1) pa_nil)))
  (pss_cons (ps_expr (pe_call G_check_world (hr.mono (by omega)) (by rfl) T.check_world.g T.check_world.F.kp T.check_world.b .nil pass0 (pa_cons (pv 2) pa_nil)))
  (pss_cons (ps_set (i := 3) sc_differences.nd rfl (.inl rfl) (pe_lst pa_nil))
  (pss_cons (ps_for PassesOwn.never rfl (pi_list (pe_call G_overlaid (hr.mono (by omega)) (by rfl) T.overlaid.g T.overlaid.F.kp T.overlaid.b .nil pass0 (pa_cons (pe_call G_raw_pieces (hr.mono (by omega)) (by rfl) T.raw_pieces.g T.raw_pieces.F.kp T.raw_pieces.b .nil pass0 (pa_cons (pv 0) (pa_cons (pv 1) pa_nil))) (pa_cons (pe_call G_raw_pieces (hr.mono (by omega)) (by rfl) T.raw_pieces.g T.raw_pieces.F.kp T.raw_pieces.b .nil pass0 (pa_cons (pv 0) (pa_cons (pv 2) pa_nil))) pa_nil)))) (pg_tup rfl (pgs_cons (pg_name (i := 4) sc_differences.nd rfl (.inl rfl)) (pgs_cons (pg_name (i := 5) sc_differences.nd rfl (.inl rfl)) (pgs_cons (pg_name (i := 6) sc_differences.nd rfl (.inl rfl)) (pgs_cons (pg_name (i := 7) sc_differences.nd rfl (.inl rfl)) pgs_nil)))))
   (pss_one (ps_for PassesOwn.never rfl (pi_list (pe_call G_unequal (hr.mono (by omega)) (by rfl) T.unequal.g T.unequal.F.kp T.unequal.b .nil pass0 (pa_cons (pv 4) (pa_cons (pv 5) (pa_cons (pv 6) (pa_cons (pv 7) pa_nil)))))) (pg_tup rfl (pgs_cons (pg_name (i := 8) sc_differences.nd rfl (.inl rfl)) (pgs_cons (pg_name (i := 9) sc_differences.nd rfl (.inl rfl)) pgs_nil)))
   (pss_one (ps_if (PW.pt (pw_and (pt_cmpR op_gt (pe_callB call_len_seq (by rfl) T.n_len PySem.boot_len (pa_cons (pv 3) pa_nil)) pe_int (nomark _)) (pw_and (pt_cmpR op_notN (pe_ix ix_tup (pe_ix ix_list (pv 3) (pe_un un_neg pe_int) (fun _ _ => rfl)) pe_int (fun _ _ => rfl)) pe_non (nomark _)) (pw_and1 (pt_cmpR op_eq (pe_op op_add (pe_ix ix_tup (pe_ix ix_list (pv 3) (pe_un un_neg pe_int) (fun _ _ => rfl)) pe_int (fun _ _ => rfl)) pe_int) (pv 8) (nomark _)))))) (pss_one (ps_asg (pe_tup (pa_cons (pe_ix ix_tup (pe_ix ix_list (pv 3) (pe_un un_neg pe_int) (fun _ _ => rfl)) pe_int (fun _ _ => rfl)) (pa_cons (pv 9) pa_nil))) (pg_sub (pv 3) (pe_un un_neg pe_int) set_list))) (pss_one (ps_expr (pe_bm PySem.F.plainAttrs_list PySem.F.slot_list_append PySem.F.type_list_append mt_append (pv 3) (pa_cons (pe_tup (pa_cons (pv 8) (pa_cons (pv 9) pa_nil))) pa_nil)))))))))
  (pss_one (ps_ret (pv 3)))))))), ?_⟩
    have a2 := over_add (raw_til (fun s => rowsOf_sorted hs1 s) t hw) (raw_til (fun s => rowsOf_sorted hs2 s) t hw)
    have a3 := raw_len hm1 t
    have a4 := raw_len hm2 t
    have hpc6 : t.pcb m ≤ 1000000 := Nat.le_trans hpc (by decide)
    refine ⟨_, rfl, t, a, rfl, ht, _, rfl, wa, rfl, ho1.is, _, rfl, wb, rfl, ho2.is, ?_⟩
    and_intros
    intro r hr0
    generalize el : upd H r _ = H1
    obtain ⟨s1, q1⟩ := nw1 el hr0
    clear el
    refine ⟨_, rfl, _, rfl, t, a, wa, la, ps, m, rfl, ht.same s1, hd, hw, ho1.same s1, hl1, hm1, hpc6, fun r1 H2 s2 hr10 hr1 => ?_⟩
    have s12 := s1.trans s2
    refine ⟨_, rfl, _, rfl, t, a, wb, lb, qs, m, rfl, ht.same s12, hd, hw, ho2.same s12, hl2, hm2, hpc6, fun r2 H3 s3 hr20 hr2 => ?_⟩
    refine ⟨r1, r2, _, _, rfl, hr1.same s3, hr2, by omega, by omega, by omega, fun r3 H4 s4 hr30 ⟨us, hr3, hu⟩ => ?_⟩
    have s24 := (s2.trans s3).trans s4
    have s14 := s1.trans s24
    have q4 := s24 _ _ q1
    have ne3 : r3 ≠ r := fun e => by rw [e, s3 _ _ (s2 _ _ q1)] at hr30; cases hr30
    unfold difT diffP at q
    generalize overP (t.raw (rowsOf ps)) (t.raw (rowsOf qs)) = os at q hu a2
    have hul := hu.len
    refine ⟨r3, rfl, ⟨_, SqL.of hr3⟩, ?_⟩
    refine for_list (K := K) (a := r3) (xs := us) (fun i σ H' => ∃ (z : List (Option V)) (ws : List V), z.length = 6 ∧ σ = [some (.ref a), some (.ref wa), some (.ref wb), some (.ref r)] ++ z ∧ But r H4 H' ∧ Same H H' ∧ H' r = some (.lst ws) ∧ Lw (StA H') ws (((os.take i).flatMap unqP).foldl joinP [])) ⟨_, [], rfl, rfl, fun _ _ _ h => h, s14, q4, trivial⟩ (fun i σ H' _ pp => ?_) (fun i v σ H5 hx pp => ?_) (fun σ H5 pp => ?_)
    · obtain ⟨_, _, _, _, b5, _⟩ := pp
      exact SqL.of (b5 _ _ ne3 hr3)
    · obtain ⟨z, ws, hz, rfl, b5, s5, hr5, hw5⟩ := pp
      match z, hz with
      | [z1, z2, z3, z4, z5, z6], _ =>
      obtain ⟨p, hp, t1, fa, fb, rfl, ht1, hfa, hfb⟩ := hu.get i _ hx
      have hi : i < os.length := (List.getElem?_eq_some_iff.mp hp).1
      have ht5 := b5 t1 _ (fun e => by rw [e, q4] at ht1; cases ht1) ht1
      have hfa5 : FmA H5 fa _ := b5 fa _ (fun e => by unfold FmA at hfa; rw [e, q4] at hfa; cases hfa) hfa
      have hfb5 : FmA H5 fb _ := b5 fb _ (fun e => by unfold FmA at hfb; rw [e, q4] at hfb; cases hfb) hfb
      obtain ⟨pf, pl, m1, m2⟩ := p
      and_intros
      refine ⟨fa, fb, pf, pl, m1, m2, rfl, hfa5, hfb5, fun c H6 s6 hc0 ⟨cs, hc6, hcs⟩ => ?_⟩
      refine ⟨c, rfl, ⟨_, SqL.of hc6⟩, ?_⟩
      have hr6 := s6 _ _ hr5
      have nec : c ≠ r := fun e => by rw [e, hr5] at hc0; cases hc0
      have hul1 := unq_len (pf, pl, (m1, m2))
      have huf : ((os.take i).flatMap unqP).length ≤ i * 2 := by
        have := flatMap_le (F := unqP) (n := 2) (os.take i) fun p _ => unq_len p
        rw [List.length_take] at this
        omega
      refine for_list (K := K) (a := c) (xs := cs) (fun j σ H' => ∃ (z : List (Option V)) (ws : List V), z.length = 2 ∧ σ = [some (.ref a), some (.ref wa), some (.ref wb), some (.ref r), some (oV pf), some (oV pl), some (.ref fa), some (.ref fb)] ++ z ∧ But r H6 H' ∧ Same H H' ∧ H' r = some (.lst ws) ∧ Lw (StA H') ws (((os.take i).flatMap unqP ++ (unqP (pf, pl, (m1, m2))).take j).foldl joinP [])) ⟨_, ws, rfl, rfl, fun _ _ _ h => h, s5.trans s6, hr6, ?_⟩ (fun j σ H' _ pp => ?_) (fun j v σ H7 hv pp => ?_) (fun σ H7 pp => ?_)
      · rw [List.take_zero, List.append_nil]
        exact hw5.mono (StA.kt (KT.of s6))
      · obtain ⟨_, _, _, _, h3, _⟩ := pp
        exact SqL.of (h3 c _ nec hc6)
      · obtain ⟨z, ws, hz, rfl, b7, s7, hr7, hw7⟩ := pp
        match z, hz with
        | [y1, y2], _ =>
        obtain ⟨e, he, t2, rfl, ht2⟩ := hcs.get j v hv
        have hj : j < (unqP (pf, pl, (m1, m2))).length := (List.getElem?_eq_some_iff.mp he).1
        have ht7 := b7 t2 _ (fun z => by rw [z, hr6] at ht2; cases ht2) ht2
        have htk : ((os.take i).flatMap unqP ++ (unqP (pf, pl, (m1, m2))).take (j + 1)).foldl joinP [] = joinP (((os.take i).flatMap unqP ++ (unqP (pf, pl, (m1, m2))).take j).foldl joinP []) e := by
          rw [List.take_add_one, he, ← List.append_assoc, List.foldl_append]
          rfl
        have hlen : ws.length < 10000000 := by
          have h1 := hw7.len
          have h2 := joins_len ((os.take i).flatMap unqP ++ (unqP (pf, pl, (m1, m2))).take j) []
          rw [List.length_append, List.length_take, List.length_nil] at h2
          omega
        rw [htk]
        generalize ((os.take i).flatMap unqP ++ (unqP (pf, pl, (m1, m2))).take j).foldl joinP [] = acc at hw7
        have app : ∀ H8 f2, Same H7 H8 → H8 f2 = some (.tup [oV e.1, oV e.2]) → joinP acc e = acc ++ [e] → ∃ (z : List (Option V)) (ws' : List V), z.length = 2 ∧ [some (V.ref a), some (.ref wa), some (.ref wb), some (.ref r), some (oV pf), some (oV pl), some (.ref fa), some (.ref fb), some (oV e.1), some (oV e.2)] = [some (V.ref a), some (.ref wa), some (.ref wb), some (.ref r), some (oV pf), some (oV pl), some (.ref fa), some (.ref fb)] ++ z ∧ But r H6 (upd H8 r (.lst (ws ++ [.ref f2]))) ∧ Same H (upd H8 r (.lst (ws ++ [.ref f2]))) ∧ upd H8 r (.lst (ws ++ [.ref f2])) r = some (.lst ws') ∧ Lw (StA (upd H8 r (.lst (ws ++ [.ref f2])))) ws' (joinP acc e) := fun H8 f2 s8 h8 ej => by
          refine ⟨[_, _], _, rfl, rfl, (b7.trans (But.of s8)).put, same_put (s7.trans s8) hr0, upd_same, ?_⟩
          rw [ej]
          exact StL.push hw7 hr7 s8 h8
        rcases List.eq_nil_or_concat acc with rfl | ⟨ini, la', rfl⟩
        · have hws : ws = [] := by
            cases ws with
            | nil => rfl
            | cons => exact hw7.elim
          subst hws
          and_intros
          intro f2 hf2
          have s8 := same_upd (o := .tup [oV e.1, oV e.2]) hf2
          refine ⟨r, [], _, rfl, rfl, s8 _ _ hr7, szm (by decide), ?_⟩
          exact app _ f2 s8 upd_same rfl
        · rw [List.concat_eq_append] at hw7 app ⊢
          obtain ⟨wi, wl, rfl, hwi, tl, rfl, htl⟩ := hw7.snoc
          have hwl : (wi ++ [V.ref tl]).length > 0 := by simp
          have gl : atI (wi ++ [V.ref tl]) (-1) = some (.ref tl) := atI_last _ _
          obtain ⟨lf, ll⟩ := la'
          have htl7 : H7 tl = some (.tup [oV lf, oV ll]) := htl
          and_intros
          refine ⟨_, _, _, _, rfl, rfl, SqL.of hr7, gl, tl, _, _, _, rfl, rfl, SqT.of htl7, at_ix (by decide) rfl, ?_⟩
          cases ll with
          | none =>
            and_intros
            intro f2 hf2
            have s8 := same_upd (o := .tup [oV e.1, oV e.2]) hf2
            refine ⟨r, _, _, rfl, rfl, s8 _ _ hr7, szm hlen, ?_⟩
            refine app _ f2 s8 upd_same ?_
            unfold joinP
            rw [List.getLast?_concat]
          | some b =>
            refine ⟨rfl, _, rfl, iT rfl ?_⟩
            refine ⟨_, rfl, 1, rfl, _, _, _, _, rfl, rfl, SqL.of hr7, gl, tl, _, _, _, rfl, rfl, SqT.of htl7, at_ix (by decide) rfl, _, _, rfl, rfl, _, rfl, (by cases e.1 <;> rfl), _, rfl, ?_⟩
            by_cases hb : some (b + 1) = e.1
            · refine iT (by rw [← hb]; exact decide_eq_true rfl) ?_
              refine ⟨_, rfl, 1, rfl, _, _, _, _, rfl, rfl, SqL.of hr7, gl, tl, _, _, _, rfl, rfl, SqT.of htl7, at_ix (by decide) rfl, ?_⟩
              and_intros
              intro f2 hf2
              have s8 := same_upd (o := .tup [oV lf, oV e.2]) hf2
              and_intros
              have eset : (wi ++ [V.ref tl]).set wi.length (.ref f2) = wi ++ [.ref f2] := by
                rw [List.set_append_right _ _ (Nat.le_refl _), Nat.sub_self]
                rfl
              refine ⟨r, _, -1, wi.length, rfl, rfl, s8 _ _ hr7, ?_, ?_⟩
              · unfold ixN
                rw [if_neg (by decide), if_pos (by rw [List.length_append, List.length_singleton]; omega), List.length_append, List.length_singleton]
                exact congrArg some (by omega)
              rw [eset]
              refine ⟨[_, _], _, rfl, rfl, (b7.trans (But.of s8)).put, same_put (s7.trans s8) hr0, upd_same, ?_⟩
              have ej : joinP (ini ++ [(lf, some b)]) e = ini ++ [(lf, e.2)] := by
                unfold joinP
                rw [List.getLast?_concat]
                dsimp only
                rw [if_pos hb, List.dropLast_concat]
              rw [ej]
              have k8 : KT H7 (upd (upd H7 f2 (.tup [oV lf, oV e.2])) r (.lst (wi ++ [.ref f2]))) := (KT.of s8).trans (KT.put (s8 _ _ hr7))
              exact (hwi.mono (StA.kt k8)).app ⟨⟨f2, rfl, KT.put (s8 _ _ hr7) _ _ upd_same⟩, trivial⟩
            · refine iF (by cases he1 : e.1 with
                | none => rfl
                | some c => exact dI_f fun z => hb (by rw [he1, z])) ?_
              and_intros
              intro f2 hf2
              have s8 := same_upd (o := .tup [oV e.1, oV e.2]) hf2
              refine ⟨r, _, _, rfl, rfl, s8 _ _ hr7, szm hlen, ?_⟩
              refine app _ f2 s8 upd_same ?_
              unfold joinP
              rw [List.getLast?_concat]
              dsimp only
              rw [if_neg hb]
      · obtain ⟨z, ws, hz, rfl, b7, s7, hr7, hw7⟩ := pp
        match z, hz with
        | [y1, y2], _ =>
        refine ⟨[_, _, _, _, _, _], ws, rfl, rfl, (b5.trans (But.of s6)).trans b7, s7, hr7, ?_⟩
        rw [hcs.len, List.take_length, ← unq_take hp] at hw7
        exact hw7
    · obtain ⟨z, ws, hz, rfl, b5, s5, hr5, hw5⟩ := pp
      match z, hz with
      | [z1, z2, z3, z4, z5, z6], _ =>
      rw [hul, List.take_length] at hw5
      and_intros
      exact q r H5 s5 hr0 ⟨ws, hr5, hw5⟩
end
end Pl

namespace Pl
open PySem L2
local macro_rules | `(tactic| infer_instance) => `(tactic| first
  | with_reducible assumption
  | with_reducible exact Same.refl _
  | exact Wd.gh (by with_reducible assumption)
  | exact sm2 (by with_reducible assumption) (by infer_instance)
  | exact sm2 (same_upd (by with_reducible assumption)) (by infer_instance)
  | exact sm2 (Wd.gh (by with_reducible assumption)) (by infer_instance))
local macro_rules | `(tactic| trivial) => `(tactic| first
  | with_reducible assumption
  | with_reducible exact upd_same
  | exact at_same (by with_reducible assumption) (by trivial)
  | exact at_same (same_upd (by with_reducible assumption)) (by trivial)
  | exact at_same (Wd.gh (by with_reducible assumption)) (by trivial))
local macro_rules | `(tactic| ac_rfl) => `(tactic| first
  | exact Ty.int _
  | exact Ty.str _
  | exact Ty.non
  | exact Ty.bl _
  | exact Ty.tup (by trivial)
  | exact Ty.lst (by trivial))
local macro_rules | `(tactic| contradiction) => `(tactic| first
  | exact rfl
  | exact decide_eq_true (by first | assumption | omega)
  | exact decide_eq_false (by first | assumption | omega)
  | exact dI_t (by first | assumption | omega)
  | exact dI_f (by first | assumption | omega)
  | exact dS_t (by first | assumption | decide)
  | exact dS_f (by first | assumption | decide)
  | exact nI_t (by first | assumption | omega)
  | exact nI_f (by first | assumption | omega)
  | exact nS_t (by first | assumption | decide)
  | exact nS_f (by first | assumption | decide)
  | assumption
  | exact q_none_int | exact q_none_bool | exact q_none_tuple | exact q_none_list | exact q_none_str | exact q_bool_int | exact q_bool_bool | exact q_bool_tuple | exact q_bool_list | exact q_bool_str | exact q_int_int | exact q_int_bool | exact q_int_tuple | exact q_int_list | exact q_int_str | exact q_str_int | exact q_str_bool | exact q_str_tuple | exact q_str_list | exact q_str_str | exact q_list_int | exact q_list_bool | exact q_list_tuple | exact q_list_list | exact q_list_str | exact q_tuple_int | exact q_tuple_bool | exact q_tuple_tuple | exact q_tuple_list | exact q_tuple_str
  | exact nb_t (by contradiction)
  | exact nb_f (by contradiction))
local macro_rules | `(tactic| and_intros) => `(tactic| repeat (first
  | refine ⟨_, rfl, ?_⟩
  | refine ⟨_, _, rfl, rfl, ?_⟩
  | refine ⟨rfl, ?_⟩
  | refine ⟨_, _, _, _, rfl, rfl, SqT.of (by trivial), at_ix (by decide) rfl, ?_⟩
  | refine ⟨_, _, _, _, rfl, rfl, SqL.of (by trivial), at_ix (by decide) rfl, ?_⟩
  | refine ⟨_, _, rfl, Or.inl (SqL.of (by trivial)), ?_⟩
  | refine ⟨_, _, rfl, Or.inr (SqT.of (by trivial)), ?_⟩
  | refine ⟨_, _, _, _, _, rfl, (by trivial), (by trivial), (by trivial), rfl, ?_⟩
  | refine ⟨_, _, _, _, _, rfl, ClsV.ty _, Ty.x (by ac_rfl), isI_tuple (by ac_rfl), ?_⟩
  | refine ⟨_, _, _, _, _, rfl, ClsV.ty _, Ty.x (by ac_rfl), isI_list (by ac_rfl), ?_⟩
  | refine ⟨_, _, _, _, _, rfl, ClsV.ty _, Ty.x (by ac_rfl), isI_int (by ac_rfl), ?_⟩
  | refine ⟨_, _, _, _, _, rfl, ClsV.ty _, Ty.x (by ac_rfl), isI_bool (by ac_rfl), ?_⟩
  | refine ⟨_, _, _, _, _, rfl, ClsV.ty _, Ty.x (by ac_rfl), isI_str (by ac_rfl), ?_⟩
  | refine ⟨sz (Nat.le_of_ble_eq_true rfl), ?_⟩
  | refine ⟨Or.inl ⟨rfl, _, SqL.of (by trivial)⟩, ?_⟩
  | refine ⟨_, _, rfl, SqT.of (by trivial), rfl, _, _, rfl, _, _, rfl, _, _, rfl, _, _, rfl, rfl, ?_⟩
  | refine ⟨_, _, rfl, SqT.of (by trivial), rfl, _, _, rfl, _, _, rfl, _, _, rfl, rfl, ?_⟩
  | refine ⟨_, _, rfl, SqT.of (by trivial), rfl, _, _, rfl, _, _, rfl, rfl, ?_⟩
  | refine ⟨_, _, _, _, rfl, (by with_reducible assumption : Wd _ _ _ _), (by first | decide | omega), (by first | decide | omega), ?_⟩
  | refine ⟨_, _, _, rfl, (by with_reducible assumption : Wd _ _ _ _), ?_⟩
  | refine iT (by contradiction) ?_
  | refine iF (by contradiction) ?_))
-- USE RD
theorem pcs_til {t : Tm} {rows : Str → List Int} (hs : ∀ s, (rows s).Pairwise (· ≤ ·)) (hw : t.wf) : Til (AnR fun x => t.ans rows x) none none (t.pcs rows) ∧ ∀ p ∈ t.pcs rows, MaxP (fun x => t.ans rows x) p := far_til (raw_rem hs hw) (Nat.le_refl _)
theorem pcs_len {t : Tm} {rows : Str → List Int} {m : Nat} (hs : ∀ s, (rows s).Pairwise (· ≤ ·)) (hw : t.wf) (hm : ∀ s, (rows s).length ≤ m) : (t.pcs rows).length ≤ t.pcb m := Nat.le_trans (far_len (raw_rem hs hw) (Nat.le_refl _)) (raw_len hm t)
end Pl

namespace Pl
open PySem L2
section
variable {P : Program} {w : World} {K : PySem.W.Frag} {mg : Str → Option Value} {base : Heap}
theorem tB1 : tyB "NoneType" "tuple" = false := by unfold tyB; rw [kb_none_tuple]; rfl
theorem tB2 : tyB "bool" "tuple" = false := by unfold tyB; rw [kb_bool_tuple]; rfl
theorem tB3 : tyB "int" "tuple" = false := by unfold tyB; rw [kb_int_tuple]; rfl
theorem tB4 : tyB "str" "tuple" = false := by unfold tyB; rw [kb_str_tuple]; rfl
theorem tB5 : tyB "list" "tuple" = false := by unfold tyB; rw [kb_list_tuple]; rfl
theorem tB6 : tyB "tuple" "tuple" = true := by unfold tyB; rw [kb_tuple_tuple]; rfl
theorem lB1 : tyB "NoneType" "list" = false := by unfold tyB; rw [kb_none_list]; rfl
theorem lB2 : tyB "bool" "list" = false := by unfold tyB; rw [kb_bool_list]; rfl
theorem lB3 : tyB "int" "list" = false := by unfold tyB; rw [kb_int_list]; rfl
theorem lB4 : tyB "str" "list" = false := by unfold tyB; rw [kb_str_list]; rfl
theorem lB5 : tyB "list" "list" = true := by unfold tyB; rw [kb_list_list]; rfl
theorem lB6 : tyB "tuple" "list" = false := by unfold tyB; rw [kb_tuple_list]; rfl
theorem bB2 : tyB "bool" "bool" = true := by unfold tyB; rw [kb_bool_bool]; rfl
theorem bB3 : tyB "int" "bool" = false := by unfold tyB; rw [kb_int_bool]; rfl
theorem bB4 : tyB "str" "bool" = false := by unfold tyB; rw [kb_str_bool]; rfl
theorem iB3 : tyB "int" "int" = true := by unfold tyB; rw [kb_int_int]; rfl
theorem iB4 : tyB "str" "int" = false := by unfold tyB; rw [kb_str_int]; rfl
theorem sB4 : tyB "str" "str" = true := by unfold tyB; rw [kb_str_str]; rfl
/-- a value that is no object, with its type -/
inductive Sc : V → String → Prop
  | non : Sc .non "NoneType"
  | bl (b : Bool) : Sc (.bl b) "bool"
  | int (i : Int) : Sc (.int i) "int"
  | str (x : Str) : Sc (.str x) "str"
theorem Sc.ty {v : V} {t : String} (h : Sc v t) (H : Hp) : Ty H v t := by
  cases h
  · exact .non
  · exact .bl _
  · exact .int _
  · exact .str _
/-- two values hold equal data, to a depth -/
def Eqd (H : Hp) : Nat → V → V → Prop
  | 0, v, u => v = u ∧ ∃ t, Sc v t
  | n + 1, v, u => (v = u ∧ ∃ t, Sc v t) ∨ ∃ a b xs ys, v = .ref a ∧ u = .ref b ∧ ((H a = some (.lst xs) ∧ H b = some (.lst ys)) ∨ (H a = some (.tup xs) ∧ H b = some (.tup ys))) ∧ xs.length = ys.length ∧ xs.length ≤ 1000000 ∧
      ∀ (i : Nat) x y, xs[i]? = some x → ys[i]? = some y → Eqd H n x y
theorem Eqd.sc {H : Hp} {v : V} {t : String} (h : Sc v t) : ∀ n, Eqd H n v v
  | 0 => ⟨rfl, t, h⟩
  | _ + 1 => .inl ⟨rfl, t, h⟩
theorem Eqd.same {H H' : Hp} (s : Same H H') : ∀ {n : Nat} {v u : V}, Eqd H n v u → Eqd H' n v u
  | 0, _, _, h => h
  | n + 1, _, _, h => by
    rcases h with h | ⟨a, b, xs, ys, e1, e2, e3, e4, e5, e6⟩
    · exact .inl h
    · refine .inr ⟨a, b, xs, ys, e1, e2, ?_, e4, e5, fun i x y hx hy => Eqd.same s (e6 i x y hx hy)⟩
      rcases e3 with ⟨g1, g2⟩ | ⟨g1, g2⟩
      · exact .inl ⟨s _ _ g1, s _ _ g2⟩
      · exact .inr ⟨s _ _ g1, s _ _ g2⟩
def spEqual : Nat → Sp
  | 0 => fun _ _ _ _ => False
  | n + 1 => fun vs H Q _ => ∃ (v u : V), vs = [v, u] ∧ Eqd H n v u ∧ Q (.bl true) H
theorem ok_law_equal (T : Txt P K mg) {k : Nat} : ∀ n, FnOk P w K mg base CX0 (k + n + 1) T.law_equal.f T.law_equal.fd ["_law_one", "_law_other"] (spEqual n)
  | 0 => T.law_equal.F.ok sc_law_equal (fun _ _ _ _ h => h.elim) (fun _ _ _ _ _ _ _ _ _ h => h.elim)
  | n + 1 => by
    have G_law_equal : FnOk P w K mg base CX0 (k + n + 1) T.law_equal.f T.law_equal.fd ["_law_one", "_law_other"] (spEqual n) := ok_law_equal T n
    refine T.law_equal.F.ok sc_law_equal (fun vs H Q E h => ?_) (fun cdv A outer s H vs Q E hr h => ?_)
    · obtain ⟨v, u, rfl, _⟩ := h
      rfl
    · obtain ⟨v, u, rfl, h, q⟩ := h
      refine ⟨_, (pss_cons (ps_set (i := 2) sc_law_equal.nd rfl (.inl rfl) (pe_and (pe_callB call_isi (by rfl) T.n_isinstance (by decide +kernel) (pa_cons (pv 0) (pa_cons (pe_bltn (v := .ty "tuple") (by rfl) T.n_tuple (by decide +kernel) rfl) pa_nil))) (pe_one (pe_callB call_isi (by rfl) T.n_isinstance (by decide +kernel) (pa_cons (pv 1) (pa_cons (pe_bltn (v := .ty "tuple") (by rfl) T.n_tuple (by decide +kernel) rfl) pa_nil))))))
  (pss_cons (ps_if (PW.pt (pw_or (pt_val (pv 2)) (pw_or1 (PW.pt (pw_and (pt_val (pe_callB call_isi (by rfl) T.n_isinstance (by decide +kernel) (pa_cons (pv 0) (pa_cons (pe_bltn (v := .ty "list") (by rfl) T.n_list (by decide +kernel) rfl) pa_nil)))) (pw_and1 (pt_val (pe_callB call_isi (by rfl) T.n_isinstance (by decide +kernel) (pa_cons (pv 1) (pa_cons (pe_bltn (v := .ty "list") (by rfl) T.n_list (by decide +kernel) rfl) pa_nil)))))))))) (pss_cons (ps_if (pt_cmpR op_ne (pe_callB call_len_seq (by rfl) T.n_len PySem.boot_len (pa_cons (pv 0) pa_nil)) (pe_callB call_len_seq (by rfl) T.n_len PySem.boot_len (pa_cons (pv 1) pa_nil)) (nomark _)) (pss_one (ps_ret pe_bl)) pss_nil)
  (pss_cons (ps_for PassesOwn.never rfl (pi_range1 (by rfl) T.n_range (pa_cons (pe_callB call_len_seq (by rfl) T.n_len PySem.boot_len (pa_cons (pv 0) pa_nil)) pa_nil)) (pg_name (i := 3) sc_law_equal.nd rfl (.inl rfl))
   (pss_one (ps_if (pt_not (pt_val (pe_call G_law_equal (hr.mono (by omega)) (by rfl) T.law_equal.g T.law_equal.F.kp T.law_equal.b .nil pass0 (pa_cons (pe_ix ix_seq (pv 0) (pv 3) (fun _ _ => rfl)) (pa_cons (pe_ix ix_seq (pv 1) (pv 3) (fun _ _ => rfl)) pa_nil))))) (pss_one (ps_ret pe_bl)) pss_nil)))
  (pss_one (ps_ret pe_bl)))) pss_nil)
  (pss_cons (ps_if (PW.pt (pw_or (pt_cmpR op_isN (pv 0) pe_non (nomark _)) (pw_or1 (pt_cmpR op_isN (pv 1) pe_non (nomark _))))) (pss_one (ps_ret (pe_and (pe_cmpR op_isN (pv 0) pe_non (nomark _)) (pe_one (pe_cmpR op_isN (pv 1) pe_non (nomark _)))))) pss_nil)
  (pss_cons (ps_if (PW.pt (pw_or (pt_val (pe_callB call_isi (by rfl) T.n_isinstance (by decide +kernel) (pa_cons (pv 0) (pa_cons (pe_bltn (v := .ty "bool") (by rfl) T.n_bool (by decide +kernel) rfl) pa_nil)))) (pw_or1 (pt_val (pe_callB call_isi (by rfl) T.n_isinstance (by decide +kernel) (pa_cons (pv 1) (pa_cons (pe_bltn (v := .ty "bool") (by rfl) T.n_bool (by decide +kernel) rfl) pa_nil))))))) (pss_one (ps_ret (pe_and (pe_callB call_isi (by rfl) T.n_isinstance (by decide +kernel) (pa_cons (pv 0) (pa_cons (pe_bltn (v := .ty "bool") (by rfl) T.n_bool (by decide +kernel) rfl) pa_nil))) (pe_and (pe_callB call_isi (by rfl) T.n_isinstance (by decide +kernel) (pa_cons (pv 1) (pa_cons (pe_bltn (v := .ty "bool") (by rfl) T.n_bool (by decide +kernel) rfl) pa_nil))) (pe_one (pe_cmpR op_eq (pv 0) (pv 1) (nomark _))))))) pss_nil)
  (pss_cons (ps_if (PW.pt (pw_or (PW.pt (pw_and (pt_val (pe_callB call_isi (by rfl) T.n_isinstance (by decide +kernel) (pa_cons (pv 0) (pa_cons (pe_bltn (v := .ty "int") (by rfl) T.n_int (by decide +kernel) rfl) pa_nil)))) (pw_and1 (pt_val (pe_callB call_isi (by rfl) T.n_isinstance (by decide +kernel) (pa_cons (pv 1) (pa_cons (pe_bltn (v := .ty "int") (by rfl) T.n_int (by decide +kernel) rfl) pa_nil))))))) (pw_or1 (PW.pt (pw_and (pt_val (pe_callB call_isi (by rfl) T.n_isinstance (by decide +kernel) (pa_cons (pv 0) (pa_cons (pe_bltn (v := .ty "str") (by rfl) T.n_str (by decide +kernel) rfl) pa_nil)))) (pw_and1 (pt_val (pe_callB call_isi (by rfl) T.n_isinstance (by decide +kernel) (pa_cons (pv 1) (pa_cons (pe_bltn (v := .ty "str") (by rfl) T.n_str (by decide +kernel) rfl) pa_nil)))))))))) (pss_one (ps_ret (pe_cmpR op_eq (pv 0) (pv 1) (nomark _)))) pss_nil)
  (pss_one (ps_ret pe_bl))))))), ?_⟩
      have sc : (v = u ∧ ∃ t, Sc v t) ∨ ∃ m a b xs ys, n = m + 1 ∧ v = .ref a ∧ u = .ref b ∧ ((H a = some (.lst xs) ∧ H b = some (.lst ys)) ∨ (H a = some (.tup xs) ∧ H b = some (.tup ys))) ∧ xs.length = ys.length ∧ xs.length ≤ 1000000 ∧ ∀ (i : Nat) x y, xs[i]? = some x → ys[i]? = some y → Eqd H m x y := by
        cases n with
        | zero => exact .inl h
        | succ m =>
          rcases h with h | ⟨a, b, xs, ys, h⟩
          · exact .inl h
          · exact .inr ⟨m, a, b, xs, ys, rfl, h⟩
      rcases sc with ⟨rfl, t, ht⟩ | ⟨m, a, b, xs, ys, rfl, rfl, rfl, hh, hl, hz, hx⟩
      · have ty := ht.ty H
        cases ht with
        | non =>
          refine ⟨_, rfl, _, _, _, _, _, rfl, .ty "tuple", ty.x, isI_tuple ty, _, rfl, iF tB1 ?_⟩
          refine ⟨_, rfl, _, rfl, iF rfl ⟨_, rfl, _, _, _, _, _, rfl, .ty "list", ty.x, isI_list ty, _, rfl, iF lB1 (iF rfl ?_)⟩⟩
          refine ⟨_, rfl, rfl, _, rfl, iT rfl (iT rfl ?_)⟩
          exact ⟨_, rfl, rfl, _, rfl, iT rfl ⟨_, rfl, rfl, q⟩⟩
        | bl x =>
          refine ⟨_, rfl, _, _, _, _, _, rfl, .ty "tuple", ty.x, isI_tuple ty, _, rfl, iF tB2 ?_⟩
          refine ⟨_, rfl, _, rfl, iF rfl ⟨_, rfl, _, _, _, _, _, rfl, .ty "list", ty.x, isI_list ty, _, rfl, iF lB2 (iF rfl ?_)⟩⟩
          refine ⟨_, rfl, rfl, _, rfl, iF rfl ⟨_, rfl, rfl, _, rfl, iF rfl ?_⟩⟩
          refine ⟨_, rfl, _, _, _, _, _, rfl, .ty "bool", ty.x, isI_bool ty, _, rfl, iT bB2 (iT rfl ?_)⟩
          refine ⟨_, rfl, _, _, _, _, _, rfl, .ty "bool", ty.x, isI_bool ty, _, rfl, iT bB2 ⟨_, rfl, _, _, _, _, _, rfl, .ty "bool", ty.x, isI_bool ty, _, rfl, iT bB2 ⟨_, rfl, _, rfl, rfl, ?_⟩⟩⟩
          rw [decide_eq_true rfl]
          exact q
        | int x =>
          refine ⟨_, rfl, _, _, _, _, _, rfl, .ty "tuple", ty.x, isI_tuple ty, _, rfl, iF tB3 ?_⟩
          refine ⟨_, rfl, _, rfl, iF rfl ⟨_, rfl, _, _, _, _, _, rfl, .ty "list", ty.x, isI_list ty, _, rfl, iF lB3 (iF rfl ?_)⟩⟩
          refine ⟨_, rfl, rfl, _, rfl, iF rfl ⟨_, rfl, rfl, _, rfl, iF rfl ?_⟩⟩
          refine ⟨_, rfl, _, _, _, _, _, rfl, .ty "bool", ty.x, isI_bool ty, _, rfl, iF bB3 ⟨_, rfl, _, _, _, _, _, rfl, .ty "bool", ty.x, isI_bool ty, _, rfl, iF bB3 ?_⟩⟩
          refine ⟨_, rfl, _, _, _, _, _, rfl, .ty "int", ty.x, isI_int ty, _, rfl, iT iB3 ⟨_, rfl, _, _, _, _, _, rfl, .ty "int", ty.x, isI_int ty, _, rfl, iT iB3 (iT iB3 ?_)⟩⟩
          refine ⟨_, rfl, _, rfl, rfl, ?_⟩
          rw [decide_eq_true rfl]
          exact q
        | str x =>
          refine ⟨_, rfl, _, _, _, _, _, rfl, .ty "tuple", ty.x, isI_tuple ty, _, rfl, iF tB4 ?_⟩
          refine ⟨_, rfl, _, rfl, iF rfl ⟨_, rfl, _, _, _, _, _, rfl, .ty "list", ty.x, isI_list ty, _, rfl, iF lB4 (iF rfl ?_)⟩⟩
          refine ⟨_, rfl, rfl, _, rfl, iF rfl ⟨_, rfl, rfl, _, rfl, iF rfl ?_⟩⟩
          refine ⟨_, rfl, _, _, _, _, _, rfl, .ty "bool", ty.x, isI_bool ty, _, rfl, iF bB4 ⟨_, rfl, _, _, _, _, _, rfl, .ty "bool", ty.x, isI_bool ty, _, rfl, iF bB4 ?_⟩⟩
          refine ⟨_, rfl, _, _, _, _, _, rfl, .ty "int", ty.x, isI_int ty, _, rfl, iF iB4 (iF rfl ⟨_, rfl, _, _, _, _, _, rfl, .ty "str", ty.x, isI_str ty, _, rfl, iT sB4 ⟨_, rfl, _, _, _, _, _, rfl, .ty "str", ty.x, isI_str ty, _, rfl, iT sB4 ?_⟩⟩)⟩
          refine ⟨_, rfl, _, rfl, rfl, ?_⟩
          rw [decide_eq_true rfl]
          exact q
      · rcases hh with ⟨h1, h2⟩ | ⟨h1, h2⟩
        · have ty : Ty H (.ref a) "list" := .lst h1
          have ty' : Ty H (.ref b) "list" := .lst h2
          refine ⟨_, rfl, _, _, _, _, _, rfl, .ty "tuple", ty.x, isI_tuple ty, _, rfl, iF tB5 ?_⟩
          refine ⟨_, rfl, _, rfl, iF rfl ⟨_, rfl, _, _, _, _, _, rfl, .ty "list", ty.x, isI_list ty, _, rfl, iT lB5 ⟨_, rfl, _, _, _, _, _, rfl, .ty "list", ty'.x, isI_list ty', _, rfl, iT lB5 ?_⟩⟩⟩
          refine ⟨_, rfl, a, _, rfl, .inl (SqL.of h1), _, rfl, b, _, rfl, .inl (SqL.of h2), rfl, _, rfl, iF (by rw [hl]; simp) ?_⟩
          refine ⟨_, rfl, a, _, rfl, .inl (SqL.of h1), _, rfl, by omega, by omega, ?_⟩
          refine for_range (lo := 0) (n := ((xs.length : Int)).toNat) (fun t σ H' => H' = H ∧ ∃ y, σ = [some (.ref a), some (.ref b), some (.bl false), y]) ⟨rfl, none, rfl⟩ (fun t σ H' ht p => ?_) (fun σ H' p => ?_)
          · obtain ⟨rfl, y, rfl⟩ := p
            have ht : t < xs.length := ht
            have e0 : (0 : Int) + (t : Nat) = (t : Nat) := by omega
            have g1 : atI xs (0 + (t : Nat)) = some xs[t] := by rw [e0]; exact atI_nat (List.getElem?_eq_getElem ht)
            have g2 : atI ys (0 + (t : Nat)) = some (ys[t]'(by omega)) := by rw [e0]; exact atI_nat (List.getElem?_eq_getElem (by omega))
            refine ⟨_, rfl, _, rfl, .inl ⟨a, _, _, _, rfl, rfl, SqL.of h1, g1, _, rfl, _, rfl, .inl ⟨b, _, _, _, rfl, rfl, SqL.of h2, g2, _, _, rfl, hx t _ _ (List.getElem?_eq_getElem ht) (List.getElem?_eq_getElem (by omega)), ?_⟩⟩⟩
            exact ⟨_, rfl, iF rfl ⟨rfl, _, rfl⟩⟩
          · obtain ⟨rfl, y, rfl⟩ := p
            exact q
        · have ty : Ty H (.ref a) "tuple" := .tup h1
          have ty' : Ty H (.ref b) "tuple" := .tup h2
          refine ⟨_, rfl, _, _, _, _, _, rfl, .ty "tuple", ty.x, isI_tuple ty, _, rfl, iT tB6 ⟨_, rfl, _, _, _, _, _, rfl, .ty "tuple", ty'.x, isI_tuple ty', ?_⟩⟩
          refine ⟨_, rfl, _, rfl, iT tB6 (iT rfl ?_)⟩
          refine ⟨_, rfl, a, _, rfl, .inr (SqT.of h1), _, rfl, b, _, rfl, .inr (SqT.of h2), rfl, _, rfl, iF (by rw [hl]; simp) ?_⟩
          refine ⟨_, rfl, a, _, rfl, .inr (SqT.of h1), _, rfl, by omega, by omega, ?_⟩
          refine for_range (lo := 0) (n := ((xs.length : Int)).toNat) (fun t σ H' => H' = H ∧ ∃ y, σ = [some (.ref a), some (.ref b), some (.bl (tyB "tuple" "tuple")), y]) ⟨rfl, none, rfl⟩ (fun t σ H' ht p => ?_) (fun σ H' p => ?_)
          · obtain ⟨rfl, y, rfl⟩ := p
            have ht : t < xs.length := ht
            have e0 : (0 : Int) + (t : Nat) = (t : Nat) := by omega
            have g1 : atI xs (0 + (t : Nat)) = some xs[t] := by rw [e0]; exact atI_nat (List.getElem?_eq_getElem ht)
            have g2 : atI ys (0 + (t : Nat)) = some (ys[t]'(by omega)) := by rw [e0]; exact atI_nat (List.getElem?_eq_getElem (by omega))
            refine ⟨_, rfl, _, rfl, .inr (.inl ⟨a, _, _, _, rfl, rfl, SqT.of h1, g1, _, rfl, _, rfl, .inr (.inl ⟨b, _, _, _, rfl, rfl, SqT.of h2, g2, _, _, rfl, hx t _ _ (List.getElem?_eq_getElem ht) (List.getElem?_eq_getElem (by omega)), ?_⟩)⟩)⟩
            exact ⟨_, rfl, iF rfl ⟨rfl, _, rfl⟩⟩
          · obtain ⟨rfl, y, rfl⟩ := p
            exact q
end
end Pl

namespace Pl
open PySem L2
theorem pc_eqd {H : Hp} {us vs : List V} {ps : List (Pc Fm)} {a b : Addr} (ha : H a = some (.lst us)) (hb : H b = some (.lst vs)) (hu : Lw (PcA H) us ps) (hv : Lw (PcA H) vs ps) (hl : ps.length ≤ 1000000) : Eqd H 2 (.ref a) (.ref b) := by
  refine .inr ⟨a, b, us, vs, rfl, rfl, .inl ⟨ha, hb⟩, by rw [hu.len, hv.len], by rw [hu.len]; exact hl, fun i x y hx hy => ?_⟩
  obtain ⟨p, hp, t, rfl, ht⟩ := hu.get i x hx
  obtain ⟨q, hq, t2, rfl, ht2⟩ := hv.get i y hy
  rw [hp] at hq
  cases hq
  refine .inr ⟨t, t2, _, _, rfl, rfl, .inr ⟨ht, ht2⟩, rfl, Nat.le_of_ble_eq_true rfl, fun j x y h1 h2 => ?_⟩
  rw [h1] at h2
  cases h2
  have sc : ∀ o : Bd, ∃ t, Sc (oV o) t := fun o => by
    cases o with
    | none => exact ⟨_, .non⟩
    | some x => exact ⟨_, .int _⟩
  match j, h1 with
  | 0, h1 => cases h1; exact ⟨rfl, sc _⟩
  | 1, h1 => cases h1; exact ⟨rfl, sc _⟩
  | 2, h1 => cases h1; exact ⟨rfl, _, .str _⟩
  | 3, h1 => cases h1; exact ⟨rfl, sc _⟩
end Pl

namespace Pl
open PySem L2
section
variable {P : Program} {w : World} {K : PySem.W.Frag} {mg : Str → Option Value} {base : Heap}
theorem Txt.addB (T : Txt P K mg) (t : Tm) : BinI K (t.cls T.ca) T.Term_add.f .Add := by
  cases t
  · exact T.b_Now_Add
  · exact T.b_Shift_Add
  · exact T.b_Look_Add
  · exact T.b_Either_Add
  · exact T.b_Later_Add
  · exact T.b_Earlier_Add
/-- _law_term -/
def spTermL (T : Txt P K mg) (n : Nat) : Sp := fun vs H Q _ => ∃ (t : Tm) (a : Addr), vs = [.ref a] ∧ TrAt H t a ∧ t.depth ≤ n ∧ t.wf ∧ t.norm ∧ t.fits ∧ ∀ r H', Same H H' → TmAt T.ca H' t r → Q (.ref r) H'
theorem plus_shift {m : Tm} {n : Int} (h0 : n ≠ 0) (h : m.isShift = false) : m.plus n = .shift m n := by
  cases m with
  | shift => cases h
  | _ => simp only [Tm.plus]; rw [if_neg h0]
theorem word_ne {t : Tm} {z : Str} (h : t.word ≠ z) : decide (V.str t.word = V.str z) = false := by
  rw [dstr]
  exact decide_eq_false h
theorem ok_law_term (T : Txt P K mg) {k : Nat} : ∀ n, FnOk P w K mg base CX0 (k + 7 + n) T.law_term.f T.law_term.fd ["_law_tree_here"] (spTermL T n)
  | 0 => T.law_term.F.ok (k := k + 6) sc_law_term (fun vs H Q E h => by obtain ⟨t, _, _, _, h, _⟩ := h; have := depth_pos t; omega) (fun _ _ _ _ _ _ _ _ _ h => by obtain ⟨t, _, _, _, h, _⟩ := h; have := depth_pos t; omega)
  | n + 1 => by
    have G_law_term : FnOk P w K mg base CX0 (k + 7 + n) T.law_term.f T.law_term.fd ["_law_tree_here"] (spTermL T n) := ok_law_term T n
    have G_add : FnR P w K mg base CX0 (k + 5) T.Term_add.f (spTAdd T 1) := ok_term_add T
    have G_or : FnR P w K mg base CX0 (k + 4) T.Term_or.f (spJoin T .either) := ok_term_or T
    have G_later : ∀ _ : Unit, FnR P w K mg base CX0 (k + 4) T.Term_later.f (spJoin T .later) := fun _ => ok_term_later T
    have G_earlier : ∀ _ : Unit, FnR P w K mg base CX0 (k + 4) T.Term_earlier.f (spJoin T .earlier) := fun _ => ok_term_earlier T
    have G_Now_init : FnR P w K mg base CX0 (k + 2) T.Now_init.f (spNowInit T) := ok_now_init T
    obtain ⟨fdL, G_Look_init, B_Look_init⟩ := ok_look_init (P := P) (w := w) (base := base) T (k := k)
    refine T.law_term.F.ok (k := k + 7 + n) sc_law_term (fun vs H Q E h => ?_) (fun cdv A outer s H vs Q E hr h => ?_)
    · obtain ⟨t, a, rfl, _⟩ := h
      rfl
    · obtain ⟨t, a, rfl, ht, hd, hw, hn, hf, q⟩ := h
      refine ⟨_, (pss_cons (ps_if (pt_cmpR op_eq (pe_ix ix_tup (pv 0) pe_int (fun _ _ => rfl)) pe_str (nomark _)) (pss_one (ps_ret (pe_makeR0 T.mk_Now G_Now_init (hr.mono (by omega)) (by rfl) T.g_Now pass0))) pss_nil)
  (pss_cons (ps_if (pt_cmpR op_eq (pe_ix ix_tup (pv 0) pe_int (fun _ _ => rfl)) pe_str (nomark _)) (pss_one (ps_ret (pe_op (op_binI G_add (hr.mono (by omega)) pass0) (pe_call G_law_term (hr.mono (by omega)) (by rfl) T.law_term.g T.law_term.F.kp T.law_term.b .nil pass0 (pa_cons (pe_ix ix_tup (pv 0) pe_int (fun _ _ => rfl)) pa_nil)) (pe_ix ix_tup (pv 0) pe_int (fun _ _ => rfl))))) pss_nil)
  (pss_cons (ps_if (pt_cmpR op_eq (pe_ix ix_tup (pv 0) pe_int (fun _ _ => rfl)) pe_str (nomark _)) (pss_one (ps_ret (pe_makeK (n := 3) T.mk_Look G_Look_init (hr.mono (by omega)) (by rfl) T.g_Look B_Look_init pass0 (pa_cons (pe_ix ix_tup (pv 0) pe_int (fun _ _ => rfl)) (pa_cons (pe_call G_law_term (hr.mono (by omega)) (by rfl) T.law_term.g T.law_term.F.kp T.law_term.b .nil pass0 (pa_cons (pe_ix ix_tup (pv 0) pe_int (fun _ _ => rfl)) pa_nil)) (pa_cons (pe_ix ix_tup (pv 0) pe_int (fun _ _ => rfl)) pa_nil))) (pk_cons (pe_ix ix_tup (pv 0) pe_int (fun _ _ => rfl)) pk_nil)))) pss_nil)
  (pss_cons (ps_set (i := 1) sc_law_term.nd rfl (.inl rfl) (pe_call G_law_term (hr.mono (by omega)) (by rfl) T.law_term.g T.law_term.F.kp T.law_term.b .nil pass0 (pa_cons (pe_ix ix_tup (pv 0) pe_int (fun _ _ => rfl)) pa_nil)))
  (pss_cons (ps_set (i := 2) sc_law_term.nd rfl (.inl rfl) (pe_call G_law_term (hr.mono (by omega)) (by rfl) T.law_term.g T.law_term.F.kp T.law_term.b .nil pass0 (pa_cons (pe_ix ix_tup (pv 0) pe_int (fun _ _ => rfl)) pa_nil)))
  (pss_cons (ps_if (pt_cmpR op_eq (pe_ix ix_tup (pv 0) pe_int (fun _ _ => rfl)) pe_str (nomark _)) (pss_one (ps_ret (pe_op (op_binO G_or (hr.mono (by omega)) pass0) (pv 1) (pv 2)))) pss_nil)
  (pss_cons (ps_if (pt_cmpR op_eq (pe_ix ix_tup (pv 0) pe_int (fun _ _ => rfl)) pe_str (nomark _)) (pss_one (ps_ret (pe_methV (pv 1) G_later (hr.mono (by omega)) pass0 (pa_cons (pv 2) pa_nil)))) pss_nil)
  (pss_one (ps_ret (pe_methV (pv 1) G_earlier (hr.mono (by omega)) pass0 (pa_cons (pv 2) pa_nil))))))))))), ?_⟩
      obtain ⟨xs, ho⟩ := ht.obj
      refine ⟨_, rfl, a, _, 0, .str t.word, rfl, rfl, SqT.of ho, at_ix (by decide) rfl, rfl, _, rfl, ?_⟩
      obtain ⟨f1, f2, f3⟩ := hf
      cases t with
      | now =>
        refine iT rfl fun x dx hx hdx _ => ?_
        exact ⟨H, x, dx, rfl, mk_same hx hdx, hx, upd_same, fun H' s' h' => ⟨rfl, q x H' s' h'⟩⟩
      | shift m i =>
        obtain ⟨b, ha, hm⟩ := ht
        simp only [Tm.depth] at hd f1
        simp only [Tm.parts] at f2
        simp only [Tm.looks] at f3
        refine iF (word_ne (by simp only [Tm.word]; decide)) ⟨_, rfl, a, _, 0, _, rfl, rfl, SqT.of ho, at_ix (by decide) rfl, rfl, _, rfl, iT rfl ?_⟩
        refine ⟨_, rfl, a, _, 2, .ref b, rfl, rfl, SqT.of ha, at_ix (by decide) rfl, m, b, rfl, hm, by omega, hw, hn.2.2, ⟨by omega, by omega, by omega⟩, fun r H1 s1 h1 => ?_⟩
        refine ⟨_, rfl, a, _, 1, .int i, rfl, rfl, SqT.of (s1 _ _ ha), at_ix (by decide) rfl, ?_⟩
        obtain ⟨dx, fs, hr0, _⟩ := h1.obj
        refine ⟨r, _, dx, fs, i, rfl, rfl, hr0, T.addB m, m, r, i, rfl, h1, ?_, fun r2 H2 s2 h2 => ?_⟩
        · rw [Int.one_mul, plus_shift hn.1 hn.2.1]
          exact ⟨by simp only [Tm.depth]; omega, by simp only [Tm.parts]; omega, by simp only [Tm.looks]; omega⟩
        · rw [Int.one_mul, plus_shift hn.1 hn.2.1] at h2
          exact q r2 H2 (s1.trans s2) h2
      | look z m wy lim =>
        obtain ⟨b, ha, hm⟩ := ht
        have hfit : (Tm.look z m wy lim).fits := ⟨f1, f2, f3⟩
        simp only [Tm.depth] at hd f1
        simp only [Tm.parts] at f2
        simp only [Tm.looks] at f3
        refine iF (word_ne (by simp only [Tm.word]; decide)) ⟨_, rfl, a, _, 0, _, rfl, rfl, SqT.of ho, at_ix (by decide) rfl, rfl, _, rfl, iF (word_ne (by simp only [Tm.word]; decide)) ?_⟩
        refine ⟨_, rfl, a, _, 0, _, rfl, rfl, SqT.of ho, at_ix (by decide) rfl, rfl, _, rfl, iT rfl ?_⟩
        refine ⟨_, rfl, a, _, 1, .str z, rfl, rfl, SqT.of ha, at_ix (by decide) rfl, ?_⟩
        refine ⟨_, rfl, a, _, 4, .ref b, rfl, rfl, SqT.of ha, at_ix (by decide) rfl, m, b, rfl, hm, by omega, hw.2.2.2, hn, ⟨by omega, by omega, by omega⟩, fun r H1 s1 h1 => ?_⟩
        refine ⟨_, rfl, a, _, 2, .str wy, rfl, rfl, SqT.of (s1 _ _ ha), at_ix (by decide) rfl, ?_⟩
        refine ⟨_, rfl, a, _, 3, oV lim, rfl, rfl, SqT.of (s1 _ _ ha), at_ix (by decide) rfl, rfl, rfl, fun x dx hx hdx _ => ?_⟩
        exact ⟨H1, m, z, wy, lim, x, r, dx, rfl, mk_same hx hdx, hx, h1, hw.1, hw.2.1, hw.2.2.1, hfit, upd_same, fun H' s' h' => ⟨rfl, q x H' (s1.trans s') h'⟩⟩
      | either t1 t2 =>
        obtain ⟨b, d, ha, h1, h2⟩ := ht
        have hfit : (Tm.either t1 t2).fits := ⟨f1, f2, f3⟩
        simp only [Tm.depth] at hd f1
        simp only [Tm.parts] at f2
        simp only [Tm.looks] at f3
        refine iF (word_ne (by simp only [Tm.word]; decide)) ⟨_, rfl, a, _, 0, _, rfl, rfl, SqT.of ho, at_ix (by decide) rfl, rfl, _, rfl, iF (word_ne (by simp only [Tm.word]; decide)) ?_⟩
        refine ⟨_, rfl, a, _, 0, _, rfl, rfl, SqT.of ho, at_ix (by decide) rfl, rfl, _, rfl, iF (word_ne (by simp only [Tm.word]; decide)) ?_⟩
        refine ⟨_, rfl, a, _, 1, .ref b, rfl, rfl, SqT.of ha, at_ix (by decide) rfl, t1, b, rfl, h1, by omega, hw.1, hn.1, ⟨by omega, by omega, by omega⟩, fun r1 H1 s1 g1 => ?_⟩
        refine ⟨_, rfl, a, _, 2, .ref d, rfl, rfl, SqT.of (s1 _ _ ha), at_ix (by decide) rfl, t2, d, rfl, h2.same s1, by omega, hw.2, hn.2, ⟨by omega, by omega, by omega⟩, fun r2 H2 s2 g2 => ?_⟩
        have s12 := s1.trans s2
        refine ⟨_, rfl, a, _, 0, _, rfl, rfl, SqT.of (s12 _ _ ho), at_ix (by decide) rfl, rfl, _, rfl, iT rfl ?_⟩
        obtain ⟨dx1, fs1, hr1, _⟩ := (g1.same s2).obj
        obtain ⟨dx2, fs2, hr2, _⟩ := g2.obj
        exact ⟨_, rfl, _, rfl, r1, _, dx1, fs1, r2, _, dx2, fs2, rfl, rfl, hr1, hr2, T.bc t1, T.bc t2, T.sb t1 t2, t1, t2, r1, r2, rfl, g1.same s2, g2, hfit, fun r H3 s3 g3 => q r H3 (s12.trans s3) g3⟩
      | later t1 t2 =>
        obtain ⟨b, d, ha, h1, h2⟩ := ht
        have hfit : (Tm.later t1 t2).fits := ⟨f1, f2, f3⟩
        simp only [Tm.depth] at hd f1
        simp only [Tm.parts] at f2
        simp only [Tm.looks] at f3
        refine iF (word_ne (by simp only [Tm.word]; decide)) ⟨_, rfl, a, _, 0, _, rfl, rfl, SqT.of ho, at_ix (by decide) rfl, rfl, _, rfl, iF (word_ne (by simp only [Tm.word]; decide)) ?_⟩
        refine ⟨_, rfl, a, _, 0, _, rfl, rfl, SqT.of ho, at_ix (by decide) rfl, rfl, _, rfl, iF (word_ne (by simp only [Tm.word]; decide)) ?_⟩
        refine ⟨_, rfl, a, _, 1, .ref b, rfl, rfl, SqT.of ha, at_ix (by decide) rfl, t1, b, rfl, h1, by omega, hw.1, hn.1, ⟨by omega, by omega, by omega⟩, fun r1 H1 s1 g1 => ?_⟩
        refine ⟨_, rfl, a, _, 2, .ref d, rfl, rfl, SqT.of (s1 _ _ ha), at_ix (by decide) rfl, t2, d, rfl, h2.same s1, by omega, hw.2, hn.2, ⟨by omega, by omega, by omega⟩, fun r2 H2 s2 g2 => ?_⟩
        have s12 := s1.trans s2
        refine ⟨_, rfl, a, _, 0, _, rfl, rfl, SqT.of (s12 _ _ ho), at_ix (by decide) rfl, rfl, _, rfl, iF (word_ne (by simp only [Tm.word]; decide)) ?_⟩
        refine ⟨_, rfl, a, _, 0, _, rfl, rfl, SqT.of (s12 _ _ ho), at_ix (by decide) rfl, rfl, _, rfl, iT rfl ?_⟩
        obtain ⟨dx1, fs1, hr1, l1, _⟩ := (g1.same s2).ins
        exact ⟨_, rfl, r1, _, dx1, fs1, (), rfl, hr1, l1, (T.kc t1).o.cl, T.laterM t1, _, rfl, t1, t2, r1, r2, rfl, g1.same s2, g2, hfit, fun r H3 s3 g3 => q r H3 (s12.trans s3) g3⟩
      | earlier t1 t2 =>
        obtain ⟨b, d, ha, h1, h2⟩ := ht
        have hfit : (Tm.earlier t1 t2).fits := ⟨f1, f2, f3⟩
        simp only [Tm.depth] at hd f1
        simp only [Tm.parts] at f2
        simp only [Tm.looks] at f3
        refine iF (word_ne (by simp only [Tm.word]; decide)) ⟨_, rfl, a, _, 0, _, rfl, rfl, SqT.of ho, at_ix (by decide) rfl, rfl, _, rfl, iF (word_ne (by simp only [Tm.word]; decide)) ?_⟩
        refine ⟨_, rfl, a, _, 0, _, rfl, rfl, SqT.of ho, at_ix (by decide) rfl, rfl, _, rfl, iF (word_ne (by simp only [Tm.word]; decide)) ?_⟩
        refine ⟨_, rfl, a, _, 1, .ref b, rfl, rfl, SqT.of ha, at_ix (by decide) rfl, t1, b, rfl, h1, by omega, hw.1, hn.1, ⟨by omega, by omega, by omega⟩, fun r1 H1 s1 g1 => ?_⟩
        refine ⟨_, rfl, a, _, 2, .ref d, rfl, rfl, SqT.of (s1 _ _ ha), at_ix (by decide) rfl, t2, d, rfl, h2.same s1, by omega, hw.2, hn.2, ⟨by omega, by omega, by omega⟩, fun r2 H2 s2 g2 => ?_⟩
        have s12 := s1.trans s2
        refine ⟨_, rfl, a, _, 0, _, rfl, rfl, SqT.of (s12 _ _ ho), at_ix (by decide) rfl, rfl, _, rfl, iF (word_ne (by simp only [Tm.word]; decide)) ?_⟩
        refine ⟨_, rfl, a, _, 0, _, rfl, rfl, SqT.of (s12 _ _ ho), at_ix (by decide) rfl, rfl, _, rfl, iF (word_ne (by simp only [Tm.word]; decide)) ?_⟩
        obtain ⟨dx1, fs1, hr1, _, l1, _⟩ := (g1.same s2).ins
        exact ⟨_, rfl, r1, _, dx1, fs1, (), rfl, hr1, l1, (T.kc t1).o.cl, T.earlierM t1, _, rfl, t1, t2, r1, r2, rfl, g1.same s2, g2, hfit, fun r H3 s3 g3 => q r H3 (s12.trans s3) g3⟩
end
end Pl

namespace Pl
open PySem L2
section
variable {P : Program} {w : World} {K : PySem.W.Frag} {mg : Str → Option Value} {base : Heap}
theorem ok_law_is_integer (T : Txt P K mg) {k : Nat} : FnOk P w K mg base CX0 (k + 1) T.law_is_integer.f T.law_is_integer.fd ["_law_thing"] spIsInteger := by
  refine T.law_is_integer.F.ok sc_law_is_integer (fun vs H Q E h => ?_) (fun cdv A outer s H vs Q E hr h => ?_)
  · obtain ⟨v, t, rfl, _⟩ := h
    rfl
  · obtain ⟨v, t, rfl, ty, q⟩ := h
    refine ⟨_, (pss_one (ps_ret (pe_and (pe_callB call_isi (by rfl) T.n_isinstance (by decide +kernel) (pa_cons (pv 0) (pa_cons (pe_bltn (v := .ty "int") (by rfl) T.n_int (by decide +kernel) rfl) pa_nil))) (pe_one (pe_not (pe_callB call_isi (by rfl) T.n_isinstance (by decide +kernel) (pa_cons (pv 0) (pa_cons (pe_bltn (v := .ty "bool") (by rfl) T.n_bool (by decide +kernel) rfl) pa_nil)))))))), ?_⟩
    refine ⟨v, rfl, _, _, _, _, _, rfl, .ty "int", ty.x, isI_int ty, _, rfl, ?_⟩
    rw [← isInt_of ty] at q
    cases h1 : tyB t "int" with
    | false =>
      rw [h1] at q
      exact iF rfl q
    | true =>
      rw [h1] at q
      refine iT rfl ⟨v, rfl, _, _, _, _, _, rfl, .ty "bool", ty.x, isI_bool ty, _, rfl, ?_⟩
      rw [Bool.true_and] at q
      exact q
end
end Pl

namespace Pl
open PySem L2
section
variable {P : Program} {w : World} {K : PySem.W.Frag} {mg : Str → Option Value} {base : Heap}
def spAnswerL : Sp := fun vs H Q _ => ∃ o : Option Int, vs = [oV o, oV o] ∧ Q (.bl true) H
theorem ok_law_answer (T : Txt P K mg) {k : Nat} : FnOk P w K mg base CX0 (k + 2) T.law_answer.f T.law_answer.fd ["_law_thing", "_law_due"] spAnswerL := by
  have G_law_is_integer : FnOk P w K mg base CX0 (k + 1) T.law_is_integer.f T.law_is_integer.fd ["_law_thing"] spIsInteger := ok_law_is_integer T
  refine T.law_answer.F.ok (k := k + 1) sc_law_answer (fun vs H Q E h => ?_) (fun cdv A outer s H vs Q E hr h => ?_)
  · obtain ⟨i, rfl, _⟩ := h
    rfl
  · obtain ⟨o, rfl, q⟩ := h
    refine ⟨_, (pss_cons (ps_if (pt_cmpR op_isN (pv 1) pe_non (nomark _)) (pss_one (ps_ret (pe_cmpR op_isN (pv 0) pe_non (nomark _)))) pss_nil)
  (pss_one (ps_ret (pe_and (pe_call G_law_is_integer (hr.mono (by omega)) (by rfl) T.law_is_integer.g T.law_is_integer.F.kp T.law_is_integer.b .nil pass0 (pa_cons (pv 0) pa_nil)) (pe_one (pe_cmpR op_eq (pv 0) (pv 1) (nomark _))))))), ?_⟩
    cases o with
    | none => exact ⟨_, rfl, rfl, _, rfl, iT rfl ⟨_, rfl, rfl, q⟩⟩
    | some i =>
      refine ⟨.int i, rfl, rfl, _, rfl, iF (decide_eq_false (fun h => nomatch h)) ?_⟩
      refine ⟨.int i, rfl, .int i, "int", rfl, .int i, _, rfl, iT rfl ⟨.int i, rfl, .int i, rfl, rfl, ?_⟩⟩
      rw [decide_eq_true rfl]
      exact q
end
end Pl

namespace Pl
open PySem L2
theorem nE2 {a b : Bool} (h : a = b) : (!decide (V.bl a = V.bl b)) = false := by subst h; simp
theorem int_dec2 (i j : Int) : decide (V.int i = V.int j) = decide (i = j) := by
  by_cases h : i = j
  · subst h; simp
  · rw [decide_eq_false h]; exact dI_f h
theorem st_eqd {H : Hp} {us vs : List V} {es : List St2} {a b : Addr} (ha : H a = some (.lst us)) (hb : H b = some (.lst vs)) (hu : Lw (StA H) us es) (hv : Lw (StA H) vs es) (hl : es.length ≤ 1000000) : Eqd H 2 (.ref a) (.ref b) := by
  refine .inr ⟨a, b, us, vs, rfl, rfl, .inl ⟨ha, hb⟩, by rw [hu.len, hv.len], by rw [hu.len]; exact hl, fun i x y hx hy => ?_⟩
  obtain ⟨p, hp, t, rfl, ht⟩ := hu.get i x hx
  obtain ⟨q, hq, t2, rfl, ht2⟩ := hv.get i y hy
  rw [hp] at hq
  cases hq
  refine .inr ⟨t, t2, _, _, rfl, rfl, .inr ⟨ht, ht2⟩, rfl, Nat.le_of_ble_eq_true rfl, fun j x y h1 h2 => ?_⟩
  rw [h1] at h2
  cases h2
  have sc : ∀ o : Bd, ∃ t, Sc (oV o) t := fun o => by
    cases o with
    | none => exact ⟨_, .non⟩
    | some x => exact ⟨_, .int _⟩
  match j, h1 with
  | 0, h1 => cases h1; exact ⟨rfl, sc _⟩
  | 1, h1 => cases h1; exact ⟨rfl, sc _⟩
/-- the second part of a pair -/
def sndF (H : Hp) : V → Option V
  | .ref t => match H t with
    | some (.tup [_, x]) => some x
    | _ => none
  | _ => none
theorem sndF_all {H : Hp} {us : List V} {ps : List (Str × Int)} (h : PrsAt H us ps) : us.filterMap (sndF H) = (ps.map (·.2)).map V.int := by
  induction us generalizing ps with
  | nil =>
    cases ps with
    | nil => rfl
    | cons => exact nomatch h.1
  | cons u us ih =>
    cases ps with
    | nil => exact nomatch h.1
    | cons p ps =>
      obtain ⟨t, e1, e2⟩ := h.2 0 p rfl
      cases e1
      have hr : PrsAt H us ps := ⟨Nat.succ.inj h.1, fun i q e => h.2 (i + 1) q e⟩
      rw [List.filterMap_cons, List.map_cons, List.map_cons, ← ih hr]
      simp only [sndF, e2]
/-- rows that a law draws, ready for a world -/
structure RsOk (H : Hp) (d : Addr) (kvs : List (Key × V)) (rs : Rws) (zs : List Str) (m : Nat) : Prop where
  d : H d = some (.dK kvs)
  e : EntsAt H kvs rs
  k : rs.map (·.1) = zs
  r : ∀ r ∈ rs, r.2.Nodup ∧ r.2.length ≤ m
theorem RsOk.same {H H' : Hp} {d : Addr} {kvs : List (Key × V)} {rs : Rws} {zs : List Str} {m : Nat} (s : Same H H') (h : RsOk H d kvs rs zs m) : RsOk H' d kvs rs zs m := ⟨s _ _ h.d, h.e.same s, h.k, h.r⟩
end Pl

namespace Pl
open PySem L2
theorem mir_facts : ∀ t : Tm, t.mir.depth = t.depth ∧ t.mir.parts = t.parts ∧ t.mir.looks = t.looks ∧ t.mir.joins = t.joins ∧ t.mir.isShift = t.isShift ∧ (t.wf → t.mir.wf) ∧ (t.norm → t.mir.norm)
  | .now => ⟨rfl, rfl, rfl, rfl, rfl, id, id⟩
  | .shift m n => by
    obtain ⟨h1, h2, h3, h4, h5, h6, h7⟩ := mir_facts m
    simp only [Tm.mir, Tm.depth, Tm.parts, Tm.looks, Tm.joins, Tm.isShift, Tm.wf, Tm.norm]
    exact ⟨by rw [h1], by rw [h2], h3, h4, trivial, h6, fun ⟨a, b, c⟩ => ⟨by omega, h5.trans b, h7 c⟩⟩
  | .look s m wy lim => by
    obtain ⟨h1, h2, h3, h4, h5, h6, h7⟩ := mir_facts m
    simp only [Tm.mir, Tm.depth, Tm.parts, Tm.looks, Tm.joins, Tm.isShift, Tm.wf, Tm.norm]
    exact ⟨by rw [h1], by rw [h2], by rw [h3], h4, trivial, fun ⟨a, b, c, d⟩ => ⟨a, (mirW_mir b).w2, c, h6 d⟩, h7⟩
  | .either a b => by
    obtain ⟨h1, h2, h3, h4, h5, h6, h7⟩ := mir_facts a
    obtain ⟨g1, g2, g3, g4, g5, g6, g7⟩ := mir_facts b
    simp only [Tm.mir, Tm.depth, Tm.parts, Tm.looks, Tm.joins, Tm.isShift, Tm.wf, Tm.norm]
    exact ⟨by rw [h1, g1], by rw [h2, g2], by rw [h3, g3], by rw [h4, g4], trivial, fun ⟨x, y⟩ => ⟨h6 x, g6 y⟩, fun ⟨x, y⟩ => ⟨h7 x, g7 y⟩⟩
  | .later a b => by
    obtain ⟨h1, h2, h3, h4, h5, h6, h7⟩ := mir_facts a
    obtain ⟨g1, g2, g3, g4, g5, g6, g7⟩ := mir_facts b
    simp only [Tm.mir, Tm.depth, Tm.parts, Tm.looks, Tm.joins, Tm.isShift, Tm.wf, Tm.norm]
    exact ⟨by rw [h1, g1], by rw [h2, g2], by rw [h3, g3], by rw [h4, g4], trivial, fun ⟨x, y⟩ => ⟨h6 x, g6 y⟩, fun ⟨x, y⟩ => ⟨h7 x, g7 y⟩⟩
  | .earlier a b => by
    obtain ⟨h1, h2, h3, h4, h5, h6, h7⟩ := mir_facts a
    obtain ⟨g1, g2, g3, g4, g5, g6, g7⟩ := mir_facts b
    simp only [Tm.mir, Tm.depth, Tm.parts, Tm.looks, Tm.joins, Tm.isShift, Tm.wf, Tm.norm]
    exact ⟨by rw [h1, g1], by rw [h2, g2], by rw [h3, g3], by rw [h4, g4], trivial, fun ⟨x, y⟩ => ⟨h6 x, g6 y⟩, fun ⟨x, y⟩ => ⟨h7 x, g7 y⟩⟩
theorem ren_facts {f : Str → Str} {zs : List Str} (hf : ∀ z ∈ zs, goodName (f z)) : ∀ t : Tm, t.over zs → (t.ren f).depth = t.depth ∧ (t.ren f).parts = t.parts ∧ (t.ren f).looks = t.looks ∧ (t.ren f).joins = t.joins ∧ (t.ren f).isShift = t.isShift ∧ (t.wf → (t.ren f).wf) ∧ (t.norm → (t.ren f).norm)
  | .now, _ => ⟨rfl, rfl, rfl, rfl, rfl, id, id⟩
  | .shift m n, ho => by
    obtain ⟨h1, h2, h3, h4, h5, h6, h7⟩ := ren_facts hf m ho
    simp only [Tm.ren, Tm.depth, Tm.parts, Tm.looks, Tm.joins, Tm.isShift, Tm.wf, Tm.norm]
    exact ⟨by rw [h1], by rw [h2], h3, h4, trivial, h6, fun ⟨a, b, c⟩ => ⟨a, h5.trans b, h7 c⟩⟩
  | .look s m wy lim, ho => by
    obtain ⟨h1, h2, h3, h4, h5, h6, h7⟩ := ren_facts hf m ho.2
    simp only [Tm.ren, Tm.depth, Tm.parts, Tm.looks, Tm.joins, Tm.isShift, Tm.wf, Tm.norm]
    exact ⟨by rw [h1], by rw [h2], by rw [h3], h4, trivial, fun ⟨a, b, c, d⟩ => ⟨hf s ho.1, b, c, h6 d⟩, h7⟩
  | .either a b, ho => by
    obtain ⟨h1, h2, h3, h4, h5, h6, h7⟩ := ren_facts hf a ho.1
    obtain ⟨g1, g2, g3, g4, g5, g6, g7⟩ := ren_facts hf b ho.2
    simp only [Tm.ren, Tm.depth, Tm.parts, Tm.looks, Tm.joins, Tm.isShift, Tm.wf, Tm.norm]
    exact ⟨by rw [h1, g1], by rw [h2, g2], by rw [h3, g3], by rw [h4, g4], trivial, fun ⟨x, y⟩ => ⟨h6 x, g6 y⟩, fun ⟨x, y⟩ => ⟨h7 x, g7 y⟩⟩
  | .later a b, ho => by
    obtain ⟨h1, h2, h3, h4, h5, h6, h7⟩ := ren_facts hf a ho.1
    obtain ⟨g1, g2, g3, g4, g5, g6, g7⟩ := ren_facts hf b ho.2
    simp only [Tm.ren, Tm.depth, Tm.parts, Tm.looks, Tm.joins, Tm.isShift, Tm.wf, Tm.norm]
    exact ⟨by rw [h1, g1], by rw [h2, g2], by rw [h3, g3], by rw [h4, g4], trivial, fun ⟨x, y⟩ => ⟨h6 x, g6 y⟩, fun ⟨x, y⟩ => ⟨h7 x, g7 y⟩⟩
  | .earlier a b, ho => by
    obtain ⟨h1, h2, h3, h4, h5, h6, h7⟩ := ren_facts hf a ho.1
    obtain ⟨g1, g2, g3, g4, g5, g6, g7⟩ := ren_facts hf b ho.2
    simp only [Tm.ren, Tm.depth, Tm.parts, Tm.looks, Tm.joins, Tm.isShift, Tm.wf, Tm.norm]
    exact ⟨by rw [h1, g1], by rw [h2, g2], by rw [h3, g3], by rw [h4, g4], trivial, fun ⟨x, y⟩ => ⟨h6 x, g6 y⟩, fun ⟨x, y⟩ => ⟨h7 x, g7 y⟩⟩
theorem ans_ren {f : Str → Str} {zs : List Str} {r1 r2 : Str → List Int} (h1 : ∀ s, (r1 s).Pairwise (· ≤ ·)) (h2 : ∀ s, (r2 s).Pairwise (· ≤ ·)) (hm : ∀ s ∈ zs, ∀ y, y ∈ r2 (f s) ↔ y ∈ r1 s) (x : Int) : ∀ t : Tm, t.over zs → (t.ren f).ans r2 x = t.ans r1 x
  | .now, _ => rfl
  | .shift m n, h => by
    simp only [Tm.ren, Tm.ans]
    rw [ans_ren h1 h2 hm x m h]
  | .look s m wy lim, h => by
    simp only [Tm.ren, Tm.ans]
    rw [ans_ren h1 h2 hm x m h.2]
    cases m.ans r1 x with
    | none => rfl
    | some y => exact lookedUp_congr (h2 _) (h1 _) (hm s h.1) y wy lim
  | .either a b, h => by
    simp only [Tm.ren, Tm.ans]
    rw [ans_ren h1 h2 hm x a h.1, ans_ren h1 h2 hm x b h.2]
  | .later a b, h => by
    simp only [Tm.ren, Tm.ans]
    rw [ans_ren h1 h2 hm x a h.1, ans_ren h1 h2 hm x b h.2]
  | .earlier a b, h => by
    simp only [Tm.ren, Tm.ans]
    rw [ans_ren h1 h2 hm x a h.1, ans_ren h1 h2 hm x b h.2]
/-! rows moved and renamed -/
theorem movR_names (sg n : Int) (rs : Rws) : (movR sg n rs).map (·.1) = rs.map (·.1) := by unfold movR; rw [List.map_map]; rfl
theorem mem_movR {sg n : Int} {rs : Rws} (hn : (rs.map (·.1)).Nodup) (s : Str) (y : Int) : y ∈ rowsOf (wRows (movR sg n rs)) s ↔ ∃ x ∈ rowsOf (wRows rs) s, y = movI sg n x := by
  rw [mem_world (by rw [movR_names]; exact hn), mem_getR (by rw [movR_names]; exact hn)]
  constructor
  · rintro ⟨r, hr, e, hy⟩
    obtain ⟨r0, h0, rfl⟩ := List.mem_map.mp hr
    obtain ⟨x, hx, rfl⟩ := List.mem_map.mp hy
    exact ⟨x, (mem_world hn _ _).mpr ((mem_getR hn).mpr ⟨r0, h0, e, hx⟩), rfl⟩
  · rintro ⟨x, hx, rfl⟩
    obtain ⟨r0, h0, e, hx⟩ := (mem_getR hn).mp ((mem_world hn _ _).mp hx)
    exact ⟨_, List.mem_map.mpr ⟨r0, h0, rfl⟩, e, List.mem_map.mpr ⟨x, hx, rfl⟩⟩
def renR (f : Str → Str) (rs : Rws) : Rws := rs.map fun r => (f r.1, r.2)
theorem renR_nd {f : Str → Str} {rs : Rws} (hf : ∀ a ∈ rs.map (·.1), ∀ b ∈ rs.map (·.1), f a = f b → a = b) (hn : (rs.map (·.1)).Nodup) : ((renR f rs).map (·.1)).Nodup := by
  have e : (renR f rs).map (·.1) = (rs.map (·.1)).map f := by unfold renR; rw [List.map_map, List.map_map]; rfl
  rw [e]
  exact List.pairwise_map.mpr (List.Pairwise.imp_of_mem (fun ha hb h z => h (hf _ ha _ hb z)) hn)
theorem mem_renR {f : Str → Str} {rs : Rws} (hf : ∀ a ∈ rs.map (·.1), ∀ b ∈ rs.map (·.1), f a = f b → a = b) (hn : (rs.map (·.1)).Nodup) {s : Str} (hs : s ∈ rs.map (·.1)) (y : Int) : y ∈ rowsOf (wRows (renR f rs)) (f s) ↔ y ∈ rowsOf (wRows rs) s := by
  rw [mem_world (renR_nd hf hn), mem_getR (renR_nd hf hn), mem_world hn, mem_getR hn]
  constructor
  · rintro ⟨r, hr, e, hy⟩
    obtain ⟨r0, h0, rfl⟩ := List.mem_map.mp hr
    exact ⟨r0, h0, hf _ (List.mem_map.mpr ⟨r0, h0, rfl⟩) _ hs e, hy⟩
  · rintro ⟨r0, h0, e, hy⟩
    exact ⟨_, List.mem_map.mpr ⟨r0, h0, rfl⟩, by rw [← e], hy⟩
theorem pcs_mov {t : Tm} {r1 r2 : Str → List Int} {n : Int} (h1 : ∀ s, (r1 s).Pairwise (· ≤ ·)) (h2 : ∀ s, (r2 s).Pairwise (· ≤ ·)) (hm : ∀ s y, y ∈ r2 s ↔ ∃ x ∈ r1 s, y = x + n) (hw : t.wf) : t.pcs r2 = (t.pcs r1).map (movP n) := by
  have hab : ∀ x, (fun x => t.ans r2 x) (x + n) = ((fun x => t.ans r1 x) x).map (· + n) := fun x => ans_mov h1 h2 hm x t hw
  obtain ⟨a1, a2⟩ := pcs_til h1 hw
  obtain ⟨b1, b2⟩ := pcs_til h2 hw
  refine pieces_uniq b1 (til_mov hab a1) b2 fun p hp => ?_
  obtain ⟨q, hq, rfl⟩ := List.mem_map.mp hp
  exact max_mov hab (a2 q hq)
theorem pcs_ren {t : Tm} {f : Str → Str} {zs : List Str} {r1 r2 : Str → List Int} (h1 : ∀ s, (r1 s).Pairwise (· ≤ ·)) (h2 : ∀ s, (r2 s).Pairwise (· ≤ ·)) (hm : ∀ s ∈ zs, ∀ y, y ∈ r2 (f s) ↔ y ∈ r1 s) (hw : t.wf) (hw2 : (t.ren f).wf) (ho : t.over zs) : (t.ren f).pcs r2 = t.pcs r1 := by
  have e : (fun x => (t.ren f).ans r2 x) = fun x => t.ans r1 x := funext fun x => ans_ren h1 h2 hm x t ho
  obtain ⟨a1, a2⟩ := pcs_til h1 hw
  obtain ⟨b1, b2⟩ := pcs_til h2 hw2
  rw [e] at b1 b2
  exact pieces_uniq b1 a1 b2 a2
theorem dif_mir {t : Tm} {r1 r2 q1 q2 : Str → List Int} (h1 : ∀ s, (r1 s).Pairwise (· ≤ ·)) (h2 : ∀ s, (r2 s).Pairwise (· ≤ ·)) (g1 : ∀ s, (q1 s).Pairwise (· ≤ ·)) (g2 : ∀ s, (q2 s).Pairwise (· ≤ ·)) (hm1 : ∀ s y, y ∈ q1 s ↔ ∃ x ∈ r1 s, y = 0 - x) (hm2 : ∀ s y, y ∈ q2 s ↔ ∃ x ∈ r2 s, y = 0 - x) (hw : t.wf) :
    difT t.mir q1 q2 = ((difT t r1 r2).map negS).reverse := by
  obtain ⟨a1, a2⟩ := dif_ok h1 h2 hw
  obtain ⟨b1, b2⟩ := dif_ok g1 g2 ((mir_facts t).2.2.2.2.2.1 hw)
  refine asc_uniq b1 (asc_neg a1) fun x => ?_
  rw [mem_neg, b2, a2]
  have e1 := ans_mir h1 g1 hm1 (-x) t hw
  have e2 := ans_mir h2 g2 hm2 (-x) t hw
  rw [show 0 - -x = x by omega] at e1 e2
  rw [e1, e2]
  cases t.ans r1 (-x) <;> cases t.ans r2 (-x) <;> simp only [Option.map_none, Option.map_some, ne_eq, reduceCtorEq, not_true_eq_false, not_false_eq_true, Option.some.injEq]
  omega
/-! the new names -/
def wd (i : Nat) : Str := if i = 0 then "zq" else if i = 1 then "b" else "aaaaaaaaaaaa"
def fwi : List Str → Nat → Str → Str
  | [], _, _ => "b"
  | z :: zs, i, s => if s = z then wd i else fwi zs (i + 1) s
theorem fwi_at : ∀ {zs : List Str} {j i : Nat} {z : Str}, zs.Nodup → zs[j]? = some z → fwi zs i z = wd (i + j)
  | [], j, i, z, _, h => by simp at h
  | y :: zs, 0, i, z, _, h => by
    cases h
    exact if_pos rfl
  | y :: zs, j + 1, i, z, hn, h => by
    have h' : zs[j]? = some z := h
    rw [List.nodup_cons] at hn
    have : z ≠ y := fun e => hn.1 (e ▸ List.mem_of_getElem? h')
    show (if z = y then wd i else fwi zs (i + 1) z) = _
    rw [if_neg this, fwi_at hn.2 h']
    congr 1
    omega
theorem wd_good (i : Nat) : goodName (wd i) := by
  unfold wd
  split
  · exact ⟨by decide, by decide, by decide +kernel⟩
  · split
    · exact ⟨by decide, by decide, by decide +kernel⟩
    · exact ⟨by decide, by decide, by decide +kernel⟩
theorem wd_inj {i j : Nat} (hi : i < 3) (hj : j < 3) (h : wd i = wd j) : i = j := by
  have h1 : wd 0 ≠ wd 1 := by decide
  have h2 : wd 0 ≠ wd 2 := by decide
  have h3 : wd 1 ≠ wd 2 := by decide
  match i, j, hi, hj with
  | 0, 0, _, _ => rfl
  | 0, 1, _, _ => exact absurd h h1
  | 0, 2, _, _ => exact absurd h h2
  | 1, 0, _, _ => exact absurd h.symm h1
  | 1, 1, _, _ => rfl
  | 1, 2, _, _ => exact absurd h h3
  | 2, 0, _, _ => exact absurd h.symm h2
  | 2, 1, _, _ => exact absurd h.symm h3
  | 2, 2, _, _ => rfl
theorem fwi_inj {zs : List Str} (hn : zs.Nodup) (hl : zs.length ≤ 3) : ∀ a ∈ zs, ∀ b ∈ zs, fwi zs 0 a = fwi zs 0 b → a = b := fun a ha b hb h => by
  obtain ⟨i, hi⟩ := List.mem_iff_getElem?.mp ha
  obtain ⟨j, hj⟩ := List.mem_iff_getElem?.mp hb
  have li := (List.getElem?_eq_some_iff.mp hi).1
  have lj := (List.getElem?_eq_some_iff.mp hj).1
  rw [fwi_at hn hi, fwi_at hn hj] at h
  have := wd_inj (by omega) (by omega) h
  have e : i = j := by omega
  rw [e, hj] at hi
  exact (Option.some.inj hi).symm
theorem fwi_good {zs : List Str} (hn : zs.Nodup) : ∀ z ∈ zs, goodName (fwi zs 0 z) := fun z hz => by
  obtain ⟨i, hi⟩ := List.mem_iff_getElem?.mp hz
  rw [fwi_at hn hi]
  exact wd_good _
theorem nd_take {α : Type} {zs : List α} {i : Nat} {z : α} (hn : zs.Nodup) (h : zs[i]? = some z) (hm : z ∈ zs.take i) : False := by
  obtain ⟨j, hj⟩ := List.mem_iff_getElem?.mp hm
  have hji : j < i := by
    have := (List.getElem?_eq_some_iff.mp hj).1
    rw [List.length_take] at this
    omega
  rw [List.getElem?_take_of_lt hji] at hj
  have hl1 := List.getElem?_eq_some_iff.mp hj
  have hl2 := List.getElem?_eq_some_iff.mp h
  exact List.pairwise_iff_getElem.mp hn j i hl1.1 hl2.1 hji (hl1.2.trans hl2.2.symm)
theorem valV_snoc {kvs : List (Key × V)} {k : Key} {v : V} (h : ∀ kv ∈ kvs, kv.1 ≠ k) : valV (kvs ++ [(k, v)]) k = some v := by
  unfold valV
  rw [List.find?_append]
  have : kvs.find? (fun p => decide (p.1 = k)) = none := List.find?_eq_none.mpr fun kv hkv => by simpa using h kv hkv
  rw [this]
  simp
theorem valV_map {f : Str → V} : ∀ {zs : List Str} {z : Str}, z ∈ zs → valV (zs.map fun z => ((.inr z : Key), f z)) (.inr z) = some (f z)
  | x :: zs, z, h => by
    by_cases e : x = z
    · subst e
      simp [valV]
    · have hz : z ∈ zs := by
        rcases List.mem_cons.mp h with h | h
        · exact absurd h.symm e
        · exact h
      have ih := valV_map (f := f) hz
      simp only [valV, List.map_cons, List.find?_cons] at ih ⊢
      rw [show decide ((Sum.inr x : Key) = .inr z) = false from decide_eq_false fun q => e (Sum.inr.inj q)]
      exact ih
theorem movI_inj {sg n x y : Int} (h : sg ≠ 0) (e : movI sg n x = movI sg n y) : x = y := by
  unfold movI at e
  exact Int.eq_of_mul_eq_mul_left h (by omega)
theorem movR_good {sg n : Int} {rs : Rws} (h : sg ≠ 0) (g : goodRows rs) : goodRows (movR sg n rs) := by
  refine ⟨fun r hr => ?_, ?_⟩
  · obtain ⟨r0, h0, rfl⟩ := List.mem_map.mp hr
    obtain ⟨g1, g2, g3⟩ := g.1 r0 h0
    exact ⟨g1, List.pairwise_map.mpr (g2.imp fun hne e => hne (movI_inj h e)), by rw [List.length_map]; exact g3⟩
  · have e : (movR sg n rs).map (fun r => r.2.length) = rs.map fun r => r.2.length := by
      unfold movR
      rw [List.map_map]
      exact List.map_congr_left fun r _ => List.length_map ..
    rw [e]
    exact g.2
theorem renR_good {f : Str → Str} {rs : Rws} (hf : ∀ r ∈ rs, goodName (f r.1)) (g : goodRows rs) : goodRows (renR f rs) := by
  refine ⟨fun r hr => ?_, ?_⟩
  · obtain ⟨r0, h0, rfl⟩ := List.mem_map.mp hr
    exact ⟨hf r0 h0, (g.1 r0 h0).2⟩
  · have e : (renR f rs).map (fun r => r.2.length) = rs.map fun r => r.2.length := by
      unfold renR
      rw [List.map_map]
      rfl
    rw [e]
    exact g.2
theorem Lw.rev {α : Type} {E : V → α → Prop} : ∀ {vs : List V} {as : List α}, Lw E vs as → Lw E vs.reverse as.reverse
  | [], [], _ => trivial
  | v :: vs, a :: as, h => by
    rw [List.reverse_cons, List.reverse_cons]
    exact (Lw.rev h.2).app ⟨h.1, trivial⟩
end Pl

namespace Pl
open PySem L2
section
variable {P : Program} {w : World} {K : PySem.W.Frag} {mg : Str → Option Value} {base : Heap}
/-- told(term, world, now) -/
theorem ok_told (T : Txt P K mg) {k : Nat} : FnOk P w K mg base CX0 (k + 18) T.told.f T.told.fd ["term", "world", "now"] (spTCall T) := by
  have G_check_term : FnOk P w K mg base CX0 (k + 1) T.check_term.f T.check_term.fd ["value"] (spCkTerm T) := ok_check_term T
  have G_call : FnR P w K mg base CX0 (k + 17) T.Term_call.f (spTCall T) := ok_term_call T
  refine T.told.F.ok (k := k + 17) sc_told (fun vs H Q E h => ?_) (fun cdv A outer s H vs Q E hr h => ?_)
  · obtain ⟨t, a, wa, l, ps, x, rfl, _⟩ := h
    rfl
  · obtain ⟨t, a, wa, l, ps, x, rfl, hd, hw, hta, ho, hl, q⟩ := h
    obtain ⟨dx, fs, h1, _⟩ := hta.obj
    refine ⟨_, (pss_cons (ps_expr (pe_call G_check_term (hr.mono (by omega)) (by rfl) T.check_term.g T.check_term.F.kp T.check_term.b .nil pass0 (pa_cons (pv 0) pa_nil)))
  (pss_one (ps_ret (pe_callV (pv 0) G_call (hr.mono (by omega)) pass0 (pa_cons (pv 1) (pa_cons (pv 2) pa_nil)))))), ?_⟩
    exact ⟨.ref a, rfl, t, a, rfl, hta, .ref a, rfl, a, rfl, .ref wa, rfl, .int x, rfl, _, dx, fs, h1, callO_of T t, t, a, wa, l, ps, x, rfl, hd, hw, hta, ho, hl, q⟩
end
end Pl

namespace Pl
open PySem L2
local macro_rules | `(tactic| infer_instance) => `(tactic| first
  | with_reducible assumption
  | with_reducible exact Same.refl _
  | exact Wd.gh (by with_reducible assumption)
  | exact sm2 (by with_reducible assumption) (by infer_instance)
  | exact sm2 (same_upd (by with_reducible assumption)) (by infer_instance)
  | exact sm2 (Wd.gh (by with_reducible assumption)) (by infer_instance))
local macro_rules | `(tactic| trivial) => `(tactic| first
  | with_reducible assumption
  | with_reducible exact upd_same
  | exact at_same (by with_reducible assumption) (by trivial)
  | exact at_same (same_upd (by with_reducible assumption)) (by trivial)
  | exact at_same (Wd.gh (by with_reducible assumption)) (by trivial))
local macro_rules | `(tactic| ac_rfl) => `(tactic| first
  | exact Ty.int _
  | exact Ty.str _
  | exact Ty.non
  | exact Ty.bl _
  | exact Ty.tup (by trivial)
  | exact Ty.lst (by trivial))
local macro_rules | `(tactic| contradiction) => `(tactic| first
  | exact rfl
  | exact decide_eq_true (by first | assumption | omega)
  | exact decide_eq_false (by first | assumption | omega)
  | exact dI_t (by first | assumption | omega)
  | exact dI_f (by first | assumption | omega)
  | exact dS_t (by first | assumption | decide)
  | exact dS_f (by first | assumption | decide)
  | exact nI_t (by first | assumption | omega)
  | exact nI_f (by first | assumption | omega)
  | exact nS_t (by first | assumption | decide)
  | exact nS_f (by first | assumption | decide)
  | assumption
  | exact q_none_int | exact q_none_bool | exact q_none_tuple | exact q_none_list | exact q_none_str | exact q_bool_int | exact q_bool_bool | exact q_bool_tuple | exact q_bool_list | exact q_bool_str | exact q_int_int | exact q_int_bool | exact q_int_tuple | exact q_int_list | exact q_int_str | exact q_str_int | exact q_str_bool | exact q_str_tuple | exact q_str_list | exact q_str_str | exact q_list_int | exact q_list_bool | exact q_list_tuple | exact q_list_list | exact q_list_str | exact q_tuple_int | exact q_tuple_bool | exact q_tuple_tuple | exact q_tuple_list | exact q_tuple_str
  | exact nb_t (by contradiction)
  | exact nb_f (by contradiction))
local macro_rules | `(tactic| and_intros) => `(tactic| repeat (first
  | refine ⟨_, rfl, ?_⟩
  | refine ⟨_, _, rfl, rfl, ?_⟩
  | refine ⟨rfl, ?_⟩
  | refine ⟨_, _, _, _, rfl, rfl, SqT.of (by trivial), at_ix (by decide) rfl, ?_⟩
  | refine ⟨_, _, _, _, rfl, rfl, SqL.of (by trivial), at_ix (by decide) rfl, ?_⟩
  | refine ⟨_, _, rfl, Or.inl (SqL.of (by trivial)), ?_⟩
  | refine ⟨_, _, rfl, Or.inr (SqT.of (by trivial)), ?_⟩
  | refine ⟨_, _, _, _, _, rfl, (by trivial), (by trivial), (by trivial), rfl, ?_⟩
  | refine ⟨_, _, _, _, _, rfl, ClsV.ty _, Ty.x (by ac_rfl), isI_tuple (by ac_rfl), ?_⟩
  | refine ⟨_, _, _, _, _, rfl, ClsV.ty _, Ty.x (by ac_rfl), isI_list (by ac_rfl), ?_⟩
  | refine ⟨_, _, _, _, _, rfl, ClsV.ty _, Ty.x (by ac_rfl), isI_int (by ac_rfl), ?_⟩
  | refine ⟨_, _, _, _, _, rfl, ClsV.ty _, Ty.x (by ac_rfl), isI_bool (by ac_rfl), ?_⟩
  | refine ⟨_, _, _, _, _, rfl, ClsV.ty _, Ty.x (by ac_rfl), isI_str (by ac_rfl), ?_⟩
  | refine ⟨sz (Nat.le_of_ble_eq_true rfl), ?_⟩
  | refine ⟨Or.inl ⟨rfl, _, SqL.of (by trivial)⟩, ?_⟩
  | refine ⟨_, _, rfl, SqT.of (by trivial), rfl, _, _, rfl, _, _, rfl, _, _, rfl, _, _, rfl, rfl, ?_⟩
  | refine ⟨_, _, rfl, SqT.of (by trivial), rfl, _, _, rfl, _, _, rfl, _, _, rfl, rfl, ?_⟩
  | refine ⟨_, _, rfl, SqT.of (by trivial), rfl, _, _, rfl, _, _, rfl, rfl, ?_⟩
  | refine ⟨_, _, _, _, rfl, (by with_reducible assumption : Wd _ _ _ _), (by first | decide | omega), (by first | decide | omega), ?_⟩
  | refine ⟨_, _, _, rfl, (by with_reducible assumption : Wd _ _ _ _), ?_⟩
  | refine iT (by contradiction) ?_
  | refine iF (by contradiction) ?_))
-- USE RD
def spLaw (K : PySem.W.Frag) : Sp := fun vs H Q _ => ∃ (a : Addr) (ns : List Int), vs = [.ref a] ∧ SqL K H a (ns.map V.int) ∧ ns.length ≤ 63 ∧ ∀ H', Q (.bl true) H'
section
variable {P : Program} {w : World} {K : PySem.W.Frag} {mg : Str → Option Value} {base : Heap}
theorem ok_law (T : Txt P K mg) : FnOk P w K mg base CX0 40 T.law.f T.law.fd ["_law_script"] (spLaw K) := by
  have G_law_open : FnOk P w K mg base CX0 (17 + 1) T.law_open.f T.law_open.fd ["_law_script"] (spOpen K) := ok_law_open T
  have G_law_pick : FnOk P w K mg base CX0 (17 + 1) T.law_pick.f T.law_pick.fd ["_law_box", "_law_many"] spPick := ok_law_pick T
  have G_law_number : FnOk P w K mg base CX0 (16 + 2) T.law_number.f T.law_number.fd ["_law_box"] spNumber := ok_law_number T
  have G_law_names : FnOk P w K mg base CX0 (16 + 2) T.law_names.f T.law_names.fd ["_law_box", "_law_many"] spNames := ok_law_names T
  have G_law_tree : FnOk P w K mg base CX0 (6 + 4 + 7) T.law_tree.f T.law_tree.fd ["_law_box", "_law_names_here", "_law_looks", "_law_joins"] (spTree 7) := ok_law_tree T 7
  have G_law_term : FnOk P w K mg base CX0 (2 + 7 + 8) T.law_term.f T.law_term.fd ["_law_tree_here"] (spTermL T 8) := ok_law_term T 8
  have G_law_mirror : FnOk P w K mg base CX0 (2 + 1 + 8) T.law_mirror.f T.law_mirror.fd ["_law_tree_here"] (spMirror 8) := ok_law_mirror T 8
  have G_law_renamed : FnOk P w K mg base CX0 (2 + 1 + 8) T.law_renamed.f T.law_renamed.fd ["_law_tree_here", "_law_words"] (spRenamed 8) := ok_law_renamed T 8
  have G_law_rows : FnOk P w K mg base CX0 (14 + 4) T.law_rows.f T.law_rows.fd ["_law_box", "_law_names_here", "_law_most"] spRowB := ok_law_rowB T
  have G_law_moved : FnOk P w K mg base CX0 (0 + 1) T.law_moved.f T.law_moved.fd ["_law_rows_here", "_law_sign", "_law_amount"] spMovD := ok_law_moved T
  have G_law_world : FnOk P w K mg base CX0 (12 + 6) T.law_world.f T.law_world.fd ["_law_rows_here"] (spWorldL T) := ok_law_world T
  have G_World_init : FnR P w K mg base CX0 (12 + 4) T.World_init.f (spWInit T) := ok_world_init T
  have G_law_pairs : FnOk P w K mg base CX0 (17 + 1) T.law_pairs.f T.law_pairs.fd ["_law_rows_here"] spPairsL := ok_law_pairs T
  have G_told : FnOk P w K mg base CX0 (2 + 18) T.told.f T.told.fd ["term", "world", "now"] (spTCall T) := ok_told T
  have G_law_answer : FnOk P w K mg base CX0 (16 + 2) T.law_answer.f T.law_answer.fd ["_law_thing", "_law_due"] spAnswerL := ok_law_answer T
  have G_law_minus : FnOk P w K mg base CX0 (0 + 1) T.law_minus.f T.law_minus.fd ["_law_value"] spMinus := ok_law_minus T
  have G_law_moved_piece : FnOk P w K mg base CX0 (0 + 1) T.law_moved_piece.f T.law_moved_piece.fd ["_law_piece", "_law_amount"] spMovedPiece := ok_law_moved_piece T
  have G_law_equal : FnOk P w K mg base CX0 (15 + 3 + 1) T.law_equal.f T.law_equal.fd ["_law_one", "_law_other"] (spEqual 3) := ok_law_equal T 3
  have G_pieces : FnOk P w K mg base CX0 (0 + 30) T.pieces.f T.pieces.fd ["term", "world"] (spPieces T) := ok_pieces T
  have G_differences : FnOk P w K mg base CX0 (0 + 30) T.differences.f T.differences.fd ["term", "world", "other"] (spDiff T) := ok_differences T
  refine T.law.F.ok (k := 39) sc_law (fun vs H Q E h => ?_) (fun cdv A outer s H vs Q E hr h => ?_)
  · obtain ⟨a, ns, rfl, _⟩ := h
    rfl
  · obtain ⟨sa, sns, rfl, hS, hl, q⟩ := h
    refine ⟨_, (pss_cons (ps_set (i := 1) sc_law.nd rfl (.inr rfl) (pe_call G_law_open (hr.mono (by omega)) (by rfl) T.law_open.g T.law_open.F.kp T.law_open.b .nil pass0 (pa_cons (pv 0) pa_nil)))
  (pss_cons (ps_set (i := 2) sc_law.nd rfl (.inl rfl) (pe_call G_law_names (hr.mono (by omega)) (by rfl) T.law_names.g T.law_names.F.kp T.law_names.b .nil pass0 (pa_cons (pv 1) (pa_cons (pe_op op_add pe_int (pe_call G_law_pick (hr.mono (by omega)) (by rfl) T.law_pick.g T.law_pick.F.kp T.law_pick.b .nil pass0 (pa_cons (pv 1) (pa_cons pe_int pa_nil)))) pa_nil))))
  (pss_cons (ps_set (i := 3) sc_law.nd rfl (.inl rfl) (pe_call G_law_tree (hr.mono (by omega)) (by rfl) T.law_tree.g T.law_tree.F.kp T.law_tree.b .nil pass0 (pa_cons (pv 1) (pa_cons (pv 2) (pa_cons (pe_call G_law_pick (hr.mono (by omega)) (by rfl) T.law_pick.g T.law_pick.F.kp T.law_pick.b .nil pass0 (pa_cons (pv 1) (pa_cons pe_int pa_nil))) (pa_cons (pe_call G_law_pick (hr.mono (by omega)) (by rfl) T.law_pick.g T.law_pick.F.kp T.law_pick.b .nil pass0 (pa_cons (pv 1) (pa_cons pe_int pa_nil))) pa_nil))))))
  (pss_cons (ps_set (i := 4) sc_law.nd rfl (.inl rfl) (pe_call G_law_rows (hr.mono (by omega)) (by rfl) T.law_rows.g T.law_rows.F.kp T.law_rows.b .nil pass0 (pa_cons (pv 1) (pa_cons (pv 2) (pa_cons pe_int pa_nil)))))
  (pss_cons (ps_set (i := 5) sc_law.nd rfl (.inl rfl) (pe_call G_law_rows (hr.mono (by omega)) (by rfl) T.law_rows.g T.law_rows.F.kp T.law_rows.b .nil pass0 (pa_cons (pv 1) (pa_cons (pv 2) (pa_cons pe_int pa_nil)))))
  (pss_cons (ps_set (i := 6) sc_law.nd rfl (.inr rfl) (pe_call G_law_number (hr.mono (by omega)) (by rfl) T.law_number.g T.law_number.F.kp T.law_number.b .nil pass0 (pa_cons (pv 1) pa_nil)))
  (pss_cons (ps_set (i := 7) sc_law.nd rfl (.inl rfl) (pe_call G_law_term (hr.mono (by omega)) (by rfl) T.law_term.g T.law_term.F.kp T.law_term.b .nil pass0 (pa_cons (pv 3) pa_nil)))
  (pss_cons (ps_set (i := 8) sc_law.nd rfl (.inl rfl) (pe_call G_law_term (hr.mono (by omega)) (by rfl) T.law_term.g T.law_term.F.kp T.law_term.b .nil pass0 (pa_cons (pe_call G_law_mirror (hr.mono (by omega)) (by rfl) T.law_mirror.g T.law_mirror.F.kp T.law_mirror.b .nil pass0 (pa_cons (pv 3) pa_nil)) pa_nil)))
  (pss_cons (ps_set (i := 9) sc_law.nd rfl (.inl rfl) pe_dnewK)
  (pss_cons (ps_set (i := 10) sc_law.nd rfl (.inl rfl) pe_dnewK)
  (pss_cons (ps_for PassesOwn.never rfl (pi_range1 (by rfl) T.n_range (pa_cons (pe_callB call_len_seq (by rfl) T.n_len PySem.boot_len (pa_cons (pv 2) pa_nil)) pa_nil)) (pg_name (i := 11) sc_law.nd rfl (.inl rfl))
   (pss_cons (ps_asg (pe_ix ix_list (pe_lst (pa_cons pe_str (pa_cons pe_str (pa_cons pe_str pa_nil)))) (pv 11) (fun _ _ => rfl)) (pg_sub (pv 9) (pe_ix ix_list (pv 2) (pv 11) (fun _ _ => rfl)) (set_dict (hu_of hr))))
  (pss_one (ps_asg (pe_callTy call_list_of (by rfl) T.n_list (by decide +kernel) (pa_cons (pe_dget (hu_of hr) (pv 4) (pe_ix ix_list (pv 2) (pv 11) (fun _ _ => rfl)) (fun _ _ => rfl)) pa_nil)) (pg_sub (pv 10) (pe_dget (hu_of hr) (pv 9) (pe_ix ix_list (pv 2) (pv 11) (fun _ _ => rfl)) (fun _ _ => rfl)) (set_dict (hu_of hr)))))))
  (pss_cons (ps_set (i := 12) sc_law.nd rfl (.inl rfl) (pe_call G_law_term (hr.mono (by omega)) (by rfl) T.law_term.g T.law_term.F.kp T.law_term.b .nil pass0 (pa_cons (pe_call G_law_renamed (hr.mono (by omega)) (by rfl) T.law_renamed.g T.law_renamed.F.kp T.law_renamed.b .nil pass0 (pa_cons (pv 3) (pa_cons (pv 9) pa_nil))) pa_nil)))
  (pss_cons (ps_set (i := 13) sc_law.nd rfl (.inl rfl) (pe_call G_law_world (hr.mono (by omega)) (by rfl) T.law_world.g T.law_world.F.kp T.law_world.b .nil pass0 (pa_cons (pe_call G_law_moved (hr.mono (by omega)) (by rfl) T.law_moved.g T.law_moved.F.kp T.law_moved.b .nil pass0 (pa_cons (pv 4) (pa_cons pe_int (pa_cons (pv 6) pa_nil)))) pa_nil)))
  (pss_cons (ps_set (i := 14) sc_law.nd rfl (.inl rfl) (pe_call G_law_world (hr.mono (by omega)) (by rfl) T.law_world.g T.law_world.F.kp T.law_world.b .nil pass0 (pa_cons (pe_call G_law_moved (hr.mono (by omega)) (by rfl) T.law_moved.g T.law_moved.F.kp T.law_moved.b .nil pass0 (pa_cons (pv 4) (pa_cons (pe_un un_neg pe_int) (pa_cons pe_int pa_nil)))) pa_nil)))
  (pss_cons (ps_set (i := 15) sc_law.nd rfl (.inl rfl) (pe_op op_cat (pe_lc (own := [("_law_k", 11)]) (g := gName 11) (tt := tYes) (te := (tCall _ _ _ (tCons (tVar 1) tNil))) rfl sc_law.nd (pi_range1 (by rfl) T.n_range (pa_cons pe_int pa_nil)) (blkOk_by (own := [("_law_k", 11)]) (N := N_law) (sc := defScope s_law) (by decide +kernel)) (fun _ _ _ _ _ => (pg_name (i := 11) sc_law.nd rfl (.inl rfl))) (fun _ _ _ _ _ => pts_nil) (fun _ _ _ _ _ => (pe_call G_law_number (hr.mono (by omega)) (by rfl) T.law_number.g T.law_number.F.kp T.law_number.b .nil pass0 (pa_cons (pv 1) pa_nil)))) (pe_slice sl_list (pe_lc (own := [("_law_pair", 24)]) (g := gName 24) (tt := tYes) (te := (tOp (rIxT K) (tVar 24) (tC _))) rfl sc_law.nd (pi_list (pe_call G_law_pairs (hr.mono (by omega)) (by rfl) T.law_pairs.g T.law_pairs.F.kp T.law_pairs.b .nil pass0 (pa_cons (pv 4) pa_nil))) (blkOk_by (own := [("_law_pair", 24)]) (N := N_law) (sc := defScope s_law) (by decide +kernel)) (fun _ _ _ _ _ => (pg_name (i := 24) sc_law.nd rfl (.inl rfl))) (fun _ _ _ _ _ => pts_nil) (fun _ _ _ _ _ => (pe_ix ix_tup (pv 24) pe_int (fun _ _ => rfl)))) po_none (po_some pe_int))))
  (pss_cons (ps_for PassesOwn.never rfl (pi_list (pv 15)) (pg_name (i := 16) sc_law.nd rfl (.inl rfl))
   (pss_cons (ps_set (i := 20) sc_law.nd rfl (.inl rfl) (pe_call G_told (hr.mono (by omega)) (by rfl) T.told.g T.told.F.kp T.told.b .nil pass0 (pa_cons (pv 7) (pa_cons (pe_call G_law_world (hr.mono (by omega)) (by rfl) T.law_world.g T.law_world.F.kp T.law_world.b .nil pass0 (pa_cons (pv 4) pa_nil)) (pa_cons (pv 16) pa_nil)))))
  (pss_cons (ps_set (i := 21) sc_law.nd rfl (.inl rfl) (pe_ifExp (pt_cmpR op_isN (pv 20) pe_non (nomark _)) pe_non (pe_op op_add (pv 20) (pv 6))))
  (pss_cons (ps_if (pt_not (pt_val (pe_call G_law_answer (hr.mono (by omega)) (by rfl) T.law_answer.g T.law_answer.F.kp T.law_answer.b .nil pass0 (pa_cons (pe_call G_told (hr.mono (by omega)) (by rfl) T.told.g T.told.F.kp T.told.b .nil pass0 (pa_cons (pv 7) (pa_cons (pv 13) (pa_cons (pe_op op_add (pv 16) (pv 6)) pa_nil)))) (pa_cons (pv 21) pa_nil))))) (pss_one (ps_ret pe_bl)) pss_nil)
  (pss_cons (ps_if (pt_not (pt_val (pe_call G_law_answer (hr.mono (by omega)) (by rfl) T.law_answer.g T.law_answer.F.kp T.law_answer.b .nil pass0 (pa_cons (pe_call G_told (hr.mono (by omega)) (by rfl) T.told.g T.told.F.kp T.told.b .nil pass0 (pa_cons (pv 8) (pa_cons (pv 14) (pa_cons (pe_op op_sub pe_int (pv 16)) pa_nil)))) (pa_cons (pe_call G_law_minus (hr.mono (by omega)) (by rfl) T.law_minus.g T.law_minus.F.kp T.law_minus.b .nil pass0 (pa_cons (pv 20) pa_nil)) pa_nil))))) (pss_one (ps_ret pe_bl)) pss_nil)
  (pss_one (ps_if (pt_not (pt_val (pe_call G_law_answer (hr.mono (by omega)) (by rfl) T.law_answer.g T.law_answer.F.kp T.law_answer.b .nil pass0 (pa_cons (pe_call G_told (hr.mono (by omega)) (by rfl) T.told.g T.told.F.kp T.told.b .nil pass0 (pa_cons (pv 12) (pa_cons (StX.pe_makeR T.mk_World G_World_init (hr.mono (by omega)) (by rfl) T.g_World pass0 (pa_cons (pv 10) pa_nil)) (pa_cons (pv 16) pa_nil)))) (pa_cons (pv 20) pa_nil))))) (pss_one (ps_ret pe_bl)) pss_nil)))))))
  (pss_cons (ps_setLc (i := 17) (own := [("_law_piece", 22)]) (g := gName 22) (tt := tYes) (te := (tCall _ _ _ (tCons (tVar 22) (tCons (tVar 6) tNil)))) rfl sc_law.nd rfl rfl (sw_true rfl rfl rfl (by decide +kernel)) (pi_list (pe_call G_pieces (hr.mono (by omega)) (by rfl) T.pieces.g T.pieces.F.kp T.pieces.b .nil pass0 (pa_cons (pv 7) (pa_cons (pe_call G_law_world (hr.mono (by omega)) (by rfl) T.law_world.g T.law_world.F.kp T.law_world.b .nil pass0 (pa_cons (pv 4) pa_nil)) pa_nil)))) (blkOk_by (own := [("_law_piece", 22)]) (N := N_law) (sc := defScope s_law) (by decide +kernel)) (fun _ _ _ _ _ => (pg_name (i := 22) sc_law.nd rfl (.inl rfl))) (fun _ _ _ _ _ => pts_nil) (fun _ _ _ _ _ => (pe_call G_law_moved_piece (hr.mono (by omega)) (by rfl) T.law_moved_piece.g T.law_moved_piece.F.kp T.law_moved_piece.b .nil pass0 (pa_cons (pv 22) (pa_cons (pv 6) pa_nil)))))
  (pss_cons (ps_if (pt_not (pt_val (pe_call G_law_equal (hr.mono (by omega)) (by rfl) T.law_equal.g T.law_equal.F.kp T.law_equal.b .nil pass0 (pa_cons (pe_call G_pieces (hr.mono (by omega)) (by rfl) T.pieces.g T.pieces.F.kp T.pieces.b .nil pass0 (pa_cons (pv 7) (pa_cons (pv 13) pa_nil))) (pa_cons (pv 17) pa_nil))))) (pss_one (ps_ret pe_bl)) pss_nil)
  (pss_cons (ps_if (pt_not (pt_val (pe_call G_law_equal (hr.mono (by omega)) (by rfl) T.law_equal.g T.law_equal.F.kp T.law_equal.b .nil pass0 (pa_cons (pe_call G_pieces (hr.mono (by omega)) (by rfl) T.pieces.g T.pieces.F.kp T.pieces.b .nil pass0 (pa_cons (pv 12) (pa_cons (StX.pe_makeR T.mk_World G_World_init (hr.mono (by omega)) (by rfl) T.g_World pass0 (pa_cons (pv 10) pa_nil)) pa_nil))) (pa_cons (pe_call G_pieces (hr.mono (by omega)) (by rfl) T.pieces.g T.pieces.F.kp T.pieces.b .nil pass0 (pa_cons (pv 7) (pa_cons (pe_call G_law_world (hr.mono (by omega)) (by rfl) T.law_world.g T.law_world.F.kp T.law_world.b .nil pass0 (pa_cons (pv 4) pa_nil)) pa_nil))) pa_nil))))) (pss_one (ps_ret pe_bl)) pss_nil)
  (pss_cons (ps_set (i := 18) sc_law.nd rfl (.inl rfl) (pe_call G_differences (hr.mono (by omega)) (by rfl) T.differences.g T.differences.F.kp T.differences.b .nil pass0 (pa_cons (pv 7) (pa_cons (pe_call G_law_world (hr.mono (by omega)) (by rfl) T.law_world.g T.law_world.F.kp T.law_world.b .nil pass0 (pa_cons (pv 4) pa_nil)) (pa_cons (pe_call G_law_world (hr.mono (by omega)) (by rfl) T.law_world.g T.law_world.F.kp T.law_world.b .nil pass0 (pa_cons (pv 5) pa_nil)) pa_nil)))))
  (pss_cons (ps_setLc (i := 19) (own := [("_law_entry", 23)]) (g := gName 23) (tt := tYes) (te := (tTup (tCons (tCall _ _ _ (tCons (tOp (rIxT K) (tVar 23) (tC _)) tNil)) (tCons (tCall _ _ _ (tCons (tOp (rIxT K) (tVar 23) (tC _)) tNil)) tNil)))) rfl sc_law.nd rfl rfl (sw_true rfl rfl rfl (by decide +kernel)) (pi_list (pv 18)) (blkOk_by (own := [("_law_entry", 23)]) (N := N_law) (sc := defScope s_law) (by decide +kernel)) (fun _ _ _ _ _ => (pg_name (i := 23) sc_law.nd rfl (.inl rfl))) (fun _ _ _ _ _ => pts_nil) (fun _ _ _ _ _ => (pe_tup (pa_cons (pe_call G_law_minus (hr.mono (by omega)) (by rfl) T.law_minus.g T.law_minus.F.kp T.law_minus.b .nil pass0 (pa_cons (pe_ix ix_tup (pv 23) pe_int (fun _ _ => rfl)) pa_nil)) (pa_cons (pe_call G_law_minus (hr.mono (by omega)) (by rfl) T.law_minus.g T.law_minus.F.kp T.law_minus.b .nil pass0 (pa_cons (pe_ix ix_tup (pv 23) pe_int (fun _ _ => rfl)) pa_nil)) pa_nil)))))
  (pss_cons (ps_expr (pe_bm0 PySem.F.plainAttrs_list PySem.F.slot_list_reverse PySem.F.type_list_reverse mt_reverse (pv 19)))
  (pss_one (ps_ret (pe_call G_law_equal (hr.mono (by omega)) (by rfl) T.law_equal.g T.law_equal.F.kp T.law_equal.b .nil pass0 (pa_cons (pe_call G_differences (hr.mono (by omega)) (by rfl) T.differences.g T.differences.F.kp T.differences.b .nil pass0 (pa_cons (pv 8) (pa_cons (pv 14) (pa_cons (pe_call G_law_world (hr.mono (by omega)) (by rfl) T.law_world.g T.law_world.F.kp T.law_world.b .nil pass0 (pa_cons (pe_call G_law_moved (hr.mono (by omega)) (by rfl) T.law_moved.g T.law_moved.F.kp T.law_moved.b .nil pass0 (pa_cons (pv 5) (pa_cons (pe_un un_neg pe_int) (pa_cons pe_int pa_nil)))) pa_nil)) pa_nil)))) (pa_cons (pv 19) pa_nil))))))))))))))))))))))))))), ?_⟩
    refine ⟨_, rfl, sa, sns, rfl, hS, hl, fun b c H1 _ _ s1 bx => ?_⟩
    have W1 : Wd b c H0 H1 := Wd.begin bx
    refine ⟨_, rfl, _, rfl, b, c, _, 3, rfl, W1, by decide, by decide, fun i H2 W2 i0 i1 => ⟨1, i, rfl, rfl, ?_⟩⟩
    have ei : (1 : Int) + i = ((1 + i.toNat : Nat) : Int) := by omega
    refine ⟨b, c, _, 1 + i.toNat, by show [V.ref b, V.int (1 + i)] = _; rw [ei], W2, by omega, fun nl zs H3 _ nb nc W3 nd hz hg => ?_⟩
    refine ⟨_, rfl, _, rfl, _, rfl, b, c, _, 4, rfl, W3, by decide, by decide, fun lk H4 W4 l0 l1 => ?_⟩
    refine ⟨_, rfl, b, c, _, 4, rfl, W4, by decide, by decide, fun jn H5 W5 j0 j1 => ?_⟩
    have el : lk = ((lk.toNat : Nat) : Int) := by omega
    have ej : jn = ((jn.toNat : Nat) : Int) := by omega
    refine ⟨b, c, nl, _, zs, lk.toNat, jn.toNat, by show [V.ref b, V.ref nl, V.int lk, V.int jn] = _; rw [← el, ← ej], W5, upd_same, by omega, by omega, hg, by omega, by decide, fun t ta G6 H6 s6 W6 ht okt => ?_⟩
    have hnl6 : G6 nl = some (.lst (zs.map V.str)) := s6 _ _ upd_same
    have td := okt.dp
    have tp := okt.pt
    have tl := okt.lk
    have tfit : t.fits := ⟨by omega, by omega, by omega⟩
    refine ⟨_, rfl, _, rfl, b, c, nl, _, 5, zs, rfl, W6, hnl6, by decide, nd, by omega, fun d G8 H8 kvs rs s8 W8 hd he hk hrs => ?_⟩
    refine ⟨_, rfl, _, rfl, b, c, nl, _, 3, zs, rfl, W8, s8 _ _ hnl6, by decide, nd, by omega, fun d2 G9 H9 kvs2 rs2 s9 W9 hd2 he2 hk2 hrs2 => ?_⟩
    refine ⟨_, rfl, b, c, _, rfl, W9, fun am H10 W10 am0 am1 => ?_⟩
    have hgood : goodRows rs := rows_good hk hg (fun r h => ⟨(hrs r h).1, (hrs r h).2.1⟩) (by omega) (by decide)
    have hgood2 : goodRows rs2 := rows_good hk2 hg (fun r h => ⟨(hrs2 r h).1, (hrs2 r h).2.1⟩) (by omega) (by decide)
    have R9 : RsOk G9 d kvs rs zs 5 := ⟨s9 _ _ hd, he.same s9, hk, fun r h => ⟨(hrs r h).1, (hrs r h).2.1⟩⟩
    have R9b : RsOk G9 d2 kvs2 rs2 zs 3 := ⟨hd2, he2, hk2, fun r h => ⟨(hrs2 r h).1, (hrs2 r h).2.1⟩⟩
    have big1 : ∀ r ∈ rs, ∀ x ∈ r.2, x.natAbs < 2 ^ 200 := fun r h x hx => ((hrs r h).2.2 x hx).big (by decide)
    have big2 : ∀ r ∈ rs2, ∀ x ∈ r.2, x.natAbs < 2 ^ 200 := fun r h x hx => ((hrs2 r h).2.2 x hx).big (by decide)
    have hnl9 := s9 _ _ (s8 _ _ hnl6)
    have ht9 := (ht.same s8).same s9
    have hrn : (rs.map (·.1)).Nodup := by rw [hk]; exact nd
    have hrn2 : (rs2.map (·.1)).Nodup := by rw [hk2]; exact nd
    have hrl : rs.length ≤ 10 := by
      have := congrArg List.length hk
      rw [List.length_map] at this
      omega
    have hrl2 : rs2.length ≤ 10 := by
      have := congrArg List.length hk2
      rw [List.length_map] at this
      omega
    clear W1 W2 W3 W4 W5 W6 W8 W9 ht hnl6 s8 s6 s9 hd he hd2 he2 hS hrs hrs2 am0 am1
    -- the terms
    obtain ⟨md, mp, ml, mj, _, mw, mno⟩ := mir_facts t
    have fgood := fwi_good nd
    have finj : ∀ a ∈ zs, ∀ b ∈ zs, fwi zs 0 a = fwi zs 0 b → a = b := fwi_inj nd (by omega)
    obtain ⟨ed, ep, el2, ej2, _, ew, eno⟩ := ren_facts fgood t okt.ov
    refine ⟨_, rfl, t, ta, rfl, ht9.same W10.gh, by omega, okt.wf, okt.nm, tfit, fun tr H11 s11 htr => ?_⟩
    have W11 := W10.sm s11
    refine ⟨_, rfl, t, ta, rfl, ht9.same W11.gh, by omega, okt.wf, fun mt H12 s12 hmt => ?_⟩
    refine ⟨t.mir, mt, rfl, hmt, by omega, mw okt.wf, mno okt.nm, ⟨by omega, by omega, by omega⟩, fun mr H13 s13 hmr => ?_⟩
    have W13 := W11.sm (s12.trans s13)
    have htr13 := htr.same (s12.trans s13)
    clear hmt s11 s12 s13 W11 W10 htr
    intro e1 he1
    generalize elk : upd _ e1 _ = H14
    obtain ⟨s14, q14⟩ := nw1 elk he1
    clear elk
    intro e2 he2
    generalize elk : upd _ e2 _ = H15
    obtain ⟨s15, q15⟩ := nw1 elk he2
    clear elk
    have ne12 : e1 ≠ e2 := ne_of_none q14 he2
    have he2' : H13 e2 = none := s14.free he2
    have knd : (kvs.map (·.1)).Nodup := keys_nd R9.e hrn
    have hnl15 : H15 nl = some (.lst (zs.map V.str)) := s15 _ _ (s14 _ _ (W13.gh _ _ hnl9))
    have R15 : RsOk H15 d kvs rs zs 5 := ((R9.same W13.gh).same s14).same s15
    refine ⟨_, rfl, nl, _, rfl, .inl (SqL.of hnl15), _, rfl, by omega, by simp only [List.length_map]; omega, ?_⟩
    refine for_range (lo := 0) (n := (((zs.map V.str).length : Int)).toNat) (fun i σ H' => ∃ (kw kt : List (Key × V)) (z : List (Option V)), z.length = 14 ∧ σ = [some (.ref sa), some (.ref b), some (.ref nl), some (.ref ta), some (.ref d), some (.ref d2), some (.int am), some (.ref tr), some (.ref mr), some (.ref e1), some (.ref e2)] ++ z ∧
      Same H13 H' ∧ H' e1 = some (.dK kw) ∧ H' e2 = some (.dK kt) ∧ kw = (zs.take i).map (fun z => ((.inr z : Key), V.str (fwi zs 0 z))) ∧ EntsAt H' kt (renR (fwi zs 0) (rs.take i)) ∧ ∀ kv ∈ kt, kv.2 ≠ .ref b ∧ kv.2 ≠ .ref c) ?_ (fun i σ H' hi pp => ?_) (fun σ H' pp => ?_)
    · exact ⟨[], [], [_, _, _, _, _, _, _, _, _, _, _, _, _, _], rfl, rfl, s14.trans s15, s15 _ _ q14, q15, rfl, ⟨rfl, fun i kv r h => by simp at h⟩, fun kv h => nomatch h⟩
    · obtain ⟨kw, kt, z, hz14, rfl, ss, hkw, hkt, ekw, hent, hnb⟩ := pp
      match z, hz14 with
      | [z1, z2, z3, z4, z5, z6, z7, z8, z9, y1, y2, y3, y4, y5], _ =>
      have hil : i < zs.length := by simpa using hi
      obtain ⟨zz, hzi⟩ : ∃ zz, zs[i]? = some zz := ⟨_, List.getElem?_eq_getElem hil⟩
      have hzs : (zs.map V.str)[i]? = some (V.str zz) := by rw [List.getElem?_map, hzi]; rfl
      have hats : atI (zs.map V.str) (0 + ((i : Nat) : Int)) = some (V.str zz) := at_ix (by omega) (by rw [show (0 + ((i : Nat) : Int)).toNat = i by omega]; exact hzs)
      have hfz : fwi zs 0 zz = wd i := by rw [fwi_at nd hzi, Nat.zero_add]
      have hatw : atI [V.str "zq", V.str "b", V.str "aaaaaaaaaaaa"] (0 + ((i : Nat) : Int)) = some (V.str (wd i)) := by
        have : i = 0 ∨ i = 1 ∨ i = 2 := by omega
        rcases this with rfl | rfl | rfl
        · rfl
        · rfl
        · rfl
      and_intros
      intro p hp
      generalize elk : upd _ p _ = K1
      obtain ⟨t1, r1⟩ := nw1 elk hp
      clear elk
      refine ⟨_, rfl, p, _, _, _, rfl, rfl, SqL.of r1, hatw, ?_⟩
      have hnlK := t1 _ _ (ss _ _ (W13.gh _ _ hnl9))
      have hnew : ∀ kv ∈ kw, kv.1 ≠ .inr zz := fun kv hkv e => by
        rw [ekw] at hkv
        obtain ⟨z0, hz0, rfl⟩ := List.mem_map.mp hkv
        have e3 : z0 = zz := Sum.inr.inj e
        subst e3
        exact nd_take nd hzi hz0
      have hlw : kw.length ≤ 10 := by rw [ekw, List.length_map, List.length_take]; omega
      refine ⟨_, rfl, _, rfl, _, rfl, nl, _, _, _, rfl, rfl, SqL.of hnlK, hats, e1, _, rfl, DPut.k (k := .inr zz) (t1 _ _ hkw) (szl (by omega)), ?_⟩
      rw [putK_new hnew]
      generalize hK2 : upd K1 e1 _ = K2
      have sK2 : Same H13 K2 := by rw [← hK2]; exact same_put (ss.trans t1) he1
      have hw2 : K2 e1 = some (.dK (kw ++ [(.inr zz, .str (wd i))])) := by rw [← hK2, upd_same]
      have ht2 : K2 e2 = some (.dK kt) := by rw [← hK2, upd_ne ne12.symm]; exact t1 _ _ hkt
      have hent2 : EntsAt K2 kt (renR (fwi zs 0) (rs.take i)) := ⟨hent.1, fun j kv r h1 h2 => by
        obtain ⟨x1, b', x2, x3⟩ := hent.2 j kv r h1 h2
        refine ⟨x1, b', x2, ?_⟩
        rw [← hK2, upd_ne (fun z => by rw [z, hkw] at x3; cases x3)]
        exact t1 _ _ x3⟩
      have hnl2 := sK2 _ _ (W13.gh _ _ hnl9)
      have R2 : RsOk K2 d kvs rs zs 5 := (R9.same W13.gh).same sK2
      clear hK2
      have hkl : i < kvs.length := by
        have := congrArg List.length hk
        rw [List.length_map] at this
        rw [R9.e.1]
        omega
      obtain ⟨kv, hkv⟩ : ∃ kv, kvs[i]? = some kv := ⟨_, List.getElem?_eq_getElem hkl⟩
      obtain ⟨r, hr0⟩ : ∃ r, rs[i]? = some r := ⟨_, List.getElem?_eq_getElem (by rw [← R9.e.1]; exact hkl)⟩
      have hrz : r.1 = zz := by
        have : zs[i]? = some r.1 := by rw [← hk, List.getElem?_map, hr0]; rfl
        rw [hzi] at this
        exact (Option.some.inj this).symm
      obtain ⟨kx, a, ka, ha⟩ := R2.e.2 i kv r hkv hr0
      have hva : valV kvs (.inr zz) = some (.ref a) := by rw [← ka, ← hrz, ← kx]; exact valV_at (H := K2) (rs := rs) i kv hkv knd
      and_intros
      refine ⟨nl, _, _, _, rfl, rfl, SqL.of hnl2, hats, d, .ref a, rfl, .inl ⟨kvs, .inr zz, .inl R2.d, rfl, hva.symm⟩, a, _, rfl, .inl (SqL.of ha), fun p2 hp2 => ?_⟩
      generalize elk : upd _ p2 _ = K3
      obtain ⟨t3, r3⟩ := nw1 elk hp2
      clear elk
      have hvw : valV (kw ++ [((.inr zz : Key), V.str (wd i))]) (.inr zz) = some (.str (wd i)) := valV_snoc hnew
      have hnl3 := t3 _ _ hnl2
      have hw3 := t3 _ _ hw2
      have ht3 := t3 _ _ ht2
      have hlt : kt.length ≤ 10 := by
        have := hent.1
        simp only [renR, List.length_map, List.length_take] at this
        omega
      have hnewt : ∀ kv ∈ kt, kv.1 ≠ .inr (wd i) := fun kv hkv e => by
        obtain ⟨r', hr', e2⟩ := hent2.keys kv hkv
        rw [e2] at e
        obtain ⟨r0, hr00, e4⟩ := List.mem_map.mp hr'
        have e3 : fwi zs 0 r0.1 = wd i := by rw [← Sum.inr.inj e, ← e4]
        have hm : r0.1 ∈ zs.take i := by rw [← hk, ← List.map_take]; exact List.mem_map.mpr ⟨r0, hr00, rfl⟩
        have e5 := finj _ (List.mem_of_mem_take hm) _ (List.mem_of_getElem? hzi) (e3.trans hfz.symm)
        exact nd_take nd hzi (e5 ▸ hm)
      refine ⟨_, rfl, _, rfl, _, rfl, _, rfl, nl, _, _, _, rfl, rfl, SqL.of hnl3, hats, e1, _, rfl, .inl ⟨_, .inr zz, .inl hw3, rfl, hvw.symm⟩, e2, _, rfl, DPut.k (k := .inr (wd i)) ht3 (szl (by omega)), ?_⟩
      rw [putK_new hnewt]
      have sK4 : Same H13 (upd K3 e2 (.dK (kt ++ [(.inr (wd i), .ref p2)]))) := same_put (sK2.trans t3) he2'
      have hs3 := (hent2.same t3).snoc (z := wd i) (ns := r.2) (a := p2) r3
      obtain ⟨pb, pc⟩ := (W13.sm sK2).nb hp2
      refine ⟨_, _, [_, _, _, _, _, _, _, _, _, _, _, _, _, _], rfl, rfl, sK4, by rw [upd_ne ne12]; exact hw3, upd_same, ?_, ?_, fun kv hkv => ?_⟩
      · rw [List.take_add_one, hzi, List.map_append, ← ekw, ← hfz]
        rfl
      · rw [List.take_add_one, hr0]
        have e9 : renR (fwi zs 0) (rs.take i ++ (some r).toList) = renR (fwi zs 0) (rs.take i) ++ [(wd i, r.2)] := by
          rw [← hfz, ← hrz]
          exact List.map_append
        rw [e9]
        refine ⟨hs3.1, fun j kv r' h1 h2 => ?_⟩
        obtain ⟨x1, b', x2, x3⟩ := hs3.2 j kv r' h1 h2
        refine ⟨x1, b', x2, ?_⟩
        rw [upd_ne (fun z => by rw [z, ht3] at x3; cases x3)]
        exact x3
      · rcases List.mem_append.mp hkv with h | h
        · exact hnb kv h
        · cases List.mem_singleton.mp h
          exact ⟨fun z => pb (V.ref.inj z), fun z => pc (V.ref.inj z)⟩
    · obtain ⟨kw, kt, z, hz14, rfl, ss, hkw, hkt, ekw, hent, hnb⟩ := pp
      match z, hz14 with
      | [z1, z2, z3, z4, z5, z6, z7, z8, z9, y1, y2, y3, y4, y5], _ =>
      have e10 : (((zs.map V.str).length : Int)).toNat = zs.length := by rw [List.length_map]; exact Int.toNat_natCast _
      have hrz : rs.length = zs.length := by rw [← hk, List.length_map]
      rw [e10, List.take_of_length_le (Nat.le_refl _)] at ekw
      rw [e10, List.take_of_length_le (by omega)] at hent
      have W16 := W13.sm ss
      have hvw : ∀ z ∈ zs, valV kw (.inr z) = some (.str (fwi zs 0 z)) := fun z hz => by rw [ekw]; exact valV_map hz
      have ht16 := (ht9.same W13.gh).same ss
      have R16 := (R9.same W13.gh).same ss
      have R16b := (R9b.same W13.gh).same ss
      have htr16 := htr13.same ss
      have hmr16 := hmr.same ss
      clear hmr htr13 s14 s15 q14 q15 hnl15 R15 he1 he2
      refine ⟨_, rfl, _, rfl, t, ta, e1, kw, fwi zs 0, zs, rfl, ht16, hkw, hvw, okt.ov, by omega, fun rt H17 s17 hrt => ?_⟩
      refine ⟨_, rt, rfl, hrt, by omega, ew okt.wf, eno okt.nm, ⟨by omega, by omega, by omega⟩, fun tw H18 s18 htw => ?_⟩
      have s68 := s17.trans s18
      refine ⟨_, rfl, _, rfl, d, kvs, rs, 1, am, rfl, (R16.same s68).d, (R16.same s68).e, hrn, hrl, fun r h => (hgood.1 r h).2.2, by decide, big1, fun em H19 kvm s19 _ hem hentm => ?_⟩
      have movnd : ∀ sg n, ((movR sg n rs).map (·.1)).Nodup := fun sg n => by rw [movR_names]; exact hrn
      have movl : ∀ sg n, (movR sg n rs).length ≤ 10 := fun sg n => by rw [movR, List.length_map]; exact hrl
      have movg : ∀ n, goodRows (movR 1 n rs) := fun n => movR_good (by decide) hgood
      have movg' : ∀ n, goodRows (movR (-1) n rs) := fun n => movR_good (by decide) hgood
      refine ⟨em, kvm, _, rfl, hem, hentm, movnd 1 am, movl 1 am, movg am, fun wf lf H20 s20 hlf hwf => ?_⟩
      have s60 := (s68.trans s19).trans s20
      refine ⟨_, rfl, _, rfl, d, kvs, rs, -1, 0, rfl, (R16.same s60).d, (R16.same s60).e, hrn, hrl, fun r h => (hgood.1 r h).2.2, by decide, big1, fun em2 H21 kvm2 s21 _ hem2 hentm2 => ?_⟩
      refine ⟨em2, kvm2, _, rfl, hem2, hentm2, movnd (-1) 0, movl (-1) 0, movg' 0, fun wt lt H22 s22 hlt2 hwt => ?_⟩
      have s62 := (s60.trans s21).trans s22
      have W22 := W16.sm s62
      have hS22 := W22.lsts
      have g22 := W22.allS
      have nbf := ((W16.sm s68).sm s19).nb hlf
      have nbt := ((W16.sm s60).sm s21).nb hlt2
      have Ra := R9.same g22
      have Rb := R9b.same g22
      have htra := (htr16.same s62).mn hS22
      have hmra := (hmr16.same s62).mn hS22
      have htwa := (((htw.same s19).same s20).same (s21.trans s22)).mn hS22
      have hwfa := (hwf.same (s21.trans s22)).mn hS22 (by simp [nbf.1, nbf.2])
      have hwta := hwt.mn hS22 (by simp [nbt.1, nbt.2])
      have hkta : mn [b, c] H22 e2 = some (.dK kt) := mn_nl hS22 (s62 _ _ hkt) (fun _ z => nomatch z)
      have henta : EntsAt (mn [b, c] H22) kt (renR (fwi zs 0) rs) := ⟨hent.1, fun j kv r h1 h2 => by
        obtain ⟨x1, a', x2, x3⟩ := hent.2 j kv r h1 h2
        obtain ⟨n1, n2⟩ := hnb kv (List.mem_of_getElem? h1)
        refine ⟨x1, a', x2, ?_⟩
        rw [mn_at (by simp only [List.mem_cons, List.not_mem_nil, or_false, not_or]; exact ⟨fun z => n1 (by rw [x2, z]), fun z => n2 (by rw [x2, z])⟩)]
        exact s62 _ _ x3⟩
      have Wa := W22.all
      clear W22 W16 W13 hS22 g22 s62 s60 s68 s19 s20 s21 s22 s17 s18 ss htw htr16 hmr16 R16 R16b hwf hwt hlf hlt2 hent hkt hkw hvw ht16 ht9 R9 R9b hem hentm hem2 hentm2 hrt hnl9
      generalize mn [b, c] H22 = G at Ra Rb htra hmra htwa hwfa hwta hkta henta Wa
      have wlen : (wRows rs).length ≤ 1000 := by rw [wRows_len]; exact Nat.le_trans hgood.2 (by decide)
      have rgood : goodRows (renR (fwi zs 0) rs) := renR_good (fun r h => fgood _ (by rw [← hk]; exact List.mem_map.mpr ⟨r, h, rfl⟩)) hgood
      have movlen : ∀ sg n, sg ≠ 0 → (wRows (movR sg n rs)).length ≤ 1000 := fun sg n h => by rw [wRows_len]; exact Nat.le_trans (movR_good h hgood).2 (by decide)
      have rlen : (wRows (renR (fwi zs 0) rs)).length ≤ 1000 := by rw [wRows_len]; exact Nat.le_trans rgood.2 (by decide)
      have hs0 : ∀ (q : Rws) s, (rowsOf (wRows q) s).Pairwise (· ≤ ·) := fun q s => rowsOf_sorted (wRows_pw q) s
      have hmv : ∀ s y, y ∈ rowsOf (wRows (movR 1 am rs)) s ↔ ∃ x ∈ rowsOf (wRows rs) s, y = x + am := fun s y => by rw [mem_movR hrn]; simp only [movI, Int.one_mul]
      have hng : ∀ (q : Rws), (q.map (·.1)).Nodup → ∀ s y, y ∈ rowsOf (wRows (movR (-1) 0 q)) s ↔ ∃ x ∈ rowsOf (wRows q) s, y = 0 - x := fun q hq s y => by
        rw [mem_movR hq]
        have : ∀ x, movI (-1) 0 x = 0 - x := fun x => by unfold movI; omega
        simp only [this]
      have hrr : ∀ s ∈ zs, ∀ y, y ∈ rowsOf (wRows (renR (fwi zs 0) rs)) (fwi zs 0 s) ↔ y ∈ rowsOf (wRows rs) s := fun s hs y => mem_renR (by rw [hk]; exact finj) hrn (by rw [hk]; exact hs) y
      refine ⟨5, rfl, by decide, by decide, fun D hD => ?_⟩
      obtain ⟨Db, Dc⟩ := Wa.nb hD
      have gD := Wa.gh.free hD
      refine lc_range (lo := 0) (n := 5) (fun r H' => ∃ ns : List Int, Wd b c (upd G D (.lst (ns.map V.int))) H' ∧ ns.length = r) ⟨[], (Wa.mut gD Db Dc).keep upd_same Db Dc, rfl⟩ (fun r H' hr' pp => ?_) (fun H' pp => ?_)
      · obtain ⟨ns, W10, hn⟩ := pp
        refine ⟨rfl, yes_if ⟨_, rfl, b, c, _, rfl, W10, fun x H11 W11 _ _ => ?_⟩⟩
        refine ⟨_, W11.gh _ _ upd_same, szl (by rw [List.length_map]; omega), ns ++ [x], ?_, by rw [List.length_append, hn]; rfl⟩
        have e : ns.map V.int ++ [V.int x] = (ns ++ [x]).map V.int := by rw [List.map_append]; rfl
        rw [e]
        exact ((W11.weak (same_upd gD)).mut gD Db Dc).keep upd_same Db Dc
      obtain ⟨ns, W24, hn⟩ := pp
      have gs : Same G H' := (same_upd gD).trans W24.gh
      have hD24 : H' D = some (.lst (ns.map V.int)) := W24.gh _ _ upd_same
      clear W24 Wa
      refine ⟨_, rfl, d, kvs, rs, rfl, (Ra.same gs).d, (Ra.same gs).e, hrn, hgood.2, fun p2 H25 us2 s25 _ hr2 hp2 => ?_⟩
      refine ⟨p2, rfl, ⟨_, SqL.of hr2⟩, fun D2 hD2 => ?_⟩
      refine lc_pure (K := K) (a := p2) (xs := us2) (sndF H25) (SqL.of hr2) hD2 (by rw [hp2.1]; omega) (fun x1 H26 N N' hx1 s26 n1 n2 => ?_) (fun H26 s26 hD26 => ?_)
      · obtain ⟨i, hi⟩ := List.mem_iff_getElem?.mp hx1
        have hip : i < (wRows rs).length := by rw [← hp2.1]; exact (List.getElem?_eq_some_iff.mp hi).1
        obtain ⟨t2, f1, f2⟩ := hp2.2 i _ (List.getElem?_eq_getElem hip)
        rw [hi] at f1
        cases f1
        exact ⟨rfl, yes_if ⟨_, rfl, t2, _, _, _, rfl, rfl, SqT.of (s26 _ _ f2), at_ix (by decide) rfl, n1 _ _ (Same.refl _) (by simp only [sndF, f2])⟩⟩
      rw [sndF_all hp2] at hD26
      have hD26b := s26 _ _ (s25 _ _ hD24)
      refine ⟨8, rfl, D2, _, rfl, SqL.of hD26, fun el3 hel3 => ?_⟩
      obtain ⟨cs, ecs, hcs⟩ := cut_ints ((wRows rs).map (·.2)) none (some 8)
      rw [ecs]
      generalize elm : upd _ el3 _ = H27
      obtain ⟨s27, q27⟩ := nw1 elm hel3
      clear elm
      rw [List.length_map] at hcs
      refine ⟨D, el3, _, _, rfl, rfl, s27 _ _ hD26b, q27, Nat.le_of_lt (szm (by simp only [List.length_map]; omega)), fun fl hfl => ?_⟩
      generalize elm : upd _ fl _ = H28
      obtain ⟨s28, q28⟩ := nw1 elm hfl
      clear elm
      rw [← List.map_append] at q28
      generalize ns ++ cs = xs at q28
      have g28 := (((gs.trans s25).trans s26).trans s27).trans s28
      clear hp2 hr2 hD26 hD26b hD24 q27 gs s25 s26 s27 s28
      refine ⟨_, rfl, fl, rfl, ⟨_, SqL.of q28⟩, ?_⟩
      refine for_list (K := K) (a := fl) (xs := xs.map V.int) (fun i σ H' => Same H28 H' ∧ ∃ z : List (Option V), z.length = 9 ∧ σ = [some (.ref sa), some (.ref b), some (.ref nl), some (.ref ta), some (.ref d), some (.ref d2), some (.int am), some (.ref tr), some (.ref mr), some (.ref e1), some (.ref e2), z1, some (.ref tw), some (.ref wf), some (.ref wt), some (.ref fl)] ++ z) ⟨Same.refl _, _, rfl, rfl⟩ (fun i σ H' _ pp => SqL.of (pp.1 _ _ q28)) (fun i v σ H40 hx pp => ?_) (fun σ H40 pp => ?_)
      · obtain ⟨s40, z, hz, rfl⟩ := pp
        match z, hz with
        | [u1, u2, u3, u4, u5, u6, u7, u8, u9], _ =>
        obtain ⟨x, _, rfl⟩ := mem_ints (List.mem_of_getElem? hx)
        have g40 := g28.trans s40
        refine ⟨_, rfl, _, rfl, d, kvs, rs, rfl, (Ra.same g40).d, (Ra.same g40).e, hrn, hrl, hgood, fun wa wl H41 s41 _ hwo => ?_⟩
        have g41 := g40.trans s41
        refine ⟨_, rfl, t, tr, wa, wl, _, x, rfl, by omega, okt.wf, htra.same g41, hwo, wlen, fun H42 s42 => ?_⟩
        have g42 := g41.trans s42
        have s02 := (s40.trans s41).trans s42
        have am1 := ans_mov (n := am) (hs0 rs) (hs0 _) hmv x t okt.wf
        have am2 := ans_mir (hs0 rs) (hs0 _) (hng rs hrn) x t okt.wf
        have am3 := ans_ren (hs0 rs) (hs0 _) hrr x t okt.ov
        generalize t.ans (rowsOf (wRows rs)) x = an at am1 am2 am3
        have fin : ∀ (vd : Option V) {K3 : Hp}, Same H42 K3 → Same H28 K3 ∧ ∃ z : List (Option V), z.length = 9 ∧ (([some (V.ref sa), some (.ref b), some (.ref nl), some (.ref ta), some (.ref d), some (.ref d2), some (.int am), some (.ref tr), some (.ref mr), some (.ref e1), some (.ref e2), z1, some (.ref tw), some (.ref wf), some (.ref wt), some (.ref fl), some (.int x), u2, u3, u4, some (oV an), vd, u7, u8, u9] : List (Option V)) = [some (V.ref sa), some (.ref b), some (.ref nl), some (.ref ta), some (.ref d), some (.ref d2), some (.int am), some (.ref tr), some (.ref mr), some (.ref e1), some (.ref e2), z1, some (.ref tw), some (.ref wf), some (.ref wt), some (.ref fl)] ++ z) := fun vd K3 s3 => ⟨s02.trans s3, _, rfl, rfl⟩
        have q1 : ∀ o : Option Int, (oV (o.map (· + am)) = match o with | none => V.non | some y => V.int (y + am)) := fun o => by cases o <;> rfl
        refine ⟨_, rfl, rfl, _, rfl, ?_⟩
        cases an
        · refine iT rfl ?_
          and_intros
          refine ⟨t, tr, wf, lf, _, x + am, rfl, by omega, okt.wf, htra.same g42, hwfa.same g42, movlen 1 am (by decide), fun H43 s43 => ?_⟩
          rw [am1]
          refine ⟨_, rfl, none, rfl, _, rfl, iF rfl ?_⟩
          have g43 := g42.trans s43
          and_intros
          refine ⟨t.mir, mr, wt, lt, _, 0 - x, rfl, by omega, mw okt.wf, hmra.same g43, hwta.same g43, movlen (-1) 0 (by decide), fun H44 s44 => ?_⟩
          rw [am2]
          refine ⟨_, rfl, none, rfl, none, rfl, _, rfl, iF rfl ?_⟩
          have g44 := g43.trans s44
          and_intros
          intro x9 dx hx9 hdx hne9
          generalize eMk : upd (upd H44 dx (.own x9)) x9 (.ins T.c_World dx []) = K4
          have sMk : Same H44 K4 := fun y o e => by rw [← eMk, upd_ne (ne_of_none e hx9), upd_ne (ne_of_none e hdx)]; exact e
          have hK4 : K4 x9 = some (.ins T.c_World dx []) := by rw [← eMk, upd_same]
          clear eMk
          refine ⟨H44, x9, e2, dx, kt, renR (fwi zs 0) rs, rfl, sMk, hx9, hK4, sMk _ _ (g44 _ _ hkta), (henta.same g44).same sMk, rgood, fun H45 l45 s45 hl45 w45 => ⟨rfl, ?_⟩⟩
          and_intros
          refine ⟨t.ren (fwi zs 0), tw, x9, l45, _, x, rfl, by omega, ew okt.wf, (htwa.same g44).same s45, w45, rlen, fun H46 s46 => ?_⟩
          rw [am3]
          refine ⟨_, rfl, none, rfl, _, rfl, iF rfl ?_⟩
          exact fin _ ((s43.trans s44).trans (s45.trans s46))
        · rename_i val
          refine iF rfl ⟨_, rfl, _, rfl, _, _, rfl, rfl, ?_⟩
          and_intros
          refine ⟨t, tr, wf, lf, _, x + am, rfl, by omega, okt.wf, htra.same g42, hwfa.same g42, movlen 1 am (by decide), fun H43 s43 => ?_⟩
          rw [am1]
          refine ⟨_, rfl, some (val + am), rfl, _, rfl, iF rfl ?_⟩
          have g43 := g42.trans s43
          and_intros
          refine ⟨t.mir, mr, wt, lt, _, 0 - x, rfl, by omega, mw okt.wf, hmra.same g43, hwta.same g43, movlen (-1) 0 (by decide), fun H44 s44 => ?_⟩
          rw [am2]
          refine ⟨_, rfl, some val, rfl, some (0 - val), rfl, _, rfl, iF rfl ?_⟩
          have g44 := g43.trans s44
          and_intros
          intro x9 dx hx9 hdx hne9
          generalize eMk : upd (upd H44 dx (.own x9)) x9 (.ins T.c_World dx []) = K4
          have sMk : Same H44 K4 := fun y o e => by rw [← eMk, upd_ne (ne_of_none e hx9), upd_ne (ne_of_none e hdx)]; exact e
          have hK4 : K4 x9 = some (.ins T.c_World dx []) := by rw [← eMk, upd_same]
          clear eMk
          refine ⟨H44, x9, e2, dx, kt, renR (fwi zs 0) rs, rfl, sMk, hx9, hK4, sMk _ _ (g44 _ _ hkta), (henta.same g44).same sMk, rgood, fun H45 l45 s45 hl45 w45 => ⟨rfl, ?_⟩⟩
          and_intros
          refine ⟨t.ren (fwi zs 0), tw, x9, l45, _, x, rfl, by omega, ew okt.wf, (htwa.same g44).same s45, w45, rlen, fun H46 s46 => ?_⟩
          rw [am3]
          refine ⟨_, rfl, some val, rfl, _, rfl, iF rfl ?_⟩
          exact fin _ ((s43.trans s44).trans (s45.trans s46))
      · obtain ⟨s40, z, hz, rfl⟩ := pp
        match z, hz with
        | [u1, u2, u3, u4, u5, u6, u7, u8, u9], _ =>
        have g40 := g28.trans s40
        clear g28 q28 s40
        have hm1 := rows_le hrn (fun r h => (Ra.r r h).2)
        have hm2 : ∀ s, (rowsOf (wRows rs2) s).length ≤ 5 := rows_le hrn2 (fun r h => Nat.le_trans (Rb.r r h).2 (by decide))
        have hmm : ∀ sg n s, (rowsOf (wRows (movR sg n rs)) s).length ≤ 5 := fun sg n => rows_le (movnd sg n) (fun r h => by
          obtain ⟨r0, h0, rfl⟩ := List.mem_map.mp h
          rw [List.length_map]
          exact (Ra.r r0 h0).2)
        have movnd2 : ((movR (-1) 0 rs2).map (·.1)).Nodup := by rw [movR_names]; exact hrn2
        have hmm2 : ∀ s, (rowsOf (wRows (movR (-1) 0 rs2)) s).length ≤ 5 := rows_le movnd2 (fun r h => by
          obtain ⟨r0, h0, rfl⟩ := List.mem_map.mp h
          rw [List.length_map]
          exact Nat.le_trans (Rb.r r0 h0).2 (by decide))
        have hmr' : ∀ s, (rowsOf (wRows (renR (fwi zs 0) rs)) s).length ≤ 5 := rows_le (renR_nd (by rw [hk]; exact finj) hrn) (fun r h => by
          obtain ⟨r0, h0, rfl⟩ := List.mem_map.mp h
          exact (Ra.r r0 h0).2)
        have hjp := joins_parts t
        have hpc : t.pcb 5 ≤ 100000 := pcb_le (L := 3) (J := 5) (by omega) (by omega) (Nat.le_of_ble_eq_true rfl)
        have hpcm : t.mir.pcb 5 ≤ 100000 := pcb_le (L := 3) (J := 5) (by omega) (by omega) (Nat.le_of_ble_eq_true rfl)
        have hpcr : (t.ren (fwi zs 0)).pcb 5 ≤ 100000 := pcb_le (L := 3) (J := 5) (by omega) (by omega) (Nat.le_of_ble_eq_true rfl)
        have wlen2 : (wRows rs2).length ≤ 1000 := by rw [wRows_len]; exact Nat.le_trans hgood2.2 (by decide)
        have wlenm2 : (wRows (movR (-1) 0 rs2)).length ≤ 1000 := by rw [wRows_len]; exact Nat.le_trans (movR_good (by decide) hgood2).2 (by decide)
        have pm := pcs_mov (n := am) (hs0 rs) (hs0 _) hmv okt.wf
        have pr := pcs_ren (hs0 rs) (hs0 _) hrr okt.wf (ew okt.wf) okt.ov
        have dm := dif_mir (hs0 rs) (hs0 rs2) (hs0 _) (hs0 _) (hng rs hrn) (hng rs2 hrn2) okt.wf
        have hplen := pcs_len (hs0 rs) okt.wf hm1
        have hdlen := dif_len (hs0 rs) (hs0 rs2) okt.wf hm1 hm2
        refine ⟨_, rfl, _, rfl, d, kvs, rs, rfl, (Ra.same g40).d, (Ra.same g40).e, hrn, hrl, hgood, fun wa wl H41 s41 _ hwo => ?_⟩
        have g41 := g40.trans s41
        refine ⟨t, tr, wa, wl, _, 5, rfl, htra.same g41, by omega, okt.wf, hwo, wRows_pw rs, wlen, hm1, by omega, fun r H42 s42 _ hpcs => ?_⟩
        generalize hps : t.pcs (rowsOf (wRows rs)) = ps at pm pr hpcs hplen
        obtain ⟨us, hr42, hu⟩ := id hpcs
        have hul := hu.len
        have g42 := g41.trans s42
        refine ⟨r, rfl, ⟨_, SqL.of hr42⟩, fun D9 hD9 => ?_⟩
        refine lc_list (K := K) (a := r) (xs := us) (fun i H' => Same H42 H' ∧ ∃ vs, H' D9 = some (.lst vs) ∧ Lw (PcA H') vs ((ps.take i).map (movP am))) ⟨same_upd hD9, [], upd_same, trivial⟩ (fun i H' _ pp => SqL.of (pp.1 _ _ hr42)) (fun i x H' hx pp => ?_) (fun H43 pp => ?_)
        · obtain ⟨ss, vs, hv, hlv⟩ := pp
          obtain ⟨p, hp, hpa⟩ := hu.get i x hx
          have hil := (List.getElem?_eq_some_iff.mp hx).1
          refine ⟨rfl, yes_if ⟨_, rfl, _, rfl, x, p, am, rfl, hpa.kt (KT.of ss), fun r9 H9 s9 hr9 => ?_⟩⟩
          have hvl := hlv.len
          rw [List.length_map, List.length_take] at hvl
          have hv9 := s9 _ _ hv
          refine ⟨vs, hv9, szl (by omega), same_put (ss.trans s9) hD9, _, upd_same, ?_⟩
          rw [List.take_add_one, hp, List.map_append]
          exact ((hlv.mono (PcA.kt (KT.of s9))).app (show Lw (PcA H9) [.ref r9] [movP am p] from ⟨hr9, trivial⟩)).mono (PcA.kt (KT.put hv9))
        obtain ⟨s43, vs, hv, hlv⟩ := pp
        rw [hul, List.take_of_length_le (Nat.le_refl _)] at hlv
        have g43 := g42.trans s43
        have hmpl : (ps.map (movP am)).length ≤ 1000000 := by rw [List.length_map]; omega
        clear hpcs hu hr42 s43 g42 s42 g41 s41 hwo g40
        and_intros
        refine ⟨t, tr, wf, lf, _, 5, rfl, htra.same g43, by omega, okt.wf, hwfa.same g43, wRows_pw _, movlen 1 am (by decide), hmm 1 am, by omega, fun r2 H44 s44 _ hpl2 => ?_⟩
        rw [pm] at hpl2
        obtain ⟨us2, hr2, hu2⟩ := hpl2
        refine ⟨_, rfl, _, _, rfl, pc_eqd hr2 (s44 _ _ hv) hu2 (hlv.mono (PcA.kt (KT.of s44))) hmpl, _, rfl, iF rfl ?_⟩
        have g44 := g43.trans s44
        clear hlv hv hu2 hr2 g43 s44 hmpl pm
        and_intros
        intro x9 dx hx9 hdx hne9
        generalize eMk : upd (upd H44 dx (.own x9)) x9 (.ins T.c_World dx []) = K4
        have sMk : Same H44 K4 := fun y o e => by rw [← eMk, upd_ne (ne_of_none e hx9), upd_ne (ne_of_none e hdx)]; exact e
        have hK4 : K4 x9 = some (.ins T.c_World dx []) := by rw [← eMk, upd_same]
        clear eMk
        refine ⟨H44, x9, e2, dx, kt, renR (fwi zs 0) rs, rfl, sMk, hx9, hK4, sMk _ _ (g44 _ _ hkta), (henta.same g44).same sMk, rgood, fun H45 l45 s45 hl45 w45 => ⟨rfl, ?_⟩⟩
        have g45 := g44.trans s45
        refine ⟨t.ren (fwi zs 0), tw, x9, l45, _, 5, rfl, htwa.same g45, by omega, ew okt.wf, w45, wRows_pw _, rlen, hmr', by omega, fun r3 H46 s46 _ hpl3 => ?_⟩
        rw [pr] at hpl3
        have g46 := g45.trans s46
        refine ⟨_, rfl, _, rfl, d, kvs, rs, rfl, (Ra.same g46).d, (Ra.same g46).e, hrn, hrl, hgood, fun wa wl H47 s47 _ hwo => ?_⟩
        have g47 := g46.trans s47
        refine ⟨t, tr, wa, wl, _, 5, rfl, htra.same g47, by omega, okt.wf, hwo, wRows_pw rs, wlen, hm1, by omega, fun r4 H48 s48 _ hpl4 => ?_⟩
        rw [hps] at hpl4
        obtain ⟨us3, hr3, hu3⟩ := hpl3.same (s47.trans s48)
        obtain ⟨us4, hr4, hu4⟩ := hpl4
        refine ⟨_, _, rfl, pc_eqd hr3 hr4 hu3 hu4 (by omega), _, rfl, iF rfl ?_⟩
        have g48 := g47.trans s48
        clear hu3 hu4 hr3 hr4 hpl3 hwo g44 g45 g46 g47 s45 s46 s47 s48 w45 sMk hK4
        refine ⟨_, rfl, _, rfl, d, kvs, rs, rfl, (Ra.same g48).d, (Ra.same g48).e, hrn, hrl, hgood, fun wa wl H49 s49 _ hwo => ?_⟩
        have g49 := g48.trans s49
        refine ⟨_, rfl, d2, kvs2, rs2, rfl, (Rb.same g49).d, (Rb.same g49).e, hrn2, hrl2, hgood2, fun wb wl2 H50 s50 _ hwo2 => ?_⟩
        have g50 := g49.trans s50
        refine ⟨t, tr, wa, wl, wb, wl2, _, _, 5, rfl, htra.same g50, by omega, okt.wf, hwo.same s50, hwo2, wRows_pw rs, wRows_pw rs2, wlen, wlen2, hm1, hm2, hpc, fun r5 H51 s51 _ hst => ?_⟩
        generalize difT t (rowsOf (wRows rs)) (rowsOf (wRows rs2)) = ds at dm hst hdlen
        obtain ⟨us5, hr5, hu5⟩ := hst
        have hul5 := hu5.len
        have g51 := g50.trans s51
        clear hwo hwo2 g48 g49 g50 s49 s50 s51
        refine ⟨_, rfl, r5, rfl, ⟨_, SqL.of hr5⟩, fun D5 hD5 => ?_⟩
        refine lc_list (K := K) (a := r5) (xs := us5) (fun i H' => Same H51 H' ∧ ∃ vs, H' D5 = some (.lst vs) ∧ Lw (StA H') vs ((ds.take i).map negS)) ⟨same_upd hD5, [], upd_same, trivial⟩ (fun i H' _ pp => SqL.of (pp.1 _ _ hr5)) (fun i x H' hx pp => ?_) (fun H52 pp => ?_)
        · obtain ⟨ss, vs, hv, hlv⟩ := pp
          obtain ⟨e, he, t5, rfl, ht5⟩ := hu5.get i x hx
          have hil := (List.getElem?_eq_some_iff.mp hx).1
          have hvl := hlv.len
          rw [List.length_map, List.length_take] at hvl
          refine ⟨rfl, yes_if ⟨_, rfl, t5, _, _, _, rfl, rfl, SqT.of (ss _ _ ht5), at_ix (by decide) rfl, e.2, rfl, _, rfl, t5, _, _, _, rfl, rfl, SqT.of (ss _ _ ht5), at_ix (by decide) rfl, e.1, rfl, sz (Nat.le_of_ble_eq_true rfl), fun p9 hp9 => ?_⟩⟩
          generalize elk : upd _ p9 _ = H9
          obtain ⟨s9, q9⟩ := nw1 elk hp9
          clear elk
          have hv9 := s9 _ _ hv
          refine ⟨vs, hv9, szm (by omega), same_put (ss.trans s9) hD5, _, upd_same, ?_⟩
          rw [List.take_add_one, he, List.map_append]
          have en : negS e = (e.2.map (0 - ·), e.1.map (0 - ·)) := by
            obtain ⟨f1, f2⟩ := e
            cases f1 <;> cases f2 <;> simp [negS, negB]
          exact ((hlv.mono (StA.kt (KT.of s9))).app (show Lw (StA H9) [.ref p9] [negS e] from ⟨⟨p9, rfl, by rw [en]; exact q9⟩, trivial⟩)).mono (StA.kt (KT.put hv9))
        obtain ⟨s52, vs, hv, hlv⟩ := pp
        rw [hul5, List.take_of_length_le (Nat.le_refl _)] at hlv
        have hvl := hlv.len
        rw [List.length_map] at hvl
        and_intros
        refine ⟨D5, vs, rfl, rfl, hv, ?_⟩
        generalize elk : upd _ D5 _ = H53
        have s53 : Same H51 H53 := by rw [← elk]; exact same_put s52 hD5
        have hv53 : H53 D5 = some (.lst vs.reverse) := by rw [← elk, upd_same]
        have hlv53 : Lw (StA H53) vs.reverse ((ds.map negS).reverse) := (hlv.mono (StA.kt (by rw [← elk]; exact KT.put hv))).rev
        clear elk
        have g53 := g51.trans s53
        refine ⟨_, rfl, _, rfl, _, rfl, _, rfl, d2, kvs2, rs2, -1, 0, rfl, (Rb.same g53).d, (Rb.same g53).e, hrn2, hrl2, fun r h => (hgood2.1 r h).2.2, by decide, big2, fun em H54 kvm s54 _ hem hentm => ?_⟩
        refine ⟨em, kvm, _, rfl, hem, hentm, movnd2, by rw [movR, List.length_map]; exact hrl2, movR_good (by decide) hgood2, fun wx lx H55 s55 _ hwx => ?_⟩
        have s35 := s54.trans s55
        have g55 := g53.trans s35
        refine ⟨t.mir, mr, wt, lt, wx, lx, _, _, 5, rfl, hmra.same g55, by omega, mw okt.wf, hwta.same g55, hwx, wRows_pw _, wRows_pw _, movlen (-1) 0 (by decide), wlenm2, hmm (-1) 0, hmm2, hpcm, fun r6 H56 s56 _ hst6 => ?_⟩
        rw [dm] at hst6
        obtain ⟨us6, hr6, hu6⟩ := hst6
        have s36 := s35.trans s56
        exact ⟨_, rfl, _, _, rfl, st_eqd hr6 (s36 _ _ hv53) hu6 (hlv53.mono (StA.kt (KT.of s36))) (by rw [List.length_reverse, List.length_map]; omega), q H56⟩
end
end Pl
open PySem PySem.W PySem.Calls PyProof.Rows in
set_option maxRecDepth 100000 in
set_option maxHeartbeats 0 in
theorem PySem.Challenge.cw_pastlooks_k24_whole_moved_and_mirrored_holds : PySem.Challenge.rw_pastlooks_k24_whole_moved_and_mirrored.Holds := by
  w_on; o_law
  refine HandSHeadRun.head_any (r := OpenLaw.row PySem.Challenge.rw_pastlooks_k24_whole_moved_and_mirrored) (q := view (OpenLaw.row PySem.Challenge.rw_pastlooks_k24_whole_moved_and_mirrored).prog [90]) (H := Pl.hk) (ob := Pl.ob) (M := 60000) (loose := Pl.loose) (d := HandSHeadRun.topDef (OpenLaw.row PySem.Challenge.rw_pastlooks_k24_whole_moved_and_mirrored).prog 90) (kwd := []) Pl.ob_eq
    (by kernel_rfl) (fun s => by kernel_rfl) Pl.run (by kernel_rfl) (by kernel_rfl) (by kernel_rfl) (by rfl) (by first | assumption | decide +kernel) (by decide +kernel) ⟨rfl, rfl, rfl, rfl, rfl, by decide +kernel⟩ ?hw ?hc
  case hw => w_witness2
  case hc =>
    refine L2.walk_ofE (l := PySem.Challenge.rw_pastlooks_k24_whole_moved_and_mirrored) (n := 63) (k := 40) (x := "_law_script") (CX := L2.CX0) rfl (by decide) (by kernel_rfl) ⟨rfl, by decide, by decide⟩ ?F (fun _ _ _ _ z => z)
    intro w mg fa h Y G hmg0
    obtain ⟨K, KX, c⟩ := Y
    have hmg : mg ("law" : PySem.Str) = some (.ref fa) := by
      have e : (HandSHeadRun.topDef (OpenLaw.row PySem.Challenge.rw_pastlooks_k24_whole_moved_and_mirrored).prog 90).name = ("law" : PySem.Str) := by kernel_rfl
      rw [← e]
      exact hmg0
    obtain ⟨T, rfl, hb⟩ := Pl.facts KX G hmg c
    exact ⟨K, T.law.fd, Pl.spLaw K, KX, hb, fun H a ns hl _ hS => ⟨a, ns, rfl, hS, hl, fun _ => rfl⟩, fun base _ _ => Pl.ok_law T⟩
