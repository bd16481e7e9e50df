import PyProof.Rows.All
import Wide.All
import OpenK.AllK
import Wide.FinOn
import KE.OsRunLaw
import KE.RegKSuper
import KE.RegKIsAll
import HandS.ForMost
import HandS.IsInst
import HandS.TryMany
import HandS.ExcField
import HandS.ExcInit
import HandS.WordsExc
import HandS.Lambda
import HandS.EndTab
import HandS.HeadWalk
import HandS.Nested
import HandS.ClsMeth
import HandS.Star
import KE.KSuper
import HandS.SlotsOwn
import KE.KOpsOwn
import HandS.MakeKwOnly
import KE.KStateDown
import HandS.Head0
import HandS.Head1
import HandS.Head2
import HandS.HeadEnd
import HandS.HeadHook1
import HandS.HeadHook2
import HandS.Defaults
import HandS.SortKw
import KE.SortData
import KE.DataMinMax
import HandS.Evl
import HandS.Deep
import HandS.Zip
import HandS.Walk
import HandS.Style
import HandS.Small
import HandS.Text
import HandS.TupAny
import PySem.Challenge.RW_pastlooks_k25_written_terms
set_option Elab.async false
set_option linter.all false
set_option maxRecDepth 100000
set_option maxHeartbeats 4000000
set_option Elab.async false
set_option linter.all false
set_option maxRecDepth 100000
set_option maxHeartbeats 4000000
namespace Pl
open PySem L2
/-! ### heaps -/
theorem same_upd {H : Hp} {p : Addr} {o : HO} (h : H p = none) : Same H (upd H p o) := fun b x e => by
  rw [upd_ne (ne_of_none e h)]
  exact e
theorem same_mut {G H : Hp} {p : Addr} {o : HO} (s : Same G H) (h : G p = none) : Same G (upd H p o) := fun b x e => by
  rw [upd_ne (ne_of_none e h)]
  exact s b x e
theorem same_both {G H : Hp} {p : Addr} {o : HO} (s : Same G H) : Same (upd G p o) (upd H p o) := fun b x e => by
  unfold upd at *
  split
  · rename_i h
    rw [if_pos h] at e
    exact e
  · rename_i h
    rw [if_neg h] at e
    exact s b x e
theorem Same.rd {H H' : Hp} {a : Addr} {u : HO} (s : Same H H') (h : Rd H a u) : Rd H' a u := by
  rcases h with h | ⟨o, h⟩
  · exact .inl (s _ _ h)
  · exact .inr ⟨o, s _ _ h⟩
theorem Same.tup {K : PySem.W.Frag} {H H' : Hp} {a : Addr} {xs : List V} (s : Same H H') (h : SqT K H a xs) : SqT K H' a xs := by
  rcases h with (h | ⟨o, h⟩) | h
  · exact .inl (.inl (s _ _ h))
  · exact .inl (.inr ⟨o, s _ _ h⟩)
  · exact .inr h
theorem at_ix {xs : List V} {j : Int} {v : V} (h0 : 0 ≤ j) (h : xs[j.toNat]? = some v) : atI xs j = some v := by
  have e : j = ((j.toNat : Nat) : Int) := by omega
  rw [e]
  exact atI_nat h
theorem at_ix2 {α : Type} {xs : List α} {j : Int} {v : α} (h0 : 0 ≤ j) (h : xs[j.toNat]? = some v) : atI xs j = some v := by
  have e : j = ((j.toNat : Nat) : Int) := by omega
  rw [e]
  exact atI_nat h
theorem ix_in {n : Nat} {j : Int} (h0 : 0 ≤ j) (h1 : j < n) : ixN n j = some j.toNat := by
  unfold ixN
  rw [if_pos h0, if_pos h1]
theorem at_ints {cs : List Int} {j : Int} (h0 : 0 ≤ j) (h1 : j < cs.length) : ∃ x, atI (cs.map V.int) j = some (.int x) := by
  have h : j.toNat < cs.length := by omega
  exact ⟨cs[j.toNat], at_ix h0 (by rw [List.getElem?_map, List.getElem?_eq_getElem h]; rfl)⟩
theorem fm0 {a b : Int} (h : 0 < b) : 0 ≤ a.fmod b := by
  rw [Int.fmod_eq_emod_of_nonneg _ (Int.le_of_lt h)]
  exact Int.emod_nonneg _ (by omega)
theorem fm1 {a b : Int} (h : 0 < b) : a.fmod b < b := by
  rw [Int.fmod_eq_emod_of_nonneg _ (Int.le_of_lt h)]
  exact Int.emod_lt_of_pos _ h
theorem sz {n : Nat} (h : n ≤ 100000) : n ≤ sizeLine := Nat.le_trans h (by decide)
theorem szl {n : Nat} (h : n < 100000) : n < sizeLine := Nat.lt_of_lt_of_le h (by decide)
/-! ### the box from which a law draws -/
def BoxAt (b c : Addr) (H : Hp) : Prop := b ≠ c ∧ ∃ (cs : List Int) (k : Int), H b = some (.lst [.ref c, .int k]) ∧ H c = some (.lst (cs.map V.int)) ∧ 0 < cs.length ∧ cs.length ≤ 64
/-- G: what stays -/
structure Wd (b c : Addr) (G H : Hp) : Prop where
  box : BoxAt b c H
  gh : Same G H
  gb : G b = none
  gc : G c = none
/-- nothing that stood is changed; G is what is known and stays -/
structure Gr (G H G' H' : Hp) : Prop where
  gg : Same G G'
  gh : Same G' H'
  hh : Same H H'
  nw : ∀ a o, G' a = some o → G a = some o ∨ H a = none
theorem Gr.refl {G H : Hp} (s : Same G H) : Gr G H G H := ⟨Same.refl _, s, Same.refl _, fun _ _ h => .inl h⟩
theorem Gr.trans {G H G1 H1 G2 H2 : Hp} (a : Gr G H G1 H1) (b : Gr G1 H1 G2 H2) : Gr G H G2 H2 :=
  ⟨a.gg.trans b.gg, b.gh, a.hh.trans b.hh, fun x o h => by
    rcases b.nw x o h with h | h
    · exact a.nw x o h
    · exact .inr (a.hh.free h)⟩
theorem Gr.new {G H : Hp} {p : Addr} {o : HO} (s : Same G H) (h : H p = none) : Gr G H (upd G p o) (upd H p o) :=
  ⟨same_upd (s.free h), same_both s, same_upd h, fun a x e => by
    by_cases q : a = p
    · rw [q]; exact .inr h
    · rw [upd_ne q] at e; exact .inl e⟩
/-- a new thing that is not to be known -/
theorem Gr.drop {G H : Hp} {p : Addr} {o : HO} (s : Same G H) (h : H p = none) : Gr G H G (upd H p o) :=
  ⟨Same.refl _, same_mut s (s.free h), same_upd h, fun _ _ e => .inl e⟩
theorem Gr.none {G H G' H' : Hp} (g : Gr G H G' H') {a : Addr} {o : HO} (h : G a = none) (ha : H a = some o) : G' a = none := by
  cases e : G' a with
  | none => rfl
  | some u =>
    rcases g.nw a u e with q | q
    · rw [h] at q; cases q
    · rw [ha] at q; cases q
theorem BoxAt.same {b c : Addr} {H H' : Hp} (x : BoxAt b c H) (s : Same H H') : BoxAt b c H' := by
  obtain ⟨n, cs, k, h1, h2, h3⟩ := x
  exact ⟨n, cs, k, s _ _ h1, s _ _ h2, h3⟩
theorem BoxAt.b {b c : Addr} {H : Hp} (x : BoxAt b c H) : ∃ o, H b = some o := by
  obtain ⟨n, cs, k, h1, h2, h3⟩ := x
  exact ⟨_, h1⟩
theorem BoxAt.c {b c : Addr} {H : Hp} (x : BoxAt b c H) : ∃ o, H c = some o := by
  obtain ⟨n, cs, k, h1, h2, h3⟩ := x
  exact ⟨_, h2⟩
theorem Wd.gr {b c : Addr} {G H G' H' : Hp} (x : Wd b c G H) (g : Gr G H G' H') : Wd b c G' H' := by
  obtain ⟨_, h1⟩ := x.box.b
  obtain ⟨_, h2⟩ := x.box.c
  exact ⟨x.box.same g.hh, g.gh, g.none x.gb h1, g.none x.gc h2⟩
theorem Wd.gr0 {b c : Addr} {G H : Hp} (x : Wd b c G H) : Gr G H G H := Gr.refl x.gh
/-- a list that is not frozen may be written -/
theorem Wd.mut {b c p : Addr} {G H : Hp} {o : HO} (x : Wd b c G H) (h : G p = none) (hb : p ≠ b) (hc : p ≠ c) : Wd b c G (upd H p o) := by
  obtain ⟨n, cs, k, h1, h2, h3⟩ := x.box
  exact ⟨⟨n, cs, k, by rw [upd_ne (Ne.symm hb)]; exact h1, by rw [upd_ne (Ne.symm hc)]; exact h2, h3⟩, same_mut x.gh h, x.gb, x.gc⟩
/-! ### isinstance of built-in classes -/
theorem kb_int_int : kitB "int" "int" = some true := by decide +kernel
theorem kb_int_bool : kitB "int" "bool" = some false := by decide +kernel
theorem kb_int_tuple : kitB "int" "tuple" = some false := by decide +kernel
theorem kb_int_list : kitB "int" "list" = some false := by decide +kernel
theorem kb_int_str : kitB "int" "str" = some false := by decide +kernel
theorem kb_bool_int : kitB "bool" "int" = some true := by decide +kernel
theorem kb_bool_bool : kitB "bool" "bool" = some true := by decide +kernel
theorem kb_bool_tuple : kitB "bool" "tuple" = some false := by decide +kernel
theorem kb_bool_list : kitB "bool" "list" = some false := by decide +kernel
theorem kb_bool_str : kitB "bool" "str" = some false := by decide +kernel
theorem kb_tuple_int : kitB "tuple" "int" = some false := by decide +kernel
theorem kb_tuple_bool : kitB "tuple" "bool" = some false := by decide +kernel
theorem kb_tuple_tuple : kitB "tuple" "tuple" = some true := by decide +kernel
theorem kb_tuple_list : kitB "tuple" "list" = some false := by decide +kernel
theorem kb_tuple_str : kitB "tuple" "str" = some false := by decide +kernel
theorem kb_list_int : kitB "list" "int" = some false := by decide +kernel
theorem kb_list_bool : kitB "list" "bool" = some false := by decide +kernel
theorem kb_list_tuple : kitB "list" "tuple" = some false := by decide +kernel
theorem kb_list_list : kitB "list" "list" = some true := by decide +kernel
theorem kb_list_str : kitB "list" "str" = some false := by decide +kernel
theorem kb_str_int : kitB "str" "int" = some false := by decide +kernel
theorem kb_str_bool : kitB "str" "bool" = some false := by decide +kernel
theorem kb_str_tuple : kitB "str" "tuple" = some false := by decide +kernel
theorem kb_str_list : kitB "str" "list" = some false := by decide +kernel
theorem kb_str_str : kitB "str" "str" = some true := by decide +kernel
theorem kb_none_int : kitB "NoneType" "int" = some false := by decide +kernel
theorem kb_none_bool : kitB "NoneType" "bool" = some false := by decide +kernel
theorem kb_none_tuple : kitB "NoneType" "tuple" = some false := by decide +kernel
theorem kb_none_list : kitB "NoneType" "list" = some false := by decide +kernel
theorem kb_none_str : kitB "NoneType" "str" = some false := by decide +kernel
/-- the kinds of values that a law handles, by a built-in type's name -/
inductive Ty (H : Hp) : V → String → Prop
  | non : Ty H .non "NoneType"
  | bl (b : Bool) : Ty H (.bl b) "bool"
  | int (i : Int) : Ty H (.int i) "int"
  | str (x : Str) : Ty H (.str x) "str"
  | lst {a : Addr} {xs : List V} (h : H a = some (.lst xs)) : Ty H (.ref a) "list"
  | tup {a : Addr} {xs : List V} (h : H a = some (.tup xs)) : Ty H (.ref a) "tuple"
theorem Ty.x {K : PySem.W.Frag} {H : Hp} {v : V} {n : String} (t : Ty H v n) : TyX K H v (.type n) := by
  cases t with
  | non => exact .base .non
  | bl b => exact .base (.bl b)
  | int i => exact .base (.int i)
  | str x => exact .base (.str x)
  | lst h => exact .base (.lst h)
  | tup h => exact .base (.tup h)
theorem Ty.same {H H' : Hp} {v : V} {n : String} (s : Same H H') (t : Ty H v n) : Ty H' v n := by
  cases t with
  | non => exact .non
  | bl b => exact .bl b
  | int i => exact .int i
  | str x => exact .str x
  | lst h => exact .lst (s _ _ h)
  | tup h => exact .tup (s _ _ h)
/-- isinstance(x, n) of such a value -/
def tyB (t n : String) : Bool := (kitB t n).getD false
theorem Ty.kit {H : Hp} {v : V} {t : String} (h : Ty H v t) {n : String} (hn : n = "int" ∨ n = "bool" ∨ n = "tuple" ∨ n = "list" ∨ n = "str") : kitB t n = some (tyB t n) := by
  unfold tyB
  rcases hn with rfl | rfl | rfl | rfl | rfl <;> cases h <;> first
    | (rw [kb_int_int]; rfl) | (rw [kb_int_bool]; rfl) | (rw [kb_int_tuple]; rfl) | (rw [kb_int_list]; rfl) | (rw [kb_int_str]; rfl)
    | (rw [kb_bool_int]; rfl) | (rw [kb_bool_bool]; rfl) | (rw [kb_bool_tuple]; rfl) | (rw [kb_bool_list]; rfl) | (rw [kb_bool_str]; rfl)
    | (rw [kb_tuple_int]; rfl) | (rw [kb_tuple_bool]; rfl) | (rw [kb_tuple_tuple]; rfl) | (rw [kb_tuple_list]; rfl) | (rw [kb_tuple_str]; rfl)
    | (rw [kb_list_int]; rfl) | (rw [kb_list_bool]; rfl) | (rw [kb_list_tuple]; rfl) | (rw [kb_list_list]; rfl) | (rw [kb_list_str]; rfl)
    | (rw [kb_str_int]; rfl) | (rw [kb_str_bool]; rfl) | (rw [kb_str_tuple]; rfl) | (rw [kb_str_list]; rfl) | (rw [kb_str_str]; rfl)
    | (rw [kb_none_int]; rfl) | (rw [kb_none_bool]; rfl) | (rw [kb_none_tuple]; rfl) | (rw [kb_none_list]; rfl) | (rw [kb_none_str]; rfl)
theorem isI_int {K : PySem.W.Frag} {H : Hp} {v : V} {t : String} (h : Ty H v t) : PySem.W.kitOne K (.type t) (.type "int") = some (tyB t "int") := kit_ty (h.kit (.inl rfl))
theorem isI_bool {K : PySem.W.Frag} {H : Hp} {v : V} {t : String} (h : Ty H v t) : PySem.W.kitOne K (.type t) (.type "bool") = some (tyB t "bool") := kit_ty (h.kit (.inr (.inl rfl)))
theorem isI_tuple {K : PySem.W.Frag} {H : Hp} {v : V} {t : String} (h : Ty H v t) : PySem.W.kitOne K (.type t) (.type "tuple") = some (tyB t "tuple") := kit_ty (h.kit (.inr (.inr (.inl rfl))))
theorem isI_list {K : PySem.W.Frag} {H : Hp} {v : V} {t : String} (h : Ty H v t) : PySem.W.kitOne K (.type t) (.type "list") = some (tyB t "list") := kit_ty (h.kit (.inr (.inr (.inr (.inl rfl)))))
theorem isI_str {K : PySem.W.Frag} {H : Hp} {v : V} {t : String} (h : Ty H v t) : PySem.W.kitOne K (.type t) (.type "str") = some (tyB t "str") := kit_ty (h.kit (.inr (.inr (.inr (.inr rfl)))))
def isInt : V → Bool
  | .int _ => true
  | _ => false
theorem isInt_of {H : Hp} {v : V} {t : String} (h : Ty H v t) : (tyB t "int" && !tyB t "bool") = isInt v := by
  unfold tyB
  cases h
  · rw [kb_none_int]; rfl
  · rw [kb_bool_int, kb_bool_bool]; rfl
  · rw [kb_int_int, kb_int_bool]; rfl
  · rw [kb_str_int]; rfl
  · rw [kb_list_int]; rfl
  · rw [kb_tuple_int]; rfl
end Pl

set_option Elab.async false
set_option linter.all false
set_option maxRecDepth 100000
set_option maxHeartbeats 4000000
/-! several except clauses, each with or without a name -/
namespace Pl
open PySem PySem.Spec PyProof.Rows L2
abbrev Cls3 : Type := Value × Option Nat × (Addr → Value → Option Addr → TS)
/-- the ends behind a clause with a name: its slot is emptied -/
def endsAs (i : Nat) (D : Ends) : Ends := { nx := fun σ' H' => D.nx (σ'.set i none) H', rt := D.rt, bk := fun σ' H' => D.bk (σ'.set i none) H', ct := fun σ' H' => D.ct (σ'.set i none) H' }
/-- what the clauses wish of an exception of the body, one after the other -/
def wMix (K : PySem.W.Frag) (Wout : WX) (D : Ends) : List Cls3 → WX
  | [] => Wout
  | (c, none, ts) :: r => fun cls d σ H => ∃ b, PySem.W.exmOne K cls c = some b ∧ (b = true → ∀ a, H a = none → ts a cls d D σ H) ∧ (b = false → wMix K Wout D r cls d σ H)
  | (c, some i, ts) :: r => fun cls d σ H => ∃ b, PySem.W.exmOne K cls c = some b ∧ (b = true → ∀ a, H a = none → ts a cls d (endsAs i D) (σ.set i (some (.ref a))) H) ∧ (b = false → wMix K Wout D r cls d σ H)
/-- .. where all slots are there -/
def wMixL (n : Nat) (K : PySem.W.Frag) (Wout : WX) (D : Ends) (l : List Cls3) : WX := fun cls d σ H => σ.length = n → wMix K Wout D l cls d σ H
inductive HdsMx (X : Cx) : List ExceptHandler → List Cls3 → Prop
  | nil : HdsMx X [] []
  | cons {x : Str} {c : Value} {ts : Addr → Value → Option Addr → TS} {b₀ : Stmt} {suite : List Stmt} {np pos' : Pos} {hds : List ExceptHandler} {l : List Cls3} (hc : Names X x c)
      (hsu : ∀ (a : Addr) (oe : Obj) (cls : Value) (d : Option Addr) (pn : List (Addr × Obj)), Zc cls d oe → (∃ vs, oe.data = .fields vs) → PSs (X.suite a ((a, oe) :: pn)) (b₀ :: suite) (ts a cls d)) (r : HdsMx X hds l) :
      HdsMx X (.ExceptHandler (some (.Name x np)) none (b₀ :: suite) pos' :: hds) ((c, none, ts) :: l)
  | consAs {x n : Str} {i : Nat} {c : Value} {ts : Addr → Value → Option Addr → TS} {b₀ : Stmt} {suite : List Stmt} {np pos' : Pos} {hds : List ExceptHandler} {l : List Cls3} (hi : X.N[i]? = some n) (hln : X.env.kindOf n = some .local) (hc : Names X x c)
      (hsu : ∀ (a : Addr) (oe : Obj) (cls : Value) (d : Option Addr) (pn : List (Addr × Obj)), Zc cls d oe → (∃ vs, oe.data = .fields vs) → PSs (X.suite a ((a, oe) :: pn)) (b₀ :: suite) (ts a cls d)) (r : HdsMx X hds l) :
      HdsMx X (.ExceptHandler (some (.Name x np)) (some n) (b₀ :: suite) pos' :: hds) ((c, some i, ts) :: l)
section
variable {X : Cx} {body : List Stmt} {h₀ : ExceptHandler} {hds : List ExceptHandler} {l : List Cls3} {pos : Pos} {tb : WX → TS} {Wout : WX}
theorem ps_try_mix (hs : X.stack = X.env :: X.outer) (hf : X.env.frame = some X.env.locals) (hN : X.N.Nodup) (tk : Takes X Wout)
    (hb : ∀ (W : WX) (pn : List (Addr × Obj)) (xe : Value → Shared → Prop), Takes (X.tr pn xe) W → PassesOwn (model X.prog X.w) X.A X.env xe → PSs (X.tr pn xe) body (tb W))
    (hh : HdsMx X (h₀ :: hds) l) : PS X (.Try body (h₀ :: hds) [] [] pos) (fun D σ H => tb (wMixL X.N.length X.K Wout D l) D σ H) := by
  refine ⟨fun pins s σ H D I h => ?_⟩
  have ok := I.ok
  have hfr : X.A.frames = some (X.env :: X.outer) := by rw [ok.frames, hs]
  refine wpAny_Try_except ?_
  refine wpAny_mono ((hb (wMixL X.N.length X.K Wout D l) (X.pn ++ pins) (fun e s₁ => wpAny (model X.prog X.w) X.A (noteFrame e X.env) (fun _ s₂ => wpAny (model X.prog X.w) X.A (setFlight e none) (fun _ s₃ =>
    wpAny (model X.prog X.w) X.A (handleBy e X.env (h₀ :: hds)) (SP X pins D) X.xe s₃) X.xe s₂) X.xe s₁) (fun u s' xx => ?_) PassesOwn.looking).run [] s σ H D (I.toTry _) h) (fun f s1 hsp => ?_) (fun e s1 he => he)
  · -- the catch
    obtain ⟨a, B, sI, pins', σ', H', cls, d, rfl, J', nb, up, sky, na, os, ag, w⟩ := xx
    have J : Inv X pins σ' H' sI := J'.ofTry ok
    have sky' : Sky B (X.env :: X.outer) a (Zc cls d) X.env.locals s'.heap := by rw [← hs]; exact sky
    show wpAny (model X.prog X.w) X.A (noteFrame (.ref a) X.env) _ _ _
    refine Sky.land Zc.steady hfr hf sky' fun h3 fl3 up3 => ?_
    have J3 : Inv X pins σ' H' { s' with heap := h3 } := J.landed nb fl3.1 (up.trans up3) os ag
    obtain ⟨oe3, vs3, he3, hz3, hd3⟩ := fl3.there
    have notFr : ∀ {h : Heap} {o : Obj} {vs : Array Value}, h.FunFrames B (X.env :: X.outer) → h.get? a = some o → o.data = .fields vs → a ∉ frs (X.env :: X.outer) := fun {h o vs} ff e dd hm => by
      obtain ⟨_, o', e', hnf⟩ := ff.mem hm
      rw [e] at e'; cases e'
      exact hnf _ dd
    have nfr := notFr fl3.2.2.1 he3 hd3
    have nL : a ≠ X.env.locals := fun z => nfr (List.mem_filterMap.mpr ⟨X.env, List.mem_cons_self, by rw [hf, z]⟩)
    have nF : a ∉ X.fs := fun hm => by
      obtain ⟨e, he, q⟩ := List.mem_filterMap.mp hm
      exact nfr (List.mem_filterMap.mpr ⟨e, List.mem_cons_of_mem _ he, q⟩)
    have S3 := J3.suite he3 hd3 na nL nF
    have LT : PySem.W.Looks (model X.prog X.w) h3 (typeOf (.ref a)) cls := fun A Q E s k q => wpAny_typeOf_ref (k _ _ he3) (by rw [hz3.1]; exact q)
    have test : ∀ {x : Str} {c : Value} {np : Pos} (hc : Names X x c) {Q : Value → Shared → Prop} {E : Value → Shared → Prop}, Q c { s' with heap := h3 } → wpAny (model X.prog X.w) (X.A.mark (some (.ref a))) (eval (.Name x np) X.env) Q E { s' with heap := h3 } := fun {x c np} hc {Q E} q => by
      obtain ⟨hg, hdbg, hm | ⟨hm, hv, hnn⟩⟩ := hc
      · exact ld_glob (X := X.suite a ((a, oe3) :: (X.pn ++ pins))) S3 hg hm q hdbg
      · exact ld_blt (X := X.suite a ((a, oe3) :: (X.pn ++ pins))) S3 hg hm hv q hnn hdbg
    have go : ∀ {hds' : List ExceptHandler} {l' : List Cls3}, HdsMx X hds' l' → wMix X.K Wout D l' cls d σ' H' →
        wpAny (model X.prog X.w) X.A (handleBy (.ref a) X.env hds') (SP X pins D) X.xe { s' with heap := h3 } := by
      intro hds' l' hk
      induction hk with
      | nil =>
        intro w
        refine wpAny_handleBy_nil ?_
        obtain ⟨k1, k2, k3, oe, vs, T, oT, ts', he, hz, hd, h1, hr⟩ := id fl3
        unfold PySem.passOn
        refine wpAny_bind (wpAny_field he hd h1 ?_)
        rw [if_neg (show ¬ ((Value.ref T == Value.none) = true) from by simp)]
        have fin : wpAny (model X.prog X.w) X.A (setFlight (.ref a) X.env.frame) (fun _ s4 => wpAny (model X.prog X.w) X.A (throw (.ref a) : Sem Flow) (SP X pins D) X.xe s4) X.xe { s' with heap := h3 } := by
          rw [hf]
          refine HandSPX.setFlight_upZ fl3 fun h4 hh4 up4 => wpAny_throw (tk _ _ ?_)
          exact ⟨a, B, sI, pins, σ', H', cls, d, rfl, J, nb, (up.trans up3).trans up4, .inr (.inr (by rw [hs]; exact hh4)), na, os, ag, w⟩
        first
          | exact wpAny_bind (wpAny_pure (wpAny_bind fin))
          | exact wpAny_bind fin
      | @cons x c ts b₀ suite np pos' hds2 l2 hc hsu r ih =>
        intro w
        obtain ⟨b, hb1, hyes, hno⟩ := w
        refine wpAny_handleBy_cons (codeAny_handlers_test ?_) (by intro q; cases q)
        have LM := PySem.W.exm_one (M := model X.prog X.w) (J3.kIn) LT hb1
        refine test hc (LM.here ?_)
        cases b with
        | true =>
          refine codeAny_handlers_suite ?_
          refine HandSPX.lands_againZ fl3 fun h4 fl4 up4 => ?_
          have J4 : Inv X pins σ' H' { s' with heap := h4 } := J.landed nb fl4.1 ((up.trans up3).trans up4) os ag
          obtain ⟨oe4, vs4, he4, hz4, hd4⟩ := fl4.there
          have S4 := J4.suite he4 hd4 na nL nF
          refine wpAny_mono ((hsu a oe4 cls d (X.pn ++ pins) hz4 ⟨_, hd4⟩).run [] _ _ H' _ S4 (hyes rfl a na)) (fun f s6 hsp => ?_) (fun _ _ z => False.elim z)
          cases f with
          | next =>
            obtain ⟨σ6, H6, S6, q6⟩ := hsp
            exact ⟨_, _, S6.unsuite ok, q6⟩
          | brk =>
            obtain ⟨σ6, H6, S6, q6⟩ := hsp
            exact ⟨_, _, S6.unsuite ok, q6⟩
          | cont =>
            obtain ⟨σ6, H6, S6, q6⟩ := hsp
            exact ⟨_, _, S6.unsuite ok, q6⟩
          | ret u =>
            obtain ⟨v6, σ6, H6, S6, r6, q6⟩ := hsp
            exact ⟨_, _, _, S6.unsuite ok, r6, q6⟩
        | false =>
          show wpAny _ X.A (handleBy (.ref a) X.env hds2) _ _ _
          exact ih (hno rfl)
      | @consAs x n i c ts b₀ suite np pos' hds2 l2 hi hln hc hsu r ih =>
        intro w
        obtain ⟨b, hb1, hyes, hno⟩ := w
        have hloc : Loc X.env.scope n := .inl hln
        refine wpAny_handleBy_cons (codeAny_handlers_test ?_) (by intro q; cases q)
        have LM := PySem.W.exm_one (M := model X.prog X.w) (J3.kIn) LT hb1
        refine test hc (LM.here ?_)
        cases b with
        | true =>
          refine codeAny_handlers_suite_as ?_
          refine HandSPX.lands_againZ fl3 fun h4 fl4 up4 => ?_
          have J4 : Inv X pins σ' H' { s' with heap := h4 } := J.landed nb fl4.1 ((up.trans up3).trans up4) os ag
          obtain ⟨oe4, vs4, he4, hz4, hd4⟩ := fl4.there
          have S4 := J4.suite he4 hd4 na nL nF
          refine store_ok (X := X.suite a ((a, oe4) :: (X.pn ++ pins))) (v := .ref a) S4 hN hi hloc rfl (fun s5 S5 => ?_) (.inr hln)
          refine wpAny_mono ((hsu a oe4 cls d (X.pn ++ pins) hz4 ⟨_, hd4⟩).run [] s5 _ H' _ S5 (hyes rfl a na)) (fun f s6 hsp => ?_) (fun _ _ z => False.elim z)
          have end_ : ∀ {σ6 : L2.St} {H6 : Hp} {Q : Shared → Prop}, Inv (X.suite a ((a, oe4) :: (X.pn ++ pins))) [] σ6 H6 s6 → (∀ s7, Inv X pins (σ6.set i none) H6 s7 → Q s7) →
              wpAny (model X.prog X.w) X.A (do bindName X.env n .none; unbindBehindTheSuite X.env n pos') (fun _ s7 => Q s7) X.xe s6 := fun {σ6 H6 Q} S6 hq => gone_ok (S6.unsuite ok) hN hi hln hq
          cases f with
          | next =>
            obtain ⟨σ6, H6, S6, q6⟩ := hsp
            exact end_ S6 fun s7 J7 => ⟨_, _, J7, q6⟩
          | brk =>
            obtain ⟨σ6, H6, S6, q6⟩ := hsp
            exact end_ S6 fun s7 J7 => ⟨_, _, J7, q6⟩
          | cont =>
            obtain ⟨σ6, H6, S6, q6⟩ := hsp
            exact end_ S6 fun s7 J7 => ⟨_, _, J7, q6⟩
          | ret u =>
            obtain ⟨v6, σ6, H6, S6, r6, q6⟩ := hsp
            exact end_ S6 fun s7 J7 => ⟨_, _, _, J7, r6, q6⟩
        | false =>
          show wpAny _ X.A (handleBy (.ref a) X.env hds2) _ _ _
          exact ih (hno rfl)
    exact go hh (w J.len)
  · cases f with
    | next =>
      obtain ⟨σ', H', J', q⟩ := hsp
      exact wpAny_execs_nil ⟨σ', H', J'.ofTry ok, q⟩
    | brk =>
      obtain ⟨σ', H', J', q⟩ := hsp
      exact ⟨σ', H', J'.ofTry ok, q⟩
    | cont =>
      obtain ⟨σ', H', J', q⟩ := hsp
      exact ⟨σ', H', J'.ofTry ok, q⟩
    | ret u =>
      obtain ⟨v, σ', H', J', r, q⟩ := hsp
      exact ⟨v, σ', H', J'.ofTry ok, r, q⟩
end
/-! ### an own error with one field -/
/-- def __init__(self, y): self.f = y -/
def spExI (K : PySem.W.Frag) (f : Str) : Sp := fun vs H Q _ => ∃ (a C : Addr) (y : V), vs = [.ref a, y] ∧ OexC K C ∧ H a = some (exo a C none) ∧ PySem.W.findIn K (.ref C) f = some none ∧ ∀ dx, H dx = none → dx ≠ a → Q .non (upd (upd H dx (exd dx [(f, y)])) a (exo a C (some dx)))
theorem exI_made {K : PySem.W.Frag} {C : Addr} {f : Str} {y : V} {H : Hp} {Q : XK} (T : OexC K C) (hno : PySem.W.findIn K (.ref C) f = some none) (h : ∀ d, H d = none → Q (.ref C) (some d) (upd H d (.xd [(f, y)]))) :
    [y].length ≤ 1000 ∧ ∀ a, H a = none → spExI K f (.ref a :: ([y] ++ [])) (upd H a (exo a C none)) (fun v H2 => v = .non ∧ ∃ (d : Addr) (fs : List (Str × V)), H2 a = some (exo a C (some d)) ∧ H2 d = some (exd d fs) ∧ H d = none ∧ Q (.ref C) (some d) (upd (del H2 a) d (.xd fs))) (fun _ _ _ => False) := by
  refine ⟨Nat.le_of_ble_eq_true rfl, fun a ha => ⟨a, C, y, rfl, T, upd_same, hno, fun dx hdx hne => ⟨rfl, dx, [(f, y)], upd_same, by rw [upd_ne hne, upd_same], ?_, ?_⟩⟩⟩
  · rw [upd_ne hne] at hdx; exact hdx
  · have hd : H dx = none := by rw [upd_ne hne] at hdx; exact hdx
    have e : upd (del (upd (upd (upd H a (exo a C none)) dx (exd dx [(f, y)])) a (exo a C (some dx))) a) dx (.xd [(f, y)]) = upd H dx (.xd [(f, y)]) := by
      funext b
      by_cases hb : b = dx
      · subst hb; rw [upd_same, upd_same]
      · rw [upd_ne hb, upd_ne hb]
        by_cases hba : b = a
        · subst hba; rw [del_same, ha]
        · rw [del_ne hba, upd_ne hba, upd_ne hb, upd_ne hba]
    rw [e]
    exact h dx hd
end Pl

set_option Elab.async false
set_option linter.all false
set_option maxRecDepth 100000
set_option maxHeartbeats 4000000
/-! Methods of own classes whose last statement is super().__init__(..). -/
namespace Pl
open PySem PySem.Spec PyProof.Rows L2 NdefX ClX
/-- what the written part has of a def that closes over its class D, and of the def g of the class behind D -/
structure SupK (P : Program) (K : PySem.W.Frag) (F : NF) (cc D g : Addr) (name : Str) : Prop where
  cl : F.cl = ([("__class__", cc)] : List (Str × Addr))
  cell : ∃ ccl ccd ccs, K.lookup cc = some ⟨ccl, ccd, .cell (some (.ref D)), ccs⟩
  cls : ∃ cd, PySem.W.clsIn K D = some cd
  code : ∃ ccl cdd vs ccs file tf, K.lookup F.c = some ⟨ccl, cdd, .fields vs, ccs⟩ ∧ vs[2]? = some (.str file tf) ∧ ((P.main.file : Str) == file) = true
  nsup : PySem.W.nsIn K mainGlobals "super" = some none
  any : PySem.W.nsIn K cStatics "thirdparty.any" = some none
  ty : PySem.W.typeIn K (.ref g) = some (.type "function")
  fi : PySem.W.fnIn K g = true
  top : (P.main.scope.names.lookup ("super" : Str)).isSome = false
  ks : F.scope.names.lookup ("super" : Str) = some .globalImplicit
  kc : F.scope.names.lookup ("__class__" : Str) = some .free
  at_ : (name == ("__class__" : Str)) = false
/-- .. and of the class C of the object -/
structure SupC (K : PySem.W.Frag) (C D g : Addr) (name : Str) : Prop where
  mro : PySem.W.mroIn K C (.ref D) = some true
  sup : PySem.W.ks_superIn K C D name = some (some (.ref g))
abbrev superE (name : Str) (es : List Expr) (p0 p1 apos pos : Pos) : Expr := .Call (.Attribute (.Call (.Name "super" p0) [] [] p1) name apos) es [] pos
theorem load_of {X : Cx} {i : Nat} {x : Str} {pins : List (Addr × Obj)} {σ : L2.St} {H : Hp} {s : Shared} {v : V} {E : Value → Shared → Prop} {Q : Value → Shared → Prop} (I : Inv X pins σ H s) (hN : X.N[i]? = some x) (hv : Vis X.env.scope x) (e : σ[i]? = some (some v)) (hcd : (x == ("__classdict__" : Str)) = false) (h : ∀ u, RelV v u → Q u s) :
    wpAny (model X.prog X.w) X.A (loadName X.env x) Q E s := by
  obtain ⟨m, hn, hl⟩ := I.loc
  obtain ⟨u, r, l⟩ := hl i x v hN e hv
  rcases l with ⟨k, hm⟩ | ⟨k, c, hc, hu⟩
  · exact wpAny_loadName_local I.ok.kind k hn hm (h u r)
  · rcases k with k | k
    · exact wpAny_loadName_cell I.ok.kind k hc hu (h u r)
    · exact wpAny_loadName_free I.ok.kind k hc hu (h u r) hcd
section
variable {X : Cx} {F : NF} {f cc D g x C dx L : Addr} {name : Str} {fd : FuncData} {ar : Arg} {oc : Value} {od : Option Addr} {osl : Array (Option Value)} {pins : List (Addr × Obj)} {σ : L2.St} {H : Hp} {s : Shared} {fs : List (Str × V)} {j : Nat} {body : List Stmt} {p0 p1 apos pos : Pos} {whole : Sem Value}
/-- super(): the record so -/
theorem super_base {Q : Value → Shared → Prop} {E : Value → Shared → Prop} (S : SupK X.prog X.K F cc D g name) (hE : X.env = PySem.W.envX F.qual F.scope L f (.ref F.c) F.cl) (hf : X.K.lookup f = some ⟨oc, od, .func fd, osl⟩) (hp : (fd.params.posonlyargs ++ fd.params.args).head? = some ar)
    (hms : X.mg "super" = none) (I : Inv X pins σ H s) (i0 : X.N[0]? = some ar.arg) (hv0 : F.scope.names.lookup ar.arg = some .local) (h0c : (ar.arg == ("__classdict__" : Str)) = false) (ic : X.N[j]? = some "__class__") (hj : σ[j]? = some (some (.ref D))) (hx : σ[0]? = some (some (.ref x))) (ho : H x = some (.ins C dx fs)) (sc : SupC X.K C D g name)
    (h : ∀ h', h'.get? s.heap.objs.size = some (PySem.W.ks_superObj D x C) → (∀ y o, s.heap.get? y = some o → h'.get? y = some o) → Q (.ref s.heap.objs.size) { s with heap := h' }) :
    _root_.PySem.wpAt (model X.prog X.w) X.A (.func body X.env) (attributeBase (.Call (.Name "super" p0) [] [] p1) name X.env whole) Q E s := by
  obtain ⟨ccl, cdd, vs, ccs, file, tf, hc1, hc2, hc3⟩ := S.code
  obtain ⟨cdD, hD⟩ := S.cls
  have KI := I.kIn
  have ksx : X.env.scope = F.scope := by rw [hE]
  have k1 : X.env.kindOf "super" = some .globalImplicit := by rw [hE]; exact S.ks
  have k2 : X.env.kindOf "__class__" = some .free := by rw [hE]; exact S.kc
  have k3 : X.env.func = some f := by rw [hE]
  have k4 : X.env.code = .ref F.c := by rw [hE]
  obtain ⟨oD, hD1, hD2⟩ : ∃ oD, s.heap.get? D = some oD ∧ oD.data = .cls cdD := by
    unfold PySem.W.clsIn at hD
    split at hD
    · rename_i c d cd' sl ho
      cases hD
      exact ⟨_, KI _ _ ho, rfl⟩
    · cases hD
  obtain ⟨mA, O, _⟩ := ins_get I.hok ho
  obtain ⟨odx, J, _⟩ := O.look
  refine ks_wpAt_super_base (env := X.env) k1 k2 S.at_ k3 (KI _ _ hf) rfl hp k4 (KI _ _ hc1) rfl hc2 hc3 S.top ?_
  obtain ⟨mb, h1, h2⟩ := I.mod.blt
  refine PySem.W.ks_loadName_global I.ok.kind k1 (Calls.loadGlobal_builtin (by rw [I.ok.glob]; exact I.mod.glob.keeps I.bk) hms (by rw [I.ok.blt]; exact h1.keeps I.bk) ((h2 "super" (by decide)).trans (by decide +kernel)) ⟨rfl, ?_⟩)
  refine load_of I ic (by rw [ksx]; exact .inr (.inr S.kc)) hj (by decide) fun u r => ?_
  obtain rfl : u = Value.ref D := r
  refine load_of I i0 (by rw [ksx]; exact .inl hv0) hx h0c fun u r => ?_
  obtain rfl : u = Value.ref x := r
  obtain ⟨hh, gg, dd, t, os⟩ := s
  refine ks_wpAny_isType_cls hD1 hD2 ⟨rfl, ?_⟩
  refine ks_wpAny_call_super hD1 hD2 J.at_ J.cls (fun c e => ?_) (PySem.W.looks_mroIn KI sc.mro) (fun h' e k => h h' e k)
  have := J.no
  unfold PySem.W.notCls at this
  rw [e] at this
  exact Bool.noConfusion this
/-- super().name(e, ..) -/
theorem super_run {CX : CXT} {k : Nat} {sp : Sp} {E : XK} {Q : VK} {e : Expr} {es : List Expr} {t : TA} {pl : Sem Bool} (S : SupK X.prog X.K F cc D g name) (hE : X.env = PySem.W.envX F.qual F.scope L f (.ref F.c) F.cl) (hf : X.K.lookup f = some ⟨oc, od, .func fd, osl⟩) (hp : (fd.params.posonlyargs ++ fd.params.args).head? = some ar)
    (hms : X.mg "super" = none) (I : Inv X pins σ H s) (i0 : X.N[0]? = some ar.arg) (hv0 : F.scope.names.lookup ar.arg = some .local) (h0c : (ar.arg == ("__classdict__" : Str)) = false) (ic : X.N[j]? = some ("__class__" : Str)) (hj : σ[j]? = some (some (.ref D))) (hx : σ[0]? = some (some (.ref x))) (ho : H x = some (.ins C dx fs)) (sc : SupC X.K C D g name)
    (G : FnR X.prog X.w X.K X.mg X.base CX k g sp) (hr : Room k X.A) (hxp : Passes CX X E) (ha : PA X (e :: es) t) (h : t σ H fun vs H1 => sp (.ref x :: vs) H1 Q E)
    (hst : starEach (e :: es) X.env = (false, eval e X.env) :: starEach es X.env) (hpl : (backTo pos (starEach es X.env)).any (·.1) = false)
    (ht : eval (superE name (e :: es) p0 p1 apos pos) X.env = (do
      let ov ← attributeBase (.Call (.Name "super" p0) [] [] p1) name X.env (eval (.Call (.Name "super" p0) [] [] p1) X.env)
      standAt apos.atName
      let (f, first) ← holding [ov] (getMethod ov name pl)
      callWith pos f first (backTo pos (starEach (e :: es) X.env)) [])) :
    _root_.PySem.wpAt (model X.prog X.w) X.A (.func body X.env) (eval (superE name (e :: es) p0 p1 apos pos) X.env) (EP X pins σ Q) X.xe s := by
  obtain ⟨hh, gg, dd, tt, os⟩ := s
  refine ks_wpAt_MethodCall (super_base S hE hf hp hms I i0 hv0 h0c ic hj hx ho sc fun h' e1 k1 => ?_) ht
  have I1 : Inv X pins σ H ⟨h', gg, dd, tt, os⟩ := I.kept (t' := tt) k1
  obtain ⟨mA, O, _⟩ := ins_get I1.hok ho
  obtain ⟨odx, J, _⟩ := O.look
  have hm := sc.sup
  have hm' := hm
  unfold PySem.W.ks_superIn at hm'
  obtain ⟨cd, hc⟩ : ∃ cd, PySem.W.clsIn X.K C = some cd := by
    cases hc : PySem.W.clsIn X.K C with
    | none => rw [hc] at hm'; cases hm'
    | some cd => exact ⟨cd, rfl⟩
  rw [hc] at hm'
  obtain ⟨of, hof, hofc⟩ : ∃ of, h'.get? g = some of ∧ of.cls = .type "function" := by
    have ht' : (X.K.lookup g).map (·.cls) = some (.type "function") := S.ty
    cases z : X.K.lookup g with
    | none => rw [z] at ht'; cases ht'
    | some of => rw [z] at ht'; exact ⟨of, I1.kIn _ _ z, Option.some.inj ht'⟩
  refine ks_wpAny_getMethod_super e1 (PySem.W.looks_opaque I1.kIn S.any) (l₀ := cd.mro) (fun A Q E s k q => wpAny_bind ((PySem.W.looks_clsIn I1.kIn hc) A _ E s k (wpAny_pure q))) rfl I1.kIn hm' hof hofc (PySem.W.ks_ne I1.kIn J hc) S.at_ ?_
  have I2 := met_new (g := g) (C := x) I1
  refine callwith_cm I2 (base_none I1 (Nat.le_refl _)) S.fi (thn (ha.run pos _ _ σ H _ I2 h) fun us s3 ⟨vs, H2, I3, rv, q2⟩ => ⟨⟨pin_at I3, I3.kIn⟩, run_cm G hr hxp I3 rv q2⟩) hst hpl
/-- super().name() -/
theorem super_run0 {CX : CXT} {k : Nat} {sp : Sp} {E : XK} {Q : VK} {pl : Sem Bool} (S : SupK X.prog X.K F cc D g name) (hE : X.env = PySem.W.envX F.qual F.scope L f (.ref F.c) F.cl) (hf : X.K.lookup f = some ⟨oc, od, .func fd, osl⟩) (hp : (fd.params.posonlyargs ++ fd.params.args).head? = some ar)
    (hms : X.mg "super" = none) (I : Inv X pins σ H s) (i0 : X.N[0]? = some ar.arg) (hv0 : F.scope.names.lookup ar.arg = some .local) (h0c : (ar.arg == ("__classdict__" : Str)) = false) (ic : X.N[j]? = some ("__class__" : Str)) (hj : σ[j]? = some (some (.ref D))) (hx : σ[0]? = some (some (.ref x))) (ho : H x = some (.ins C dx fs)) (sc : SupC X.K C D g name)
    (G : FnR X.prog X.w X.K X.mg X.base CX k g sp) (hr : Room k X.A) (hxp : Passes CX X E) (h : sp [.ref x] H Q E)
    (ht : eval (superE name [] p0 p1 apos pos) X.env = (do
      let ov ← attributeBase (.Call (.Name "super" p0) [] [] p1) name X.env (eval (.Call (.Name "super" p0) [] [] p1) X.env)
      standAt apos.atName
      let (f, first) ← holding [ov] (getMethod ov name pl)
      callWith pos f first (backTo pos (starEach [] X.env)) [])) :
    _root_.PySem.wpAt (model X.prog X.w) X.A (.func body X.env) (eval (superE name [] p0 p1 apos pos) X.env) (EP X pins σ Q) X.xe s := by
  obtain ⟨hh, gg, dd, tt, os⟩ := s
  refine ks_wpAt_MethodCall (super_base S hE hf hp hms I i0 hv0 h0c ic hj hx ho sc fun h' e1 k1 => ?_) ht
  have I1 : Inv X pins σ H ⟨h', gg, dd, tt, os⟩ := I.kept (t' := tt) k1
  obtain ⟨mA, O, _⟩ := ins_get I1.hok ho
  obtain ⟨odx, J, _⟩ := O.look
  have hm' := sc.sup
  unfold PySem.W.ks_superIn at hm'
  obtain ⟨cd, hc⟩ : ∃ cd, PySem.W.clsIn X.K C = some cd := by
    cases hc : PySem.W.clsIn X.K C with
    | none => rw [hc] at hm'; cases hm'
    | some cd => exact ⟨cd, rfl⟩
  rw [hc] at hm'
  obtain ⟨of, hof, hofc⟩ : ∃ of, h'.get? g = some of ∧ of.cls = .type "function" := by
    have ht' : (X.K.lookup g).map (·.cls) = some (.type "function") := S.ty
    cases z : X.K.lookup g with
    | none => rw [z] at ht'; cases ht'
    | some of => rw [z] at ht'; exact ⟨of, I1.kIn _ _ z, Option.some.inj ht'⟩
  refine ks_wpAny_getMethod_super e1 (PySem.W.looks_opaque I1.kIn S.any) (l₀ := cd.mro) (fun A Q E s k q => wpAny_bind ((PySem.W.looks_clsIn I1.kIn hc) A _ E s k (wpAny_pure q))) rfl I1.kIn hm' hof hofc (PySem.W.ks_ne I1.kIn J hc) S.at_ ?_
  have I2 := met_new (g := g) (C := x) I1
  exact PySem.W.callWith_M0 (first := []) ⟨pin_at I2, I2.kIn⟩ S.fi (run_cm G hr hxp I2 .nil h)
end
theorem execs_app {M : Model} {env : Env} {post : List Stmt} {Γ} {Q : Flow → Pos → Shared → Prop} {E : Value → Pos → Shared → Prop} : ∀ {pre : List Stmt} {p s}, Sem.wp M Γ (execs pre env) (fun f p s => match f with | .next => Sem.wp M Γ (execs post env) Q E p s | f => Q f p s) E p s → Sem.wp M Γ (execs (pre ++ post) env) Q E p s
  | [], p, s, h => by
    rw [execs_nil, Sem.wp_pure'] at h
    exact h
  | a :: pre, p, s, h => by
    rw [List.cons_append, execs_cons, Sem.wp_bind']
    rw [execs_cons, Sem.wp_bind'] at h
    refine Sem.wp_mono M Γ _ (fun f p' s' h' => ?_) (fun _ _ _ h' => h') _ _ h
    cases f
    case next => exact execs_app h'
    all_goals exact h'
section
variable {CX : CXT} {P : Program} {w : World} {K : PySem.W.Frag} {mg : Str → Option Value} {base : Heap} {k : Nat} {f cc D : Addr} {F : NF} {dV kV doc pm ct oc ccl : Value} {an od ccd : Option Addr} {osl ccs : Array (Option Value)} {N ps : List Str} {sp : Sp}
theorem cells_cc {h : Heap} {H : Hp} (hcc : h.get? cc = some ⟨ccl, ccd, .cell (some (.ref D)), ccs⟩) (hn : H cc = none) : CellsAt [(("__class__" : Str), cc)] [("__class__" : Str)] [some (.ref D)] h H := by
  refine ⟨rfl, fun y c e => ?_, fun x y c e1 e2 => ?_, fun i y e => ?_⟩
  · have : c = cc := by
      simp only [List.lookup] at e
      split at e
      · exact (Option.some.inj e).symm
      · cases e
    subst this
    exact ⟨hn, _, _, hcc, rfl⟩
  · have h1 : x = ("__class__" : Str) := by
      simp only [List.lookup] at e1
      split at e1
      · rename_i z; exact beq_iff_eq.mp z
      · cases e1
    have h2 : y = ("__class__" : Str) := by
      simp only [List.lookup] at e2
      split at e2
      · rename_i z; exact beq_iff_eq.mp z
      · cases e2
    rw [h1, h2]
  · match i with
    | 0 =>
      obtain rfl : ("__class__" : Str) = y := Option.some.inj e
      refine ⟨cc, by simp [List.lookup], fun v ev => ?_⟩
      obtain rfl : V.ref D = v := Option.some.inj (Option.some.inj ev)
      exact ⟨.ref D, rfl, _, hcc, rfl⟩
    | i + 1 => simp at e
/-- a def that closes over its class, its body pre ++ [last] where last is read at its place -/
theorem fnL_of {pre : List Stmt} {last : Stmt} (hcl : F.cl = [(("__class__" : Str), cc)]) (hbd : F.body = pre ++ [last])
    (lk : K.lookup f = some ⟨oc, od, .func (PySem.W.fnX F.name F.qual F.params F.body F.scope F.cl dV kV doc pm an (.ref F.c) ct), osl⟩) (hcd : PySem.W.codeIn K (.ref F.c) F.qual = true) (S : NScope N ps ["__class__"] F.scope) (hcc : K.lookup cc = some ⟨ccl, ccd, .cell (some (.ref D)), ccs⟩)
    (len : ∀ vs H Q E, sp vs H Q E → vs.length = ps.length)
    (hbody : ∀ (A : Around) (outer : List Env) (s : Shared) (H : Hp) (vs : List V) (Q : VK) (E : XK), Room k (A.deeper (envF F f s.heap.objs.size)) → sp vs H Q E →
      ∃ (t : TS) (LQ : L2.St → Hp → Prop), PSs (ncx CX P w K mg base N F f A outer s H E) pre t ∧ t { nx := LQ, rt := Q } (startF N vs [some (.ref D)]) H ∧
        ∀ σ' H' s', Inv (ncx CX P w K mg base N F f A outer s H E) [] σ' H' s' → LQ σ' H' →
          _root_.PySem.wpAt (model P w) (A.deeper (envF F f s.heap.objs.size)) (.func F.body (envF F f s.heap.objs.size)) (exec last (envF F f s.heap.objs.size)) (fun fl s2 => fl = .next ∧ ∃ σ2 H2, Inv (ncx CX P w K mg base N F f A outer s H E) [] σ2 H2 s2 ∧ Q .non H2)
            (ncx CX P w K mg base N F f A outer s H E).xe s') :
    FnOk P w K mg base CX (k + 1) f (PySem.W.fnX F.name F.qual F.params F.body F.scope F.cl dV kV doc pm an (.ref F.c) ct) ps sp := by
  refine ⟨len, fun A outer s H args us vs Q E hr e0 hb r hsp => ?_⟩
  have hl := len _ _ _ _ hsp
  have KX : K.In s.heap := e0.mod.kin.keeps fun b o e => (e0.bs b o e).1
  have lim : s.heap.NoLimit := e0.mod.nolimit.keeps fun b o e => (e0.bs b o e).1
  have hnc : H cc = none := (e0.bs _ _ (e0.mod.kin _ _ hcc)).2
  have C : CellsAt F.cl ["__class__"] [some (.ref D)] s.heap H := by
    rw [hcl]
    exact cells_cc (KX _ _ hcc) hnc
  refine ks_codeAny_call_defAt (body := F.body) (binds := ps.zip us) hr.depth (KX _ _ lk) rfl lim (PySem.W.codeRec_of KX hcd) rfl hb S.nocell (fun ⟨n, _⟩ hy => S.par n (List.of_mem_zip hy).1) (fun h₁ hns kp => ?_) S.co S.gen S.kind
  have I : Inv (ncx CX P w K mg base N F f A outer s H E) [] (startF N vs [some (.ref D)]) H { s with heap := h₁, toks := s.toks + (ps.zip us).length } := inv_startN S hr.hd e0 hl r C hns kp
  obtain ⟨t, LQ, ht, hq, hlast⟩ := hbody A outer s H vs Q E (hr.deeper _) hsp
  have fin : ∀ {σ' : L2.St} {H' : Hp} {v : V} {u : Value} {s' : Shared}, Inv (ncx CX P w K mg base N F f A outer s H E) [] σ' H' s' → L2.RelV v u → Q v H' → CE outer P w H s Q u s' :=
    fun {σ' H' v u s'} J rv q => ⟨v, H', J.os, J.bare, J.base, J.hok, rv, q⟩
  have h1 := ht.run [] _ (startF N vs [some (.ref D)]) H { nx := LQ, rt := Q } I hq
  show _root_.PySem.wpAt _ _ (.func F.body (envF F f s.heap.objs.size)) (execs F.body (envF F f s.heap.objs.size)) _ _ _
  intro Γ p hc hΓ
  have h2 := wpAt_of_wpAny (c := .func F.body (envF F f s.heap.objs.size)) h1 Γ p hc hΓ
  rw [show execs F.body (envF F f s.heap.objs.size) = execs (pre ++ [last]) (envF F f s.heap.objs.size) by rw [hbd]]
  refine execs_app (Sem.wp_mono _ Γ _ (fun fl p' s' hs => ?_) (fun e p' s' hs => ?_) _ _ h2)
  · cases fl with
    | next =>
      obtain ⟨σ', H', J, q⟩ := hs
      rw [execs_cons, Sem.wp_bind']
      refine Sem.wp_mono _ Γ _ (fun fl p' s' hs => ?_) (fun e p' s' hs => ?_) _ _ (hlast σ' H' s' J q Γ p' hc hΓ)
      · obtain ⟨rfl, σ2, H2, J2, q2⟩ := hs
        show Sem.wp _ _ (execs [] _) _ _ _ _
        rw [execs_nil, Sem.wp_pure']
        exact fin (v := V.non) (u := Value.none) J2 rfl q2
      · exact hs
    | ret u =>
      obtain ⟨v, σ', H', J, rv, q⟩ := hs
      exact fin J rv q
    | brk =>
      obtain ⟨_, _, _, q⟩ := hs
      exact False.elim q
    | cont =>
      obtain ⟨_, _, _, q⟩ := hs
      exact False.elim q
  · exact hs
/-- what stands ahead of super().name(..) -/
def SupQ (K : PySem.W.Frag) (D g : Addr) (name : Str) (j : Nat) (ta : TA) (spg : Sp) (Q : VK) (E : XK) : L2.St → Hp → Prop := fun σ H => ∃ x C dx fs, σ[0]? = some (some (.ref x)) ∧ σ[j]? = some (some (.ref D)) ∧ H x = some (.ins C dx fs) ∧ SupC K C D g name ∧ ta σ H fun vs H1 => spg (.ref x :: vs) H1 (fun _ H2 => Q .non H2) E
/-- THE RULE: a def of a class D whose body ends in super().name(e, ..) -/
theorem fnS_of {pre : List Stmt} {g : Addr} {name : Str} {e : Expr} {es : List Expr} {ar : Arg} {p0 p1 apos pos spos : Pos} {pl : Addr → Sem Bool} {spg : Sp} (SK : SupK P K F cc D g name) (hbd : F.body = pre ++ [.Expr (superE name (e :: es) p0 p1 apos pos) spos])
    (lk : K.lookup f = some ⟨oc, od, .func (PySem.W.fnX F.name F.qual F.params F.body F.scope F.cl dV kV doc pm an (.ref F.c) ct), osl⟩) (hcd : PySem.W.codeIn K (.ref F.c) F.qual = true) (S : NScope N ps ["__class__"] F.scope)
    (hp : (F.params.posonlyargs ++ F.params.args).head? = some ar) (i0 : N[0]? = some ar.arg) (hv0 : F.scope.names.lookup ar.arg = some .local) (h0c : (ar.arg == ("__classdict__" : Str)) = false) (ic : N[ps.length]? = some ("__class__" : Str)) (hms : mg "super" = none)
    (G : FnR P w K mg base CX k g spg) (hxp : ∀ A outer s H E, Passes CX (ncx CX P w K mg base N F f A outer s H E) E)
    (len : ∀ vs H Q E, sp vs H Q E → vs.length = ps.length)
    (hbody : ∀ (A : Around) (outer : List Env) (s : Shared) (H : Hp) (vs : List V) (Q : VK) (E : XK), Room k (A.deeper (envF F f s.heap.objs.size)) → sp vs H Q E →
      ∃ (t : TS) (ta : TA), PSs (ncx CX P w K mg base N F f A outer s H E) pre t ∧ PA (ncx CX P w K mg base N F f A outer s H E) (e :: es) ta ∧ t { nx := SupQ K D g name ps.length ta spg Q E, rt := Q } (startF N vs [some (.ref D)]) H)
    (hst : ∀ L, starEach (e :: es) (envF F f L) = (false, eval e (envF F f L)) :: starEach es (envF F f L) := by intro L; rfl) (hpl : ∀ L, (backTo pos (starEach es (envF F f L))).any (·.1) = false := by intro L; rfl)
    (ht : ∀ L, eval (superE name (e :: es) p0 p1 apos pos) (envF F f L) = (do
      let ov ← attributeBase (.Call (.Name "super" p0) [] [] p1) name (envF F f L) (eval (.Call (.Name "super" p0) [] [] p1) (envF F f L))
      standAt apos.atName
      let (fn, first) ← holding [ov] (getMethod ov name (pl L))
      callWith pos fn first (backTo pos (starEach (e :: es) (envF F f L))) []) := by intro L; rfl)
    (hi : ∀ L, interactive (envF F f L) = false := by intro L; rfl) (hs : ∀ L, swapsWith (superE name (e :: es) p0 p1 apos pos) none spos.line (envF F f L) = pure false := by intro L; rfl) :
    FnOk P w K mg base CX (k + 1) f (PySem.W.fnX F.name F.qual F.params F.body F.scope F.cl dV kV doc pm an (.ref F.c) ct) ps sp := by
  obtain ⟨ccl, ccd, ccs, hcc⟩ := SK.cell
  refine fnL_of SK.cl hbd lk hcd S hcc len fun A outer s H vs Q E hr hsp => ?_
  obtain ⟨t, ta, h1, h2, h3⟩ := hbody A outer s H vs Q E hr hsp
  refine ⟨t, SupQ K D g name ps.length ta spg Q E, h1, h3, fun σ' H' s' I q => ?_⟩
  obtain ⟨x, C, dx, fs, e0, ej, hx, sc, hq⟩ := q
  have z := super_run (X := ncx CX P w K mg base N F f A outer s H E) (body := F.body) (Q := fun _ H2 => Q .non H2) SK rfl lk hp hms I i0 hv0 h0c ic ej e0 hx sc G hr (hxp A outer s H E) h2 hq (hst _) (hpl _) (ht _)
  exact ks_wpAt_Expr_any (ks_wpAt_mono z (fun v s2 ⟨y, H2, I2, _, q2⟩ => ⟨rfl, σ', H2, I2, q2⟩) fun _ _ y => y) (hi _) (hs _)
/-- .. in super().name() -/
theorem fnS0_of {pre : List Stmt} {g : Addr} {name : Str} {ar : Arg} {p0 p1 apos pos spos : Pos} {pl : Addr → Sem Bool} {spg : Sp} (SK : SupK P K F cc D g name) (hbd : F.body = pre ++ [.Expr (superE name [] p0 p1 apos pos) spos])
    (lk : K.lookup f = some ⟨oc, od, .func (PySem.W.fnX F.name F.qual F.params F.body F.scope F.cl dV kV doc pm an (.ref F.c) ct), osl⟩) (hcd : PySem.W.codeIn K (.ref F.c) F.qual = true) (S : NScope N ps ["__class__"] F.scope)
    (hp : (F.params.posonlyargs ++ F.params.args).head? = some ar) (i0 : N[0]? = some ar.arg) (hv0 : F.scope.names.lookup ar.arg = some .local) (h0c : (ar.arg == ("__classdict__" : Str)) = false) (ic : N[ps.length]? = some ("__class__" : Str)) (hms : mg "super" = none)
    (G : FnR P w K mg base CX k g spg) (hxp : ∀ A outer s H E, Passes CX (ncx CX P w K mg base N F f A outer s H E) E)
    (len : ∀ vs H Q E, sp vs H Q E → vs.length = ps.length)
    (hbody : ∀ (A : Around) (outer : List Env) (s : Shared) (H : Hp) (vs : List V) (Q : VK) (E : XK), Room k (A.deeper (envF F f s.heap.objs.size)) → sp vs H Q E →
      ∃ (t : TS), PSs (ncx CX P w K mg base N F f A outer s H E) pre t ∧ t { nx := SupQ K D g name ps.length tNil spg Q E, rt := Q } (startF N vs [some (.ref D)]) H)
    (ht : ∀ L, eval (superE name [] p0 p1 apos pos) (envF F f L) = (do
      let ov ← attributeBase (.Call (.Name "super" p0) [] [] p1) name (envF F f L) (eval (.Call (.Name "super" p0) [] [] p1) (envF F f L))
      standAt apos.atName
      let (fn, first) ← holding [ov] (getMethod ov name (pl L))
      callWith pos fn first (backTo pos (starEach [] (envF F f L))) []) := by intro L; rfl)
    (hi : ∀ L, interactive (envF F f L) = false := by intro L; rfl) (hs : ∀ L, swapsWith (superE name [] p0 p1 apos pos) none spos.line (envF F f L) = pure false := by intro L; rfl) :
    FnOk P w K mg base CX (k + 1) f (PySem.W.fnX F.name F.qual F.params F.body F.scope F.cl dV kV doc pm an (.ref F.c) ct) ps sp := by
  obtain ⟨ccl, ccd, ccs, hcc⟩ := SK.cell
  refine fnL_of SK.cl hbd lk hcd S hcc len fun A outer s H vs Q E hr hsp => ?_
  obtain ⟨t, h1, h3⟩ := hbody A outer s H vs Q E hr hsp
  refine ⟨t, SupQ K D g name ps.length tNil spg Q E, h1, h3, fun σ' H' s' I q => ?_⟩
  obtain ⟨x, C, dx, fs, e0, ej, hx, sc, hq⟩ := q
  have z := super_run0 (X := ncx CX P w K mg base N F f A outer s H E) (body := F.body) (Q := fun _ H2 => Q .non H2) SK rfl lk hp hms I i0 hv0 h0c ic ej e0 hx sc G hr (hxp A outer s H E) hq (ht _)
  exact ks_wpAt_Expr_any (ks_wpAt_mono z (fun v s2 ⟨y, H2, I2, _, q2⟩ => ⟨rfl, σ', H2, I2, q2⟩) fun _ _ y => y) (hi _) (hs _)
end
end Pl

set_option Elab.async false
set_option linter.all false
set_option maxRecDepth 100000
set_option maxHeartbeats 4000000
/-! Operators and methods of own classes, the class not fixed. -/
namespace Pl
open PySem PySem.Spec PyProof.Rows L2
/-- o.m(..): o an instance of any class that finds m in one of the defs fl -/
def tMethV {ι : Type} (K : PySem.W.Frag) (fl : ι → Addr) (m : Str) (sp : ι → Sp) (E : XK) (ta : TE) (t : TA) : TE := fun σ H Q => ta σ H fun x H1 => ∃ a C dx fs i, x = .ref a ∧ H1 a = some (.ins C dx fs) ∧ fs.lookup m = none ∧ Cls K C ∧ Meth K C m (fl i) ∧ t σ H1 fun vs H2 => sp i (x :: vs) H2 Q E
section
variable {X : Cx} {CX : CXT} {k : Nat} {fl : List Addr} {sp : Sp} {E : XK} {m : Str} {p pos apos : Pos} {e o : Expr} {es : List Expr} {ta : TE} {t : TA}
theorem pe_methV {ι : Type} {fl : ι → Addr} {sp : ι → Sp} {pl : Sem Bool} (he : PE X o ta) (F : ∀ i, FnR X.prog X.w X.K X.mg X.base CX k (fl i) (sp i)) (hr : Room k X.A) (hx : Passes CX X E) (ha : PA X (e :: es) t)
    (hst : starEach (e :: es) X.env = (false, eval e X.env) :: starEach es X.env := by rfl) (hpl : (backTo pos (starEach es X.env)).any (·.1) = false := by rfl)
    (ht : eval (.Call (.Attribute o m apos) (e :: es) [] pos) X.env = (do
      let ov ← eval o X.env
      standAt apos.atName
      let (f, first) ← holding [ov] (getMethod ov m pl)
      callWith pos f first (backTo pos (starEach (e :: es) X.env)) (backToKw pos (keywordEach [] X.env))) := by rfl) :
    PE X (.Call (.Attribute o m apos) (e :: es) [] pos) (tMethV X.K fl m sp E ta t) := by
  refine ⟨fun pins s σ H Q I h => ?_⟩
  refine PySem.W.methodCall_KW (pl := pl) (thn (he.run pins s σ H _ I h) fun u s1 ⟨x, H1, I1, rx, a, C, dx, fs, i, ex, ea, l, c, hm, q⟩ => ?_) ht
  subst ex
  obtain rfl : u = Value.ref a := rx
  refine getmeth_ok I1 ea c hm l ?_
  refine PySem.W.callWith_K (first := [.ref a]) (h₀ := X.base) I.ok.mod.kin hm.kp (thn (ha.run pos pins s1 σ H1 _ I1 q) fun us s2 ⟨vs, H2, I2, r, q2⟩ => ⟨I2.kIn, ?_⟩) hst hpl
  exact wpAny_call (run_fnR (us := .ref a :: us) (vs := .ref a :: vs) (F i) hr hx I2 (.cons rfl r) q2)
theorem pe_methV0 {ι : Type} {fl : ι → Addr} {sp : ι → Sp} {pl : Sem Bool} (he : PE X o ta) (F : ∀ i, FnR X.prog X.w X.K X.mg X.base CX k (fl i) (sp i)) (hr : Room k X.A) (hx : Passes CX X E)
    (ht : eval (.Call (.Attribute o m apos) [] [] pos) X.env = (do
      let ov ← eval o X.env
      standAt apos.atName
      let (f, first) ← holding [ov] (getMethod ov m pl)
      callWith pos f first (backTo pos (starEach [] X.env)) (backToKw pos (keywordEach [] X.env))) := by rfl) :
    PE X (.Call (.Attribute o m apos) [] [] pos) (tMethV X.K fl m sp E ta tNil) := by
  refine ⟨fun pins s σ H Q I h => ?_⟩
  refine PySem.W.methodCall_KW (pl := pl) (thn (he.run pins s σ H _ I h) fun u s1 ⟨x, H1, I1, rx, a, C, dx, fs, i, ex, ea, l, c, hm, q⟩ => ?_) ht
  subst ex
  obtain rfl : u = Value.ref a := rx
  refine getmeth_ok I1 ea c hm l ?_
  exact PySem.W.callWith_K0 (first := [.ref a]) I1.kIn hm.kp (wpAny_call (run_fnR (us := [.ref a]) (vs := [.ref a]) (F i) hr hx I1 (.cons rfl .nil) q))
/-- what a class must have for an operator with a number to its right -/
structure BinI (K : PySem.W.Frag) (C f : Addr) (op : Operator) : Prop where
  first : PySem.W.selfFirst K C = true
  at_ : PySem.W.findIn K (.ref C) (PySem.dunder op.info.2) = some (some (.ref f))
  fn : PySem.W.isFn K (.ref f) = true
  r : PySem.W.findIn K (.ref C) (dunderR op.info.2) = some none
  i1 : (PySem.W.findIn K (.type "int") (PySem.dunder op.info.2)).isSome = true
  i2 : (PySem.W.findIn K (.type "int") (dunderR op.info.2)).isSome = true
  sub : PySem.W.subIn K (.type "int") (.ref C) = some false
theorem op_binI {op : Operator} {f : Addr} (F : FnR X.prog X.w X.K X.mg X.base CX k f sp) (hr : Room k X.A) (hx : Passes CX X E) :
    OpR X (binaryOp op) (fun x y H Q => ∃ a C dx fs i, x = .ref a ∧ y = .int i ∧ H a = some (.ins C dx fs) ∧ BinI X.K C f op ∧ sp [x, y] H Q E) := by
  intro pins s σ H x y v u Q I rx ry h
  obtain ⟨a, C, dx, fs, i, rfl, rfl, ha, B, q⟩ := h
  cases (show v = Value.ref a from rx)
  obtain ⟨t, eu⟩ := (show ∃ t, u = Value.int i t from ry)
  subst eu
  obtain ⟨mA, O, _⟩ := ins_get I.hok ha
  obtain ⟨odx, J, _⟩ := O.look
  obtain ⟨m, hF⟩ := I.fr
  obtain ⟨fo, h1⟩ := Option.isSome_iff_exists.mp B.i1
  obtain ⟨ro, h2⟩ := Option.isSome_iff_exists.mp B.i2
  refine PySem.W.ksp_binT (T := "int") hF I.ok.mod.kin J rfl B.first B.at_ B.fn B.r (.inl rfl) h1 h2 B.sub ?_
  refine wpAny_mono (wpAny_call (run_fnR (us := [.ref a, .int i t]) (vs := [.ref a, .int i]) F hr hx I (.cons rfl (.cons ⟨t, rfl⟩ .nil)) q)) (fun w s' z => ?_) fun _ _ x => x
  obtain ⟨z', H', I', rz, qz⟩ := z
  exact SlX.cmpback rz ⟨z', H', I', rz, qz⟩
/-- .. with an instance of the same class to its right -/
structure BinS (K : PySem.W.Frag) (C f : Addr) (op : Operator) : Prop where
  first : PySem.W.selfFirst K C = true
  at_ : PySem.W.findIn K (.ref C) (PySem.dunder op.info.2) = some (some (.ref f))
  fn : PySem.W.isFn K (.ref f) = true
theorem op_binS {op : Operator} {f : Addr} (F : FnR X.prog X.w X.K X.mg X.base CX k f sp) (hr : Room k X.A) (hx : Passes CX X E) :
    OpR X (binaryOp op) (fun x y H Q => ∃ a C dx fs b dy gs, x = .ref a ∧ y = .ref b ∧ H a = some (.ins C dx fs) ∧ H b = some (.ins C dy gs) ∧ BinS X.K C f op ∧ sp [x, y] H Q E) := by
  intro pins s σ H x y v u Q I rx ry h
  obtain ⟨a, C, dx, fs, b, dy, gs, rfl, rfl, ha, hb, B, q⟩ := h
  cases (show v = Value.ref a from rx)
  cases (show u = Value.ref b from ry)
  obtain ⟨mA, O, _⟩ := ins_get I.hok ha
  obtain ⟨odx, J, _⟩ := O.look
  obtain ⟨mB, O', _⟩ := ins_get I.hok hb
  obtain ⟨ody, J', _⟩ := O'.look
  obtain ⟨m, hF⟩ := I.fr
  refine PySem.W.binop_K hF I.ok.mod.kin J J'.type B.first B.at_ B.fn ?_
  refine wpAny_mono (wpAny_call (run_fnR (us := [.ref a, .ref b]) (vs := [.ref a, .ref b]) F hr hx I (.cons rfl (.cons rfl .nil)) q)) (fun w s' z => ?_) fun _ _ x => x
  obtain ⟨z', H', I', rz, qz⟩ := z
  exact SlX.cmpback rz ⟨z', H', I', rz, qz⟩
/-- .. of a comparison, an instance to its right -/
structure CmpO (K : PySem.W.Frag) (C f : Addr) (op : CmpOp) : Prop where
  at_ : PySem.W.findIn K (.ref C) (cmpInfo op).2.1 = some (some (.ref f))
  fn : PySem.W.isFn K (.ref f) = true
theorem op_cmpO {op : CmpOp} {f : Addr} (hop : ∀ a b, compareOp op a b = richCompare op a b) (F : FnR X.prog X.w X.K X.mg X.base CX k f sp) (hr : Room k X.A) (hx : Passes CX X E) :
    OpR X (compareOp op) (fun x y H Q => ∃ a C dx fs b C' dy gs, x = .ref a ∧ y = .ref b ∧ H a = some (.ins C dx fs) ∧ H b = some (.ins C' dy gs) ∧ CmpO X.K C f op ∧ PySem.W.notFirst X.K C (.ref C') = true ∧ sp [x, y] H Q E) := by
  intro pins s σ H x y v u Q I rx ry h
  obtain ⟨a, C, dx, fs, b, C', dy, gs, rfl, rfl, ha, hb, B, hn, q⟩ := h
  cases (show v = Value.ref a from rx)
  cases (show u = Value.ref b from ry)
  obtain ⟨mA, O, _⟩ := ins_get I.hok ha
  obtain ⟨odx, J, _⟩ := O.look
  obtain ⟨mB, O', _⟩ := ins_get I.hok hb
  obtain ⟨ody, J', _⟩ := O'.look
  obtain ⟨m, hF⟩ := I.fr
  rw [hop]
  refine PySem.W.cmp_K (op := op) (tb := .ref C') hr.units0 hF I.ok.mod.kin J J'.type hn B.at_ B.fn ?_
  refine wpAny_mono (wpAny_call (run_fnR (us := [.ref a, .ref b]) (vs := [.ref a, .ref b]) F hr hx I (.cons rfl (.cons rfl .nil)) q)) (fun w s' z => ?_) fun _ _ x => x
  obtain ⟨z', H', I', rz, qz⟩ := z
  exact SlX.cmpback rz ⟨z', H', I', rz, qz⟩
/-- f(e, ..), f an instance of any class whose __call__ is at g -/
def tCallV (X : Cx) (g : Addr) (sp : Sp) (E : XK) (tf : TE) (t : TA) : TE := fun σ H Q => tf σ H fun y H1 => ∃ a, y = V.ref a ∧ t σ H1 fun vs H2 => ∃ C dx fs, H2 a = some (.ins C dx fs) ∧ StX.CallO X.K C g ∧ sp (V.ref a :: vs) H2 Q E
theorem pe_callV {g : Addr} {fe : Expr} {tf : TE} (hf : PE X fe tf) (F : FnR X.prog X.w X.K X.mg X.base CX k g sp) (hr : Room k X.A) (hx : Passes CX X E) (ha : PA X (e :: es) t)
    (ht : eval (.Call fe (e :: es) [] pos) X.env = (do callWith pos (← eval fe X.env) [] (backTo pos (starEach (e :: es) X.env)) (backToKw pos (keywordEach [] X.env))) := by rfl)
    (he : starEach (e :: es) X.env = (false, eval e X.env) :: starEach es X.env := by rfl) (hpl : (backTo pos (starEach es X.env)).any (·.1) = false := by rfl) : PE X (.Call fe (e :: es) [] pos) (tCallV X g sp E tf t) := by
  refine ⟨fun pins s σ H Q I h => ?_⟩
  refine Call_ (thn (hf.run pins s σ H _ I h) fun u s1 ⟨y, H1, I1, ry, a, ey, q⟩ => ?_) ht
  subst ey
  obtain rfl : u = Value.ref a := ry
  refine StX.callO_with (thn (ha.run pos pins s1 σ H1 _ I1 q) fun us s2 ⟨vs, H2, I2, r, C, dx, fs, hi, c, q2⟩ => ?_) he hpl
  obtain ⟨ox, od, J, hd⟩ := StX.insC_at I2 (.inr ⟨dx, fs, hi⟩)
  exact ⟨⟨C, ox, od, J, hd⟩, StX.run_callO c F hr hx I2 (.inr ⟨dx, fs, hi⟩) r q2⟩
end
end Pl

set_option Elab.async false
set_option linter.all false
set_option maxRecDepth 100000
set_option maxHeartbeats 4000000
/-! What the text has of methods; defs that end in super().__init__(..), in short. -/
namespace Pl
open PySem PySem.Spec PyProof.Rows L2 NdefX ClX
theorem toR {P : Program} {w : World} {K : PySem.W.Frag} {mg : Str → Option Value} {base : Heap} {CX : CXT} {k : Nat} {f : Addr} {fd : FuncData} {ps : List Str} {sp : Sp} (F : FnOk P w K mg base CX k f fd ps sp) (b : Binds K fd ps []) : FnR P w K mg base CX k f sp := by
  intro A outer s H us vs Q E hr e0 r h
  have KX : K.In s.heap := e0.mod.kin.keeps fun b o e => (e0.bs b o e).1
  have hl : (us ++ []).length = ps.length := by rw [List.append_nil, ← r.length]; exact F.len _ _ _ _ h
  have hb := b s us KX hl
  rw [List.append_nil] at hb
  exact F.run A outer s H ⟨us, []⟩ us vs Q E hr e0 hb r h
/-- a method of the text -/
structure Md (K : PySem.W.Frag) (x qual : Str) (st : Stmt) (ps : List Str) where
  f : Addr
  fd : FuncData
  F : Fun K x qual st f fd
  b : Binds K fd ps []
/-- .. with a star parameter -/
structure MdF (K : PySem.W.Frag) (x qual : Str) (st : Stmt) where
  f : Addr
  fd : FuncData
  F : Fun K x qual st f fd
/-- .. with the default None for its last parameter -/
structure MdD (K : PySem.W.Frag) (x qual : Str) (st : Stmt) (ps : List Str) where
  f : Addr
  fd : FuncData
  ex : ∃ (oc : Value) (od : Option Addr) (dV kV doc pm : Value) (an : Option Addr) (cdv ct : Value) (osl : Array (Option Value)),
    fd = PySem.W.fnOf x qual (defArgs st) (defBody st) (defScope st) dV kV doc pm an cdv ct ∧ K.lookup f = some ⟨oc, od, .func fd, osl⟩ ∧ PySem.W.codeIn K cdv qual = true
  b : Binds K fd ps []
theorem MdD.ok {P : Program} {w : World} {K : PySem.W.Frag} {mg : Str → Option Value} {base : Heap} {CX : CXT} {x qual : Str} {st : Stmt} {N ps : List Str} {k : Nat} {sp : Sp} (M : MdD K x qual st ps) (S : FnScope N ps (defScope st)) (len : ∀ vs H Q E, sp vs H Q E → vs.length = ps.length)
    (hbody : ∀ (cdv : Value) (A : Around) (outer : List Env) (s : Shared) (H : Hp) (vs : List V) (Q : VK) (E : XK), Room k (A.deeper (envOfC qual (defScope st) s.heap.objs.size M.f cdv)) → sp vs H Q E →
      ∃ t, PSs (cxOf CX P w K mg base N qual (defScope st) M.f cdv A outer s H E) (defBody st) t ∧ t { nx := fun _ H' => Q .non H', rt := Q } (start N vs) H) : FnOk P w K mg base CX (k + 1) M.f M.fd ps sp := by
  obtain ⟨f, fd, ⟨oc, od, dV, kV, doc, pm, an, cdv, ct, osl, rfl, lk, hcd⟩, b⟩ := M
  exact fn_of lk hcd S len fun A outer s H vs Q E hr hsp => hbody cdv A outer s H vs Q E hr hsp
/-- .. that closes over its class at D and says super().__init__(..), which is found at g -/
structure MdS (P : Program) (K : PySem.W.Frag) (x qual : Str) (st : Stmt) (D g : Addr) where
  f : Addr
  cc : Addr
  c : Addr
  lk : ∃ (oc : Value) (od : Option Addr) (kV doc pm : Value) (an : Option Addr) (ct : Value) (osl : Array (Option Value)),
    K.lookup f = some ⟨oc, od, .func (PySem.W.fnX x qual (defArgs st) (defBody st) (defScope st) [(("__class__" : Str), cc)] .none kV doc pm an (.ref c) ct), osl⟩
  hcd : PySem.W.codeIn K (.ref c) qual = true
  kp : PySem.W.keepIn K (.ref f) = true
  sk : SupK P K ⟨x, qual, defArgs st, defBody st, defScope st, [(("__class__" : Str), cc)], c⟩ cc D g "__init__"
abbrev MdS.nf {P : Program} {K : PySem.W.Frag} {x qual : Str} {st : Stmt} {D g : Addr} (M : MdS P K x qual st D g) : NF := ⟨x, qual, defArgs st, defBody st, defScope st, [(("__class__" : Str), M.cc)], M.c⟩
section
variable {P : Program} {w : World} {K : PySem.W.Frag} {mg : Str → Option Value} {base : Heap} {k : Nat} {x qual : Str} {st : Stmt} {D g : Addr} {N ps : List Str} {sp spg : Sp}
theorem MdS.ok (M : MdS P K x qual st D g) {pre : List Stmt} {e : Expr} {es : List Expr} {ar : Arg} {p0 p1 apos pos spos : Pos} {pl : Addr → Sem Bool} (hbd : defBody st = pre ++ [.Expr (superE "__init__" (e :: es) p0 p1 apos pos) spos])
    (S : NScope N ps ["__class__"] (defScope st)) (hp : ((defArgs st).posonlyargs ++ (defArgs st).args).head? = some ar) (i0 : N[0]? = some ar.arg) (hv0 : (defScope st).names.lookup ar.arg = some .local) (h0c : (ar.arg == ("__classdict__" : Str)) = false) (ic : N[ps.length]? = some ("__class__" : Str)) (hms : mg "super" = none)
    (hb : ∀ (kV doc pm : Value) (an : Option Addr) (ct : Value) (cc c : Addr) (us : List Value), us.length = ps.length → bindArgs (PySem.W.fnX x qual (defArgs st) (defBody st) (defScope st) [(("__class__" : Str), cc)] .none kV doc pm an (.ref c) ct) ⟨us, []⟩ = pure (ps.zip us))
    (G : FnR P w K mg base CX0 k g spg) (len : ∀ vs H Q E, sp vs H Q E → vs.length = ps.length)
    (hbody : ∀ (A : Around) (outer : List Env) (s : Shared) (H : Hp) (vs : List V) (Q : VK) (E : XK), Room k (A.deeper (envF M.nf M.f s.heap.objs.size)) → sp vs H Q E →
      ∃ (t : TS) (ta : TA), PSs (ncx CX0 P w K mg base N M.nf M.f A outer s H E) pre t ∧ PA (ncx CX0 P w K mg base N M.nf M.f A outer s H E) (e :: es) ta ∧ t { nx := SupQ K D g "__init__" ps.length ta spg Q E, rt := Q } (startF N vs [some (.ref D)]) H)
    (hst : ∀ L, starEach (e :: es) (envF M.nf M.f L) = (false, eval e (envF M.nf M.f L)) :: starEach es (envF M.nf M.f L) := by intro L; rfl) (hpl : ∀ L, (backTo pos (starEach es (envF M.nf M.f L))).any (·.1) = false := by intro L; rfl)
    (ht : ∀ L, eval (superE "__init__" (e :: es) p0 p1 apos pos) (envF M.nf M.f L) = (do
      let ov ← attributeBase (.Call (.Name "super" p0) [] [] p1) "__init__" (envF M.nf M.f L) (eval (.Call (.Name "super" p0) [] [] p1) (envF M.nf M.f L))
      standAt apos.atName
      let (fn, first) ← holding [ov] (getMethod ov "__init__" (pl L))
      callWith pos fn first (backTo pos (starEach (e :: es) (envF M.nf M.f L))) []) := by intro L; rfl)
    (hi : ∀ L, interactive (envF M.nf M.f L) = false := by intro L; rfl) (hs : ∀ L, swapsWith (superE "__init__" (e :: es) p0 p1 apos pos) none spos.line (envF M.nf M.f L) = pure false := by intro L; rfl) :
    FnR P w K mg base CX0 (k + 1) M.f sp := by
  obtain ⟨oc, od, kV, doc, pm, an, ct, osl, lk⟩ := M.lk
  refine toR (fnS_of (F := M.nf) M.sk hbd lk M.hcd S hp i0 hv0 h0c ic hms G (fun A outer s H E => fun _ _ _ _ _ _ _ z => z.elim) len hbody hst hpl ht hi hs) (.all fun us hl => hb _ _ _ _ _ _ _ us hl)
theorem MdS.ok0 (M : MdS P K x qual st D g) {pre : List Stmt} {ar : Arg} {p0 p1 apos pos spos : Pos} {pl : Addr → Sem Bool} (hbd : defBody st = pre ++ [.Expr (superE "__init__" [] p0 p1 apos pos) spos])
    (S : NScope N ps ["__class__"] (defScope st)) (hp : ((defArgs st).posonlyargs ++ (defArgs st).args).head? = some ar) (i0 : N[0]? = some ar.arg) (hv0 : (defScope st).names.lookup ar.arg = some .local) (h0c : (ar.arg == ("__classdict__" : Str)) = false) (ic : N[ps.length]? = some ("__class__" : Str)) (hms : mg "super" = none)
    (hb : ∀ (kV doc pm : Value) (an : Option Addr) (ct : Value) (cc c : Addr) (us : List Value), us.length = ps.length → bindArgs (PySem.W.fnX x qual (defArgs st) (defBody st) (defScope st) [(("__class__" : Str), cc)] .none kV doc pm an (.ref c) ct) ⟨us, []⟩ = pure (ps.zip us))
    (G : FnR P w K mg base CX0 k g spg) (len : ∀ vs H Q E, sp vs H Q E → vs.length = ps.length)
    (hbody : ∀ (A : Around) (outer : List Env) (s : Shared) (H : Hp) (vs : List V) (Q : VK) (E : XK), Room k (A.deeper (envF M.nf M.f s.heap.objs.size)) → sp vs H Q E →
      ∃ (t : TS), PSs (ncx CX0 P w K mg base N M.nf M.f A outer s H E) pre t ∧ t { nx := SupQ K D g "__init__" ps.length tNil spg Q E, rt := Q } (startF N vs [some (.ref D)]) H)
    (ht : ∀ L, eval (superE "__init__" [] p0 p1 apos pos) (envF M.nf M.f L) = (do
      let ov ← attributeBase (.Call (.Name "super" p0) [] [] p1) "__init__" (envF M.nf M.f L) (eval (.Call (.Name "super" p0) [] [] p1) (envF M.nf M.f L))
      standAt apos.atName
      let (fn, first) ← holding [ov] (getMethod ov "__init__" (pl L))
      callWith pos fn first (backTo pos (starEach [] (envF M.nf M.f L))) []) := by intro L; rfl)
    (hi : ∀ L, interactive (envF M.nf M.f L) = false := by intro L; rfl) (hs : ∀ L, swapsWith (superE "__init__" [] p0 p1 apos pos) none spos.line (envF M.nf M.f L) = pure false := by intro L; rfl) :
    FnR P w K mg base CX0 (k + 1) M.f sp := by
  obtain ⟨oc, od, kV, doc, pm, an, ct, osl, lk⟩ := M.lk
  exact toR (fnS0_of (F := M.nf) M.sk hbd lk M.hcd S hp i0 hv0 h0c ic hms G (fun A outer s H E => fun _ _ _ _ _ _ _ z => z.elim) len hbody ht hi hs) (.all fun us hl => hb _ _ _ _ _ _ _ us hl)
end
/-- what isinstance wants of a class of instances -/
structure OCls (K : PySem.W.Frag) (C : Addr) : Prop where
  cl : Cls K C
  ca : PySem.W.findIn K (.ref C) "__class__" = some (some (.builtin "object.__class__"))
  cn : PySem.W.specialIn K (.builtin "object.__class__") "__get__" = some (some (.builtin "getset_descriptor.__get__"))
  ct : PySem.W.takesIn K (.builtin "object.__class__") = some true
  cm : PySem.W.mroIn K C (.type "object") = some true
theorem OCls.ty {K : PySem.W.Frag} {C a dx : Addr} {H : Hp} {fs : List (Str × V)} (c : OCls K C) (e : H a = some (.ins C dx fs)) : TyX K H (.ref a) (.ref C) := .base (.ins e c.cl c.ca c.cn c.ct c.cm)
end Pl

set_option Elab.async false
set_option linter.all false
set_option maxRecDepth 100000
set_option maxHeartbeats 4000000
/-! Two own classes around an operator; o[i] of an own class; a def with super().__init__(..) called with keywords. -/
namespace Pl
open PySem PySem.Spec PyProof.Rows L2 NdefX ClX
section
variable {X : Cx} {CX : CXT} {k : Nat} {sp : Sp} {E : XK} {pins : List (Addr × Obj)} {σ : L2.St} {H : Hp} {s : Shared}
theorem run_fnR1 {f : Addr} {Q : VK} {us : List Value} {vs : List V} (F : FnR X.prog X.w X.K X.mg X.base CX k f sp) (hr : Room (k + 1) X.A) (hx : Passes CX X E) (I : Inv X pins σ H s) (r : Vals vs us) (h : sp vs H Q E) :
    codeAny (model X.prog X.w) X.A.in1 (.call (.ref f) ⟨us, []⟩) (fun r s' => match r with | .ok (.ret v) => EP X pins σ Q v s' | .ok _ => False | .error e => X.xe e s') s := by
  refine codeAny_mono (F X.A.in1 X.stack s H us vs Q E hr.in1 I.env0.in1 r h) fun r s' hq => ?_
  cases r with
  | error e => exact hx pins σ H s e s' I hq
  | ok fl =>
    cases fl with
    | ret u => exact I.after hq
    | next => exact False.elim hq
    | brk => exact False.elim hq
    | cont => exact False.elim hq
/-- what a class must have for o[i] -/
structure GetO (K : PySem.W.Frag) (C f : Addr) : Prop where
  at_ : PySem.W.findIn K (.ref C) "__getitem__" = some (some (.ref f))
  fi : PySem.W.fnIn K f = true
  fn : PySem.W.isFn K (.ref f) = true
theorem sub_K2 {prog : Program} {w : World} {A : Around} {E : Value → Shared → Prop} {s : Shared} {K : PySem.W.Frag} {x C L f : Addr} {h₀ : Heap} {m : Str → Option Value} {ox : Obj} {od : Option Obj} {value slice : Expr} {i : Value} {Q : Value → Shared → Prop} (F : PyProof.Rows.Fr h₀ L s.heap m) (X₀ : K.In h₀) (I : PySem.W.InstAt s.heap x ox C od) (hs : PySem.W.findIn K (.ref C) "__getitem__" = some (some (.ref f))) (hf : PySem.W.fnIn K f = true) (hfn : PySem.W.isFn K (.ref f) = true)
    (h : wpAny (model prog w) A.in1 (call (.ref f) [.ref x, i]) Q E s)
    (hsl : subscripted slice true (.ref x) i = runValue (.builtin "lifetime.subscript" ⟨[.ref x, i], []⟩)) :
    wpAny (model prog w) A (subscriptTail value slice (.ref x) i) Q E s := PySem.W.sub_K F X₀ I hs hf hfn h hsl
def tGetO (X : Cx) (f : Addr) (sp : Sp) (E : XK) : R2 := fun x y H Q => ∃ a C dx fs, x = .ref a ∧ H a = some (.ins C dx fs) ∧ GetO X.K C f ∧ sp [x, y] H Q E
theorem pe_getO {f : Addr} {a b : Expr} {ta tb : TE} {pos : Pos} (F : FnR X.prog X.w X.K X.mg X.base CX k f sp) (hr : Room (k + 1) X.A) (hx : Passes CX X E) (ha : PE X a ta) (hb : PE X b tb)
    (hsl : ∀ x i, subscripted b true (.ref x) i = runValue (.builtin "lifetime.subscript" ⟨[.ref x, i], []⟩) := by intro x i; with_unfolding_all rfl) : PE X (.Subscript a b pos) (tOp (tGetO X f sp E) ta tb) := by
  refine ⟨fun pins s σ H Q I h => ?_⟩
  refine Subscript_ (binT ha hb I h fun v u s2 x y H2 I2 rx ry q => ?_)
  obtain ⟨p, C, dx, fs, rfl, hp, B, q⟩ := q
  cases (show v = Value.ref p from rx)
  obtain ⟨mA, O, _⟩ := ins_get I2.hok hp
  obtain ⟨odx, J, _⟩ := O.look
  obtain ⟨m, hF⟩ := I2.fr
  refine sub_K2 hF I2.ok.mod.kin J B.at_ B.fi B.fn ?_ (hsl _ _)
  exact wpAny_call (run_fnR1 (us := [.ref p, u]) (vs := [.ref p, y]) F hr hx I2 (.cons rfl (.cons ry .nil)) q)
/-- what two classes must have for an operator between their instances -/
structure BinC (K : PySem.W.Frag) (C f : Addr) (op : Operator) : Prop where
  first : PySem.W.selfFirst K C = true
  at_ : PySem.W.findIn K (.ref C) (PySem.dunder op.info.2) = some (some (.ref f))
  fn : PySem.W.isFn K (.ref f) = true
  r : PySem.W.findIn K (.ref C) (dunderR op.info.2) = some none
theorem ksp_binO {prog : Program} {w : World} {A : Around} {E : Value → Shared → Prop} {s : Shared} {K : PySem.W.Frag} {x y C C' L f g : Addr} {h₀ : Heap} {m : Str → Option Value} {ox oy : Obj} {od od' : Option Obj} {op : Operator} {Q : Value → Shared → Prop} (F : PyProof.Rows.Fr h₀ L s.heap m) (X₀ : K.In h₀) (I : PySem.W.InstAt s.heap x ox C od) (J : PySem.W.InstAt s.heap y oy C' od')
    (B : BinC K C f op) (B' : BinC K C' g op) (hsub : C = C' ∨ PySem.W.subIn K (.ref C') (.ref C) = some false)
    (h : wpAny (model prog w) A (call (.ref f) [.ref x, .ref y]) (PySem.W.CmpBack Q) E s) : wpAny (model prog w) A (binaryOp op (.ref x) (.ref y)) Q E s := by
  by_cases hCC : C = C'
  · subst hCC
    exact PySem.W.binop_K F X₀ I J.type B.first B.at_ B.fn h
  · have hsub := hsub.resolve_left hCC
    have X := X₀.keeps F.keep
    obtain ⟨cd, rest, hcd, hm⟩ := PySem.W.ksp_first B.first
    obtain ⟨cd', rest', hcd', hm'⟩ := PySem.W.ksp_first B'.first
    have hs := B.at_
    have hr := B.r
    have hs' := B'.at_
    have hr' := B'.r
    rcases hi : op.info with ⟨sym, nm'⟩
    rw [hi] at hs hr hs' hr'
    dsimp only at hs hr hs' hr'
    have one := PySem.W.ksp_try X I hs B.fn h
    obtain ⟨hh, gg, d, tt, os⟩ := s
    have L1 : PySem.W.Looks (model prog w) hh (typeOf (.ref x)) (.ref C) := I.type
    have L2 : PySem.W.Looks (model prog w) hh (typeOf (.ref y)) (.ref C') := J.type
    have L3 : PySem.W.Looks (model prog w) hh (fillsNumberSlot (.ref C) nm') true := PySem.W.fills_K X hcd hm hs
    have L4 : PySem.W.Looks (model prog w) hh (fillsNumberSlot (.ref C') nm') true := PySem.W.fills_K X hcd' hm' hs'
    have L5 : PySem.W.Looks (model prog w) hh (isSubtype (.ref C') (.ref C)) false := PySem.W.looks_subIn X hsub
    have L6 : PySem.W.Looks (model prog w) hh (numberSlotInPython (.ref C) nm') true := PySem.W.ksp_inPy X hs hr (.inl rfl)
    have L7 : PySem.W.Looks (model prog w) hh (numberSlotInPython (.ref C') nm') true := PySem.W.ksp_inPy X hs' hr' (.inl rfl)
    have hne : (Value.ref C == Value.ref C') = false := Bool.eq_false_iff.mpr fun q => by cases beq_iff_eq.mp q; exact hCC rfl
    simp only [binaryOp, hi]
    refine wpAny_holding (wpAny_bind ?_)
    unfold binaryOp1
    refine wpAny_bind (L1.at (wpAny_bind (L2.at (wpAny_bind (L3.at ?_)))))
    simp only [hne, Bool.false_eq_true, if_false]
    ksp_lk
    refine wpAny_mono one (fun r s' hr' => ?_) fun _ _ e => e
    obtain ⟨v, rfl, hq⟩ := hr'
    ksp_lk
    exact hq
theorem op_binO {op : Operator} {f : Addr} (F : FnR X.prog X.w X.K X.mg X.base CX k f sp) (hr : Room k X.A) (hx : Passes CX X E) :
    OpR X (binaryOp op) (fun x y H Q => ∃ a C dx fs b C' dy gs, x = .ref a ∧ y = .ref b ∧ H a = some (.ins C dx fs) ∧ H b = some (.ins C' dy gs) ∧ BinC X.K C f op ∧ BinC X.K C' f op ∧ (C = C' ∨ PySem.W.subIn X.K (.ref C') (.ref C) = some false) ∧ sp [x, y] H Q E) := by
  intro pins s σ H x y v u Q I rx ry h
  obtain ⟨a, C, dx, fs, b, C', dy, gs, rfl, rfl, ha, hb, B, B', hsub, q⟩ := h
  cases (show v = Value.ref a from rx)
  cases (show u = Value.ref b from ry)
  obtain ⟨mA, O, _⟩ := ins_get I.hok ha
  obtain ⟨odx, J, _⟩ := O.look
  obtain ⟨mB, O', _⟩ := ins_get I.hok hb
  obtain ⟨ody, J', _⟩ := O'.look
  obtain ⟨m, hF⟩ := I.fr
  refine ksp_binO hF I.ok.mod.kin J J' B B' hsub ?_
  refine wpAny_mono (wpAny_call (run_fnR (us := [.ref a, .ref b]) (vs := [.ref a, .ref b]) F hr hx I (.cons rfl (.cons rfl .nil)) q)) (fun w s' z => ?_) fun _ _ x => x
  obtain ⟨z', H', I', rz, qz⟩ := z
  exact SlX.cmpback rz ⟨z', H', I', rz, qz⟩
end
section
variable {P : Program} {w : World} {K : PySem.W.Frag} {mg : Str → Option Value} {base : Heap} {k : Nat} {x qual : Str} {st : Stmt} {D g : Addr} {N ps : List Str} {sp spg : Sp}
/-- a def with super().__init__(..) at its end whose last parameters are keywords -/
theorem MdS.okK (M : MdS P K x qual st D g) {pre : List Stmt} {e : Expr} {es : List Expr} {ar : Arg} {p0 p1 apos pos spos : Pos} {pl : Addr → Sem Bool} (n : Nat) (ks : List Str) (hbd : defBody st = pre ++ [.Expr (superE "__init__" (e :: es) p0 p1 apos pos) spos])
    (S : NScope N ps ["__class__"] (defScope st)) (hp : ((defArgs st).posonlyargs ++ (defArgs st).args).head? = some ar) (i0 : N[0]? = some ar.arg) (hv0 : (defScope st).names.lookup ar.arg = some .local) (h0c : (ar.arg == ("__classdict__" : Str)) = false) (ic : N[ps.length]? = some ("__class__" : Str)) (hms : mg "super" = none)
    (hb : ∀ (kV doc pm : Value) (an : Option Addr) (ct : Value) (cc c : Addr) (us ws : List Value), us.length = n → ws.length = ks.length → bindArgs (PySem.W.fnX x qual (defArgs st) (defBody st) (defScope st) [(("__class__" : Str), cc)] .none kV doc pm an (.ref c) ct) ⟨us, ks.zip ws⟩ = pure (ps.zip (us ++ ws)))
    (G : FnR P w K mg base CX0 k g spg) (len : ∀ vs H Q E, sp vs H Q E → vs.length = ps.length)
    (hbody : ∀ (A : Around) (outer : List Env) (s : Shared) (H : Hp) (vs : List V) (Q : VK) (E : XK), Room k (A.deeper (envF M.nf M.f s.heap.objs.size)) → sp vs H Q E →
      ∃ (t : TS) (ta : TA), PSs (ncx CX0 P w K mg base N M.nf M.f A outer s H E) pre t ∧ PA (ncx CX0 P w K mg base N M.nf M.f A outer s H E) (e :: es) ta ∧ t { nx := SupQ K D g "__init__" ps.length ta spg Q E, rt := Q } (startF N vs [some (.ref D)]) H)
    (hst : ∀ L, starEach (e :: es) (envF M.nf M.f L) = (false, eval e (envF M.nf M.f L)) :: starEach es (envF M.nf M.f L) := by intro L; rfl) (hpl : ∀ L, (backTo pos (starEach es (envF M.nf M.f L))).any (·.1) = false := by intro L; rfl)
    (ht : ∀ L, eval (superE "__init__" (e :: es) p0 p1 apos pos) (envF M.nf M.f L) = (do
      let ov ← attributeBase (.Call (.Name "super" p0) [] [] p1) "__init__" (envF M.nf M.f L) (eval (.Call (.Name "super" p0) [] [] p1) (envF M.nf M.f L))
      standAt apos.atName
      let (fn, first) ← holding [ov] (getMethod ov "__init__" (pl L))
      callWith pos fn first (backTo pos (starEach (e :: es) (envF M.nf M.f L))) []) := by intro L; rfl)
    (hi : ∀ L, interactive (envF M.nf M.f L) = false := by intro L; rfl) (hs : ∀ L, swapsWith (superE "__init__" (e :: es) p0 p1 apos pos) none spos.line (envF M.nf M.f L) = pure false := by intro L; rfl) :
    ∃ fd, FnOk P w K mg base CX0 (k + 1) M.f fd ps sp ∧ KBn K fd ps n ks (fun us ws => us ++ ws) (fun vs zs => vs ++ zs) := by
  obtain ⟨oc, od, kV, doc, pm, an, ct, osl, lk⟩ := M.lk
  refine ⟨_, fnS_of (F := M.nf) M.sk hbd lk M.hcd S hp i0 hv0 h0c ic hms G (fun A outer s H E => fun _ _ _ _ _ _ _ z => z.elim) len hbody hst hpl ht hi hs, ?_⟩
  exact ⟨fun s us ws _ l1 l2 => .of_eq (hb _ _ _ _ _ _ _ us ws l1 l2), fun r1 r2 => r1.append r2⟩
end
end Pl

set_option Elab.async false
set_option linter.all false
set_option maxRecDepth 100000
set_option maxHeartbeats 4000000
/-! What the top leaves, seen by a Hook of one's own: checks of the written part, and the defs as they stand. -/
namespace Pl
open PySem PySem.Spec PyProof.Rows L2 NdefX ClX
abbrev FnO : Type := Option (Str × Str × Arguments × FuncBody × Scope × Addr × List Str × Addr)
def fnOb (K : PySem.W.Frag) (p : Str × Option Str) : FnO := match K.lookup (He.fAd K p) with
  | some ⟨_, _, .func fd, _⟩ => some (fd.name, fd.qualname, fd.params, fd.body, fd.scope, fd.globals, fd.closure.map (·.1), fd.builtins)
  | _ => none
/-- one def: where it stands, its name, qualified name, its statement, what it closes over -/
structure ObD where
  at_ : Str × Option Str
  name : Str
  qual : Str
  st : Stmt
  cl : List Str := []
def ObD.val (d : ObD) : FnO := some (d.name, d.qual, defArgs d.st, .stmts (defBody d.st), defScope d.st, mainGlobals, d.cl, builtinsNs)
abbrev AlP : Type := Bool × List FnO
def obsP (cks : List (PySem.W.Frag → Bool)) (fn : List ObD) (K : PySem.W.Frag) : AlP := (cks.all fun f => f K, fn.map fun d => fnOb K d.at_)
def valP (fn : List ObD) : AlP := (true, fn.map ObD.val)
def SaysP (cks : List (PySem.W.Frag → Bool)) (fn : List ObD) (K : PySem.W.Frag) : Prop := obsP cks fn K = valP fn
def asP (g : Addr → Option Obj) : Nat → List Addr
  | 0 => [mainGlobals, cStatics]
  | n + 1 => He.growD g (asP g n)
def obsPG (n : List Addr) (cks : List (PySem.W.Frag → Bool)) (fn : List ObD) (g : Addr → Option Obj) : AlP := obsP cks fn (He.frG g n)
def hookP (n : List Addr) (cks : List (PySem.W.Frag → Bool)) (fn : List ObD) : PySem.W.Hook where
  α := AlP
  obs := fun s => obsPG n cks fn s.heap.get?
  val := fun _ => valP fn
  says := fun _ h => ∃ K : PySem.W.Frag, K.In h ∧ SaysP cks fn K
  of := fun _ _ e => ⟨_, He.frG_in, e⟩
  keeps := fun _ _ _ ⟨K, hK, c⟩ k => ⟨K, PySem.W.Frag.In.keeps hK k, c⟩
theorem obsPG_eq {n : List Addr} {cks : List (PySem.W.Frag → Bool)} {fn : List ObD} {g : Addr → Option Obj} {s : Shared} (h : ∀ a, g a = s.heap.get? a) : obsPG n cks fn g = (hookP n cks fn).obs s := by
  have e : g = s.heap.get? := funext h
  rw [e] <;> rfl
section
variable {cks : List (PySem.W.Frag → Bool)} {fn : List ObD} {K : PySem.W.Frag}
theorem SaysP.ck (c : SaysP cks fn K) (i : Nat) {f : PySem.W.Frag → Bool} (h : cks[i]? = some f) : f K = true := by
  have c1 : (cks.all fun f => f K) = true := congrArg (fun z : AlP => z.1) c
  exact List.all_eq_true.mp c1 f (List.mem_of_getElem? h)
theorem SaysP.de (c : SaysP cks fn K) (i : Nat) {d : ObD} (h : fn[i]? = some d) : fnOb K d.at_ = d.val := by
  have e : fn.map (fun d => fnOb K d.at_) = fn.map ObD.val := congrArg (fun z : AlP => z.2) c
  have e2 : (fn.map fun d => fnOb K d.at_)[i]? = (fn.map ObD.val)[i]? := by rw [e]
  rw [List.getElem?_map, List.getElem?_map, h] at e2
  exact Option.some.inj e2
/-- a plain def -/
def plB (at_ : Str × Option Str) (qual : Str) : PySem.W.Frag → Bool := fun K => PySem.W.keepIn K (.ref (He.fAd K at_)) && (match K.lookup (He.fAd K at_) with
  | some ⟨_, _, .func fd, _⟩ => PySem.W.codeIn K fd.code qual && (match fd.defaults with
    | .none => true
    | _ => false)
  | _ => false)
theorem ob_fun {d : ObD} (e : fnOb K d.at_ = d.val) (hc : d.cl = []) (c : plB d.at_ d.qual K = true) : ∃ fd, Fun K d.name d.qual d.st (He.fAd K d.at_) fd := by
  obtain ⟨kp, c2⟩ := He.ba c
  unfold fnOb at e
  cases q : K.lookup (He.fAd K d.at_) with
  | none => rw [q] at c2; cases c2
  | some o =>
    obtain ⟨oc, od, dt, osl⟩ := o
    rw [q] at c2 e
    cases dt with
    | func fd =>
      obtain ⟨n1, n2, n3, n4, n5, n6, n7, n8, n9, n10, n11, n12, n13, n14, n15⟩ := fd
      have e2 : (some (n1, n2, n3, n4, n5, n6, n7.map (·.1), n15) : FnO) = some (d.name, d.qual, defArgs d.st, .stmts (defBody d.st), defScope d.st, mainGlobals, d.cl, builtinsNs) := e
      simp only [Option.some.injEq, Prod.mk.injEq] at e2
      obtain ⟨h1, h2, h3, h4, h5, h6, h7, h8⟩ := e2
      rw [hc] at h7
      have h7' : n7 = [] := List.map_eq_nil_iff.mp h7
      subst h1 h2 h3 h4 h5 h6 h7' h8
      obtain ⟨k1, k2⟩ := He.ba (by exact c2)
      cases n8 with
      | none => exact ⟨_, fun_mk q k1 kp⟩
      | _ => cases k2
    | _ => cases c2
/-- a def with the default None for its last parameter -/
def dfB (at_ : Str × Option Str) (qual : Str) : PySem.W.Frag → Bool := fun K => PySem.W.keepIn K (.ref (He.fAd K at_)) && (match K.lookup (He.fAd K at_) with
  | some ⟨_, _, .func fd, _⟩ => PySem.W.codeIn K fd.code qual && (He.dflB K fd.defaults [.non] && He.kwdB K fd.kwdefaults [])
  | _ => false)
theorem ob_dfl {d : ObD} (e : fnOb K d.at_ = d.val) (hc : d.cl = []) (c : dfB d.at_ d.qual K = true) : ∃ fd, FunD K d.name d.qual (defArgs d.st) (defBody d.st) (defScope d.st) [.non] [] (He.fAd K d.at_) fd := by
  obtain ⟨kp, c2⟩ := He.ba c
  unfold fnOb at e
  cases q : K.lookup (He.fAd K d.at_) with
  | none => rw [q] at c2; cases c2
  | some o =>
    obtain ⟨oc, od, dt, osl⟩ := o
    rw [q] at c2 e
    cases dt with
    | func fd =>
      obtain ⟨n1, n2, n3, n4, n5, n6, n7, n8, n9, n10, n11, n12, n13, n14, n15⟩ := fd
      have e2 : (some (n1, n2, n3, n4, n5, n6, n7.map (·.1), n15) : FnO) = some (d.name, d.qual, defArgs d.st, .stmts (defBody d.st), defScope d.st, mainGlobals, d.cl, builtinsNs) := e
      simp only [Option.some.injEq, Prod.mk.injEq] at e2
      obtain ⟨h1, h2, h3, h4, h5, h6, h7, h8⟩ := e2
      rw [hc] at h7
      have h7' : n7 = [] := List.map_eq_nil_iff.mp h7
      subst h1 h2 h3 h4 h5 h6 h7' h8
      have c3 : (PySem.W.codeIn K n13 d.qual && (He.dflB K n8 [.non] && He.kwdB K n9 [])) = true := c2
      obtain ⟨k1, k2⟩ := He.ba c3
      obtain ⟨k3, k4⟩ := He.ba k2
      exact ⟨_, ⟨oc, od, n8, n9, n10, n11, n12, n13, n14, osl, rfl, q, k1, He.dflB_ok k3, He.kwdB_ok k4⟩, kp⟩
    | _ => cases c2
/-- a def that closes over its class D -/
def supB (at_ : Str × Option Str) (qual : Str) (D : Str) (file : Str) : PySem.W.Frag → Bool := fun K => PySem.W.keepIn K (.ref (He.fAd K at_)) && (match K.lookup (He.fAd K at_) with
  | some ⟨_, _, .func fd, _⟩ => (match fd.closure, fd.code, fd.defaults with
    | [(_, cc)], .ref c, .none => PySem.W.codeIn K (.ref c) qual && ((match K.lookup cc with
        | some ⟨_, _, .cell (some v), _⟩ => decide (v = .ref (He.ga K D))
        | _ => false) && (match K.lookup c with
        | some ⟨_, _, .fields vs, _⟩ => (match (vs[2]? : Option Value) with
          | some (.str z _) => decide (z = file)
          | _ => false)
        | _ => false))
    | _, _, _ => false)
  | _ => false)
theorem ob_sup {d : ObD} {D file : Str} (e : fnOb K d.at_ = d.val) (hc : d.cl = [("__class__" : Str)]) (c : supB d.at_ d.qual D file K = true) : ∃ cc c0 : Addr,
    (∃ (oc : Value) (od : Option Addr) (kV doc pm : Value) (an : Option Addr) (ct : Value) (osl : Array (Option Value)), K.lookup (He.fAd K d.at_) = some ⟨oc, od, .func (PySem.W.fnX d.name d.qual (defArgs d.st) (defBody d.st) (defScope d.st) [(("__class__" : Str), cc)] .none kV doc pm an (.ref c0) ct), osl⟩) ∧
    PySem.W.codeIn K (.ref c0) d.qual = true ∧ PySem.W.keepIn K (.ref (He.fAd K d.at_)) = true ∧ (∃ ccl ccd ccs, K.lookup cc = some ⟨ccl, ccd, .cell (some (.ref (He.ga K D))), ccs⟩) ∧
    ∃ ccl cdd vs ccs tf, K.lookup c0 = some ⟨ccl, cdd, .fields vs, ccs⟩ ∧ vs[2]? = some (.str file tf) := by
  obtain ⟨kp, c2⟩ := He.ba c
  unfold fnOb at e
  cases q : K.lookup (He.fAd K d.at_) with
  | none => rw [q] at c2; cases c2
  | some o =>
    obtain ⟨oc, od, dt, osl⟩ := o
    rw [q] at c2 e
    cases dt with
    | func fd =>
      obtain ⟨n1, n2, n3, n4, n5, n6, n7, n8, n9, n10, n11, n12, n13, n14, n15⟩ := fd
      have e2 : (some (n1, n2, n3, n4, n5, n6, n7.map (·.1), n15) : FnO) = some (d.name, d.qual, defArgs d.st, .stmts (defBody d.st), defScope d.st, mainGlobals, d.cl, builtinsNs) := e
      simp only [Option.some.injEq, Prod.mk.injEq] at e2
      obtain ⟨h1, h2, h3, h4, h5, h6, h7, h8⟩ := e2
      rw [hc] at h7
      subst h1 h2 h3 h4 h5 h6 h8
      match n7, h7, c2 with
      | [(y, cc)], h7, c2 =>
        have hy : y = ("__class__" : Str) := (List.cons.inj h7).1
        subst hy
        cases n13 with
        | ref c0 =>
          cases n8 with
          | none =>
            obtain ⟨k1, k2⟩ := He.ba (show (PySem.W.codeIn K (.ref c0) d.qual && ((match K.lookup cc with
                | some ⟨_, _, .cell (some v), _⟩ => decide (v = .ref (He.ga K D))
                | _ => false) && (match K.lookup c0 with
                | some ⟨_, _, .fields vs, _⟩ => (match (vs[2]? : Option Value) with
                  | some (.str z _) => decide (z = file)
                  | _ => false)
                | _ => false))) = true from c2)
            obtain ⟨k3, k4⟩ := He.ba k2
            refine ⟨cc, c0, ⟨oc, od, n9, n10, n11, n12, n14, osl, rfl⟩, k1, kp, ?_, ?_⟩
            · cases z : K.lookup cc with
              | none => rw [z] at k3; cases k3
              | some o =>
                obtain ⟨a1, a2, a3, a4⟩ := o
                rw [z] at k3
                cases a3 with
                | cell v =>
                  cases v with
                  | none => cases k3
                  | some v =>
                    have : v = .ref (He.ga K D) := of_decide_eq_true k3
                    subst this
                    exact ⟨_, _, _, rfl⟩
                | _ => cases k3
            · cases z : K.lookup c0 with
              | none => rw [z] at k4; cases k4
              | some o =>
                obtain ⟨a1, a2, a3, a4⟩ := o
                rw [z] at k4
                cases a3 with
                | fields vs =>
                  have k5 : (match (vs[2]? : Option Value) with | some (.str z _) => decide (z = file) | _ => false) = true := k4
                  cases y : vs[2]? with
                  | none => rw [y] at k5; cases k5
                  | some v =>
                    rw [y] at k5
                    cases v with
                    | str z t =>
                      have : z = file := of_decide_eq_true k5
                      subst this
                      exact ⟨_, _, _, _, t, rfl, y⟩
                    | _ => cases k5
                | _ => cases k4
          | _ => cases c2
        | _ => cases n8 <;> cases c2
      | [], h7, c2 => cases h7
      | _ :: _ :: _, h7, c2 => cases (List.cons.inj h7).2
    | _ => cases c2
theorem SaysP.ck2 {css : List (List (PySem.W.Frag → Bool))} (c : SaysP css.flatten fn K) (p i : Nat) {l : List (PySem.W.Frag → Bool)} {f : PySem.W.Frag → Bool} (h1 : css[p]? = some l) (h2 : l[i]? = some f) : f K = true := by
  have c1 : (css.flatten.all fun f => f K) = true := congrArg (fun z : AlP => z.1) c
  exact List.all_eq_true.mp c1 f (List.mem_flatten.mpr ⟨l, List.mem_of_getElem? h1, List.mem_of_getElem? h2⟩)
/-- the run's parts, joined -/
theorem run_join {σ β : Type} {o : Option σ} {lk : σ → Bool} {se : σ → β} {gd : β} {kf : σ → PySem.W.Frag} {css : List (List (PySem.W.Frag → Bool))} (h0 : o.map (fun s => (lk s, se s)) = some (true, gd)) (hf : o.map (fun s => fn.map fun d => fnOb (kf s) d.at_) = some (fn.map ObD.val))
    (hc : ∀ c ∈ css, o.map (fun s => c.all fun f => f (kf s)) = some true) : o.map (fun s => (lk s, se s, obsP css.flatten fn (kf s))) = some (true, gd, valP fn) := by
  cases o with
  | none => cases h0
  | some s =>
    have e0 := Option.some.inj h0
    have ef : (fn.map fun d => fnOb (kf s) d.at_) = fn.map ObD.val := Option.some.inj hf
    have ec : (css.flatten.all fun f => f (kf s)) = true := by
      refine List.all_eq_true.mpr fun f hm => ?_
      obtain ⟨l, h1, h2⟩ := List.mem_flatten.mp hm
      exact List.all_eq_true.mp (Option.some.inj (hc l h1)) f h2
    have e1 := congrArg Prod.fst e0
    have e2 := congrArg Prod.snd e0
    simp only at e1 e2
    show some (lk s, se s, obsP css.flatten fn (kf s)) = _
    unfold obsP valP
    rw [e1, e2, ef, ec]
/-! facts with a value -/
def eqB (a b : Option Bool) : Bool := decide (a = b)
theorem eqB_ok {a b : Option Bool} (h : eqB a b = true) : a = b := of_decide_eq_true h
end
end Pl

set_option Elab.async false
set_option linter.all false
set_option maxRecDepth 100000
set_option maxHeartbeats 4000000
/-! defs that hand a lambda to a def; what the top leaves of their tables -/
namespace Pl
open PySem PySem.Spec PyProof.Rows L2 NdefX ClX LamX
/-- a def whose code object stands at c -/
structure FunC (K : PySem.W.Frag) (x qual : Str) (st : Stmt) (f : Addr) (fd : FuncData) (c : Addr) : Prop where
  ex : ∃ (oc : Value) (od : Option Addr) (kV doc pm : Value) (an : Option Addr) (ct : Value) (osl : Array (Option Value)),
    fd = PySem.W.fnOf x qual (defArgs st) (defBody st) (defScope st) .none kV doc pm an (.ref c) ct ∧ K.lookup f = some ⟨oc, od, .func fd, osl⟩ ∧ PySem.W.codeIn K (.ref c) qual = true
section
variable {P : Program} {w : World} {K : PySem.W.Frag} {mg : Str → Option Value} {base : Heap}
theorem FunC.ok {x qual : Str} {st : Stmt} {f c : Addr} {fd : FuncData} {N ps : List Str} {k : Nat} {sp : Sp} (F : FunC K x qual st f fd c) (S : FnScope N ps (defScope st)) (len : ∀ vs H Q E, sp vs H Q E → vs.length = ps.length)
    (hbody : ∀ (A : Around) (outer : List Env) (s : Shared) (H : Hp) (vs : List V) (Q : VK) (E : XK), Room k (A.deeper (envOfC qual (defScope st) s.heap.objs.size f (.ref c))) → sp vs H Q E →
      ∃ t, PSs (cxOf CX0 P w K mg base N qual (defScope st) f (.ref c) A outer s H E).nox (defBody st) t ∧ t { nx := fun _ H' => Q .non H', rt := Q } (start N vs) H) : FnOk P w K mg base CX0 (k + 1) f fd ps sp := by
  obtain ⟨oc, od, kV, doc, pm, an, ct, osl, rfl, lk, hcd⟩ := F.ex
  refine fn_of lk hcd S len fun A outer s H vs Q E hr hsp => ?_
  obtain ⟨t, h, q⟩ := hbody A outer s H vs Q E hr hsp
  exact ⟨t, h.nox, q⟩
end
section
variable {X : Cx}
/-- x(lambda: body), x a plain def of the module -/
theorem pe_lam {T : List (Addr × Str)} {TT : (XK → Hp → VK → Prop) → Hp → VK → Prop} {x a : Str} {g c Pt : Addr} {k : Nat} {st : Stmt} {fd : FuncData} {Ng : List Str}
    {params : Arguments} {body : Expr} {scope : Scope} {t : XK → TE} {p lpos pos : Pos} (F : Fun X.K x x st g fd) (hb : L2.Binds X.K fd [a] []) (hm : X.mg x = some (.ref g)) (Sg : FnScope Ng [a] (defScope st))
    (hG : ∀ cdg, GivesTo X Ng x (defScope st) g cdg (defBody st) a (X.env.qual ++ "<lambda>") TT)
    (TB : TabB X.base X.mg c Pt) (hcode : X.env.code = .ref c) (hr : Room (k + 2) X.A) (hT : T = [(Pt, X.env.qual ++ "<lambda>")])
    (hbody : ∀ (A : Around) (outer : List Env) (s : Shared) (H : Hp) (E : XK) (f c' : Addr), Room k (A.deeper (lamEnv X scope s.heap.objs.size f c')) → PE (lamCx X A outer s H E scope f c') body (t E))
    (L : LamS X.env.scope scope) (hg : Gl X x := by rfl) (hNg : Ng[0]? = some a := by rfl) (hva : Vis (defScope st) a := by exact Or.inl rfl) (hdef : defaultsOf params X.env = ([], []) := by rfl)
    (hbind : ∀ (q : Str) (cl : List (Str × Addr)) (pm cv ctv : Value), bindArgs (PySem.W.kla_fn "<lambda>" q params body scope cl pm cv ctv) ⟨[], []⟩ = pure [] := by intros; rfl) (hdb : (x == ("__debug__" : Str)) = false := by decide)
    (hd : (a == ("__debug__" : Str)) = false := by decide) (hcd : (a == ("__classdict__" : Str)) = false := by decide) :
    PE X (.Call (.Name x p) [.Lambda params body scope lpos] [] pos) (tLam T TT t) := by
  obtain ⟨oc, od, kV, doc, pm, an, cdv, ct, osl, rfl, lk, hcg⟩ := F.ex
  subst hT
  exact pe_lamcall hg hm F.kp lk hcg hb Sg hNg hva (hG _) TB hcode (by simp) (fun p hp _ => by rw [List.mem_singleton.mp hp]) hr L hdef hbind hbody (hd := hd) (hcd := hcd) (hdb := hdb)
end
/-! ### what a def that catches all refusals makes of a call -/
/-- a refusal told: the class, the name, the field -/
abbrev Er : Type := Addr × Str × Option Str
def rfE (es : List Er) (Q : VK) : XK := fun cls d H' => ∃ e ∈ es, cls = .ref e.1 ∧ match e.2.2 with
  | none => ∀ p, H' p = none → Q (.ref p) (upd H' p (.tup [.str e.2.1]))
  | some f => ∃ dd fs v, d = some dd ∧ H' dd = some (.xd fs) ∧ fs.lookup f = some v ∧ ∀ p, H' p = none → Q (.ref p) (upd H' p (.tup [.str e.2.1, v]))
def TRef (es : List Er) : (XK → Hp → VK → Prop) → Hp → VK → Prop := fun tl H Q => ∀ p, H p = none → ∀ Q' : VK, (∀ v H', Q (.ref p) H' → Q' v H') → tl (rfE es Q) (upd H p (.tup [.str "nothing"])) Q'
/-! ### the top's tables -/
def cdA (K : PySem.W.Frag) (a : Str × Option Str) : Addr := match K.lookup (He.fAd K a) with
  | some ⟨_, _, .func fd, _⟩ => (match fd.code with
    | .ref c => c
    | _ => 0)
  | _ => 0
def cdP (K : PySem.W.Frag) (a : Str × Option Str) : Addr := match K.lookup (cdA K a) with
  | some ⟨_, _, .fields vs, _⟩ => (match (vs[11]? : Option Value) with
    | some (.ref P) => P
    | _ => 0)
  | _ => 0
def isStrO : Option Value → Bool
  | some (.str _ _) => true
  | _ => false
def isIntO : Option Value → Bool
  | some (.int _ _) => true
  | _ => false
def isBoolO : Option Value → Bool
  | some (.bool _) => true
  | _ => false
theorem isStrO_ok : ∀ {o : Option Value}, isStrO o = true → ∃ z t, o = some (.str z t)
  | some (.str z t), _ => ⟨z, t, rfl⟩
theorem isIntO_ok : ∀ {o : Option Value}, isIntO o = true → ∃ z t, o = some (.int z t)
  | some (.int z t), _ => ⟨z, t, rfl⟩
theorem isBoolO_ok : ∀ {o : Option Value}, isBoolO o = true → ∃ z, o = some (.bool z)
  | some (.bool z), _ => ⟨z, rfl⟩
/-- the code object is as the making of a lambda asks -/
def cdB (K : PySem.W.Frag) (c Pt : Addr) : Bool := match K.lookup c with
  | some ⟨.type t, _, .fields vs, _⟩ => decide (t = "code") && (decide (vs[11]? = some (.ref Pt)) && (isStrO vs[18]? && (isIntO vs[7]? && (isBoolO vs[9]? && (isIntO vs[10]? && !decide (c = Pt))))))
  | _ => false
theorem cdB_ok {K : PySem.W.Frag} {c Pt : Addr} {h : Heap} (X : K.In h) (e : cdB K c Pt = true) : PySem.W.CodeHd h c Pt := by
  unfold cdB at e
  cases q : K.lookup c with
  | none => rw [q] at e; cases e
  | some o =>
    obtain ⟨oc, od, dt, osl⟩ := o
    rw [q] at e
    cases oc with
    | type t =>
      cases dt with
      | fields vs =>
        obtain ⟨e1, e⟩ := Bool.and_eq_true_iff.mp (show (decide (t = "code") && (decide (vs[11]? = some (.ref Pt)) && (isStrO vs[18]? && (isIntO vs[7]? && (isBoolO vs[9]? && (isIntO vs[10]? && !decide (c = Pt))))))) = true from e)
        obtain ⟨e2, e⟩ := Bool.and_eq_true_iff.mp e
        obtain ⟨e3, e⟩ := Bool.and_eq_true_iff.mp e
        obtain ⟨e4, e⟩ := Bool.and_eq_true_iff.mp e
        obtain ⟨e5, e⟩ := Bool.and_eq_true_iff.mp e
        obtain ⟨e6, e7⟩ := Bool.and_eq_true_iff.mp e
        have e1' : t = "code" := of_decide_eq_true e1
        subst e1'
        have e2' : vs[11]? = some (.ref Pt) := of_decide_eq_true e2
        have gd : ∀ {i : Nat} {v : Value}, vs[i]? = some v → vs.getD i .none = v := fun {i v} h => by rw [Array.getD_eq_getD_getElem?, h]; rfl
        obtain ⟨file, tf, q3⟩ := isStrO_ok e3
        obtain ⟨flags, tg, q4⟩ := isIntO_ok e4
        obtain ⟨inF, q5⟩ := isBoolO_ok e5
        obtain ⟨text, tt, q6⟩ := isIntO_ok e6
        exact ⟨_, vs, file, tf, flags, tg, inF, text, tt, X _ _ q, rfl, rfl, e2', gd e2', gd q3, gd q4, gd q5, gd q6, by simpa using e7⟩
      | _ => cases e
    | _ => cases dt <;> cases e
def tbB (K2 : PySem.W.Frag) (Pt : Addr) : Bool := match K2.lookup Pt with
  | some ⟨.none, none, .fields vs, sl⟩ => vs.toList.isEmpty && sl.toList.isEmpty
  | _ => false
theorem tbB_ok {K2 : PySem.W.Frag} {Pt : Addr} {h : Heap} (X : K2.In h) (e : tbB K2 Pt = true) : h.get? Pt = some { cls := .none, data := .fields #[] } := by
  unfold tbB at e
  cases q : K2.lookup Pt with
  | none => rw [q] at e; cases e
  | some o =>
    obtain ⟨oc, od, dt, osl⟩ := o
    rw [q] at e
    cases oc with
    | none =>
      cases od with
      | none =>
        cases dt with
        | fields vs =>
          obtain ⟨e1, e2⟩ := Bool.and_eq_true_iff.mp (show (vs.toList.isEmpty && osl.toList.isEmpty) = true from e)
          obtain ⟨vs⟩ := vs
          obtain ⟨osl⟩ := osl
          cases vs with
          | nil =>
            cases osl with
            | nil => exact X _ _ q
            | cons => cases e2
          | cons => cases e1
        | _ => cases e
      | some _ => cases dt <;> cases e
    | _ => cases od <;> cases dt <;> cases e
def tabB1 (K K2 : PySem.W.Frag) (a : Str × Option Str) : Bool := cdB K (cdA K a) (cdP K a) && ((K.lookup (cdP K a)).isNone && tbB K2 (cdP K a))
abbrev AlT : Type := AlP × Bool
def SaysT (cks : List (PySem.W.Frag → Bool)) (fn : List ObD) (ts : List (Str × Option Str)) (K K2 : PySem.W.Frag) : Prop := (obsP cks fn K, ts.all (tabB1 K K2)) = (valP fn, true)
def hookT (n n2 : List Addr) (cks : List (PySem.W.Frag → Bool)) (fn : List ObD) (ts : List (Str × Option Str)) : PySem.W.Hook where
  α := AlT
  obs := fun s => (obsPG n cks fn s.heap.get?, ts.all (tabB1 (He.frG s.heap.get? n) (He.frG s.heap.get? n2)))
  val := fun _ => (valP fn, true)
  says := fun _ h => ∃ K K2 : PySem.W.Frag, K.In h ∧ K2.In h ∧ SaysT cks fn ts K K2
  of := fun _ _ e => ⟨_, _, He.frG_in, He.frG_in, e⟩
  keeps := fun _ _ _ ⟨K, K2, hK, hK2, c⟩ k => ⟨K, K2, PySem.W.Frag.In.keeps hK k, PySem.W.Frag.In.keeps hK2 k, c⟩
theorem obsTG_eq {n n2 : List Addr} {cks : List (PySem.W.Frag → Bool)} {fn : List ObD} {ts : List (Str × Option Str)} {g : Addr → Option Obj} {s : Shared} (h : ∀ a, g a = s.heap.get? a) : ((obsPG n cks fn g, ts.all (tabB1 (He.frG g n) (He.frG g n2))) : AlT) = (hookT n n2 cks fn ts).obs s := by
  have e : g = s.heap.get? := funext h
  rw [e] <;> rfl
section
variable {cks : List (PySem.W.Frag → Bool)} {fn : List ObD} {ts : List (Str × Option Str)} {K K2 : PySem.W.Frag}
theorem SaysT.p (c : SaysT cks fn ts K K2) : SaysP cks fn K := congrArg (fun z : AlT => z.1) c
theorem SaysT.t (c : SaysT cks fn ts K K2) {a : Str × Option Str} (h : a ∈ ts) : cdB K (cdA K a) (cdP K a) = true ∧ K.lookup (cdP K a) = none ∧ tbB K2 (cdP K a) = true := by
  have c1 : ts.all (tabB1 K K2) = true := congrArg (fun z : AlT => z.2) c
  obtain ⟨h1, h2⟩ := Bool.and_eq_true_iff.mp (List.all_eq_true.mp c1 a h)
  obtain ⟨h3, h4⟩ := Bool.and_eq_true_iff.mp h2
  exact ⟨h1, Option.isNone_iff_eq_none.mp h3, h4⟩
/-- a plain def whose code object is known -/
theorem ob_funC {d : ObD} (e : fnOb K d.at_ = d.val) (hc : d.cl = []) (c : plB d.at_ d.qual K = true) {Pt : Addr} (hb : cdB K (cdA K d.at_) Pt = true) : ∃ fd, Fun K d.name d.qual d.st (He.fAd K d.at_) fd ∧ FunC K d.name d.qual d.st (He.fAd K d.at_) fd (cdA K d.at_) := by
  obtain ⟨fd, F⟩ := ob_fun e hc c
  refine ⟨fd, F, ?_⟩
  obtain ⟨oc, od, kV, doc, pm, an, cdv, ct, osl, rfl, lk, hcd⟩ := F.ex
  have ec : cdv = .ref (cdA K d.at_) := by
    unfold cdA
    rw [lk]
    unfold PySem.W.codeIn at hcd
    cases cdv with
    | ref c => rfl
    | _ => cases hcd
  subst ec
  exact ⟨oc, od, kV, doc, pm, an, ct, osl, rfl, lk, hcd⟩
/-- the run's parts, joined -/
theorem run_joinT {σ β : Type} {o : Option σ} {lk : σ → Bool} {se : σ → β} {gd : β} {kf kf2 : σ → PySem.W.Frag} {css : List (List (PySem.W.Frag → Bool))} (h0 : o.map (fun s => (lk s, se s)) = some (true, gd)) (hf : o.map (fun s => fn.map fun d => fnOb (kf s) d.at_) = some (fn.map ObD.val))
    (hc : ∀ c ∈ css, o.map (fun s => c.all fun f => f (kf s)) = some true) (ht : o.map (fun s => ts.all (tabB1 (kf s) (kf2 s))) = some true) : o.map (fun s => (lk s, se s, ((obsP css.flatten fn (kf s), ts.all (tabB1 (kf s) (kf2 s))) : AlT))) = some (true, gd, (valP fn, true)) := by
  have r := run_join h0 hf hc
  cases o with
  | none => cases h0
  | some s =>
    have r' := Option.some.inj r
    have ht' : ts.all (tabB1 (kf s) (kf2 s)) = true := Option.some.inj ht
    have e1 := congrArg Prod.fst r'
    have e2 := congrArg (fun z => z.2.1) r'
    have e3 := congrArg (fun z => z.2.2) r'
    simp only at e1 e2 e3
    show some (lk s, se s, ((obsP css.flatten fn (kf s), ts.all (tabB1 (kf s) (kf2 s))) : AlT)) = _
    rw [e1, e2, e3, ht']
end
/-! ### an own error -/
def oexB (K : PySem.W.Frag) (C : Addr) : Bool := match K.lookup C with
  | some ⟨.type t, _, .cls cd, sl⟩ => decide (t = "type") && (match cd.mro, sl.toList with
    | .ref C' :: bm, [_, _, _, _, some (.builtin n), _] => decide (C' = C) && (decide (n = "ValueError.__new__") && (!cd.hasDel && (cd.hasDict && PySem.HandSPX.refsVE bm)))
    | _, _ => false)
  | _ => false
theorem oexB_ok {K : PySem.W.Frag} {C : Addr} (h : oexB K C = true) : ∃ nm q N bs bm sn sub ab col dd k0 k1 k2 k3 k5, K.lookup C = some (excClassObj nm q C N bs bm true sn sub ab col dd k0 k1 k2 k3 k5 "ValueError.__new__") ∧ PySem.HandSPX.refsVE bm = true := by
  unfold oexB at h
  cases q : K.lookup C with
  | none => rw [q] at h; cases h
  | some o =>
    obtain ⟨oc, od, dt, osl⟩ := o
    rw [q] at h
    cases oc with
    | type t =>
      cases dt with
      | cls cd =>
        obtain ⟨h1, h2⟩ := Bool.and_eq_true_iff.mp (show (decide (t = "type") && _) = true from h)
        have h1' : t = "type" := of_decide_eq_true h1
        subst h1'
        obtain ⟨nm, bs, mro, ns, qn, hd, sn, sub, ab, col, del⟩ := cd
        obtain ⟨sl⟩ := osl
        dsimp only at h2
        split at h2
        · rename_i C' bm k0 k1 k2 k3 n k5
          obtain ⟨g1, h2⟩ := Bool.and_eq_true_iff.mp h2
          obtain ⟨g2, h2⟩ := Bool.and_eq_true_iff.mp h2
          obtain ⟨g3, h2⟩ := Bool.and_eq_true_iff.mp h2
          obtain ⟨g4, g5⟩ := Bool.and_eq_true_iff.mp h2
          have g1' : C' = C := of_decide_eq_true g1
          have g2' : n = "ValueError.__new__" := of_decide_eq_true g2
          subst g1' g2'
          have g3' : del = false := by simpa using g3
          have g4' : hd = true := g4
          subst g3' g4'
          exact ⟨_, _, _, _, _, _, _, _, _, _, _, _, _, _, _, rfl, g5⟩
        · cases h2
      | _ => cases h
    | _ => cases dt <;> cases h
theorem fnOk_or {P : Program} {w : World} {K : PySem.W.Frag} {mg : Str → Option Value} {base : Heap} {CX : CXT} {k : Nat} {f : Addr} {fd : FuncData} {ps : List Str} {sp sp' : Sp} (F : FnOk P w K mg base CX k f fd ps sp) (F' : FnOk P w K mg base CX k f fd ps sp') :
    FnOk P w K mg base CX k f fd ps (fun vs H Q E => sp vs H Q E ∨ sp' vs H Q E) :=
  ⟨fun vs H Q E h => h.elim (F.len vs H Q E) (F'.len vs H Q E), fun A outer s H args us vs Q E hr e0 hb hv h => h.elim (fun h => F.run A outer s H args us vs Q E hr e0 hb hv h) (fun h => F'.run A outer s H args us vs Q E hr e0 hb hv h)⟩
theorem fnOk_lift {P : Program} {w : World} {K : PySem.W.Frag} {mg : Str → Option Value} {base : Heap} {k : Nat} {f : Addr} {fd : FuncData} {ps : List Str} {sp : Sp} (F : FnOk P w K mg base CX0 k f fd ps sp) : FnOk P w K mg base (L2.CX P w) k f fd ps sp :=
  ⟨F.len, fun A outer s H args us vs Q E hr e0 hb hv h => codeAny_mono (F.run A outer s H args us vs Q E hr e0 hb hv h) fun r s' hq => by
    cases r with
    | error e => exact False.elim hq
    | ok fl => cases fl <;> exact hq⟩
/-- all but the tables -/
def nt (H : Hp) : Hp := fun b => match H b with
  | some (.tbl _) => none
  | o => o
theorem nt_at {H : Hp} {a : Addr} {o : HO} (h : H a = some o) (n : ∀ ps, o ≠ .tbl ps) : nt H a = some o := by
  unfold nt
  rw [h]
  cases o <;> first | rfl | exact absurd rfl (n _)
theorem nt_sub {H : Hp} {a : Addr} {o : HO} (h : nt H a = some o) : H a = some o ∧ ∀ ps, o ≠ .tbl ps := by
  unfold nt at h
  cases e : H a with
  | none => rw [e] at h; cases h
  | some u =>
    rw [e] at h
    cases u <;> first | (cases h; exact ⟨rfl, fun ps z => nomatch z⟩) | cases h
theorem nt_same {H H1 : Hp} (e : ExtN H H1) : Same (nt H) H1 := fun b o h => e b o (nt_sub h).1 (nt_sub h).2
theorem nt_mono {H H1 : Hp} (s : Same H H1) : Same (nt H) (nt H1) := fun b o h => nt_at (s b o (nt_sub h).1) (nt_sub h).2
theorem nt_le {H : Hp} : Same (nt H) H := fun b o h => (nt_sub h).1
theorem Ty.nt {H : Hp} {v : V} {t : String} (h : Pl.Ty H v t) : Pl.Ty (Pl.nt H) v t := by
  cases h with
  | non => exact .non
  | bl b => exact .bl b
  | int i => exact .int i
  | str x => exact .str x
  | lst h => exact .lst (nt_at h fun _ z => nomatch z)
  | tup h => exact .tup (nt_at h fun _ z => nomatch z)
/-- the box stands, the table is empty -/
theorem Wd.beginT {b c Pt : Addr} {H H1 : Hp} (hP : H Pt = some (.tbl #[])) (hb : H b = none) (hc : H c = none) (s : Same H H1) (bx : BoxAt b c H1) : ∃ G, Wd b c G H1 ∧ G Pt = some (.tbl #[]) := by
  refine ⟨fun a => if a = Pt then some (.tbl #[]) else none, ⟨bx, fun y o e => ?_, if_neg fun z => ?_, if_neg fun z => ?_⟩, if_pos rfl⟩
  · by_cases hy : y = Pt
    · rw [if_pos hy] at e
      cases e
      rw [hy]
      exact s _ _ hP
    · rw [if_neg hy] at e
      cases e
  · rw [z, hP] at hb; cases hb
  · rw [z, hP] at hc; cases hc
structure ErrC (K : PySem.W.Frag) (C fI : Addr) (f : Str) : Prop where
  x : OexC K C
  i : PySem.W.findIn K (.ref C) "__init__" = some (some (.ref fI))
  t : PySem.W.typeIn K (.ref fI) = some (.type "function")
  no : PySem.W.findIn K (.ref C) f = some none
  xf : XfC K C
structure LamD (K : PySem.W.Frag) (a : Str × Option Str) (x qual : Str) (st : Stmt) (f : Addr) (fd : FuncData) where
  c : Addr
  P : Addr
  ec : c = cdA K a
  eP : P = cdP K a
  F : FunC K x qual st f fd c
/-- the statement that calls what was handed in -/
theorem pss_act {X : Cx} {f c' : Addr} {q a : Str} {tl : XK → Hp → VK → Prop} {p1 p2 pos : Pos} {W : WX}
    (act : ∀ (E : XK) (p1 p2 : Pos), (∀ cls d σ' H', E cls d H' → W cls d σ' H') → PE X (.Call (.Name a p1) [] [] p2) (fun σZ HZ Q => σZ[0]? = some (some (.ref f)) ∧ HZ c' = some (CodeO c' q) ∧ tl E HZ Q)) :
    PSs X [.Expr (.Call (.Name a p1) [] [] p2) pos] (fun D σ H => ∃ Ech : XK, (∀ cls d σ' H', Ech cls d H' → W cls d σ' H') ∧ σ[0]? = some (some (.ref f)) ∧ H c' = some (CodeO c' q) ∧ tl Ech H (fun _ H' => D.nx σ H')) := by
  refine ⟨fun pins s σ H D I h => ?_⟩
  obtain ⟨Ech, hW, h1, h2, h3⟩ := h
  exact (pss_one (ps_expr (act Ech p1 p2 hW))).run pins s σ H D I ⟨h1, h2, h3⟩
end Pl

namespace Pl
open PySem L2
def topS (i : Nat) : Stmt := PySem.Challenge.pw_pastlooks_k25_written_terms.main.body.getD i (.Pass ⟨0, 0, 0, 0⟩)
abbrev s_BadTerm_init : Stmt := inClass (topS 6) 0
abbrev N_BadTerm_init : List Str := ["self", "value"]
theorem sc_BadTerm_init : FnScope N_BadTerm_init ["self", "value"] (defScope s_BadTerm_init) := ⟨rfl, rfl, rfl, by decide +kernel, rfl, by decide +kernel, by decide +kernel⟩
abbrev s_is_integer : Stmt := topS 22
abbrev N_is_integer : List Str := ["value"]
theorem sc_is_integer : FnScope N_is_integer ["value"] (defScope s_is_integer) := ⟨rfl, rfl, rfl, by decide +kernel, rfl, by decide +kernel, by decide +kernel⟩
abbrev s_is_from_zero : Stmt := topS 23
abbrev N_is_from_zero : List Str := ["value"]
theorem sc_is_from_zero : FnScope N_is_from_zero ["value"] (defScope s_is_from_zero) := ⟨rfl, rfl, rfl, by decide +kernel, rfl, by decide +kernel, by decide +kernel⟩
abbrev s_is_name : Stmt := topS 24
abbrev N_is_name : List Str := ["name", "letter"]
theorem sc_is_name : FnScope N_is_name ["name"] (defScope s_is_name) := ⟨rfl, rfl, rfl, by decide +kernel, rfl, by decide +kernel, by decide +kernel⟩
abbrev s_check_name : Stmt := topS 25
abbrev N_check_name : List Str := ["name"]
theorem sc_check_name : FnScope N_check_name ["name"] (defScope s_check_name) := ⟨rfl, rfl, rfl, by decide +kernel, rfl, by decide +kernel, by decide +kernel⟩
abbrev s_check_moment : Stmt := topS 26
abbrev N_check_moment : List Str := ["value"]
theorem sc_check_moment : FnScope N_check_moment ["value"] (defScope s_check_moment) := ⟨rfl, rfl, rfl, by decide +kernel, rfl, by decide +kernel, by decide +kernel⟩
abbrev s_check_bound : Stmt := topS 27
abbrev N_check_bound : List Str := ["value"]
theorem sc_check_bound : FnScope N_check_bound ["value"] (defScope s_check_bound) := ⟨rfl, rfl, rfl, by decide +kernel, rfl, by decide +kernel, by decide +kernel⟩
abbrev s_check_limit : Stmt := topS 28
abbrev N_check_limit : List Str := ["value"]
theorem sc_check_limit : FnScope N_check_limit ["value"] (defScope s_check_limit) := ⟨rfl, rfl, rfl, by decide +kernel, rfl, by decide +kernel, by decide +kernel⟩
abbrev s_check_rows : Stmt := topS 29
abbrev N_check_rows : List Str := ["name", "moments", "moment"]
theorem sc_check_rows : FnScope N_check_rows ["name", "moments"] (defScope s_check_rows) := ⟨rfl, rfl, rfl, by decide +kernel, rfl, by decide +kernel, by decide +kernel⟩
abbrev s_limited : Stmt := topS 32
abbrev N_limited : List Str := ["pairs"]
theorem sc_limited : FnScope N_limited ["pairs"] (defScope s_limited) := ⟨rfl, rfl, rfl, by decide +kernel, rfl, by decide +kernel, by decide +kernel⟩
abbrev s_checked_pairs : Stmt := topS 33
abbrev N_checked_pairs : List Str := ["rows", "pairs", "name", "moments", "moment"]
theorem sc_checked_pairs : FnScope N_checked_pairs ["rows"] (defScope s_checked_pairs) := ⟨rfl, rfl, rfl, by decide +kernel, rfl, by decide +kernel, by decide +kernel⟩
abbrev s_World_init : Stmt := inClass (topS 36) 0
abbrev N_World_init : List Str := ["self", "rows"]
theorem sc_World_init : FnScope N_World_init ["self", "rows"] (defScope s_World_init) := ⟨rfl, rfl, rfl, by decide +kernel, rfl, by decide +kernel, by decide +kernel⟩
abbrev s_World_getitem : Stmt := inClass (topS 36) 2
abbrev N_World_getitem : List Str := ["self", "name", "stream", "moment"]
theorem sc_World_getitem : FnScope N_World_getitem ["self", "name"] (defScope s_World_getitem) := ⟨rfl, rfl, rfl, by decide +kernel, rfl, by decide +kernel, by decide +kernel⟩
abbrev s_check_world : Stmt := topS 37
abbrev N_check_world : List Str := ["value"]
theorem sc_check_world : FnScope N_check_world ["value"] (defScope s_check_world) := ⟨rfl, rfl, rfl, by decide +kernel, rfl, by decide +kernel, by decide +kernel⟩
abbrev s_Term_init : Stmt := inClass (topS 43) 0
abbrev N_Term_init : List Str := ["self", "children", "chooses", "child"]
theorem sc_Term_init : FnScope N_Term_init ["self", "children"] (defScope s_Term_init) := ⟨rfl, rfl, rfl, by decide +kernel, rfl, by decide +kernel, by decide +kernel⟩
abbrev s_Term_add : Stmt := inClass (topS 43) 1
abbrev N_Term_add : List Str := ["self", "amount"]
theorem sc_Term_add : FnScope N_Term_add ["self", "amount"] (defScope s_Term_add) := ⟨rfl, rfl, rfl, by decide +kernel, rfl, by decide +kernel, by decide +kernel⟩
abbrev s_Term_sub : Stmt := inClass (topS 43) 2
abbrev N_Term_sub : List Str := ["self", "amount"]
theorem sc_Term_sub : FnScope N_Term_sub ["self", "amount"] (defScope s_Term_sub) := ⟨rfl, rfl, rfl, by decide +kernel, rfl, by decide +kernel, by decide +kernel⟩
abbrev s_Term_or : Stmt := inClass (topS 43) 3
abbrev N_Term_or : List Str := ["self", "other"]
theorem sc_Term_or : FnScope N_Term_or ["self", "other"] (defScope s_Term_or) := ⟨rfl, rfl, rfl, by decide +kernel, rfl, by decide +kernel, by decide +kernel⟩
abbrev s_Term_eq : Stmt := inClass (topS 43) 4
abbrev N_Term_eq : List Str := ["self", "other"]
theorem sc_Term_eq : FnScope N_Term_eq ["self", "other"] (defScope s_Term_eq) := ⟨rfl, rfl, rfl, by decide +kernel, rfl, by decide +kernel, by decide +kernel⟩
abbrev s_Term_call : Stmt := inClass (topS 43) 5
abbrev N_Term_call : List Str := ["self", "world", "now"]
theorem sc_Term_call : FnScope N_Term_call ["self", "world", "now"] (defScope s_Term_call) := ⟨rfl, rfl, rfl, by decide +kernel, rfl, by decide +kernel, by decide +kernel⟩
abbrev s_Term_later : Stmt := inClass (topS 43) 6
abbrev N_Term_later : List Str := ["self", "other"]
theorem sc_Term_later : FnScope N_Term_later ["self", "other"] (defScope s_Term_later) := ⟨rfl, rfl, rfl, by decide +kernel, rfl, by decide +kernel, by decide +kernel⟩
abbrev s_Term_earlier : Stmt := inClass (topS 43) 7
abbrev N_Term_earlier : List Str := ["self", "other"]
theorem sc_Term_earlier : FnScope N_Term_earlier ["self", "other"] (defScope s_Term_earlier) := ⟨rfl, rfl, rfl, by decide +kernel, rfl, by decide +kernel, by decide +kernel⟩
abbrev s_Term_part_at : Stmt := inClass (topS 43) 11
abbrev N_Term_part_at : List Str := ["self", "path", "part", "index", "children"]
theorem sc_Term_part_at : FnScope N_Term_part_at ["self", "path"] (defScope s_Term_part_at) := ⟨rfl, rfl, rfl, by decide +kernel, rfl, by decide +kernel, by decide +kernel⟩
abbrev s_Term_children : Stmt := inClass (topS 43) 13
abbrev N_Term_children : List Str := ["self"]
theorem sc_Term_children : FnScope N_Term_children ["self"] (defScope s_Term_children) := ⟨rfl, rfl, rfl, by decide +kernel, rfl, by decide +kernel, by decide +kernel⟩
abbrev s_Term_form : Stmt := inClass (topS 43) 15
abbrev N_Term_form : List Str := ["self"]
theorem sc_Term_form : FnScope N_Term_form ["self"] (defScope s_Term_form) := ⟨rfl, rfl, rfl, by decide +kernel, rfl, by decide +kernel, by decide +kernel⟩
abbrev s_Term_answer_in : Stmt := inClass (topS 43) 16
abbrev N_Term_answer_in : List Str := ["self", "world", "now"]
theorem sc_Term_answer_in : FnScope N_Term_answer_in ["self", "world", "now"] (defScope s_Term_answer_in) := ⟨rfl, rfl, rfl, by decide +kernel, rfl, by decide +kernel, by decide +kernel⟩
abbrev s_Now_init : Stmt := inClass (topS 44) 0
abbrev N_Now_init : List Str := ["self", "__class__"]
theorem sc_Now_init : NdefX.NScope N_Now_init ["self"] ["__class__"] (defScope s_Now_init) := NdefX.nscope_by (by decide +kernel)
abbrev s_Shift_init : Stmt := inClass (topS 45) 0
abbrev N_Shift_init : List Str := ["self", "moment", "amount", "__class__"]
theorem sc_Shift_init : NdefX.NScope N_Shift_init ["self", "moment", "amount"] ["__class__"] (defScope s_Shift_init) := NdefX.nscope_by (by decide +kernel)
abbrev s_Shift_children : Stmt := inClass (topS 45) 1
abbrev N_Shift_children : List Str := ["self"]
theorem sc_Shift_children : FnScope N_Shift_children ["self"] (defScope s_Shift_children) := ⟨rfl, rfl, rfl, by decide +kernel, rfl, by decide +kernel, by decide +kernel⟩
abbrev s_Shift_form : Stmt := inClass (topS 45) 3
abbrev N_Shift_form : List Str := ["self"]
theorem sc_Shift_form : FnScope N_Shift_form ["self"] (defScope s_Shift_form) := ⟨rfl, rfl, rfl, by decide +kernel, rfl, by decide +kernel, by decide +kernel⟩
abbrev s_Shift_answer_in : Stmt := inClass (topS 45) 4
abbrev N_Shift_answer_in : List Str := ["self", "world", "now", "answer"]
theorem sc_Shift_answer_in : FnScope N_Shift_answer_in ["self", "world", "now"] (defScope s_Shift_answer_in) := ⟨rfl, rfl, rfl, by decide +kernel, rfl, by decide +kernel, by decide +kernel⟩
abbrev s_Look_init : Stmt := inClass (topS 46) 0
abbrev N_Look_init : List Str := ["self", "stream", "moment", "way", "within", "__class__"]
theorem sc_Look_init : NdefX.NScope N_Look_init ["self", "stream", "moment", "way", "within"] ["__class__"] (defScope s_Look_init) := NdefX.nscope_by (by decide +kernel)
abbrev s_Look_children : Stmt := inClass (topS 46) 2
abbrev N_Look_children : List Str := ["self"]
theorem sc_Look_children : FnScope N_Look_children ["self"] (defScope s_Look_children) := ⟨rfl, rfl, rfl, by decide +kernel, rfl, by decide +kernel, by decide +kernel⟩
abbrev s_Look_form : Stmt := inClass (topS 46) 4
abbrev N_Look_form : List Str := ["self"]
theorem sc_Look_form : FnScope N_Look_form ["self"] (defScope s_Look_form) := ⟨rfl, rfl, rfl, by decide +kernel, rfl, by decide +kernel, by decide +kernel⟩
abbrev s_Look_answer_in : Stmt := inClass (topS 46) 5
abbrev N_Look_answer_in : List Str := ["self", "world", "now", "moment"]
theorem sc_Look_answer_in : FnScope N_Look_answer_in ["self", "world", "now"] (defScope s_Look_answer_in) := ⟨rfl, rfl, rfl, by decide +kernel, rfl, by decide +kernel, by decide +kernel⟩
abbrev s_Pair_init : Stmt := inClass (topS 47) 0
abbrev N_Pair_init : List Str := ["self", "first", "second", "__class__"]
theorem sc_Pair_init : NdefX.NScope N_Pair_init ["self", "first", "second"] ["__class__"] (defScope s_Pair_init) := NdefX.nscope_by (by decide +kernel)
abbrev s_Pair_children : Stmt := inClass (topS 47) 1
abbrev N_Pair_children : List Str := ["self"]
theorem sc_Pair_children : FnScope N_Pair_children ["self"] (defScope s_Pair_children) := ⟨rfl, rfl, rfl, by decide +kernel, rfl, by decide +kernel, by decide +kernel⟩
abbrev s_Either_form : Stmt := inClass (topS 48) 1
abbrev N_Either_form : List Str := ["self"]
theorem sc_Either_form : FnScope N_Either_form ["self"] (defScope s_Either_form) := ⟨rfl, rfl, rfl, by decide +kernel, rfl, by decide +kernel, by decide +kernel⟩
abbrev s_Either_answer_in : Stmt := inClass (topS 48) 2
abbrev N_Either_answer_in : List Str := ["self", "world", "now", "answer"]
theorem sc_Either_answer_in : FnScope N_Either_answer_in ["self", "world", "now"] (defScope s_Either_answer_in) := ⟨rfl, rfl, rfl, by decide +kernel, rfl, by decide +kernel, by decide +kernel⟩
abbrev s_Later_form : Stmt := inClass (topS 49) 1
abbrev N_Later_form : List Str := ["self"]
theorem sc_Later_form : FnScope N_Later_form ["self"] (defScope s_Later_form) := ⟨rfl, rfl, rfl, by decide +kernel, rfl, by decide +kernel, by decide +kernel⟩
abbrev s_Later_answer_in : Stmt := inClass (topS 49) 2
abbrev N_Later_answer_in : List Str := ["self", "world", "now", "answer", "other"]
theorem sc_Later_answer_in : FnScope N_Later_answer_in ["self", "world", "now"] (defScope s_Later_answer_in) := ⟨rfl, rfl, rfl, by decide +kernel, rfl, by decide +kernel, by decide +kernel⟩
abbrev s_Earlier_form : Stmt := inClass (topS 50) 1
abbrev N_Earlier_form : List Str := ["self"]
theorem sc_Earlier_form : FnScope N_Earlier_form ["self"] (defScope s_Earlier_form) := ⟨rfl, rfl, rfl, by decide +kernel, rfl, by decide +kernel, by decide +kernel⟩
abbrev s_Earlier_answer_in : Stmt := inClass (topS 50) 2
abbrev N_Earlier_answer_in : List Str := ["self", "world", "now", "answer", "other"]
theorem sc_Earlier_answer_in : FnScope N_Earlier_answer_in ["self", "world", "now"] (defScope s_Earlier_answer_in) := ⟨rfl, rfl, rfl, by decide +kernel, rfl, by decide +kernel, by decide +kernel⟩
abbrev s_shifted : Stmt := topS 51
abbrev N_shifted : List Str := ["term", "amount"]
theorem sc_shifted : FnScope N_shifted ["term", "amount"] (defScope s_shifted) := ⟨rfl, rfl, rfl, by decide +kernel, rfl, by decide +kernel, by decide +kernel⟩
abbrev s_fits : Stmt := topS 52
abbrev N_fits : List Str := ["row", "moment", "way"]
theorem sc_fits : FnScope N_fits ["row", "moment", "way"] (defScope s_fits) := ⟨rfl, rfl, rfl, by decide +kernel, rfl, by decide +kernel, by decide +kernel⟩
abbrev s_looked_up : Stmt := topS 53
abbrev N_looked_up : List Str := ["moments", "moment", "way", "within", "found", "row"]
theorem sc_looked_up : FnScope N_looked_up ["moments", "moment", "way", "within"] (defScope s_looked_up) := ⟨rfl, rfl, rfl, by decide +kernel, rfl, by decide +kernel, by decide +kernel⟩
abbrev s_check_term : Stmt := topS 54
abbrev N_check_term : List Str := ["value"]
theorem sc_check_term : FnScope N_check_term ["value"] (defScope s_check_term) := ⟨rfl, rfl, rfl, by decide +kernel, rfl, by decide +kernel, by decide +kernel⟩
abbrev s_spelled_number : Stmt := topS 57
abbrev N_spelled_number : List Str := ["number"]
theorem sc_spelled_number : FnScope N_spelled_number ["number"] (defScope s_spelled_number) := ⟨rfl, rfl, rfl, by decide +kernel, rfl, by decide +kernel, by decide +kernel⟩
abbrev s_spelled_look : Stmt := topS 58
abbrev N_spelled_look : List Str := ["term", "word", "limit"]
theorem sc_spelled_look : FnScope N_spelled_look ["term"] (defScope s_spelled_look) := ⟨rfl, rfl, rfl, by decide +kernel, rfl, by decide +kernel, by decide +kernel⟩
abbrev s_spelled_part : Stmt := topS 59
abbrev N_spelled_part : List Str := ["term", "first", "second", "sign"]
theorem sc_spelled_part : FnScope N_spelled_part ["term"] (defScope s_spelled_part) := ⟨rfl, rfl, rfl, by decide +kernel, rfl, by decide +kernel, by decide +kernel⟩
abbrev s_spelled : Stmt := topS 60
abbrev N_spelled : List Str := ["term"]
theorem sc_spelled : FnScope N_spelled ["term"] (defScope s_spelled) := ⟨rfl, rfl, rfl, by decide +kernel, rfl, by decide +kernel, by decide +kernel⟩
abbrev s_law_open : Stmt := topS 62
abbrev N_law_open : List Str := ["_law_script", "_law_cells"]
theorem sc_law_open : FnScope N_law_open ["_law_script"] (defScope s_law_open) := ⟨rfl, rfl, rfl, by decide +kernel, rfl, by decide +kernel, by decide +kernel⟩
abbrev s_law_pick : Stmt := topS 63
abbrev N_law_pick : List Str := ["_law_box", "_law_many", "_law_cells", "_law_k", "_law_at", "_law_cell", "_law_number_here"]
theorem sc_law_pick : FnScope N_law_pick ["_law_box", "_law_many"] (defScope s_law_pick) := ⟨rfl, rfl, rfl, by decide +kernel, rfl, by decide +kernel, by decide +kernel⟩
abbrev s_law_number : Stmt := topS 64
abbrev N_law_number : List Str := ["_law_box", "_law_kind"]
theorem sc_law_number : FnScope N_law_number ["_law_box"] (defScope s_law_number) := ⟨rfl, rfl, rfl, by decide +kernel, rfl, by decide +kernel, by decide +kernel⟩
abbrev s_law_limit : Stmt := topS 65
abbrev N_law_limit : List Str := ["_law_box", "_law_kind"]
theorem sc_law_limit : FnScope N_law_limit ["_law_box"] (defScope s_law_limit) := ⟨rfl, rfl, rfl, by decide +kernel, rfl, by decide +kernel, by decide +kernel⟩
abbrev s_law_names : Stmt := topS 66
abbrev N_law_names : List Str := ["_law_box", "_law_many", "_law_letters", "_law_names_here", "_law_k", "_law_name", "_law_j", "_law_word"]
theorem sc_law_names : FnScope N_law_names ["_law_box", "_law_many"] (defScope s_law_names) := ⟨rfl, rfl, rfl, by decide +kernel, rfl, by decide +kernel, by decide +kernel⟩
abbrev s_law_shift : Stmt := topS 67
abbrev N_law_shift : List Str := ["_law_tree_here", "_law_amount"]
theorem sc_law_shift : FnScope N_law_shift ["_law_tree_here", "_law_amount"] (defScope s_law_shift) := ⟨rfl, rfl, rfl, by decide +kernel, rfl, by decide +kernel, by decide +kernel⟩
abbrev s_law_tree : Stmt := topS 68
abbrev N_law_tree : List Str := ["_law_box", "_law_names_here", "_law_looks", "_law_joins", "_law_kind", "_law_left", "_law_inner", "_law_one", "_law_other", "_law_inside", "_law_name", "_law_way", "_law_far"]
theorem sc_law_tree : FnScope N_law_tree ["_law_box", "_law_names_here", "_law_looks", "_law_joins"] (defScope s_law_tree) := ⟨rfl, rfl, rfl, by decide +kernel, rfl, by decide +kernel, by decide +kernel⟩
abbrev s_law_term : Stmt := topS 69
abbrev N_law_term : List Str := ["_law_tree_here", "_law_one", "_law_other"]
theorem sc_law_term : FnScope N_law_term ["_law_tree_here"] (defScope s_law_term) := ⟨rfl, rfl, rfl, by decide +kernel, rfl, by decide +kernel, by decide +kernel⟩
abbrev s_law_children : Stmt := topS 70
abbrev N_law_children : List Str := ["_law_tree_here"]
theorem sc_law_children : FnScope N_law_children ["_law_tree_here"] (defScope s_law_children) := ⟨rfl, rfl, rfl, by decide +kernel, rfl, by decide +kernel, by decide +kernel⟩
abbrev s_law_paths : Stmt := topS 71
abbrev N_law_paths : List Str := ["_law_tree_here", "_law_paths_here", "_law_children_here", "_law_index", "_law_path"]
theorem sc_law_paths : FnScope N_law_paths ["_law_tree_here"] (defScope s_law_paths) := ⟨rfl, rfl, rfl, by decide +kernel, rfl, by decide +kernel, by decide +kernel⟩
abbrev s_law_part : Stmt := topS 72
abbrev N_law_part : List Str := ["_law_tree_here", "_law_path", "_law_index"]
theorem sc_law_part : FnScope N_law_part ["_law_tree_here", "_law_path"] (defScope s_law_part) := ⟨rfl, rfl, rfl, by decide +kernel, rfl, by decide +kernel, by decide +kernel⟩
abbrev s_law_refusal : Stmt := topS 73
abbrev N_law_refusal : List Str := ["_law_deed", "_law_found", "e"]
theorem sc_law_refusal : FnScope N_law_refusal ["_law_deed"] (defScope s_law_refusal) := ⟨rfl, rfl, rfl, by decide +kernel, rfl, by decide +kernel, by decide +kernel⟩
abbrev s_law_equal : Stmt := topS 74
abbrev N_law_equal : List Str := ["_law_one", "_law_other", "_law_nested", "_law_k"]
theorem sc_law_equal : FnScope N_law_equal ["_law_one", "_law_other"] (defScope s_law_equal) := ⟨rfl, rfl, rfl, by decide +kernel, rfl, by decide +kernel, by decide +kernel⟩
abbrev s_law_written : Stmt := topS 75
abbrev N_law_written : List Str := ["_law_tree_here", "_law_one", "_law_other", "_law_sign", "_law_word", "_law_far"]
theorem sc_law_written : FnScope N_law_written ["_law_tree_here"] (defScope s_law_written) := ⟨rfl, rfl, rfl, by decide +kernel, rfl, by decide +kernel, by decide +kernel⟩
abbrev s_law : Stmt := topS 76
abbrev N_law : List Str := ["_law_script", "_law_box", "_law_names_here", "_law_tree_here", "_law_text", "_law_path", "_law_thing"]
theorem sc_law : FnScope N_law ["_law_script"] (defScope s_law) := ⟨rfl, rfl, rfl, by decide +kernel, rfl, by decide +kernel, by decide +kernel⟩
structure Df (K : PySem.W.Frag) (mg : Str → Option Value) (x : Str) (st : Stmt) (ps : List Str) where
  f : Addr
  fd : FuncData
  F : Fun K x x st f fd
  b : Binds K fd ps []
  g : mg x = some (.ref f)
abbrev fileS : Str := PySem.Challenge.pw_pastlooks_k25_written_terms.main.file
structure Txt (P : Program) (K : PySem.W.Frag) (mg : Str → Option Value) where
  c_BadName : Addr
  g_BadName : mg "BadName" = some (.ref c_BadName)
  c_BadMoment : Addr
  g_BadMoment : mg "BadMoment" = some (.ref c_BadMoment)
  c_BadBound : Addr
  g_BadBound : mg "BadBound" = some (.ref c_BadBound)
  c_BadTerm : Addr
  g_BadTerm : mg "BadTerm" = some (.ref c_BadTerm)
  c_BadWay : Addr
  g_BadWay : mg "BadWay" = some (.ref c_BadWay)
  c_BadPath : Addr
  g_BadPath : mg "BadPath" = some (.ref c_BadPath)
  c_BadWorld : Addr
  g_BadWorld : mg "BadWorld" = some (.ref c_BadWorld)
  c_BadRows : Addr
  g_BadRows : mg "BadRows" = some (.ref c_BadRows)
  c_BadFact : Addr
  g_BadFact : mg "BadFact" = some (.ref c_BadFact)
  c_BadText : Addr
  g_BadText : mg "BadText" = some (.ref c_BadText)
  c_Unknown : Addr
  g_Unknown : mg "Unknown" = some (.ref c_Unknown)
  c_TooMany : Addr
  g_TooMany : mg "TooMany" = some (.ref c_TooMany)
  c_Unlike : Addr
  g_Unlike : mg "Unlike" = some (.ref c_Unlike)
  c_NotCovered : Addr
  g_NotCovered : mg "NotCovered" = some (.ref c_NotCovered)
  c_NotMost : Addr
  g_NotMost : mg "NotMost" = some (.ref c_NotMost)
  c_NotSettled : Addr
  g_NotSettled : mg "NotSettled" = some (.ref c_NotSettled)
  c_World : Addr
  g_World : mg "World" = some (.ref c_World)
  c_Term : Addr
  g_Term : mg "Term" = some (.ref c_Term)
  c_Now : Addr
  g_Now : mg "Now" = some (.ref c_Now)
  c_Shift : Addr
  g_Shift : mg "Shift" = some (.ref c_Shift)
  c_Look : Addr
  g_Look : mg "Look" = some (.ref c_Look)
  c_Pair : Addr
  g_Pair : mg "Pair" = some (.ref c_Pair)
  c_Either : Addr
  g_Either : mg "Either" = some (.ref c_Either)
  c_Later : Addr
  g_Later : mg "Later" = some (.ref c_Later)
  c_Earlier : Addr
  g_Earlier : mg "Earlier" = some (.ref c_Earlier)
  a_WAYS : Addr
  k_WAYS : mg "WAYS" = some (.ref a_WAYS)
  t_WAYS : ∀ H : Hp, SqT K H a_WAYS [.str "at", .str "before", .str "since", .str "after"]
  u_DEEPEST : Tok
  k_DEEPEST : mg "DEEPEST" = some (.int 12 u_DEEPEST)
  u_LARGEST : Tok
  k_LARGEST : mg "LARGEST" = some (.int 1000000000000000000000000000000000000000000000000000000000000 u_LARGEST)
  u_LETTERS : Tok
  k_LETTERS : mg "LETTERS" = some (.str "abcdefghijklmnopqrstuvwxyz" u_LETTERS)
  u_MOST_LOOKS : Tok
  k_MOST_LOOKS : mg "MOST_LOOKS" = some (.int 12 u_MOST_LOOKS)
  u_MOST_PARTS : Tok
  k_MOST_PARTS : mg "MOST_PARTS" = some (.int 40 u_MOST_PARTS)
  u_MOST_ROWS : Tok
  k_MOST_ROWS : mg "MOST_ROWS" = some (.int 300 u_MOST_ROWS)
  is_integer : Df K mg "is_integer" s_is_integer ["value"]
  is_from_zero : Df K mg "is_from_zero" s_is_from_zero ["value"]
  is_name : Df K mg "is_name" s_is_name ["name"]
  check_name : Df K mg "check_name" s_check_name ["name"]
  check_moment : Df K mg "check_moment" s_check_moment ["value"]
  check_bound : Df K mg "check_bound" s_check_bound ["value"]
  check_limit : Df K mg "check_limit" s_check_limit ["value"]
  check_rows : Df K mg "check_rows" s_check_rows ["name", "moments"]
  limited : Df K mg "limited" s_limited ["pairs"]
  checked_pairs : Df K mg "checked_pairs" s_checked_pairs ["rows"]
  check_world : Df K mg "check_world" s_check_world ["value"]
  shifted : Df K mg "shifted" s_shifted ["term", "amount"]
  fits : Df K mg "fits" s_fits ["row", "moment", "way"]
  looked_up : Df K mg "looked_up" s_looked_up ["moments", "moment", "way", "within"]
  check_term : Df K mg "check_term" s_check_term ["value"]
  spelled_number : Df K mg "spelled_number" s_spelled_number ["number"]
  spelled_look : Df K mg "spelled_look" s_spelled_look ["term"]
  spelled_part : Df K mg "spelled_part" s_spelled_part ["term"]
  spelled : Df K mg "spelled" s_spelled ["term"]
  law_open : Df K mg "_law_open" s_law_open ["_law_script"]
  law_pick : Df K mg "_law_pick" s_law_pick ["_law_box", "_law_many"]
  law_number : Df K mg "_law_number" s_law_number ["_law_box"]
  law_limit : Df K mg "_law_limit" s_law_limit ["_law_box"]
  law_names : Df K mg "_law_names" s_law_names ["_law_box", "_law_many"]
  law_shift : Df K mg "_law_shift" s_law_shift ["_law_tree_here", "_law_amount"]
  law_tree : Df K mg "_law_tree" s_law_tree ["_law_box", "_law_names_here", "_law_looks", "_law_joins"]
  law_term : Df K mg "_law_term" s_law_term ["_law_tree_here"]
  law_children : Df K mg "_law_children" s_law_children ["_law_tree_here"]
  law_paths : Df K mg "_law_paths" s_law_paths ["_law_tree_here"]
  law_part : Df K mg "_law_part" s_law_part ["_law_tree_here", "_law_path"]
  law_refusal : Df K mg "_law_refusal" s_law_refusal ["_law_deed"]
  law_equal : Df K mg "_law_equal" s_law_equal ["_law_one", "_law_other"]
  law_written : Df K mg "_law_written" s_law_written ["_law_tree_here"]
  law : Df K mg "law" s_law ["_law_script"]
  BadTerm_init : Md K "__init__" "BadTerm.__init__" s_BadTerm_init ["self", "value"]
  World_init : MdD K "__init__" "World.__init__" s_World_init ["self", "rows"]
  World_getitem : Md K "__getitem__" "World.__getitem__" s_World_getitem ["self", "name"]
  Term_init : MdF K "__init__" "Term.__init__" s_Term_init
  Term_add : Md K "__add__" "Term.__add__" s_Term_add ["self", "amount"]
  Term_sub : Md K "__sub__" "Term.__sub__" s_Term_sub ["self", "amount"]
  Term_or : Md K "__or__" "Term.__or__" s_Term_or ["self", "other"]
  Term_eq : Md K "__eq__" "Term.__eq__" s_Term_eq ["self", "other"]
  Term_call : Md K "__call__" "Term.__call__" s_Term_call ["self", "world", "now"]
  Term_later : Md K "later" "Term.later" s_Term_later ["self", "other"]
  Term_earlier : Md K "earlier" "Term.earlier" s_Term_earlier ["self", "other"]
  Term_part_at : Md K "part_at" "Term.part_at" s_Term_part_at ["self", "path"]
  Term_children : Md K "children" "Term.children" s_Term_children ["self"]
  Term_form : Md K "form" "Term.form" s_Term_form ["self"]
  Term_answer_in : Md K "answer_in" "Term.answer_in" s_Term_answer_in ["self", "world", "now"]
  Now_init : MdS P K "__init__" "Now.__init__" s_Now_init c_Now Term_init.f
  Shift_init : MdS P K "__init__" "Shift.__init__" s_Shift_init c_Shift Term_init.f
  Shift_children : Md K "children" "Shift.children" s_Shift_children ["self"]
  Shift_form : Md K "form" "Shift.form" s_Shift_form ["self"]
  Shift_answer_in : Md K "answer_in" "Shift.answer_in" s_Shift_answer_in ["self", "world", "now"]
  Look_init : MdS P K "__init__" "Look.__init__" s_Look_init c_Look Term_init.f
  Look_children : Md K "children" "Look.children" s_Look_children ["self"]
  Look_form : Md K "form" "Look.form" s_Look_form ["self"]
  Look_answer_in : Md K "answer_in" "Look.answer_in" s_Look_answer_in ["self", "world", "now"]
  Pair_init : MdS P K "__init__" "Pair.__init__" s_Pair_init c_Pair Term_init.f
  Pair_children : Md K "children" "Pair.children" s_Pair_children ["self"]
  Either_form : Md K "form" "Either.form" s_Either_form ["self"]
  Either_answer_in : Md K "answer_in" "Either.answer_in" s_Either_answer_in ["self", "world", "now"]
  Later_form : Md K "form" "Later.form" s_Later_form ["self"]
  Later_answer_in : Md K "answer_in" "Later.answer_in" s_Later_answer_in ["self", "world", "now"]
  Earlier_form : Md K "form" "Earlier.form" s_Earlier_form ["self"]
  Earlier_answer_in : Md K "answer_in" "Earlier.answer_in" s_Earlier_answer_in ["self", "world", "now"]
  o_Earlier : OCls K c_Earlier
  o_Either : OCls K c_Either
  o_Later : OCls K c_Later
  o_Look : OCls K c_Look
  o_Now : OCls K c_Now
  o_Shift : OCls K c_Shift
  o_World : OCls K c_World
  mk_Earlier : Mk K c_Earlier Pair_init.f
  mk_Either : Mk K c_Either Pair_init.f
  mk_Later : Mk K c_Later Pair_init.f
  mk_Look : Mk K c_Look Look_init.f
  mk_Now : Mk K c_Now Now_init.f
  mk_Shift : Mk K c_Shift Shift_init.f
  m_Earlier_answer_in : Meth K c_Earlier "answer_in" Earlier_answer_in.f
  m_Earlier_children : Meth K c_Earlier "children" Pair_children.f
  m_Earlier_earlier : Meth K c_Earlier "earlier" Term_earlier.f
  m_Earlier_form : Meth K c_Earlier "form" Earlier_form.f
  m_Earlier_later : Meth K c_Earlier "later" Term_later.f
  m_Earlier_part_at : Meth K c_Earlier "part_at" Term_part_at.f
  m_Either_answer_in : Meth K c_Either "answer_in" Either_answer_in.f
  m_Either_children : Meth K c_Either "children" Pair_children.f
  m_Either_earlier : Meth K c_Either "earlier" Term_earlier.f
  m_Either_form : Meth K c_Either "form" Either_form.f
  m_Either_later : Meth K c_Either "later" Term_later.f
  m_Either_part_at : Meth K c_Either "part_at" Term_part_at.f
  m_Later_answer_in : Meth K c_Later "answer_in" Later_answer_in.f
  m_Later_children : Meth K c_Later "children" Pair_children.f
  m_Later_earlier : Meth K c_Later "earlier" Term_earlier.f
  m_Later_form : Meth K c_Later "form" Later_form.f
  m_Later_later : Meth K c_Later "later" Term_later.f
  m_Later_part_at : Meth K c_Later "part_at" Term_part_at.f
  m_Look_answer_in : Meth K c_Look "answer_in" Look_answer_in.f
  m_Look_children : Meth K c_Look "children" Look_children.f
  m_Look_earlier : Meth K c_Look "earlier" Term_earlier.f
  m_Look_form : Meth K c_Look "form" Look_form.f
  m_Look_later : Meth K c_Look "later" Term_later.f
  m_Look_part_at : Meth K c_Look "part_at" Term_part_at.f
  m_Now_answer_in : Meth K c_Now "answer_in" Term_answer_in.f
  m_Now_children : Meth K c_Now "children" Term_children.f
  m_Now_earlier : Meth K c_Now "earlier" Term_earlier.f
  m_Now_form : Meth K c_Now "form" Term_form.f
  m_Now_later : Meth K c_Now "later" Term_later.f
  m_Now_part_at : Meth K c_Now "part_at" Term_part_at.f
  m_Shift_answer_in : Meth K c_Shift "answer_in" Shift_answer_in.f
  m_Shift_children : Meth K c_Shift "children" Shift_children.f
  m_Shift_earlier : Meth K c_Shift "earlier" Term_earlier.f
  m_Shift_form : Meth K c_Shift "form" Shift_form.f
  m_Shift_later : Meth K c_Shift "later" Term_later.f
  m_Shift_part_at : Meth K c_Shift "part_at" Term_part_at.f
  n_Earlier_choices : NoAttr K c_Earlier "choices"
  n_Earlier_depth : NoAttr K c_Earlier "depth"
  n_Earlier_first : NoAttr K c_Earlier "first"
  n_Earlier_looks : NoAttr K c_Earlier "looks"
  n_Earlier_parts : NoAttr K c_Earlier "parts"
  n_Earlier_second : NoAttr K c_Earlier "second"
  n_Either_choices : NoAttr K c_Either "choices"
  n_Either_depth : NoAttr K c_Either "depth"
  n_Either_first : NoAttr K c_Either "first"
  n_Either_looks : NoAttr K c_Either "looks"
  n_Either_parts : NoAttr K c_Either "parts"
  n_Either_second : NoAttr K c_Either "second"
  n_Later_choices : NoAttr K c_Later "choices"
  n_Later_depth : NoAttr K c_Later "depth"
  n_Later_first : NoAttr K c_Later "first"
  n_Later_looks : NoAttr K c_Later "looks"
  n_Later_parts : NoAttr K c_Later "parts"
  n_Later_second : NoAttr K c_Later "second"
  n_Look_choices : NoAttr K c_Look "choices"
  n_Look_depth : NoAttr K c_Look "depth"
  n_Look_looks : NoAttr K c_Look "looks"
  n_Look_moment : NoAttr K c_Look "moment"
  n_Look_parts : NoAttr K c_Look "parts"
  n_Look_stream : NoAttr K c_Look "stream"
  n_Look_way : NoAttr K c_Look "way"
  n_Look_within : NoAttr K c_Look "within"
  n_Now_choices : NoAttr K c_Now "choices"
  n_Now_depth : NoAttr K c_Now "depth"
  n_Now_looks : NoAttr K c_Now "looks"
  n_Now_parts : NoAttr K c_Now "parts"
  n_Shift_amount : NoAttr K c_Shift "amount"
  n_Shift_choices : NoAttr K c_Shift "choices"
  n_Shift_depth : NoAttr K c_Shift "depth"
  n_Shift_looks : NoAttr K c_Shift "looks"
  n_Shift_moment : NoAttr K c_Shift "moment"
  n_Shift_parts : NoAttr K c_Shift "parts"
  n_World_pairs : NoAttr K c_World "pairs"
  s_Earlier_Pair : SupC K c_Earlier c_Pair Term_init.f "__init__"
  s_Either_Pair : SupC K c_Either c_Pair Term_init.f "__init__"
  s_Later_Pair : SupC K c_Later c_Pair Term_init.f "__init__"
  s_Look_Look : SupC K c_Look c_Look Term_init.f "__init__"
  s_Now_Now : SupC K c_Now c_Now Term_init.f "__init__"
  s_Shift_Shift : SupC K c_Shift c_Shift Term_init.f "__init__"
  b_Earlier_Add : BinI K c_Earlier Term_add.f .Add
  b_Either_Add : BinI K c_Either Term_add.f .Add
  b_Later_Add : BinI K c_Later Term_add.f .Add
  b_Look_Add : BinI K c_Look Term_add.f .Add
  b_Now_Add : BinI K c_Now Term_add.f .Add
  b_Shift_Add : BinI K c_Shift Term_add.f .Add
  bc_Earlier_BitOr : BinC K c_Earlier Term_or.f .BitOr
  bc_Either_BitOr : BinC K c_Either Term_or.f .BitOr
  bc_Later_BitOr : BinC K c_Later Term_or.f .BitOr
  bc_Look_BitOr : BinC K c_Look Term_or.f .BitOr
  bc_Now_BitOr : BinC K c_Now Term_or.f .BitOr
  bc_Shift_BitOr : BinC K c_Shift Term_or.f .BitOr
  sb_Earlier_Either : PySem.W.subIn K (.ref c_Earlier) (.ref c_Either) = some false
  sb_Earlier_Later : PySem.W.subIn K (.ref c_Earlier) (.ref c_Later) = some false
  sb_Earlier_Look : PySem.W.subIn K (.ref c_Earlier) (.ref c_Look) = some false
  sb_Earlier_Now : PySem.W.subIn K (.ref c_Earlier) (.ref c_Now) = some false
  sb_Earlier_Shift : PySem.W.subIn K (.ref c_Earlier) (.ref c_Shift) = some false
  sb_Either_Earlier : PySem.W.subIn K (.ref c_Either) (.ref c_Earlier) = some false
  sb_Either_Later : PySem.W.subIn K (.ref c_Either) (.ref c_Later) = some false
  sb_Either_Look : PySem.W.subIn K (.ref c_Either) (.ref c_Look) = some false
  sb_Either_Now : PySem.W.subIn K (.ref c_Either) (.ref c_Now) = some false
  sb_Either_Shift : PySem.W.subIn K (.ref c_Either) (.ref c_Shift) = some false
  sb_Later_Earlier : PySem.W.subIn K (.ref c_Later) (.ref c_Earlier) = some false
  sb_Later_Either : PySem.W.subIn K (.ref c_Later) (.ref c_Either) = some false
  sb_Later_Look : PySem.W.subIn K (.ref c_Later) (.ref c_Look) = some false
  sb_Later_Now : PySem.W.subIn K (.ref c_Later) (.ref c_Now) = some false
  sb_Later_Shift : PySem.W.subIn K (.ref c_Later) (.ref c_Shift) = some false
  sb_Look_Earlier : PySem.W.subIn K (.ref c_Look) (.ref c_Earlier) = some false
  sb_Look_Either : PySem.W.subIn K (.ref c_Look) (.ref c_Either) = some false
  sb_Look_Later : PySem.W.subIn K (.ref c_Look) (.ref c_Later) = some false
  sb_Look_Now : PySem.W.subIn K (.ref c_Look) (.ref c_Now) = some false
  sb_Look_Shift : PySem.W.subIn K (.ref c_Look) (.ref c_Shift) = some false
  sb_Now_Earlier : PySem.W.subIn K (.ref c_Now) (.ref c_Earlier) = some false
  sb_Now_Either : PySem.W.subIn K (.ref c_Now) (.ref c_Either) = some false
  sb_Now_Later : PySem.W.subIn K (.ref c_Now) (.ref c_Later) = some false
  sb_Now_Look : PySem.W.subIn K (.ref c_Now) (.ref c_Look) = some false
  sb_Now_Shift : PySem.W.subIn K (.ref c_Now) (.ref c_Shift) = some false
  sb_Shift_Earlier : PySem.W.subIn K (.ref c_Shift) (.ref c_Earlier) = some false
  sb_Shift_Either : PySem.W.subIn K (.ref c_Shift) (.ref c_Either) = some false
  sb_Shift_Later : PySem.W.subIn K (.ref c_Shift) (.ref c_Later) = some false
  sb_Shift_Look : PySem.W.subIn K (.ref c_Shift) (.ref c_Look) = some false
  sb_Shift_Now : PySem.W.subIn K (.ref c_Shift) (.ref c_Now) = some false
  gi_World : GetO K c_World World_getitem.f
  k1_Earlier_Either : PySem.W.kitOne K (.ref c_Earlier) (.ref c_Either) = some false
  k1_Earlier_Later : PySem.W.kitOne K (.ref c_Earlier) (.ref c_Later) = some false
  k1_Earlier_Look : PySem.W.kitOne K (.ref c_Earlier) (.ref c_Look) = some false
  k1_Earlier_Now : PySem.W.kitOne K (.ref c_Earlier) (.ref c_Now) = some false
  k1_Earlier_Shift : PySem.W.kitOne K (.ref c_Earlier) (.ref c_Shift) = some false
  k1_Earlier_Term : PySem.W.kitOne K (.ref c_Earlier) (.ref c_Term) = some true
  k1_Either_Either : PySem.W.kitOne K (.ref c_Either) (.ref c_Either) = some true
  k1_Either_Look : PySem.W.kitOne K (.ref c_Either) (.ref c_Look) = some false
  k1_Either_Now : PySem.W.kitOne K (.ref c_Either) (.ref c_Now) = some false
  k1_Either_Shift : PySem.W.kitOne K (.ref c_Either) (.ref c_Shift) = some false
  k1_Either_Term : PySem.W.kitOne K (.ref c_Either) (.ref c_Term) = some true
  k1_Later_Either : PySem.W.kitOne K (.ref c_Later) (.ref c_Either) = some false
  k1_Later_Later : PySem.W.kitOne K (.ref c_Later) (.ref c_Later) = some true
  k1_Later_Look : PySem.W.kitOne K (.ref c_Later) (.ref c_Look) = some false
  k1_Later_Now : PySem.W.kitOne K (.ref c_Later) (.ref c_Now) = some false
  k1_Later_Shift : PySem.W.kitOne K (.ref c_Later) (.ref c_Shift) = some false
  k1_Later_Term : PySem.W.kitOne K (.ref c_Later) (.ref c_Term) = some true
  k1_Look_Look : PySem.W.kitOne K (.ref c_Look) (.ref c_Look) = some true
  k1_Look_Now : PySem.W.kitOne K (.ref c_Look) (.ref c_Now) = some false
  k1_Look_Shift : PySem.W.kitOne K (.ref c_Look) (.ref c_Shift) = some false
  k1_Look_Term : PySem.W.kitOne K (.ref c_Look) (.ref c_Term) = some true
  k1_NoneType_Term : PySem.W.kitOne K (.type "NoneType") (.ref c_Term) = some false
  k1_Now_Look : PySem.W.kitOne K (.ref c_Now) (.ref c_Look) = some false
  k1_Now_Now : PySem.W.kitOne K (.ref c_Now) (.ref c_Now) = some true
  k1_Now_Shift : PySem.W.kitOne K (.ref c_Now) (.ref c_Shift) = some false
  k1_Now_Term : PySem.W.kitOne K (.ref c_Now) (.ref c_Term) = some true
  k1_Shift_Look : PySem.W.kitOne K (.ref c_Shift) (.ref c_Look) = some false
  k1_Shift_Now : PySem.W.kitOne K (.ref c_Shift) (.ref c_Now) = some false
  k1_Shift_Shift : PySem.W.kitOne K (.ref c_Shift) (.ref c_Shift) = some true
  k1_Shift_Term : PySem.W.kitOne K (.ref c_Shift) (.ref c_Term) = some true
  k1_World_World : PySem.W.kitOne K (.ref c_World) (.ref c_World) = some true
  k1_bool_Term : PySem.W.kitOne K (.type "bool") (.ref c_Term) = some false
  k1_int_Term : PySem.W.kitOne K (.type "int") (.ref c_Term) = some false
  k1_list_Term : PySem.W.kitOne K (.type "list") (.ref c_Term) = some false
  k1_str_Term : PySem.W.kitOne K (.type "str") (.ref c_Term) = some false
  k1_tuple_Term : PySem.W.kitOne K (.type "tuple") (.ref c_Term) = some false
  ka_Earlier_Look_Later_Earlier : PySem.W.kitAny K (.ref c_Earlier) [.ref c_Look, .ref c_Later, .ref c_Earlier] = some true
  ka_Either_Look_Later_Earlier : PySem.W.kitAny K (.ref c_Either) [.ref c_Look, .ref c_Later, .ref c_Earlier] = some false
  ka_Later_Look_Later_Earlier : PySem.W.kitAny K (.ref c_Later) [.ref c_Look, .ref c_Later, .ref c_Earlier] = some true
  ka_Look_Look_Later_Earlier : PySem.W.kitAny K (.ref c_Look) [.ref c_Look, .ref c_Later, .ref c_Earlier] = some true
  ka_Now_Look_Later_Earlier : PySem.W.kitAny K (.ref c_Now) [.ref c_Look, .ref c_Later, .ref c_Earlier] = some false
  ka_Shift_Look_Later_Earlier : PySem.W.kitAny K (.ref c_Shift) [.ref c_Look, .ref c_Later, .ref c_Earlier] = some false
  er_BadTerm : ErrC K c_BadTerm BadTerm_init.f "value"
  em_BadTerm_BadBound : PySem.W.exmOne K (.ref c_BadTerm) (.ref c_BadBound) = some false
  em_BadTerm_BadMoment : PySem.W.exmOne K (.ref c_BadTerm) (.ref c_BadMoment) = some false
  em_BadTerm_BadName : PySem.W.exmOne K (.ref c_BadTerm) (.ref c_BadName) = some false
  em_BadTerm_BadTerm : PySem.W.exmOne K (.ref c_BadTerm) (.ref c_BadTerm) = some true
  lc_law : LamD K ("law", none) "law" "law" s_law law.f law.fd
  call_Earlier : StX.CallO K c_Earlier Term_call.f
  call_Either : StX.CallO K c_Either Term_call.f
  call_Later : StX.CallO K c_Later Term_call.f
  call_Look : StX.CallO K c_Look Term_call.f
  call_Now : StX.CallO K c_Now Term_call.f
  call_Shift : StX.CallO K c_Shift Term_call.f
  n_isinstance : mg "isinstance" = none
  n_bool : mg "bool" = none
  n_int : mg "int" = none
  n_len : mg "len" = none
  n_str : mg "str" = none
  n_set : mg "set" = none
  n_list : mg "list" = none
  n_sorted : mg "sorted" = none
  n_sum : mg "sum" = none
  n_max : mg "max" = none
  n_tuple : mg "tuple" = none
  n_super : mg "super" = none
  n_min : mg "min" = none
  n_abs : mg "abs" = none
  n_range : mg "range" = none
-- BEGIN RUN
def loose : List Str := (["_wall", "PastError", "BadName", "BadMoment", "BadBound", "BadTerm", "BadWay", "BadPath", "BadWorld", "BadRows", "BadFact", "BadText", "Unknown", "TooMany", "NoPaper", "Unlike", "NotCovered", "NotMost", "NotSettled", "LETTERS", "is_integer", "is_from_zero", "is_name", "check_name", "check_moment", "check_bound", "check_limit", "check_rows", "MOST_ROWS", "limited"] : List Str) ++ (["checked_pairs", "joined", "grouped", "World", "check_world", "WAYS", "DEEPEST", "MOST_PARTS", "MOST_LOOKS", "Term", "Now", "Shift", "Look", "Pair", "Either", "Later", "Earlier", "shifted", "fits", "looked_up", "check_term", "LARGEST", "spelled_number", "spelled_look", "spelled_part", "spelled", "_law_open", "_law_pick", "_law_number", "_law_limit"] : List Str) ++ (["_law_names", "_law_shift", "_law_tree", "_law_term", "_law_children", "_law_paths", "_law_part", "_law_refusal", "_law_equal", "_law_written"] : List Str)
def fns : List ObD := [⟨("is_integer", none), "is_integer", "is_integer", s_is_integer, []⟩,
  ⟨("is_from_zero", none), "is_from_zero", "is_from_zero", s_is_from_zero, []⟩,
  ⟨("is_name", none), "is_name", "is_name", s_is_name, []⟩,
  ⟨("check_name", none), "check_name", "check_name", s_check_name, []⟩,
  ⟨("check_moment", none), "check_moment", "check_moment", s_check_moment, []⟩,
  ⟨("check_bound", none), "check_bound", "check_bound", s_check_bound, []⟩,
  ⟨("check_limit", none), "check_limit", "check_limit", s_check_limit, []⟩,
  ⟨("check_rows", none), "check_rows", "check_rows", s_check_rows, []⟩,
  ⟨("limited", none), "limited", "limited", s_limited, []⟩,
  ⟨("checked_pairs", none), "checked_pairs", "checked_pairs", s_checked_pairs, []⟩,
  ⟨("check_world", none), "check_world", "check_world", s_check_world, []⟩,
  ⟨("shifted", none), "shifted", "shifted", s_shifted, []⟩,
  ⟨("fits", none), "fits", "fits", s_fits, []⟩,
  ⟨("looked_up", none), "looked_up", "looked_up", s_looked_up, []⟩,
  ⟨("check_term", none), "check_term", "check_term", s_check_term, []⟩,
  ⟨("spelled_number", none), "spelled_number", "spelled_number", s_spelled_number, []⟩,
  ⟨("spelled_look", none), "spelled_look", "spelled_look", s_spelled_look, []⟩,
  ⟨("spelled_part", none), "spelled_part", "spelled_part", s_spelled_part, []⟩,
  ⟨("spelled", none), "spelled", "spelled", s_spelled, []⟩,
  ⟨("_law_open", none), "_law_open", "_law_open", s_law_open, []⟩,
  ⟨("_law_pick", none), "_law_pick", "_law_pick", s_law_pick, []⟩,
  ⟨("_law_number", none), "_law_number", "_law_number", s_law_number, []⟩,
  ⟨("_law_limit", none), "_law_limit", "_law_limit", s_law_limit, []⟩,
  ⟨("_law_names", none), "_law_names", "_law_names", s_law_names, []⟩,
  ⟨("_law_shift", none), "_law_shift", "_law_shift", s_law_shift, []⟩,
  ⟨("_law_tree", none), "_law_tree", "_law_tree", s_law_tree, []⟩,
  ⟨("_law_term", none), "_law_term", "_law_term", s_law_term, []⟩,
  ⟨("_law_children", none), "_law_children", "_law_children", s_law_children, []⟩,
  ⟨("_law_paths", none), "_law_paths", "_law_paths", s_law_paths, []⟩,
  ⟨("_law_part", none), "_law_part", "_law_part", s_law_part, []⟩,
  ⟨("_law_refusal", none), "_law_refusal", "_law_refusal", s_law_refusal, []⟩,
  ⟨("_law_equal", none), "_law_equal", "_law_equal", s_law_equal, []⟩,
  ⟨("_law_written", none), "_law_written", "_law_written", s_law_written, []⟩,
  ⟨("law", none), "law", "law", s_law, []⟩,
  ⟨("BadTerm", some "__init__"), "__init__", "BadTerm.__init__", s_BadTerm_init, []⟩,
  ⟨("World", some "__init__"), "__init__", "World.__init__", s_World_init, []⟩,
  ⟨("World", some "__getitem__"), "__getitem__", "World.__getitem__", s_World_getitem, []⟩,
  ⟨("Term", some "__init__"), "__init__", "Term.__init__", s_Term_init, []⟩,
  ⟨("Term", some "__add__"), "__add__", "Term.__add__", s_Term_add, []⟩,
  ⟨("Term", some "__sub__"), "__sub__", "Term.__sub__", s_Term_sub, []⟩,
  ⟨("Term", some "__or__"), "__or__", "Term.__or__", s_Term_or, []⟩,
  ⟨("Term", some "__eq__"), "__eq__", "Term.__eq__", s_Term_eq, []⟩,
  ⟨("Term", some "__call__"), "__call__", "Term.__call__", s_Term_call, []⟩,
  ⟨("Term", some "later"), "later", "Term.later", s_Term_later, []⟩,
  ⟨("Term", some "earlier"), "earlier", "Term.earlier", s_Term_earlier, []⟩,
  ⟨("Term", some "part_at"), "part_at", "Term.part_at", s_Term_part_at, []⟩,
  ⟨("Term", some "children"), "children", "Term.children", s_Term_children, []⟩,
  ⟨("Term", some "form"), "form", "Term.form", s_Term_form, []⟩,
  ⟨("Term", some "answer_in"), "answer_in", "Term.answer_in", s_Term_answer_in, []⟩,
  ⟨("Now", some "__init__"), "__init__", "Now.__init__", s_Now_init, [("__class__" : Str)]⟩,
  ⟨("Shift", some "__init__"), "__init__", "Shift.__init__", s_Shift_init, [("__class__" : Str)]⟩,
  ⟨("Shift", some "children"), "children", "Shift.children", s_Shift_children, []⟩,
  ⟨("Shift", some "form"), "form", "Shift.form", s_Shift_form, []⟩,
  ⟨("Shift", some "answer_in"), "answer_in", "Shift.answer_in", s_Shift_answer_in, []⟩,
  ⟨("Look", some "__init__"), "__init__", "Look.__init__", s_Look_init, [("__class__" : Str)]⟩,
  ⟨("Look", some "children"), "children", "Look.children", s_Look_children, []⟩,
  ⟨("Look", some "form"), "form", "Look.form", s_Look_form, []⟩,
  ⟨("Look", some "answer_in"), "answer_in", "Look.answer_in", s_Look_answer_in, []⟩,
  ⟨("Pair", some "__init__"), "__init__", "Pair.__init__", s_Pair_init, [("__class__" : Str)]⟩,
  ⟨("Pair", some "children"), "children", "Pair.children", s_Pair_children, []⟩,
  ⟨("Either", some "form"), "form", "Either.form", s_Either_form, []⟩,
  ⟨("Either", some "answer_in"), "answer_in", "Either.answer_in", s_Either_answer_in, []⟩,
  ⟨("Later", some "form"), "form", "Later.form", s_Later_form, []⟩,
  ⟨("Later", some "answer_in"), "answer_in", "Later.answer_in", s_Later_answer_in, []⟩,
  ⟨("Earlier", some "form"), "form", "Earlier.form", s_Earlier_form, []⟩,
  ⟨("Earlier", some "answer_in"), "answer_in", "Earlier.answer_in", s_Earlier_answer_in, []⟩]
def cks0 : List (PySem.W.Frag → Bool) := [fun K => He.eqO (PySem.W.nsIn K mainGlobals "BadName") (some (some (.ref (He.ga K "BadName")))),
  fun K => He.eqO (PySem.W.nsIn K mainGlobals "BadMoment") (some (some (.ref (He.ga K "BadMoment")))),
  fun K => He.eqO (PySem.W.nsIn K mainGlobals "BadBound") (some (some (.ref (He.ga K "BadBound")))),
  fun K => He.eqO (PySem.W.nsIn K mainGlobals "BadTerm") (some (some (.ref (He.ga K "BadTerm")))),
  fun K => He.eqO (PySem.W.nsIn K mainGlobals "BadWay") (some (some (.ref (He.ga K "BadWay")))),
  fun K => He.eqO (PySem.W.nsIn K mainGlobals "BadPath") (some (some (.ref (He.ga K "BadPath")))),
  fun K => He.eqO (PySem.W.nsIn K mainGlobals "BadWorld") (some (some (.ref (He.ga K "BadWorld")))),
  fun K => He.eqO (PySem.W.nsIn K mainGlobals "BadRows") (some (some (.ref (He.ga K "BadRows")))),
  fun K => He.eqO (PySem.W.nsIn K mainGlobals "BadFact") (some (some (.ref (He.ga K "BadFact")))),
  fun K => He.eqO (PySem.W.nsIn K mainGlobals "BadText") (some (some (.ref (He.ga K "BadText")))),
  fun K => He.eqO (PySem.W.nsIn K mainGlobals "Unknown") (some (some (.ref (He.ga K "Unknown")))),
  fun K => He.eqO (PySem.W.nsIn K mainGlobals "TooMany") (some (some (.ref (He.ga K "TooMany")))),
  fun K => He.eqO (PySem.W.nsIn K mainGlobals "Unlike") (some (some (.ref (He.ga K "Unlike")))),
  fun K => He.eqO (PySem.W.nsIn K mainGlobals "NotCovered") (some (some (.ref (He.ga K "NotCovered")))),
  fun K => He.eqO (PySem.W.nsIn K mainGlobals "NotMost") (some (some (.ref (He.ga K "NotMost")))),
  fun K => He.eqO (PySem.W.nsIn K mainGlobals "NotSettled") (some (some (.ref (He.ga K "NotSettled")))),
  fun K => He.eqO (PySem.W.nsIn K mainGlobals "World") (some (some (.ref (He.ga K "World")))),
  fun K => He.eqO (PySem.W.nsIn K mainGlobals "Term") (some (some (.ref (He.ga K "Term")))),
  fun K => He.eqO (PySem.W.nsIn K mainGlobals "Now") (some (some (.ref (He.ga K "Now")))),
  fun K => He.eqO (PySem.W.nsIn K mainGlobals "Shift") (some (some (.ref (He.ga K "Shift")))),
  fun K => He.eqO (PySem.W.nsIn K mainGlobals "Look") (some (some (.ref (He.ga K "Look")))),
  fun K => He.eqO (PySem.W.nsIn K mainGlobals "Pair") (some (some (.ref (He.ga K "Pair")))),
  fun K => He.eqO (PySem.W.nsIn K mainGlobals "Either") (some (some (.ref (He.ga K "Either")))),
  fun K => He.eqO (PySem.W.nsIn K mainGlobals "Later") (some (some (.ref (He.ga K "Later")))),
  fun K => He.eqO (PySem.W.nsIn K mainGlobals "Earlier") (some (some (.ref (He.ga K "Earlier")))),
  fun K => He.eqO (PySem.W.nsIn K mainGlobals "WAYS") (some (some (.ref (He.ga K "WAYS")))),
  fun K => He.tupB K "WAYS" [.str "at", .str "before", .str "since", .str "after"],
  fun K => (He.Fa.int "DEEPEST" 12).ok K,
  fun K => (He.Fa.int "LARGEST" 1000000000000000000000000000000000000000000000000000000000000).ok K,
  fun K => (He.Fa.str "LETTERS" "abcdefghijklmnopqrstuvwxyz").ok K,
  fun K => (He.Fa.int "MOST_LOOKS" 12).ok K,
  fun K => (He.Fa.int "MOST_PARTS" 40).ok K,
  fun K => (He.Fa.int "MOST_ROWS" 300).ok K,
  fun K => plB ("is_integer", none) "is_integer" K,
  fun K => He.eqO (PySem.W.nsIn K mainGlobals "is_integer") (some (some (.ref (He.ga K "is_integer")))),
  fun K => plB ("is_from_zero", none) "is_from_zero" K,
  fun K => He.eqO (PySem.W.nsIn K mainGlobals "is_from_zero") (some (some (.ref (He.ga K "is_from_zero")))),
  fun K => plB ("is_name", none) "is_name" K,
  fun K => He.eqO (PySem.W.nsIn K mainGlobals "is_name") (some (some (.ref (He.ga K "is_name")))),
  fun K => plB ("check_name", none) "check_name" K,
  fun K => He.eqO (PySem.W.nsIn K mainGlobals "check_name") (some (some (.ref (He.ga K "check_name")))),
  fun K => plB ("check_moment", none) "check_moment" K,
  fun K => He.eqO (PySem.W.nsIn K mainGlobals "check_moment") (some (some (.ref (He.ga K "check_moment")))),
  fun K => plB ("check_bound", none) "check_bound" K,
  fun K => He.eqO (PySem.W.nsIn K mainGlobals "check_bound") (some (some (.ref (He.ga K "check_bound")))),
  fun K => plB ("check_limit", none) "check_limit" K,
  fun K => He.eqO (PySem.W.nsIn K mainGlobals "check_limit") (some (some (.ref (He.ga K "check_limit")))),
  fun K => plB ("check_rows", none) "check_rows" K,
  fun K => He.eqO (PySem.W.nsIn K mainGlobals "check_rows") (some (some (.ref (He.ga K "check_rows")))),
  fun K => plB ("limited", none) "limited" K,
  fun K => He.eqO (PySem.W.nsIn K mainGlobals "limited") (some (some (.ref (He.ga K "limited")))),
  fun K => plB ("checked_pairs", none) "checked_pairs" K,
  fun K => He.eqO (PySem.W.nsIn K mainGlobals "checked_pairs") (some (some (.ref (He.ga K "checked_pairs")))),
  fun K => plB ("check_world", none) "check_world" K,
  fun K => He.eqO (PySem.W.nsIn K mainGlobals "check_world") (some (some (.ref (He.ga K "check_world")))),
  fun K => plB ("shifted", none) "shifted" K,
  fun K => He.eqO (PySem.W.nsIn K mainGlobals "shifted") (some (some (.ref (He.ga K "shifted")))),
  fun K => plB ("fits", none) "fits" K,
  fun K => He.eqO (PySem.W.nsIn K mainGlobals "fits") (some (some (.ref (He.ga K "fits")))),
  fun K => plB ("looked_up", none) "looked_up" K]
def cks1 : List (PySem.W.Frag → Bool) := [fun K => He.eqO (PySem.W.nsIn K mainGlobals "looked_up") (some (some (.ref (He.ga K "looked_up")))),
  fun K => plB ("check_term", none) "check_term" K,
  fun K => He.eqO (PySem.W.nsIn K mainGlobals "check_term") (some (some (.ref (He.ga K "check_term")))),
  fun K => plB ("spelled_number", none) "spelled_number" K,
  fun K => He.eqO (PySem.W.nsIn K mainGlobals "spelled_number") (some (some (.ref (He.ga K "spelled_number")))),
  fun K => plB ("spelled_look", none) "spelled_look" K,
  fun K => He.eqO (PySem.W.nsIn K mainGlobals "spelled_look") (some (some (.ref (He.ga K "spelled_look")))),
  fun K => plB ("spelled_part", none) "spelled_part" K,
  fun K => He.eqO (PySem.W.nsIn K mainGlobals "spelled_part") (some (some (.ref (He.ga K "spelled_part")))),
  fun K => plB ("spelled", none) "spelled" K,
  fun K => He.eqO (PySem.W.nsIn K mainGlobals "spelled") (some (some (.ref (He.ga K "spelled")))),
  fun K => plB ("_law_open", none) "_law_open" K,
  fun K => He.eqO (PySem.W.nsIn K mainGlobals "_law_open") (some (some (.ref (He.ga K "_law_open")))),
  fun K => plB ("_law_pick", none) "_law_pick" K,
  fun K => He.eqO (PySem.W.nsIn K mainGlobals "_law_pick") (some (some (.ref (He.ga K "_law_pick")))),
  fun K => plB ("_law_number", none) "_law_number" K,
  fun K => He.eqO (PySem.W.nsIn K mainGlobals "_law_number") (some (some (.ref (He.ga K "_law_number")))),
  fun K => plB ("_law_limit", none) "_law_limit" K,
  fun K => He.eqO (PySem.W.nsIn K mainGlobals "_law_limit") (some (some (.ref (He.ga K "_law_limit")))),
  fun K => plB ("_law_names", none) "_law_names" K,
  fun K => He.eqO (PySem.W.nsIn K mainGlobals "_law_names") (some (some (.ref (He.ga K "_law_names")))),
  fun K => plB ("_law_shift", none) "_law_shift" K,
  fun K => He.eqO (PySem.W.nsIn K mainGlobals "_law_shift") (some (some (.ref (He.ga K "_law_shift")))),
  fun K => plB ("_law_tree", none) "_law_tree" K,
  fun K => He.eqO (PySem.W.nsIn K mainGlobals "_law_tree") (some (some (.ref (He.ga K "_law_tree")))),
  fun K => plB ("_law_term", none) "_law_term" K,
  fun K => He.eqO (PySem.W.nsIn K mainGlobals "_law_term") (some (some (.ref (He.ga K "_law_term")))),
  fun K => plB ("_law_children", none) "_law_children" K,
  fun K => He.eqO (PySem.W.nsIn K mainGlobals "_law_children") (some (some (.ref (He.ga K "_law_children")))),
  fun K => plB ("_law_paths", none) "_law_paths" K,
  fun K => He.eqO (PySem.W.nsIn K mainGlobals "_law_paths") (some (some (.ref (He.ga K "_law_paths")))),
  fun K => plB ("_law_part", none) "_law_part" K,
  fun K => He.eqO (PySem.W.nsIn K mainGlobals "_law_part") (some (some (.ref (He.ga K "_law_part")))),
  fun K => plB ("_law_refusal", none) "_law_refusal" K,
  fun K => He.eqO (PySem.W.nsIn K mainGlobals "_law_refusal") (some (some (.ref (He.ga K "_law_refusal")))),
  fun K => plB ("_law_equal", none) "_law_equal" K,
  fun K => He.eqO (PySem.W.nsIn K mainGlobals "_law_equal") (some (some (.ref (He.ga K "_law_equal")))),
  fun K => plB ("_law_written", none) "_law_written" K,
  fun K => He.eqO (PySem.W.nsIn K mainGlobals "_law_written") (some (some (.ref (He.ga K "_law_written")))),
  fun K => plB ("law", none) "law" K,
  fun K => He.eqO (PySem.W.nsIn K mainGlobals "law") (some (some (.ref (He.ga K "law")))),
  fun K => plB ("BadTerm", some "__init__") "BadTerm.__init__" K,
  fun K => dfB ("World", some "__init__") "World.__init__" K,
  fun K => plB ("World", some "__getitem__") "World.__getitem__" K,
  fun K => plB ("Term", some "__init__") "Term.__init__" K,
  fun K => plB ("Term", some "__add__") "Term.__add__" K,
  fun K => plB ("Term", some "__sub__") "Term.__sub__" K,
  fun K => plB ("Term", some "__or__") "Term.__or__" K,
  fun K => plB ("Term", some "__eq__") "Term.__eq__" K,
  fun K => plB ("Term", some "__call__") "Term.__call__" K,
  fun K => plB ("Term", some "later") "Term.later" K,
  fun K => plB ("Term", some "earlier") "Term.earlier" K,
  fun K => plB ("Term", some "part_at") "Term.part_at" K,
  fun K => plB ("Term", some "children") "Term.children" K,
  fun K => plB ("Term", some "form") "Term.form" K,
  fun K => plB ("Term", some "answer_in") "Term.answer_in" K,
  fun K => supB ("Now", some "__init__") "Now.__init__" "Now" fileS K,
  fun K => (PySem.W.clsIn K (He.ga K "Now")).isSome,
  fun K => He.eqO (PySem.W.nsIn K mainGlobals "super") (some none),
  fun K => He.eqO (PySem.W.nsIn K cStatics "thirdparty.any") (some none)]
def cks2 : List (PySem.W.Frag → Bool) := [fun K => decide (PySem.W.typeIn K (.ref (He.fAd K ("Term", some "__init__"))) = some (.type "function")),
  fun K => PySem.W.fnIn K (He.fAd K ("Term", some "__init__")),
  fun K => supB ("Shift", some "__init__") "Shift.__init__" "Shift" fileS K,
  fun K => (PySem.W.clsIn K (He.ga K "Shift")).isSome,
  fun K => plB ("Shift", some "children") "Shift.children" K,
  fun K => plB ("Shift", some "form") "Shift.form" K,
  fun K => plB ("Shift", some "answer_in") "Shift.answer_in" K,
  fun K => supB ("Look", some "__init__") "Look.__init__" "Look" fileS K,
  fun K => (PySem.W.clsIn K (He.ga K "Look")).isSome,
  fun K => plB ("Look", some "children") "Look.children" K,
  fun K => plB ("Look", some "form") "Look.form" K,
  fun K => plB ("Look", some "answer_in") "Look.answer_in" K,
  fun K => supB ("Pair", some "__init__") "Pair.__init__" "Pair" fileS K,
  fun K => (PySem.W.clsIn K (He.ga K "Pair")).isSome,
  fun K => plB ("Pair", some "children") "Pair.children" K,
  fun K => plB ("Either", some "form") "Either.form" K,
  fun K => plB ("Either", some "answer_in") "Either.answer_in" K,
  fun K => plB ("Later", some "form") "Later.form" K,
  fun K => plB ("Later", some "answer_in") "Later.answer_in" K,
  fun K => plB ("Earlier", some "form") "Earlier.form" K,
  fun K => plB ("Earlier", some "answer_in") "Earlier.answer_in" K,
  fun K => PySem.W.plainGet K (He.ga K "Earlier") Str.empty,
  fun K => PySem.W.hasDictIn K (He.ga K "Earlier"),
  fun K => PySem.W.plainOver K (He.ga K "Earlier"),
  fun K => He.eqO (PySem.W.findIn K (.ref (He.ga K "Earlier")) "__setattr__") (some (some (.builtin "object.__setattr__"))),
  fun K => He.eqO (PySem.W.findIn K (.ref (He.ga K "Earlier")) "__class__") (some (some (.builtin "object.__class__"))),
  fun K => He.eqO (PySem.W.specialIn K (.builtin "object.__class__") "__get__") (some (some (.builtin "getset_descriptor.__get__"))),
  fun K => eqB (PySem.W.takesIn K (.builtin "object.__class__")) (some true),
  fun K => eqB (PySem.W.mroIn K (He.ga K "Earlier") (.type "object")) (some true),
  fun K => PySem.W.plainGet K (He.ga K "Either") Str.empty,
  fun K => PySem.W.hasDictIn K (He.ga K "Either"),
  fun K => PySem.W.plainOver K (He.ga K "Either"),
  fun K => He.eqO (PySem.W.findIn K (.ref (He.ga K "Either")) "__setattr__") (some (some (.builtin "object.__setattr__"))),
  fun K => He.eqO (PySem.W.findIn K (.ref (He.ga K "Either")) "__class__") (some (some (.builtin "object.__class__"))),
  fun K => eqB (PySem.W.mroIn K (He.ga K "Either") (.type "object")) (some true),
  fun K => PySem.W.plainGet K (He.ga K "Later") Str.empty,
  fun K => PySem.W.hasDictIn K (He.ga K "Later"),
  fun K => PySem.W.plainOver K (He.ga K "Later"),
  fun K => He.eqO (PySem.W.findIn K (.ref (He.ga K "Later")) "__setattr__") (some (some (.builtin "object.__setattr__"))),
  fun K => He.eqO (PySem.W.findIn K (.ref (He.ga K "Later")) "__class__") (some (some (.builtin "object.__class__"))),
  fun K => eqB (PySem.W.mroIn K (He.ga K "Later") (.type "object")) (some true),
  fun K => PySem.W.plainGet K (He.ga K "Look") Str.empty,
  fun K => PySem.W.hasDictIn K (He.ga K "Look"),
  fun K => PySem.W.plainOver K (He.ga K "Look"),
  fun K => He.eqO (PySem.W.findIn K (.ref (He.ga K "Look")) "__setattr__") (some (some (.builtin "object.__setattr__"))),
  fun K => He.eqO (PySem.W.findIn K (.ref (He.ga K "Look")) "__class__") (some (some (.builtin "object.__class__"))),
  fun K => eqB (PySem.W.mroIn K (He.ga K "Look") (.type "object")) (some true),
  fun K => PySem.W.plainGet K (He.ga K "Now") Str.empty,
  fun K => PySem.W.hasDictIn K (He.ga K "Now"),
  fun K => PySem.W.plainOver K (He.ga K "Now"),
  fun K => He.eqO (PySem.W.findIn K (.ref (He.ga K "Now")) "__setattr__") (some (some (.builtin "object.__setattr__"))),
  fun K => He.eqO (PySem.W.findIn K (.ref (He.ga K "Now")) "__class__") (some (some (.builtin "object.__class__"))),
  fun K => eqB (PySem.W.mroIn K (He.ga K "Now") (.type "object")) (some true),
  fun K => PySem.W.plainGet K (He.ga K "Shift") Str.empty,
  fun K => PySem.W.hasDictIn K (He.ga K "Shift"),
  fun K => PySem.W.plainOver K (He.ga K "Shift"),
  fun K => He.eqO (PySem.W.findIn K (.ref (He.ga K "Shift")) "__setattr__") (some (some (.builtin "object.__setattr__"))),
  fun K => He.eqO (PySem.W.findIn K (.ref (He.ga K "Shift")) "__class__") (some (some (.builtin "object.__class__"))),
  fun K => eqB (PySem.W.mroIn K (He.ga K "Shift") (.type "object")) (some true),
  fun K => PySem.W.plainGet K (He.ga K "World") Str.empty]
def cks3 : List (PySem.W.Frag → Bool) := [fun K => PySem.W.hasDictIn K (He.ga K "World"),
  fun K => PySem.W.plainOver K (He.ga K "World"),
  fun K => He.eqO (PySem.W.findIn K (.ref (He.ga K "World")) "__setattr__") (some (some (.builtin "object.__setattr__"))),
  fun K => He.eqO (PySem.W.findIn K (.ref (He.ga K "World")) "__class__") (some (some (.builtin "object.__class__"))),
  fun K => eqB (PySem.W.mroIn K (He.ga K "World") (.type "object")) (some true),
  fun K => PySem.W.makesIn K (He.ga K "Earlier"),
  fun K => He.eqO (PySem.W.findIn K (.ref (He.ga K "Earlier")) "__init__") (some (some (.ref (He.fAd K ("Pair", some "__init__"))))),
  fun K => PySem.W.isFn K (.ref (He.fAd K ("Pair", some "__init__"))),
  fun K => PySem.W.keepIn K (.ref (He.ga K "Earlier")),
  fun K => PySem.W.makesIn K (He.ga K "Either"),
  fun K => He.eqO (PySem.W.findIn K (.ref (He.ga K "Either")) "__init__") (some (some (.ref (He.fAd K ("Pair", some "__init__"))))),
  fun K => PySem.W.keepIn K (.ref (He.ga K "Either")),
  fun K => PySem.W.makesIn K (He.ga K "Later"),
  fun K => He.eqO (PySem.W.findIn K (.ref (He.ga K "Later")) "__init__") (some (some (.ref (He.fAd K ("Pair", some "__init__"))))),
  fun K => PySem.W.keepIn K (.ref (He.ga K "Later")),
  fun K => PySem.W.makesIn K (He.ga K "Look"),
  fun K => He.eqO (PySem.W.findIn K (.ref (He.ga K "Look")) "__init__") (some (some (.ref (He.fAd K ("Look", some "__init__"))))),
  fun K => PySem.W.isFn K (.ref (He.fAd K ("Look", some "__init__"))),
  fun K => PySem.W.keepIn K (.ref (He.ga K "Look")),
  fun K => PySem.W.makesIn K (He.ga K "Now"),
  fun K => He.eqO (PySem.W.findIn K (.ref (He.ga K "Now")) "__init__") (some (some (.ref (He.fAd K ("Now", some "__init__"))))),
  fun K => PySem.W.isFn K (.ref (He.fAd K ("Now", some "__init__"))),
  fun K => PySem.W.keepIn K (.ref (He.ga K "Now")),
  fun K => PySem.W.makesIn K (He.ga K "Shift"),
  fun K => He.eqO (PySem.W.findIn K (.ref (He.ga K "Shift")) "__init__") (some (some (.ref (He.fAd K ("Shift", some "__init__"))))),
  fun K => PySem.W.isFn K (.ref (He.fAd K ("Shift", some "__init__"))),
  fun K => PySem.W.keepIn K (.ref (He.ga K "Shift")),
  fun K => He.eqO (PySem.W.findIn K (.ref (He.ga K "Earlier")) "answer_in") (some (some (.ref (He.fAd K ("Earlier", some "answer_in"))))),
  fun K => PySem.W.isFn K (.ref (He.fAd K ("Earlier", some "answer_in"))),
  fun K => PySem.W.keepIn K (.ref (He.fAd K ("Earlier", some "answer_in"))),
  fun K => He.eqO (PySem.W.findIn K (.ref (He.ga K "Earlier")) "children") (some (some (.ref (He.fAd K ("Pair", some "children"))))),
  fun K => PySem.W.isFn K (.ref (He.fAd K ("Pair", some "children"))),
  fun K => PySem.W.keepIn K (.ref (He.fAd K ("Pair", some "children"))),
  fun K => He.eqO (PySem.W.findIn K (.ref (He.ga K "Earlier")) "earlier") (some (some (.ref (He.fAd K ("Term", some "earlier"))))),
  fun K => PySem.W.isFn K (.ref (He.fAd K ("Term", some "earlier"))),
  fun K => PySem.W.keepIn K (.ref (He.fAd K ("Term", some "earlier"))),
  fun K => He.eqO (PySem.W.findIn K (.ref (He.ga K "Earlier")) "form") (some (some (.ref (He.fAd K ("Earlier", some "form"))))),
  fun K => PySem.W.isFn K (.ref (He.fAd K ("Earlier", some "form"))),
  fun K => PySem.W.keepIn K (.ref (He.fAd K ("Earlier", some "form"))),
  fun K => He.eqO (PySem.W.findIn K (.ref (He.ga K "Earlier")) "later") (some (some (.ref (He.fAd K ("Term", some "later"))))),
  fun K => PySem.W.isFn K (.ref (He.fAd K ("Term", some "later"))),
  fun K => PySem.W.keepIn K (.ref (He.fAd K ("Term", some "later"))),
  fun K => He.eqO (PySem.W.findIn K (.ref (He.ga K "Earlier")) "part_at") (some (some (.ref (He.fAd K ("Term", some "part_at"))))),
  fun K => PySem.W.isFn K (.ref (He.fAd K ("Term", some "part_at"))),
  fun K => PySem.W.keepIn K (.ref (He.fAd K ("Term", some "part_at"))),
  fun K => He.eqO (PySem.W.findIn K (.ref (He.ga K "Either")) "answer_in") (some (some (.ref (He.fAd K ("Either", some "answer_in"))))),
  fun K => PySem.W.isFn K (.ref (He.fAd K ("Either", some "answer_in"))),
  fun K => PySem.W.keepIn K (.ref (He.fAd K ("Either", some "answer_in"))),
  fun K => He.eqO (PySem.W.findIn K (.ref (He.ga K "Either")) "children") (some (some (.ref (He.fAd K ("Pair", some "children"))))),
  fun K => He.eqO (PySem.W.findIn K (.ref (He.ga K "Either")) "earlier") (some (some (.ref (He.fAd K ("Term", some "earlier"))))),
  fun K => He.eqO (PySem.W.findIn K (.ref (He.ga K "Either")) "form") (some (some (.ref (He.fAd K ("Either", some "form"))))),
  fun K => PySem.W.isFn K (.ref (He.fAd K ("Either", some "form"))),
  fun K => PySem.W.keepIn K (.ref (He.fAd K ("Either", some "form"))),
  fun K => He.eqO (PySem.W.findIn K (.ref (He.ga K "Either")) "later") (some (some (.ref (He.fAd K ("Term", some "later"))))),
  fun K => He.eqO (PySem.W.findIn K (.ref (He.ga K "Either")) "part_at") (some (some (.ref (He.fAd K ("Term", some "part_at"))))),
  fun K => He.eqO (PySem.W.findIn K (.ref (He.ga K "Later")) "answer_in") (some (some (.ref (He.fAd K ("Later", some "answer_in"))))),
  fun K => PySem.W.isFn K (.ref (He.fAd K ("Later", some "answer_in"))),
  fun K => PySem.W.keepIn K (.ref (He.fAd K ("Later", some "answer_in"))),
  fun K => He.eqO (PySem.W.findIn K (.ref (He.ga K "Later")) "children") (some (some (.ref (He.fAd K ("Pair", some "children"))))),
  fun K => He.eqO (PySem.W.findIn K (.ref (He.ga K "Later")) "earlier") (some (some (.ref (He.fAd K ("Term", some "earlier")))))]
def cks4 : List (PySem.W.Frag → Bool) := [fun K => He.eqO (PySem.W.findIn K (.ref (He.ga K "Later")) "form") (some (some (.ref (He.fAd K ("Later", some "form"))))),
  fun K => PySem.W.isFn K (.ref (He.fAd K ("Later", some "form"))),
  fun K => PySem.W.keepIn K (.ref (He.fAd K ("Later", some "form"))),
  fun K => He.eqO (PySem.W.findIn K (.ref (He.ga K "Later")) "later") (some (some (.ref (He.fAd K ("Term", some "later"))))),
  fun K => He.eqO (PySem.W.findIn K (.ref (He.ga K "Later")) "part_at") (some (some (.ref (He.fAd K ("Term", some "part_at"))))),
  fun K => He.eqO (PySem.W.findIn K (.ref (He.ga K "Look")) "answer_in") (some (some (.ref (He.fAd K ("Look", some "answer_in"))))),
  fun K => PySem.W.isFn K (.ref (He.fAd K ("Look", some "answer_in"))),
  fun K => PySem.W.keepIn K (.ref (He.fAd K ("Look", some "answer_in"))),
  fun K => He.eqO (PySem.W.findIn K (.ref (He.ga K "Look")) "children") (some (some (.ref (He.fAd K ("Look", some "children"))))),
  fun K => PySem.W.isFn K (.ref (He.fAd K ("Look", some "children"))),
  fun K => PySem.W.keepIn K (.ref (He.fAd K ("Look", some "children"))),
  fun K => He.eqO (PySem.W.findIn K (.ref (He.ga K "Look")) "earlier") (some (some (.ref (He.fAd K ("Term", some "earlier"))))),
  fun K => He.eqO (PySem.W.findIn K (.ref (He.ga K "Look")) "form") (some (some (.ref (He.fAd K ("Look", some "form"))))),
  fun K => PySem.W.isFn K (.ref (He.fAd K ("Look", some "form"))),
  fun K => PySem.W.keepIn K (.ref (He.fAd K ("Look", some "form"))),
  fun K => He.eqO (PySem.W.findIn K (.ref (He.ga K "Look")) "later") (some (some (.ref (He.fAd K ("Term", some "later"))))),
  fun K => He.eqO (PySem.W.findIn K (.ref (He.ga K "Look")) "part_at") (some (some (.ref (He.fAd K ("Term", some "part_at"))))),
  fun K => He.eqO (PySem.W.findIn K (.ref (He.ga K "Now")) "answer_in") (some (some (.ref (He.fAd K ("Term", some "answer_in"))))),
  fun K => PySem.W.isFn K (.ref (He.fAd K ("Term", some "answer_in"))),
  fun K => PySem.W.keepIn K (.ref (He.fAd K ("Term", some "answer_in"))),
  fun K => He.eqO (PySem.W.findIn K (.ref (He.ga K "Now")) "children") (some (some (.ref (He.fAd K ("Term", some "children"))))),
  fun K => PySem.W.isFn K (.ref (He.fAd K ("Term", some "children"))),
  fun K => PySem.W.keepIn K (.ref (He.fAd K ("Term", some "children"))),
  fun K => He.eqO (PySem.W.findIn K (.ref (He.ga K "Now")) "earlier") (some (some (.ref (He.fAd K ("Term", some "earlier"))))),
  fun K => He.eqO (PySem.W.findIn K (.ref (He.ga K "Now")) "form") (some (some (.ref (He.fAd K ("Term", some "form"))))),
  fun K => PySem.W.isFn K (.ref (He.fAd K ("Term", some "form"))),
  fun K => PySem.W.keepIn K (.ref (He.fAd K ("Term", some "form"))),
  fun K => He.eqO (PySem.W.findIn K (.ref (He.ga K "Now")) "later") (some (some (.ref (He.fAd K ("Term", some "later"))))),
  fun K => He.eqO (PySem.W.findIn K (.ref (He.ga K "Now")) "part_at") (some (some (.ref (He.fAd K ("Term", some "part_at"))))),
  fun K => He.eqO (PySem.W.findIn K (.ref (He.ga K "Shift")) "answer_in") (some (some (.ref (He.fAd K ("Shift", some "answer_in"))))),
  fun K => PySem.W.isFn K (.ref (He.fAd K ("Shift", some "answer_in"))),
  fun K => PySem.W.keepIn K (.ref (He.fAd K ("Shift", some "answer_in"))),
  fun K => He.eqO (PySem.W.findIn K (.ref (He.ga K "Shift")) "children") (some (some (.ref (He.fAd K ("Shift", some "children"))))),
  fun K => PySem.W.isFn K (.ref (He.fAd K ("Shift", some "children"))),
  fun K => PySem.W.keepIn K (.ref (He.fAd K ("Shift", some "children"))),
  fun K => He.eqO (PySem.W.findIn K (.ref (He.ga K "Shift")) "earlier") (some (some (.ref (He.fAd K ("Term", some "earlier"))))),
  fun K => He.eqO (PySem.W.findIn K (.ref (He.ga K "Shift")) "form") (some (some (.ref (He.fAd K ("Shift", some "form"))))),
  fun K => PySem.W.isFn K (.ref (He.fAd K ("Shift", some "form"))),
  fun K => PySem.W.keepIn K (.ref (He.fAd K ("Shift", some "form"))),
  fun K => He.eqO (PySem.W.findIn K (.ref (He.ga K "Shift")) "later") (some (some (.ref (He.fAd K ("Term", some "later"))))),
  fun K => He.eqO (PySem.W.findIn K (.ref (He.ga K "Shift")) "part_at") (some (some (.ref (He.fAd K ("Term", some "part_at"))))),
  fun K => He.eqO (PySem.W.findIn K (.ref (He.ga K "Earlier")) "choices") (some none),
  fun K => He.eqO (PySem.W.findIn K (.ref (He.ga K "Earlier")) "depth") (some none),
  fun K => He.eqO (PySem.W.findIn K (.ref (He.ga K "Earlier")) "first") (some none),
  fun K => He.eqO (PySem.W.findIn K (.ref (He.ga K "Earlier")) "looks") (some none),
  fun K => He.eqO (PySem.W.findIn K (.ref (He.ga K "Earlier")) "parts") (some none),
  fun K => He.eqO (PySem.W.findIn K (.ref (He.ga K "Earlier")) "second") (some none),
  fun K => He.eqO (PySem.W.findIn K (.ref (He.ga K "Either")) "choices") (some none),
  fun K => He.eqO (PySem.W.findIn K (.ref (He.ga K "Either")) "depth") (some none),
  fun K => He.eqO (PySem.W.findIn K (.ref (He.ga K "Either")) "first") (some none),
  fun K => He.eqO (PySem.W.findIn K (.ref (He.ga K "Either")) "looks") (some none),
  fun K => He.eqO (PySem.W.findIn K (.ref (He.ga K "Either")) "parts") (some none),
  fun K => He.eqO (PySem.W.findIn K (.ref (He.ga K "Either")) "second") (some none),
  fun K => He.eqO (PySem.W.findIn K (.ref (He.ga K "Later")) "choices") (some none),
  fun K => He.eqO (PySem.W.findIn K (.ref (He.ga K "Later")) "depth") (some none),
  fun K => He.eqO (PySem.W.findIn K (.ref (He.ga K "Later")) "first") (some none),
  fun K => He.eqO (PySem.W.findIn K (.ref (He.ga K "Later")) "looks") (some none),
  fun K => He.eqO (PySem.W.findIn K (.ref (He.ga K "Later")) "parts") (some none),
  fun K => He.eqO (PySem.W.findIn K (.ref (He.ga K "Later")) "second") (some none),
  fun K => He.eqO (PySem.W.findIn K (.ref (He.ga K "Look")) "choices") (some none)]
def cks5 : List (PySem.W.Frag → Bool) := [fun K => He.eqO (PySem.W.findIn K (.ref (He.ga K "Look")) "depth") (some none),
  fun K => He.eqO (PySem.W.findIn K (.ref (He.ga K "Look")) "looks") (some none),
  fun K => He.eqO (PySem.W.findIn K (.ref (He.ga K "Look")) "moment") (some none),
  fun K => He.eqO (PySem.W.findIn K (.ref (He.ga K "Look")) "parts") (some none),
  fun K => He.eqO (PySem.W.findIn K (.ref (He.ga K "Look")) "stream") (some none),
  fun K => He.eqO (PySem.W.findIn K (.ref (He.ga K "Look")) "way") (some none),
  fun K => He.eqO (PySem.W.findIn K (.ref (He.ga K "Look")) "within") (some none),
  fun K => He.eqO (PySem.W.findIn K (.ref (He.ga K "Now")) "choices") (some none),
  fun K => He.eqO (PySem.W.findIn K (.ref (He.ga K "Now")) "depth") (some none),
  fun K => He.eqO (PySem.W.findIn K (.ref (He.ga K "Now")) "looks") (some none),
  fun K => He.eqO (PySem.W.findIn K (.ref (He.ga K "Now")) "parts") (some none),
  fun K => He.eqO (PySem.W.findIn K (.ref (He.ga K "Shift")) "amount") (some none),
  fun K => He.eqO (PySem.W.findIn K (.ref (He.ga K "Shift")) "choices") (some none),
  fun K => He.eqO (PySem.W.findIn K (.ref (He.ga K "Shift")) "depth") (some none),
  fun K => He.eqO (PySem.W.findIn K (.ref (He.ga K "Shift")) "looks") (some none),
  fun K => He.eqO (PySem.W.findIn K (.ref (He.ga K "Shift")) "moment") (some none),
  fun K => He.eqO (PySem.W.findIn K (.ref (He.ga K "Shift")) "parts") (some none),
  fun K => He.eqO (PySem.W.findIn K (.ref (He.ga K "World")) "pairs") (some none),
  fun K => eqB (PySem.W.mroIn K (He.ga K "Earlier") (.ref (He.ga K "Pair"))) (some true),
  fun K => He.eqO (PySem.W.ks_superIn K (He.ga K "Earlier") (He.ga K "Pair") "__init__") (some (some (.ref (He.fAd K ("Term", some "__init__"))))),
  fun K => eqB (PySem.W.mroIn K (He.ga K "Either") (.ref (He.ga K "Pair"))) (some true),
  fun K => He.eqO (PySem.W.ks_superIn K (He.ga K "Either") (He.ga K "Pair") "__init__") (some (some (.ref (He.fAd K ("Term", some "__init__"))))),
  fun K => eqB (PySem.W.mroIn K (He.ga K "Later") (.ref (He.ga K "Pair"))) (some true),
  fun K => He.eqO (PySem.W.ks_superIn K (He.ga K "Later") (He.ga K "Pair") "__init__") (some (some (.ref (He.fAd K ("Term", some "__init__"))))),
  fun K => eqB (PySem.W.mroIn K (He.ga K "Look") (.ref (He.ga K "Look"))) (some true),
  fun K => He.eqO (PySem.W.ks_superIn K (He.ga K "Look") (He.ga K "Look") "__init__") (some (some (.ref (He.fAd K ("Term", some "__init__"))))),
  fun K => eqB (PySem.W.mroIn K (He.ga K "Now") (.ref (He.ga K "Now"))) (some true),
  fun K => He.eqO (PySem.W.ks_superIn K (He.ga K "Now") (He.ga K "Now") "__init__") (some (some (.ref (He.fAd K ("Term", some "__init__"))))),
  fun K => eqB (PySem.W.mroIn K (He.ga K "Shift") (.ref (He.ga K "Shift"))) (some true),
  fun K => He.eqO (PySem.W.ks_superIn K (He.ga K "Shift") (He.ga K "Shift") "__init__") (some (some (.ref (He.fAd K ("Term", some "__init__"))))),
  fun K => PySem.W.selfFirst K (He.ga K "Earlier"),
  fun K => He.eqO (PySem.W.findIn K (.ref (He.ga K "Earlier")) "__add__") (some (some (.ref (He.fAd K ("Term", some "__add__"))))),
  fun K => PySem.W.isFn K (.ref (He.fAd K ("Term", some "__add__"))),
  fun K => He.eqO (PySem.W.findIn K (.ref (He.ga K "Earlier")) "__radd__") (some none),
  fun K => (PySem.W.findIn K (.type "int") "__add__").isSome,
  fun K => (PySem.W.findIn K (.type "int") "__radd__").isSome,
  fun K => eqB (PySem.W.subIn K (.type "int") (.ref (He.ga K "Earlier"))) (some false),
  fun K => PySem.W.selfFirst K (He.ga K "Either"),
  fun K => He.eqO (PySem.W.findIn K (.ref (He.ga K "Either")) "__add__") (some (some (.ref (He.fAd K ("Term", some "__add__"))))),
  fun K => He.eqO (PySem.W.findIn K (.ref (He.ga K "Either")) "__radd__") (some none),
  fun K => eqB (PySem.W.subIn K (.type "int") (.ref (He.ga K "Either"))) (some false),
  fun K => PySem.W.selfFirst K (He.ga K "Later"),
  fun K => He.eqO (PySem.W.findIn K (.ref (He.ga K "Later")) "__add__") (some (some (.ref (He.fAd K ("Term", some "__add__"))))),
  fun K => He.eqO (PySem.W.findIn K (.ref (He.ga K "Later")) "__radd__") (some none),
  fun K => eqB (PySem.W.subIn K (.type "int") (.ref (He.ga K "Later"))) (some false),
  fun K => PySem.W.selfFirst K (He.ga K "Look"),
  fun K => He.eqO (PySem.W.findIn K (.ref (He.ga K "Look")) "__add__") (some (some (.ref (He.fAd K ("Term", some "__add__"))))),
  fun K => He.eqO (PySem.W.findIn K (.ref (He.ga K "Look")) "__radd__") (some none),
  fun K => eqB (PySem.W.subIn K (.type "int") (.ref (He.ga K "Look"))) (some false),
  fun K => PySem.W.selfFirst K (He.ga K "Now"),
  fun K => He.eqO (PySem.W.findIn K (.ref (He.ga K "Now")) "__add__") (some (some (.ref (He.fAd K ("Term", some "__add__"))))),
  fun K => He.eqO (PySem.W.findIn K (.ref (He.ga K "Now")) "__radd__") (some none),
  fun K => eqB (PySem.W.subIn K (.type "int") (.ref (He.ga K "Now"))) (some false),
  fun K => PySem.W.selfFirst K (He.ga K "Shift"),
  fun K => He.eqO (PySem.W.findIn K (.ref (He.ga K "Shift")) "__add__") (some (some (.ref (He.fAd K ("Term", some "__add__"))))),
  fun K => He.eqO (PySem.W.findIn K (.ref (He.ga K "Shift")) "__radd__") (some none),
  fun K => eqB (PySem.W.subIn K (.type "int") (.ref (He.ga K "Shift"))) (some false),
  fun K => He.eqO (PySem.W.findIn K (.ref (He.ga K "Earlier")) "__or__") (some (some (.ref (He.fAd K ("Term", some "__or__"))))),
  fun K => PySem.W.isFn K (.ref (He.fAd K ("Term", some "__or__"))),
  fun K => He.eqO (PySem.W.findIn K (.ref (He.ga K "Earlier")) "__ror__") (some none)]
def cks6 : List (PySem.W.Frag → Bool) := [fun K => He.eqO (PySem.W.findIn K (.ref (He.ga K "Either")) "__or__") (some (some (.ref (He.fAd K ("Term", some "__or__"))))),
  fun K => He.eqO (PySem.W.findIn K (.ref (He.ga K "Either")) "__ror__") (some none),
  fun K => He.eqO (PySem.W.findIn K (.ref (He.ga K "Later")) "__or__") (some (some (.ref (He.fAd K ("Term", some "__or__"))))),
  fun K => He.eqO (PySem.W.findIn K (.ref (He.ga K "Later")) "__ror__") (some none),
  fun K => He.eqO (PySem.W.findIn K (.ref (He.ga K "Look")) "__or__") (some (some (.ref (He.fAd K ("Term", some "__or__"))))),
  fun K => He.eqO (PySem.W.findIn K (.ref (He.ga K "Look")) "__ror__") (some none),
  fun K => He.eqO (PySem.W.findIn K (.ref (He.ga K "Now")) "__or__") (some (some (.ref (He.fAd K ("Term", some "__or__"))))),
  fun K => He.eqO (PySem.W.findIn K (.ref (He.ga K "Now")) "__ror__") (some none),
  fun K => He.eqO (PySem.W.findIn K (.ref (He.ga K "Shift")) "__or__") (some (some (.ref (He.fAd K ("Term", some "__or__"))))),
  fun K => He.eqO (PySem.W.findIn K (.ref (He.ga K "Shift")) "__ror__") (some none),
  fun K => eqB (PySem.W.subIn K (.ref (He.ga K "Earlier")) (.ref (He.ga K "Either"))) (some false),
  fun K => eqB (PySem.W.subIn K (.ref (He.ga K "Earlier")) (.ref (He.ga K "Later"))) (some false),
  fun K => eqB (PySem.W.subIn K (.ref (He.ga K "Earlier")) (.ref (He.ga K "Look"))) (some false),
  fun K => eqB (PySem.W.subIn K (.ref (He.ga K "Earlier")) (.ref (He.ga K "Now"))) (some false),
  fun K => eqB (PySem.W.subIn K (.ref (He.ga K "Earlier")) (.ref (He.ga K "Shift"))) (some false),
  fun K => eqB (PySem.W.subIn K (.ref (He.ga K "Either")) (.ref (He.ga K "Earlier"))) (some false),
  fun K => eqB (PySem.W.subIn K (.ref (He.ga K "Either")) (.ref (He.ga K "Later"))) (some false),
  fun K => eqB (PySem.W.subIn K (.ref (He.ga K "Either")) (.ref (He.ga K "Look"))) (some false),
  fun K => eqB (PySem.W.subIn K (.ref (He.ga K "Either")) (.ref (He.ga K "Now"))) (some false),
  fun K => eqB (PySem.W.subIn K (.ref (He.ga K "Either")) (.ref (He.ga K "Shift"))) (some false),
  fun K => eqB (PySem.W.subIn K (.ref (He.ga K "Later")) (.ref (He.ga K "Earlier"))) (some false),
  fun K => eqB (PySem.W.subIn K (.ref (He.ga K "Later")) (.ref (He.ga K "Either"))) (some false),
  fun K => eqB (PySem.W.subIn K (.ref (He.ga K "Later")) (.ref (He.ga K "Look"))) (some false),
  fun K => eqB (PySem.W.subIn K (.ref (He.ga K "Later")) (.ref (He.ga K "Now"))) (some false),
  fun K => eqB (PySem.W.subIn K (.ref (He.ga K "Later")) (.ref (He.ga K "Shift"))) (some false),
  fun K => eqB (PySem.W.subIn K (.ref (He.ga K "Look")) (.ref (He.ga K "Earlier"))) (some false),
  fun K => eqB (PySem.W.subIn K (.ref (He.ga K "Look")) (.ref (He.ga K "Either"))) (some false),
  fun K => eqB (PySem.W.subIn K (.ref (He.ga K "Look")) (.ref (He.ga K "Later"))) (some false),
  fun K => eqB (PySem.W.subIn K (.ref (He.ga K "Look")) (.ref (He.ga K "Now"))) (some false),
  fun K => eqB (PySem.W.subIn K (.ref (He.ga K "Look")) (.ref (He.ga K "Shift"))) (some false),
  fun K => eqB (PySem.W.subIn K (.ref (He.ga K "Now")) (.ref (He.ga K "Earlier"))) (some false),
  fun K => eqB (PySem.W.subIn K (.ref (He.ga K "Now")) (.ref (He.ga K "Either"))) (some false),
  fun K => eqB (PySem.W.subIn K (.ref (He.ga K "Now")) (.ref (He.ga K "Later"))) (some false),
  fun K => eqB (PySem.W.subIn K (.ref (He.ga K "Now")) (.ref (He.ga K "Look"))) (some false),
  fun K => eqB (PySem.W.subIn K (.ref (He.ga K "Now")) (.ref (He.ga K "Shift"))) (some false),
  fun K => eqB (PySem.W.subIn K (.ref (He.ga K "Shift")) (.ref (He.ga K "Earlier"))) (some false),
  fun K => eqB (PySem.W.subIn K (.ref (He.ga K "Shift")) (.ref (He.ga K "Either"))) (some false),
  fun K => eqB (PySem.W.subIn K (.ref (He.ga K "Shift")) (.ref (He.ga K "Later"))) (some false),
  fun K => eqB (PySem.W.subIn K (.ref (He.ga K "Shift")) (.ref (He.ga K "Look"))) (some false),
  fun K => eqB (PySem.W.subIn K (.ref (He.ga K "Shift")) (.ref (He.ga K "Now"))) (some false),
  fun K => He.eqO (PySem.W.findIn K (.ref (He.ga K "World")) "__getitem__") (some (some (.ref (He.fAd K ("World", some "__getitem__"))))),
  fun K => PySem.W.fnIn K (He.fAd K ("World", some "__getitem__")),
  fun K => PySem.W.isFn K (.ref (He.fAd K ("World", some "__getitem__"))),
  fun K => eqB (PySem.W.kitOne K (.ref (He.ga K "Earlier")) (.ref (He.ga K "Either"))) (some false),
  fun K => eqB (PySem.W.kitOne K (.ref (He.ga K "Earlier")) (.ref (He.ga K "Later"))) (some false),
  fun K => eqB (PySem.W.kitOne K (.ref (He.ga K "Earlier")) (.ref (He.ga K "Look"))) (some false),
  fun K => eqB (PySem.W.kitOne K (.ref (He.ga K "Earlier")) (.ref (He.ga K "Now"))) (some false),
  fun K => eqB (PySem.W.kitOne K (.ref (He.ga K "Earlier")) (.ref (He.ga K "Shift"))) (some false),
  fun K => eqB (PySem.W.kitOne K (.ref (He.ga K "Earlier")) (.ref (He.ga K "Term"))) (some true),
  fun K => eqB (PySem.W.kitOne K (.ref (He.ga K "Either")) (.ref (He.ga K "Either"))) (some true),
  fun K => eqB (PySem.W.kitOne K (.ref (He.ga K "Either")) (.ref (He.ga K "Look"))) (some false),
  fun K => eqB (PySem.W.kitOne K (.ref (He.ga K "Either")) (.ref (He.ga K "Now"))) (some false),
  fun K => eqB (PySem.W.kitOne K (.ref (He.ga K "Either")) (.ref (He.ga K "Shift"))) (some false),
  fun K => eqB (PySem.W.kitOne K (.ref (He.ga K "Either")) (.ref (He.ga K "Term"))) (some true),
  fun K => eqB (PySem.W.kitOne K (.ref (He.ga K "Later")) (.ref (He.ga K "Either"))) (some false),
  fun K => eqB (PySem.W.kitOne K (.ref (He.ga K "Later")) (.ref (He.ga K "Later"))) (some true),
  fun K => eqB (PySem.W.kitOne K (.ref (He.ga K "Later")) (.ref (He.ga K "Look"))) (some false),
  fun K => eqB (PySem.W.kitOne K (.ref (He.ga K "Later")) (.ref (He.ga K "Now"))) (some false),
  fun K => eqB (PySem.W.kitOne K (.ref (He.ga K "Later")) (.ref (He.ga K "Shift"))) (some false),
  fun K => eqB (PySem.W.kitOne K (.ref (He.ga K "Later")) (.ref (He.ga K "Term"))) (some true)]
def cks7 : List (PySem.W.Frag → Bool) := [fun K => eqB (PySem.W.kitOne K (.ref (He.ga K "Look")) (.ref (He.ga K "Look"))) (some true),
  fun K => eqB (PySem.W.kitOne K (.ref (He.ga K "Look")) (.ref (He.ga K "Now"))) (some false),
  fun K => eqB (PySem.W.kitOne K (.ref (He.ga K "Look")) (.ref (He.ga K "Shift"))) (some false),
  fun K => eqB (PySem.W.kitOne K (.ref (He.ga K "Look")) (.ref (He.ga K "Term"))) (some true),
  fun K => eqB (PySem.W.kitOne K (.type "NoneType") (.ref (He.ga K "Term"))) (some false),
  fun K => eqB (PySem.W.kitOne K (.ref (He.ga K "Now")) (.ref (He.ga K "Look"))) (some false),
  fun K => eqB (PySem.W.kitOne K (.ref (He.ga K "Now")) (.ref (He.ga K "Now"))) (some true),
  fun K => eqB (PySem.W.kitOne K (.ref (He.ga K "Now")) (.ref (He.ga K "Shift"))) (some false),
  fun K => eqB (PySem.W.kitOne K (.ref (He.ga K "Now")) (.ref (He.ga K "Term"))) (some true),
  fun K => eqB (PySem.W.kitOne K (.ref (He.ga K "Shift")) (.ref (He.ga K "Look"))) (some false),
  fun K => eqB (PySem.W.kitOne K (.ref (He.ga K "Shift")) (.ref (He.ga K "Now"))) (some false),
  fun K => eqB (PySem.W.kitOne K (.ref (He.ga K "Shift")) (.ref (He.ga K "Shift"))) (some true),
  fun K => eqB (PySem.W.kitOne K (.ref (He.ga K "Shift")) (.ref (He.ga K "Term"))) (some true),
  fun K => eqB (PySem.W.kitOne K (.ref (He.ga K "World")) (.ref (He.ga K "World"))) (some true),
  fun K => eqB (PySem.W.kitOne K (.type "bool") (.ref (He.ga K "Term"))) (some false),
  fun K => eqB (PySem.W.kitOne K (.type "int") (.ref (He.ga K "Term"))) (some false),
  fun K => eqB (PySem.W.kitOne K (.type "list") (.ref (He.ga K "Term"))) (some false),
  fun K => eqB (PySem.W.kitOne K (.type "str") (.ref (He.ga K "Term"))) (some false),
  fun K => eqB (PySem.W.kitOne K (.type "tuple") (.ref (He.ga K "Term"))) (some false),
  fun K => eqB (PySem.W.kitAny K (.ref (He.ga K "Earlier")) [.ref (He.ga K "Look"), .ref (He.ga K "Later"), .ref (He.ga K "Earlier")]) (some true),
  fun K => eqB (PySem.W.kitAny K (.ref (He.ga K "Either")) [.ref (He.ga K "Look"), .ref (He.ga K "Later"), .ref (He.ga K "Earlier")]) (some false),
  fun K => eqB (PySem.W.kitAny K (.ref (He.ga K "Later")) [.ref (He.ga K "Look"), .ref (He.ga K "Later"), .ref (He.ga K "Earlier")]) (some true),
  fun K => eqB (PySem.W.kitAny K (.ref (He.ga K "Look")) [.ref (He.ga K "Look"), .ref (He.ga K "Later"), .ref (He.ga K "Earlier")]) (some true),
  fun K => eqB (PySem.W.kitAny K (.ref (He.ga K "Now")) [.ref (He.ga K "Look"), .ref (He.ga K "Later"), .ref (He.ga K "Earlier")]) (some false),
  fun K => eqB (PySem.W.kitAny K (.ref (He.ga K "Shift")) [.ref (He.ga K "Look"), .ref (He.ga K "Later"), .ref (He.ga K "Earlier")]) (some false),
  fun K => oexB K (He.ga K "BadTerm"),
  fun K => He.eqO (PySem.W.findIn K (.ref (He.ga K "BadTerm")) "__setattr__") (some (some (.builtin "object.__setattr__"))),
  fun K => eqB (PySem.W.subIn K (.ref (He.ga K "BadTerm")) (.type "BaseException")) (some true),
  fun K => decide (PySem.W.typeIn K (.ref (He.ga K "BadTerm")) = some (.type "type")),
  fun K => PySem.W.keepIn K (.ref (He.ga K "BadTerm")),
  fun K => He.eqO (PySem.W.findIn K (.ref (He.ga K "BadTerm")) "__init__") (some (some (.ref (He.fAd K ("BadTerm", some "__init__"))))),
  fun K => decide (PySem.W.typeIn K (.ref (He.fAd K ("BadTerm", some "__init__"))) = some (.type "function")),
  fun K => He.eqO (PySem.W.findIn K (.ref (He.ga K "BadTerm")) "value") (some none),
  fun K => xfB K (He.ga K "BadTerm"),
  fun K => eqB (PySem.W.exmOne K (.ref (He.ga K "BadTerm")) (.ref (He.ga K "BadBound"))) (some false),
  fun K => eqB (PySem.W.exmOne K (.ref (He.ga K "BadTerm")) (.ref (He.ga K "BadMoment"))) (some false),
  fun K => eqB (PySem.W.exmOne K (.ref (He.ga K "BadTerm")) (.ref (He.ga K "BadName"))) (some false),
  fun K => eqB (PySem.W.exmOne K (.ref (He.ga K "BadTerm")) (.ref (He.ga K "BadTerm"))) (some true),
  fun K => He.eqO (PySem.W.findIn K (.ref (He.ga K "Earlier")) "__call__") (some (some (.ref (He.fAd K ("Term", some "__call__"))))),
  fun K => PySem.W.isFn K (.ref (He.fAd K ("Term", some "__call__"))),
  fun K => PySem.W.fnIn K (He.fAd K ("Term", some "__call__")),
  fun K => He.eqO (PySem.W.findIn K (.ref (He.ga K "Either")) "__call__") (some (some (.ref (He.fAd K ("Term", some "__call__"))))),
  fun K => He.eqO (PySem.W.findIn K (.ref (He.ga K "Later")) "__call__") (some (some (.ref (He.fAd K ("Term", some "__call__"))))),
  fun K => He.eqO (PySem.W.findIn K (.ref (He.ga K "Look")) "__call__") (some (some (.ref (He.fAd K ("Term", some "__call__"))))),
  fun K => He.eqO (PySem.W.findIn K (.ref (He.ga K "Now")) "__call__") (some (some (.ref (He.fAd K ("Term", some "__call__"))))),
  fun K => He.eqO (PySem.W.findIn K (.ref (He.ga K "Shift")) "__call__") (some (some (.ref (He.fAd K ("Term", some "__call__"))))),
  fun K => He.eqO (PySem.W.nsIn K mainGlobals "isinstance") (some none),
  fun K => He.eqO (PySem.W.nsIn K mainGlobals "bool") (some none),
  fun K => He.eqO (PySem.W.nsIn K mainGlobals "int") (some none),
  fun K => He.eqO (PySem.W.nsIn K mainGlobals "len") (some none),
  fun K => He.eqO (PySem.W.nsIn K mainGlobals "str") (some none),
  fun K => He.eqO (PySem.W.nsIn K mainGlobals "set") (some none),
  fun K => He.eqO (PySem.W.nsIn K mainGlobals "list") (some none),
  fun K => He.eqO (PySem.W.nsIn K mainGlobals "sorted") (some none),
  fun K => He.eqO (PySem.W.nsIn K mainGlobals "sum") (some none),
  fun K => He.eqO (PySem.W.nsIn K mainGlobals "max") (some none),
  fun K => He.eqO (PySem.W.nsIn K mainGlobals "tuple") (some none),
  fun K => He.eqO (PySem.W.nsIn K mainGlobals "min") (some none),
  fun K => He.eqO (PySem.W.nsIn K mainGlobals "abs") (some none),
  fun K => He.eqO (PySem.W.nsIn K mainGlobals "range") (some none)]
def css : List (List (PySem.W.Frag → Bool)) := [cks0, cks1, cks2, cks3, cks4, cks5, cks6, cks7]
abbrev Rw : PySem.W.OpenRow := PySem.W.OpenLaw.row PySem.Challenge.rw_pastlooks_k25_written_terms
def asL0 : List Addr := [3, 2, 6, 4, 21, 31, 51, 70, 89, 108, 127, 146, 165, 184, 203, 222, 241, 253, 265, 277, 289, 301, 313, 322, 329, 334, 341, 348, 355, 362, 369, 376, 381, 388, 393, 506, 517, 518, 645, 668, 717, 774, 809, 842, 875, 908, 917, 924, 929, 936, 943, 950, 957, 964, 971, 978, 985, 992, 997, 1004, 1011, 1018, 1025, 1032, 1039, 1046, 1053, 1060, 1067, 0, 20, 30, 50, 69, 88, 107, 126, 145, 164, 183, 202, 221, 240, 252, 264, 276, 288, 300, 312, 321, 328, 333, 340, 347, 354, 361, 368, 375, 380, 387]
def asL1 : List Addr := [392, 505, 516, 644, 667, 716, 773, 808, 841, 874, 907, 916, 923, 928, 935, 942, 949, 956, 963, 970, 977, 984, 991, 996, 1003, 1010, 1017, 1024, 1031, 1038, 1045, 1052, 1059, 1066, 15, 16, 17, 18, 19, 29, 32, 48, 49, 67, 68, 86, 87, 105, 106, 124, 125, 143, 144, 162, 163, 181, 182, 200, 201, 219, 220, 238, 239, 251, 263, 275, 287, 299, 311, 316, 317, 318, 319, 320, 323, 324, 325, 326, 327, 330, 331, 332, 335, 336, 337, 338, 339, 342, 343, 344, 345, 346, 349, 350, 351, 352, 353, 356, 357, 358]
def asL2 : List Addr := [359, 360, 363, 364, 365, 366, 367, 370, 371, 372, 373, 374, 377, 378, 379, 382, 383, 384, 385, 386, 389, 390, 391, 408, 417, 423, 428, 435, 442, 449, 456, 463, 470, 475, 482, 489, 496, 503, 504, 507, 508, 511, 512, 513, 514, 515, 530, 537, 544, 551, 558, 565, 572, 579, 586, 593, 600, 607, 614, 621, 628, 635, 642, 643, 646, 647, 665, 666, 686, 693, 700, 707, 714, 715, 736, 743, 750, 757, 764, 771, 772, 792, 799, 806, 807, 825, 832, 839, 840, 858, 865, 872, 873, 891, 898, 905, 906, 911, 912, 913]
def asL3 : List Addr := [914, 915, 918, 919, 920, 921, 922, 925, 926, 927, 930, 931, 932, 933, 934, 937, 938, 939, 940, 941, 944, 945, 946, 947, 948, 951, 952, 953, 954, 955, 958, 959, 960, 961, 962, 965, 966, 967, 968, 969, 972, 973, 974, 975, 976, 979, 980, 981, 982, 983, 986, 987, 988, 989, 990, 993, 994, 995, 998, 999, 1000, 1001, 1002, 1005, 1006, 1007, 1008, 1009, 1012, 1013, 1014, 1015, 1016, 1019, 1020, 1021, 1022, 1023, 1026, 1027, 1028, 1029, 1030, 1033, 1034, 1035, 1036, 1037, 1040, 1041, 1042, 1043, 1044, 1047, 1048, 1049, 1050, 1051, 1054, 1055]
def asL4 : List Addr := [1056, 1057, 1058, 1061, 1063, 1064, 1065, 47, 66, 85, 104, 123, 142, 161, 180, 199, 218, 237, 407, 401, 415, 416, 422, 427, 434, 441, 448, 455, 462, 469, 474, 481, 488, 495, 502, 529, 536, 543, 550, 557, 564, 571, 578, 585, 592, 599, 606, 613, 620, 627, 634, 641, 664, 653, 685, 674, 692, 699, 706, 713, 735, 728, 723, 742, 749, 756, 763, 770, 791, 780, 798, 805, 824, 831, 838, 857, 864, 871, 890, 897, 904, 42, 43, 44, 45, 46, 61, 62, 63, 64, 65, 80, 81, 82, 83, 84, 99, 100, 101, 102]
def asL5 : List Addr := [103, 118, 119, 120, 121, 122, 137, 138, 139, 140, 141, 156, 157, 158, 159, 160, 175, 176, 177, 178, 179, 194, 195, 196, 197, 198, 213, 214, 215, 216, 217, 232, 233, 234, 235, 236, 402, 403, 404, 405, 406, 414, 418, 419, 420, 421, 424, 425, 426, 429, 430, 431, 432, 433, 436, 437, 438, 439, 440, 443, 444, 445, 446, 447, 450, 451, 452, 453, 454, 457, 458, 459, 460, 461, 464, 465, 466, 467, 468, 471, 472, 473, 476, 477, 478, 479, 480, 483, 484, 485, 486, 487, 490, 491, 492, 493, 494, 497, 498, 499]
def asL6 : List Addr := [500, 501, 526, 527, 528, 531, 532, 533, 534, 535, 538, 539, 540, 541, 542, 545, 546, 547, 548, 549, 552, 553, 554, 555, 556, 559, 560, 561, 562, 563, 566, 567, 568, 569, 570, 573, 574, 575, 576, 577, 580, 581, 582, 583, 584, 587, 588, 589, 590, 591, 594, 595, 596, 597, 598, 601, 602, 603, 604, 605, 608, 609, 610, 611, 612, 615, 616, 617, 618, 619, 622, 623, 624, 625, 626, 629, 630, 631, 632, 633, 636, 637, 638, 639, 640, 659, 660, 661, 662, 663, 680, 681, 682, 683, 684, 687, 688, 689, 690, 691]
def asL7 : List Addr := [694, 695, 696, 697, 698, 701, 702, 703, 704, 705, 708, 709, 710, 711, 712, 730, 731, 732, 733, 734, 737, 738, 739, 740, 741, 744, 745, 746, 747, 748, 751, 752, 753, 754, 755, 758, 759, 760, 761, 762, 765, 766, 767, 768, 769, 786, 787, 788, 789, 790, 793, 794, 795, 796, 797, 800, 801, 802, 803, 804, 819, 820, 821, 822, 823, 826, 827, 828, 829, 830, 833, 834, 835, 836, 837, 852, 853, 854, 855, 856, 859, 860, 861, 862, 863, 866, 867, 868, 869, 870, 885, 886, 887, 888, 889, 892, 893, 894, 895, 896]
def asL8 : List Addr := [899, 900, 901, 902, 903]
def asL : List Addr := asL0 ++ asL1 ++ asL2 ++ asL3 ++ asL4 ++ asL5 ++ asL6 ++ asL7 ++ asL8
def tabs : List (Str × Option Str) := [("law", none)]
def asT : List Addr := [1062]
abbrev hk : PySem.W.Hook := hookT asL asT css.flatten fns tabs
def ob (s : PySem.W.SharedT) : AlT := (obsPG asL css.flatten fns (HandSHeadRun.getT s), tabs.all (tabB1 (He.frG (HandSHeadRun.getT s) asL) (He.frG (HandSHeadRun.getT s) asT)))
theorem ob_eq (s : PySem.W.SharedT) : ob s = hk.obs s.abs := obsTG_eq (HandSHeadRun.getT_eq s)
abbrev kf2 (s : PySem.W.SharedT) : PySem.W.Frag := He.frG (HandSHeadRun.getT s) asT
abbrev kf (s : PySem.W.SharedT) : PySem.W.Frag := He.frG (HandSHeadRun.getT s) asL
noncomputable abbrev En (w : World) (os : OsState) : Option PySem.W.SharedT := HandSHeadRun.endF (HandSHeadRun.stepQ (HandSHeadRun.denQ HandSHeadRun.tabQ) Rw.prog w) 60000 Rw.prog w os
abbrev qv : Program := PySem.W.view Rw.prog [76]
open PySem.W in
theorem run0 (w : World) (os : OsState) : (En w os).map (fun s => (HandSHeadRun.looksF Rw.prog (boot_heap w.params) s.abs, HandSHeadRun.seenQ qv loose (importedModules Rw.prog.main.body) (fun s => xlAt qv [] s && recOk Rw.toRowW.records s) s.abs)) = some (true, openGood qv loose) := by
  kernel_rfl
theorem runF (w : World) (os : OsState) : (En w os).map (fun s => fns.map fun d => fnOb (kf s) d.at_) = some (fns.map ObD.val) := by
  kernel_rfl
theorem runC0 (w : World) (os : OsState) : (En w os).map (fun s => cks0.all fun f => f (kf s)) = some true := by
  kernel_rfl
theorem runC1 (w : World) (os : OsState) : (En w os).map (fun s => cks1.all fun f => f (kf s)) = some true := by
  kernel_rfl
theorem runC2 (w : World) (os : OsState) : (En w os).map (fun s => cks2.all fun f => f (kf s)) = some true := by
  kernel_rfl
theorem runC3 (w : World) (os : OsState) : (En w os).map (fun s => cks3.all fun f => f (kf s)) = some true := by
  kernel_rfl
theorem runC4 (w : World) (os : OsState) : (En w os).map (fun s => cks4.all fun f => f (kf s)) = some true := by
  kernel_rfl
theorem runC5 (w : World) (os : OsState) : (En w os).map (fun s => cks5.all fun f => f (kf s)) = some true := by
  kernel_rfl
theorem runC6 (w : World) (os : OsState) : (En w os).map (fun s => cks6.all fun f => f (kf s)) = some true := by
  kernel_rfl
theorem runC7 (w : World) (os : OsState) : (En w os).map (fun s => cks7.all fun f => f (kf s)) = some true := by
  kernel_rfl
theorem runT (w : World) (os : OsState) : (En w os).map (fun s => tabs.all (tabB1 (kf s) (kf2 s))) = some true := by
  kernel_rfl
theorem run (w : World) : HandSHeadRun.RunEq Rw qv hk ob 60000 loose w := by
  intro os
  refine run_joinT (css := css) (fn := fns) (ts := tabs) (kf := kf) (kf2 := kf2) (run0 w os) (runF w os) (fun c hc => ?_) (runT w os)
  simp only [css, List.mem_cons, List.not_mem_nil, or_false] at hc
  rcases hc with rfl | rfl | rfl | rfl | rfl | rfl | rfl | rfl
  · exact runC0 w os
  · exact runC1 w os
  · exact runC2 w os
  · exact runC3 w os
  · exact runC4 w os
  · exact runC5 w os
  · exact runC6 w os
  · exact runC7 w os
set_option maxHeartbeats 40000000 in
theorem facts {K : PySem.W.Frag} {h : Heap} {mg : Str → Option Value} {fa : Addr} (X : K.In h) (G : h.Ns mainGlobals mg) (hfa : mg "law" = some (.ref fa)) {K2 : PySem.W.Frag} (ct : SaysT css.flatten fns tabs K K2) :
    ∃ T : Txt PySem.Challenge.rw_pastlooks_k25_written_terms.prog K mg, T.law.f = fa ∧ ∀ (s : Shared) (v : Value), BindsTo s T.law.fd ⟨[v], []⟩ [("_law_script", v)] := by
  have c := ct.p
  have e := hfa.symm.trans (PySem.W.mg_of X G (He.eqO_ok (c.ck2 1 40 rfl rfl)))
  cases e
  have hfile : ((PySem.Challenge.rw_pastlooks_k25_written_terms.prog.main.file : Str) == fileS) = true := by first | rfl | decide +kernel
  have htop : (PySem.Challenge.rw_pastlooks_k25_written_terms.prog.main.scope.names.lookup ("super" : Str)).isSome = false := by first | rfl | decide +kernel
  obtain ⟨u_DEEPEST, k_DEEPEST⟩ := He.int_ok X G (x := "DEEPEST") (i := 12) (c.ck2 0 27 rfl rfl)
  obtain ⟨u_LARGEST, k_LARGEST⟩ := He.int_ok X G (x := "LARGEST") (i := 1000000000000000000000000000000000000000000000000000000000000) (c.ck2 0 28 rfl rfl)
  obtain ⟨u_LETTERS, k_LETTERS⟩ := He.str_ok X G (x := "LETTERS") (z := "abcdefghijklmnopqrstuvwxyz") (c.ck2 0 29 rfl rfl)
  obtain ⟨u_MOST_LOOKS, k_MOST_LOOKS⟩ := He.int_ok X G (x := "MOST_LOOKS") (i := 12) (c.ck2 0 30 rfl rfl)
  obtain ⟨u_MOST_PARTS, k_MOST_PARTS⟩ := He.int_ok X G (x := "MOST_PARTS") (i := 40) (c.ck2 0 31 rfl rfl)
  obtain ⟨u_MOST_ROWS, k_MOST_ROWS⟩ := He.int_ok X G (x := "MOST_ROWS") (i := 300) (c.ck2 0 32 rfl rfl)
  obtain ⟨fd0, F0⟩ := ob_fun (c.de 0 (d := ⟨("is_integer", none), "is_integer", "is_integer", s_is_integer, []⟩) rfl) rfl (c.ck2 0 33 rfl rfl)
  have b0 := F0.binds (ps := ["value"]) fun _ _ _ _ _ _ us hl => match us, hl with | [_], _ => rfl
  obtain ⟨fd1, F1⟩ := ob_fun (c.de 1 (d := ⟨("is_from_zero", none), "is_from_zero", "is_from_zero", s_is_from_zero, []⟩) rfl) rfl (c.ck2 0 35 rfl rfl)
  have b1 := F1.binds (ps := ["value"]) fun _ _ _ _ _ _ us hl => match us, hl with | [_], _ => rfl
  obtain ⟨fd2, F2⟩ := ob_fun (c.de 2 (d := ⟨("is_name", none), "is_name", "is_name", s_is_name, []⟩) rfl) rfl (c.ck2 0 37 rfl rfl)
  have b2 := F2.binds (ps := ["name"]) fun _ _ _ _ _ _ us hl => match us, hl with | [_], _ => rfl
  obtain ⟨fd3, F3⟩ := ob_fun (c.de 3 (d := ⟨("check_name", none), "check_name", "check_name", s_check_name, []⟩) rfl) rfl (c.ck2 0 39 rfl rfl)
  have b3 := F3.binds (ps := ["name"]) fun _ _ _ _ _ _ us hl => match us, hl with | [_], _ => rfl
  obtain ⟨fd4, F4⟩ := ob_fun (c.de 4 (d := ⟨("check_moment", none), "check_moment", "check_moment", s_check_moment, []⟩) rfl) rfl (c.ck2 0 41 rfl rfl)
  have b4 := F4.binds (ps := ["value"]) fun _ _ _ _ _ _ us hl => match us, hl with | [_], _ => rfl
  obtain ⟨fd5, F5⟩ := ob_fun (c.de 5 (d := ⟨("check_bound", none), "check_bound", "check_bound", s_check_bound, []⟩) rfl) rfl (c.ck2 0 43 rfl rfl)
  have b5 := F5.binds (ps := ["value"]) fun _ _ _ _ _ _ us hl => match us, hl with | [_], _ => rfl
  obtain ⟨fd6, F6⟩ := ob_fun (c.de 6 (d := ⟨("check_limit", none), "check_limit", "check_limit", s_check_limit, []⟩) rfl) rfl (c.ck2 0 45 rfl rfl)
  have b6 := F6.binds (ps := ["value"]) fun _ _ _ _ _ _ us hl => match us, hl with | [_], _ => rfl
  obtain ⟨fd7, F7⟩ := ob_fun (c.de 7 (d := ⟨("check_rows", none), "check_rows", "check_rows", s_check_rows, []⟩) rfl) rfl (c.ck2 0 47 rfl rfl)
  have b7 := F7.binds (ps := ["name", "moments"]) fun _ _ _ _ _ _ us hl => match us, hl with | [_, _], _ => rfl
  obtain ⟨fd8, F8⟩ := ob_fun (c.de 8 (d := ⟨("limited", none), "limited", "limited", s_limited, []⟩) rfl) rfl (c.ck2 0 49 rfl rfl)
  have b8 := F8.binds (ps := ["pairs"]) fun _ _ _ _ _ _ us hl => match us, hl with | [_], _ => rfl
  obtain ⟨fd9, F9⟩ := ob_fun (c.de 9 (d := ⟨("checked_pairs", none), "checked_pairs", "checked_pairs", s_checked_pairs, []⟩) rfl) rfl (c.ck2 0 51 rfl rfl)
  have b9 := F9.binds (ps := ["rows"]) fun _ _ _ _ _ _ us hl => match us, hl with | [_], _ => rfl
  obtain ⟨fd10, F10⟩ := ob_fun (c.de 10 (d := ⟨("check_world", none), "check_world", "check_world", s_check_world, []⟩) rfl) rfl (c.ck2 0 53 rfl rfl)
  have b10 := F10.binds (ps := ["value"]) fun _ _ _ _ _ _ us hl => match us, hl with | [_], _ => rfl
  obtain ⟨fd11, F11⟩ := ob_fun (c.de 11 (d := ⟨("shifted", none), "shifted", "shifted", s_shifted, []⟩) rfl) rfl (c.ck2 0 55 rfl rfl)
  have b11 := F11.binds (ps := ["term", "amount"]) fun _ _ _ _ _ _ us hl => match us, hl with | [_, _], _ => rfl
  obtain ⟨fd12, F12⟩ := ob_fun (c.de 12 (d := ⟨("fits", none), "fits", "fits", s_fits, []⟩) rfl) rfl (c.ck2 0 57 rfl rfl)
  have b12 := F12.binds (ps := ["row", "moment", "way"]) fun _ _ _ _ _ _ us hl => match us, hl with | [_, _, _], _ => rfl
  obtain ⟨fd13, F13⟩ := ob_fun (c.de 13 (d := ⟨("looked_up", none), "looked_up", "looked_up", s_looked_up, []⟩) rfl) rfl (c.ck2 0 59 rfl rfl)
  have b13 := F13.binds (ps := ["moments", "moment", "way", "within"]) fun _ _ _ _ _ _ us hl => match us, hl with | [_, _, _, _], _ => rfl
  obtain ⟨fd14, F14⟩ := ob_fun (c.de 14 (d := ⟨("check_term", none), "check_term", "check_term", s_check_term, []⟩) rfl) rfl (c.ck2 1 1 rfl rfl)
  have b14 := F14.binds (ps := ["value"]) fun _ _ _ _ _ _ us hl => match us, hl with | [_], _ => rfl
  obtain ⟨fd15, F15⟩ := ob_fun (c.de 15 (d := ⟨("spelled_number", none), "spelled_number", "spelled_number", s_spelled_number, []⟩) rfl) rfl (c.ck2 1 3 rfl rfl)
  have b15 := F15.binds (ps := ["number"]) fun _ _ _ _ _ _ us hl => match us, hl with | [_], _ => rfl
  obtain ⟨fd16, F16⟩ := ob_fun (c.de 16 (d := ⟨("spelled_look", none), "spelled_look", "spelled_look", s_spelled_look, []⟩) rfl) rfl (c.ck2 1 5 rfl rfl)
  have b16 := F16.binds (ps := ["term"]) fun _ _ _ _ _ _ us hl => match us, hl with | [_], _ => rfl
  obtain ⟨fd17, F17⟩ := ob_fun (c.de 17 (d := ⟨("spelled_part", none), "spelled_part", "spelled_part", s_spelled_part, []⟩) rfl) rfl (c.ck2 1 7 rfl rfl)
  have b17 := F17.binds (ps := ["term"]) fun _ _ _ _ _ _ us hl => match us, hl with | [_], _ => rfl
  obtain ⟨fd18, F18⟩ := ob_fun (c.de 18 (d := ⟨("spelled", none), "spelled", "spelled", s_spelled, []⟩) rfl) rfl (c.ck2 1 9 rfl rfl)
  have b18 := F18.binds (ps := ["term"]) fun _ _ _ _ _ _ us hl => match us, hl with | [_], _ => rfl
  obtain ⟨fd19, F19⟩ := ob_fun (c.de 19 (d := ⟨("_law_open", none), "_law_open", "_law_open", s_law_open, []⟩) rfl) rfl (c.ck2 1 11 rfl rfl)
  have b19 := F19.binds (ps := ["_law_script"]) fun _ _ _ _ _ _ us hl => match us, hl with | [_], _ => rfl
  obtain ⟨fd20, F20⟩ := ob_fun (c.de 20 (d := ⟨("_law_pick", none), "_law_pick", "_law_pick", s_law_pick, []⟩) rfl) rfl (c.ck2 1 13 rfl rfl)
  have b20 := F20.binds (ps := ["_law_box", "_law_many"]) fun _ _ _ _ _ _ us hl => match us, hl with | [_, _], _ => rfl
  obtain ⟨fd21, F21⟩ := ob_fun (c.de 21 (d := ⟨("_law_number", none), "_law_number", "_law_number", s_law_number, []⟩) rfl) rfl (c.ck2 1 15 rfl rfl)
  have b21 := F21.binds (ps := ["_law_box"]) fun _ _ _ _ _ _ us hl => match us, hl with | [_], _ => rfl
  obtain ⟨fd22, F22⟩ := ob_fun (c.de 22 (d := ⟨("_law_limit", none), "_law_limit", "_law_limit", s_law_limit, []⟩) rfl) rfl (c.ck2 1 17 rfl rfl)
  have b22 := F22.binds (ps := ["_law_box"]) fun _ _ _ _ _ _ us hl => match us, hl with | [_], _ => rfl
  obtain ⟨fd23, F23⟩ := ob_fun (c.de 23 (d := ⟨("_law_names", none), "_law_names", "_law_names", s_law_names, []⟩) rfl) rfl (c.ck2 1 19 rfl rfl)
  have b23 := F23.binds (ps := ["_law_box", "_law_many"]) fun _ _ _ _ _ _ us hl => match us, hl with | [_, _], _ => rfl
  obtain ⟨fd24, F24⟩ := ob_fun (c.de 24 (d := ⟨("_law_shift", none), "_law_shift", "_law_shift", s_law_shift, []⟩) rfl) rfl (c.ck2 1 21 rfl rfl)
  have b24 := F24.binds (ps := ["_law_tree_here", "_law_amount"]) fun _ _ _ _ _ _ us hl => match us, hl with | [_, _], _ => rfl
  obtain ⟨fd25, F25⟩ := ob_fun (c.de 25 (d := ⟨("_law_tree", none), "_law_tree", "_law_tree", s_law_tree, []⟩) rfl) rfl (c.ck2 1 23 rfl rfl)
  have b25 := F25.binds (ps := ["_law_box", "_law_names_here", "_law_looks", "_law_joins"]) fun _ _ _ _ _ _ us hl => match us, hl with | [_, _, _, _], _ => rfl
  obtain ⟨fd26, F26⟩ := ob_fun (c.de 26 (d := ⟨("_law_term", none), "_law_term", "_law_term", s_law_term, []⟩) rfl) rfl (c.ck2 1 25 rfl rfl)
  have b26 := F26.binds (ps := ["_law_tree_here"]) fun _ _ _ _ _ _ us hl => match us, hl with | [_], _ => rfl
  obtain ⟨fd27, F27⟩ := ob_fun (c.de 27 (d := ⟨("_law_children", none), "_law_children", "_law_children", s_law_children, []⟩) rfl) rfl (c.ck2 1 27 rfl rfl)
  have b27 := F27.binds (ps := ["_law_tree_here"]) fun _ _ _ _ _ _ us hl => match us, hl with | [_], _ => rfl
  obtain ⟨fd28, F28⟩ := ob_fun (c.de 28 (d := ⟨("_law_paths", none), "_law_paths", "_law_paths", s_law_paths, []⟩) rfl) rfl (c.ck2 1 29 rfl rfl)
  have b28 := F28.binds (ps := ["_law_tree_here"]) fun _ _ _ _ _ _ us hl => match us, hl with | [_], _ => rfl
  obtain ⟨fd29, F29⟩ := ob_fun (c.de 29 (d := ⟨("_law_part", none), "_law_part", "_law_part", s_law_part, []⟩) rfl) rfl (c.ck2 1 31 rfl rfl)
  have b29 := F29.binds (ps := ["_law_tree_here", "_law_path"]) fun _ _ _ _ _ _ us hl => match us, hl with | [_, _], _ => rfl
  obtain ⟨fd30, F30⟩ := ob_fun (c.de 30 (d := ⟨("_law_refusal", none), "_law_refusal", "_law_refusal", s_law_refusal, []⟩) rfl) rfl (c.ck2 1 33 rfl rfl)
  have b30 := F30.binds (ps := ["_law_deed"]) fun _ _ _ _ _ _ us hl => match us, hl with | [_], _ => rfl
  obtain ⟨fd31, F31⟩ := ob_fun (c.de 31 (d := ⟨("_law_equal", none), "_law_equal", "_law_equal", s_law_equal, []⟩) rfl) rfl (c.ck2 1 35 rfl rfl)
  have b31 := F31.binds (ps := ["_law_one", "_law_other"]) fun _ _ _ _ _ _ us hl => match us, hl with | [_, _], _ => rfl
  obtain ⟨fd32, F32⟩ := ob_fun (c.de 32 (d := ⟨("_law_written", none), "_law_written", "_law_written", s_law_written, []⟩) rfl) rfl (c.ck2 1 37 rfl rfl)
  have b32 := F32.binds (ps := ["_law_tree_here"]) fun _ _ _ _ _ _ us hl => match us, hl with | [_], _ => rfl
  obtain ⟨fd33, F33⟩ := ob_fun (c.de 33 (d := ⟨("law", none), "law", "law", s_law, []⟩) rfl) rfl (c.ck2 1 39 rfl rfl)
  have b33 := F33.binds (ps := ["_law_script"]) fun _ _ _ _ _ _ us hl => match us, hl with | [_], _ => rfl
  obtain ⟨fd34, F34⟩ := ob_fun (c.de 34 (d := ⟨("BadTerm", some "__init__"), "__init__", "BadTerm.__init__", s_BadTerm_init, []⟩) rfl) rfl (c.ck2 1 41 rfl rfl)
  have b34 := F34.binds (ps := ["self", "value"]) fun _ _ _ _ _ _ us hl => match us, hl with | [_, _], _ => rfl
  obtain ⟨fd35, FD35⟩ := ob_dfl (c.de 35 (d := ⟨("World", some "__init__"), "__init__", "World.__init__", s_World_init, []⟩) rfl) rfl (c.ck2 1 42 rfl rfl)
  obtain ⟨ds35, rd35, bd35⟩ := FD35.binds1 (ps := ["self", "rows"]) 2 1 (by simp) rfl (fun _ _ _ _ _ _ _ us its h1 h2 => match us, its, h1, h2 with | [_, _], [_], _, _ => ⟨_, rfl, rfl⟩)
  cases rd35
  have ex35 : ∃ (oc : Value) (od : Option Addr) (dV kV doc pm : Value) (an : Option Addr) (cdv ct : Value) (osl : Array (Option Value)), fd35 = PySem.W.fnOf "__init__" "World.__init__" (defArgs s_World_init) (defBody s_World_init) (defScope s_World_init) dV kV doc pm an cdv ct ∧ K.lookup (He.fAd K ("World", some "__init__")) = some ⟨oc, od, .func fd35, osl⟩ ∧ PySem.W.codeIn K cdv "World.__init__" = true := by obtain ⟨⟨oc, od, dV, kV, doc, pm, an, cdv, ct, osl, e1, e2, e3, _, _⟩, _⟩ := FD35; exact ⟨oc, od, dV, kV, doc, pm, an, cdv, ct, osl, e1, e2, e3⟩
  obtain ⟨fd36, F36⟩ := ob_fun (c.de 36 (d := ⟨("World", some "__getitem__"), "__getitem__", "World.__getitem__", s_World_getitem, []⟩) rfl) rfl (c.ck2 1 43 rfl rfl)
  have b36 := F36.binds (ps := ["self", "name"]) fun _ _ _ _ _ _ us hl => match us, hl with | [_, _], _ => rfl
  obtain ⟨fd37, F37⟩ := ob_fun (c.de 37 (d := ⟨("Term", some "__init__"), "__init__", "Term.__init__", s_Term_init, []⟩) rfl) rfl (c.ck2 1 44 rfl rfl)
  obtain ⟨fd38, F38⟩ := ob_fun (c.de 38 (d := ⟨("Term", some "__add__"), "__add__", "Term.__add__", s_Term_add, []⟩) rfl) rfl (c.ck2 1 45 rfl rfl)
  have b38 := F38.binds (ps := ["self", "amount"]) fun _ _ _ _ _ _ us hl => match us, hl with | [_, _], _ => rfl
  obtain ⟨fd39, F39⟩ := ob_fun (c.de 39 (d := ⟨("Term", some "__sub__"), "__sub__", "Term.__sub__", s_Term_sub, []⟩) rfl) rfl (c.ck2 1 46 rfl rfl)
  have b39 := F39.binds (ps := ["self", "amount"]) fun _ _ _ _ _ _ us hl => match us, hl with | [_, _], _ => rfl
  obtain ⟨fd40, F40⟩ := ob_fun (c.de 40 (d := ⟨("Term", some "__or__"), "__or__", "Term.__or__", s_Term_or, []⟩) rfl) rfl (c.ck2 1 47 rfl rfl)
  have b40 := F40.binds (ps := ["self", "other"]) fun _ _ _ _ _ _ us hl => match us, hl with | [_, _], _ => rfl
  obtain ⟨fd41, F41⟩ := ob_fun (c.de 41 (d := ⟨("Term", some "__eq__"), "__eq__", "Term.__eq__", s_Term_eq, []⟩) rfl) rfl (c.ck2 1 48 rfl rfl)
  have b41 := F41.binds (ps := ["self", "other"]) fun _ _ _ _ _ _ us hl => match us, hl with | [_, _], _ => rfl
  obtain ⟨fd42, F42⟩ := ob_fun (c.de 42 (d := ⟨("Term", some "__call__"), "__call__", "Term.__call__", s_Term_call, []⟩) rfl) rfl (c.ck2 1 49 rfl rfl)
  have b42 := F42.binds (ps := ["self", "world", "now"]) fun _ _ _ _ _ _ us hl => match us, hl with | [_, _, _], _ => rfl
  obtain ⟨fd43, F43⟩ := ob_fun (c.de 43 (d := ⟨("Term", some "later"), "later", "Term.later", s_Term_later, []⟩) rfl) rfl (c.ck2 1 50 rfl rfl)
  have b43 := F43.binds (ps := ["self", "other"]) fun _ _ _ _ _ _ us hl => match us, hl with | [_, _], _ => rfl
  obtain ⟨fd44, F44⟩ := ob_fun (c.de 44 (d := ⟨("Term", some "earlier"), "earlier", "Term.earlier", s_Term_earlier, []⟩) rfl) rfl (c.ck2 1 51 rfl rfl)
  have b44 := F44.binds (ps := ["self", "other"]) fun _ _ _ _ _ _ us hl => match us, hl with | [_, _], _ => rfl
  obtain ⟨fd45, F45⟩ := ob_fun (c.de 45 (d := ⟨("Term", some "part_at"), "part_at", "Term.part_at", s_Term_part_at, []⟩) rfl) rfl (c.ck2 1 52 rfl rfl)
  have b45 := F45.binds (ps := ["self", "path"]) fun _ _ _ _ _ _ us hl => match us, hl with | [_, _], _ => rfl
  obtain ⟨fd46, F46⟩ := ob_fun (c.de 46 (d := ⟨("Term", some "children"), "children", "Term.children", s_Term_children, []⟩) rfl) rfl (c.ck2 1 53 rfl rfl)
  have b46 := F46.binds (ps := ["self"]) fun _ _ _ _ _ _ us hl => match us, hl with | [_], _ => rfl
  obtain ⟨fd47, F47⟩ := ob_fun (c.de 47 (d := ⟨("Term", some "form"), "form", "Term.form", s_Term_form, []⟩) rfl) rfl (c.ck2 1 54 rfl rfl)
  have b47 := F47.binds (ps := ["self"]) fun _ _ _ _ _ _ us hl => match us, hl with | [_], _ => rfl
  obtain ⟨fd48, F48⟩ := ob_fun (c.de 48 (d := ⟨("Term", some "answer_in"), "answer_in", "Term.answer_in", s_Term_answer_in, []⟩) rfl) rfl (c.ck2 1 55 rfl rfl)
  have b48 := F48.binds (ps := ["self", "world", "now"]) fun _ _ _ _ _ _ us hl => match us, hl with | [_, _, _], _ => rfl
  obtain ⟨cc49, cd49, lk49, hc49, kp49, ce49, co49⟩ := ob_sup (D := "Now") (file := fileS) (c.de 49 (d := ⟨("Now", some "__init__"), "__init__", "Now.__init__", s_Now_init, [("__class__" : Str)]⟩) rfl) rfl (c.ck2 1 56 rfl rfl)
  obtain ⟨x1_49, x2_49, x3_49, x4_49, x5_49, y1_49, y2_49⟩ := co49
  obtain ⟨cc50, cd50, lk50, hc50, kp50, ce50, co50⟩ := ob_sup (D := "Shift") (file := fileS) (c.de 50 (d := ⟨("Shift", some "__init__"), "__init__", "Shift.__init__", s_Shift_init, [("__class__" : Str)]⟩) rfl) rfl (c.ck2 2 2 rfl rfl)
  obtain ⟨x1_50, x2_50, x3_50, x4_50, x5_50, y1_50, y2_50⟩ := co50
  obtain ⟨fd51, F51⟩ := ob_fun (c.de 51 (d := ⟨("Shift", some "children"), "children", "Shift.children", s_Shift_children, []⟩) rfl) rfl (c.ck2 2 4 rfl rfl)
  have b51 := F51.binds (ps := ["self"]) fun _ _ _ _ _ _ us hl => match us, hl with | [_], _ => rfl
  obtain ⟨fd52, F52⟩ := ob_fun (c.de 52 (d := ⟨("Shift", some "form"), "form", "Shift.form", s_Shift_form, []⟩) rfl) rfl (c.ck2 2 5 rfl rfl)
  have b52 := F52.binds (ps := ["self"]) fun _ _ _ _ _ _ us hl => match us, hl with | [_], _ => rfl
  obtain ⟨fd53, F53⟩ := ob_fun (c.de 53 (d := ⟨("Shift", some "answer_in"), "answer_in", "Shift.answer_in", s_Shift_answer_in, []⟩) rfl) rfl (c.ck2 2 6 rfl rfl)
  have b53 := F53.binds (ps := ["self", "world", "now"]) fun _ _ _ _ _ _ us hl => match us, hl with | [_, _, _], _ => rfl
  obtain ⟨cc54, cd54, lk54, hc54, kp54, ce54, co54⟩ := ob_sup (D := "Look") (file := fileS) (c.de 54 (d := ⟨("Look", some "__init__"), "__init__", "Look.__init__", s_Look_init, [("__class__" : Str)]⟩) rfl) rfl (c.ck2 2 7 rfl rfl)
  obtain ⟨x1_54, x2_54, x3_54, x4_54, x5_54, y1_54, y2_54⟩ := co54
  obtain ⟨fd55, F55⟩ := ob_fun (c.de 55 (d := ⟨("Look", some "children"), "children", "Look.children", s_Look_children, []⟩) rfl) rfl (c.ck2 2 9 rfl rfl)
  have b55 := F55.binds (ps := ["self"]) fun _ _ _ _ _ _ us hl => match us, hl with | [_], _ => rfl
  obtain ⟨fd56, F56⟩ := ob_fun (c.de 56 (d := ⟨("Look", some "form"), "form", "Look.form", s_Look_form, []⟩) rfl) rfl (c.ck2 2 10 rfl rfl)
  have b56 := F56.binds (ps := ["self"]) fun _ _ _ _ _ _ us hl => match us, hl with | [_], _ => rfl
  obtain ⟨fd57, F57⟩ := ob_fun (c.de 57 (d := ⟨("Look", some "answer_in"), "answer_in", "Look.answer_in", s_Look_answer_in, []⟩) rfl) rfl (c.ck2 2 11 rfl rfl)
  have b57 := F57.binds (ps := ["self", "world", "now"]) fun _ _ _ _ _ _ us hl => match us, hl with | [_, _, _], _ => rfl
  obtain ⟨cc58, cd58, lk58, hc58, kp58, ce58, co58⟩ := ob_sup (D := "Pair") (file := fileS) (c.de 58 (d := ⟨("Pair", some "__init__"), "__init__", "Pair.__init__", s_Pair_init, [("__class__" : Str)]⟩) rfl) rfl (c.ck2 2 12 rfl rfl)
  obtain ⟨x1_58, x2_58, x3_58, x4_58, x5_58, y1_58, y2_58⟩ := co58
  obtain ⟨fd59, F59⟩ := ob_fun (c.de 59 (d := ⟨("Pair", some "children"), "children", "Pair.children", s_Pair_children, []⟩) rfl) rfl (c.ck2 2 14 rfl rfl)
  have b59 := F59.binds (ps := ["self"]) fun _ _ _ _ _ _ us hl => match us, hl with | [_], _ => rfl
  obtain ⟨fd60, F60⟩ := ob_fun (c.de 60 (d := ⟨("Either", some "form"), "form", "Either.form", s_Either_form, []⟩) rfl) rfl (c.ck2 2 15 rfl rfl)
  have b60 := F60.binds (ps := ["self"]) fun _ _ _ _ _ _ us hl => match us, hl with | [_], _ => rfl
  obtain ⟨fd61, F61⟩ := ob_fun (c.de 61 (d := ⟨("Either", some "answer_in"), "answer_in", "Either.answer_in", s_Either_answer_in, []⟩) rfl) rfl (c.ck2 2 16 rfl rfl)
  have b61 := F61.binds (ps := ["self", "world", "now"]) fun _ _ _ _ _ _ us hl => match us, hl with | [_, _, _], _ => rfl
  obtain ⟨fd62, F62⟩ := ob_fun (c.de 62 (d := ⟨("Later", some "form"), "form", "Later.form", s_Later_form, []⟩) rfl) rfl (c.ck2 2 17 rfl rfl)
  have b62 := F62.binds (ps := ["self"]) fun _ _ _ _ _ _ us hl => match us, hl with | [_], _ => rfl
  obtain ⟨fd63, F63⟩ := ob_fun (c.de 63 (d := ⟨("Later", some "answer_in"), "answer_in", "Later.answer_in", s_Later_answer_in, []⟩) rfl) rfl (c.ck2 2 18 rfl rfl)
  have b63 := F63.binds (ps := ["self", "world", "now"]) fun _ _ _ _ _ _ us hl => match us, hl with | [_, _, _], _ => rfl
  obtain ⟨fd64, F64⟩ := ob_fun (c.de 64 (d := ⟨("Earlier", some "form"), "form", "Earlier.form", s_Earlier_form, []⟩) rfl) rfl (c.ck2 2 19 rfl rfl)
  have b64 := F64.binds (ps := ["self"]) fun _ _ _ _ _ _ us hl => match us, hl with | [_], _ => rfl
  obtain ⟨fd65, F65⟩ := ob_fun (c.de 65 (d := ⟨("Earlier", some "answer_in"), "answer_in", "Earlier.answer_in", s_Earlier_answer_in, []⟩) rfl) rfl (c.ck2 2 20 rfl rfl)
  have b65 := F65.binds (ps := ["self", "world", "now"]) fun _ _ _ _ _ _ us hl => match us, hl with | [_, _, _], _ => rfl
  obtain ⟨fd33', F33', FC33⟩ := ob_funC (c.de 33 (d := ⟨("law", none), "law", "law", s_law, []⟩) rfl) rfl (c.ck2 1 39 rfl rfl) (ct.t (a := ("law", none)) (by simp [tabs])).1
  have ef33 : fd33' = fd33 := by obtain ⟨_, _, _, _, _, _, _, _, _, e1, e2, _⟩ := F33'.ex; obtain ⟨_, _, _, _, _, _, _, _, _, e3, e4, _⟩ := F33.ex; rw [e2] at e4; have e5 := congrArg Obj.data (Option.some.inj e4); simp only [Data.func.injEq] at e5; exact e5
  rw [ef33] at FC33
  have bl : ∀ (s : Shared) (v : Value), BindsTo s fd33 ⟨[v], []⟩ [("_law_script", v)] := by
    obtain ⟨_, _, _, _, _, _, _, _, _, e, _⟩ := F33.ex
    rw [e]
    exact fun s v => .of_eq rfl
  exact ⟨⟨(He.ga K "BadName"),
    PySem.W.mg_of X G (He.eqO_ok (c.ck2 0 0 rfl rfl)),
    (He.ga K "BadMoment"),
    PySem.W.mg_of X G (He.eqO_ok (c.ck2 0 1 rfl rfl)),
    (He.ga K "BadBound"),
    PySem.W.mg_of X G (He.eqO_ok (c.ck2 0 2 rfl rfl)),
    (He.ga K "BadTerm"),
    PySem.W.mg_of X G (He.eqO_ok (c.ck2 0 3 rfl rfl)),
    (He.ga K "BadWay"),
    PySem.W.mg_of X G (He.eqO_ok (c.ck2 0 4 rfl rfl)),
    (He.ga K "BadPath"),
    PySem.W.mg_of X G (He.eqO_ok (c.ck2 0 5 rfl rfl)),
    (He.ga K "BadWorld"),
    PySem.W.mg_of X G (He.eqO_ok (c.ck2 0 6 rfl rfl)),
    (He.ga K "BadRows"),
    PySem.W.mg_of X G (He.eqO_ok (c.ck2 0 7 rfl rfl)),
    (He.ga K "BadFact"),
    PySem.W.mg_of X G (He.eqO_ok (c.ck2 0 8 rfl rfl)),
    (He.ga K "BadText"),
    PySem.W.mg_of X G (He.eqO_ok (c.ck2 0 9 rfl rfl)),
    (He.ga K "Unknown"),
    PySem.W.mg_of X G (He.eqO_ok (c.ck2 0 10 rfl rfl)),
    (He.ga K "TooMany"),
    PySem.W.mg_of X G (He.eqO_ok (c.ck2 0 11 rfl rfl)),
    (He.ga K "Unlike"),
    PySem.W.mg_of X G (He.eqO_ok (c.ck2 0 12 rfl rfl)),
    (He.ga K "NotCovered"),
    PySem.W.mg_of X G (He.eqO_ok (c.ck2 0 13 rfl rfl)),
    (He.ga K "NotMost"),
    PySem.W.mg_of X G (He.eqO_ok (c.ck2 0 14 rfl rfl)),
    (He.ga K "NotSettled"),
    PySem.W.mg_of X G (He.eqO_ok (c.ck2 0 15 rfl rfl)),
    (He.ga K "World"),
    PySem.W.mg_of X G (He.eqO_ok (c.ck2 0 16 rfl rfl)),
    (He.ga K "Term"),
    PySem.W.mg_of X G (He.eqO_ok (c.ck2 0 17 rfl rfl)),
    (He.ga K "Now"),
    PySem.W.mg_of X G (He.eqO_ok (c.ck2 0 18 rfl rfl)),
    (He.ga K "Shift"),
    PySem.W.mg_of X G (He.eqO_ok (c.ck2 0 19 rfl rfl)),
    (He.ga K "Look"),
    PySem.W.mg_of X G (He.eqO_ok (c.ck2 0 20 rfl rfl)),
    (He.ga K "Pair"),
    PySem.W.mg_of X G (He.eqO_ok (c.ck2 0 21 rfl rfl)),
    (He.ga K "Either"),
    PySem.W.mg_of X G (He.eqO_ok (c.ck2 0 22 rfl rfl)),
    (He.ga K "Later"),
    PySem.W.mg_of X G (He.eqO_ok (c.ck2 0 23 rfl rfl)),
    (He.ga K "Earlier"),
    PySem.W.mg_of X G (He.eqO_ok (c.ck2 0 24 rfl rfl)),
    (He.ga K "WAYS"),
    PySem.W.mg_of X G (He.eqO_ok (c.ck2 0 25 rfl rfl)),
    fun H => He.tupB_ok (vs := [.str "at", .str "before", .str "since", .str "after"]) (c.ck2 0 26 rfl rfl) H,
    u_DEEPEST,
    k_DEEPEST,
    u_LARGEST,
    k_LARGEST,
    u_LETTERS,
    k_LETTERS,
    u_MOST_LOOKS,
    k_MOST_LOOKS,
    u_MOST_PARTS,
    k_MOST_PARTS,
    u_MOST_ROWS,
    k_MOST_ROWS,
    ⟨(He.fAd K ("is_integer", none)), fd0, F0, b0, PySem.W.mg_of X G (He.eqO_ok (c.ck2 0 34 rfl rfl))⟩,
    ⟨(He.fAd K ("is_from_zero", none)), fd1, F1, b1, PySem.W.mg_of X G (He.eqO_ok (c.ck2 0 36 rfl rfl))⟩,
    ⟨(He.fAd K ("is_name", none)), fd2, F2, b2, PySem.W.mg_of X G (He.eqO_ok (c.ck2 0 38 rfl rfl))⟩,
    ⟨(He.fAd K ("check_name", none)), fd3, F3, b3, PySem.W.mg_of X G (He.eqO_ok (c.ck2 0 40 rfl rfl))⟩,
    ⟨(He.fAd K ("check_moment", none)), fd4, F4, b4, PySem.W.mg_of X G (He.eqO_ok (c.ck2 0 42 rfl rfl))⟩,
    ⟨(He.fAd K ("check_bound", none)), fd5, F5, b5, PySem.W.mg_of X G (He.eqO_ok (c.ck2 0 44 rfl rfl))⟩,
    ⟨(He.fAd K ("check_limit", none)), fd6, F6, b6, PySem.W.mg_of X G (He.eqO_ok (c.ck2 0 46 rfl rfl))⟩,
    ⟨(He.fAd K ("check_rows", none)), fd7, F7, b7, PySem.W.mg_of X G (He.eqO_ok (c.ck2 0 48 rfl rfl))⟩,
    ⟨(He.fAd K ("limited", none)), fd8, F8, b8, PySem.W.mg_of X G (He.eqO_ok (c.ck2 0 50 rfl rfl))⟩,
    ⟨(He.fAd K ("checked_pairs", none)), fd9, F9, b9, PySem.W.mg_of X G (He.eqO_ok (c.ck2 0 52 rfl rfl))⟩,
    ⟨(He.fAd K ("check_world", none)), fd10, F10, b10, PySem.W.mg_of X G (He.eqO_ok (c.ck2 0 54 rfl rfl))⟩,
    ⟨(He.fAd K ("shifted", none)), fd11, F11, b11, PySem.W.mg_of X G (He.eqO_ok (c.ck2 0 56 rfl rfl))⟩,
    ⟨(He.fAd K ("fits", none)), fd12, F12, b12, PySem.W.mg_of X G (He.eqO_ok (c.ck2 0 58 rfl rfl))⟩,
    ⟨(He.fAd K ("looked_up", none)), fd13, F13, b13, PySem.W.mg_of X G (He.eqO_ok (c.ck2 1 0 rfl rfl))⟩,
    ⟨(He.fAd K ("check_term", none)), fd14, F14, b14, PySem.W.mg_of X G (He.eqO_ok (c.ck2 1 2 rfl rfl))⟩,
    ⟨(He.fAd K ("spelled_number", none)), fd15, F15, b15, PySem.W.mg_of X G (He.eqO_ok (c.ck2 1 4 rfl rfl))⟩,
    ⟨(He.fAd K ("spelled_look", none)), fd16, F16, b16, PySem.W.mg_of X G (He.eqO_ok (c.ck2 1 6 rfl rfl))⟩,
    ⟨(He.fAd K ("spelled_part", none)), fd17, F17, b17, PySem.W.mg_of X G (He.eqO_ok (c.ck2 1 8 rfl rfl))⟩,
    ⟨(He.fAd K ("spelled", none)), fd18, F18, b18, PySem.W.mg_of X G (He.eqO_ok (c.ck2 1 10 rfl rfl))⟩,
    ⟨(He.fAd K ("_law_open", none)), fd19, F19, b19, PySem.W.mg_of X G (He.eqO_ok (c.ck2 1 12 rfl rfl))⟩,
    ⟨(He.fAd K ("_law_pick", none)), fd20, F20, b20, PySem.W.mg_of X G (He.eqO_ok (c.ck2 1 14 rfl rfl))⟩,
    ⟨(He.fAd K ("_law_number", none)), fd21, F21, b21, PySem.W.mg_of X G (He.eqO_ok (c.ck2 1 16 rfl rfl))⟩,
    ⟨(He.fAd K ("_law_limit", none)), fd22, F22, b22, PySem.W.mg_of X G (He.eqO_ok (c.ck2 1 18 rfl rfl))⟩,
    ⟨(He.fAd K ("_law_names", none)), fd23, F23, b23, PySem.W.mg_of X G (He.eqO_ok (c.ck2 1 20 rfl rfl))⟩,
    ⟨(He.fAd K ("_law_shift", none)), fd24, F24, b24, PySem.W.mg_of X G (He.eqO_ok (c.ck2 1 22 rfl rfl))⟩,
    ⟨(He.fAd K ("_law_tree", none)), fd25, F25, b25, PySem.W.mg_of X G (He.eqO_ok (c.ck2 1 24 rfl rfl))⟩,
    ⟨(He.fAd K ("_law_term", none)), fd26, F26, b26, PySem.W.mg_of X G (He.eqO_ok (c.ck2 1 26 rfl rfl))⟩,
    ⟨(He.fAd K ("_law_children", none)), fd27, F27, b27, PySem.W.mg_of X G (He.eqO_ok (c.ck2 1 28 rfl rfl))⟩,
    ⟨(He.fAd K ("_law_paths", none)), fd28, F28, b28, PySem.W.mg_of X G (He.eqO_ok (c.ck2 1 30 rfl rfl))⟩,
    ⟨(He.fAd K ("_law_part", none)), fd29, F29, b29, PySem.W.mg_of X G (He.eqO_ok (c.ck2 1 32 rfl rfl))⟩,
    ⟨(He.fAd K ("_law_refusal", none)), fd30, F30, b30, PySem.W.mg_of X G (He.eqO_ok (c.ck2 1 34 rfl rfl))⟩,
    ⟨(He.fAd K ("_law_equal", none)), fd31, F31, b31, PySem.W.mg_of X G (He.eqO_ok (c.ck2 1 36 rfl rfl))⟩,
    ⟨(He.fAd K ("_law_written", none)), fd32, F32, b32, PySem.W.mg_of X G (He.eqO_ok (c.ck2 1 38 rfl rfl))⟩,
    ⟨(He.fAd K ("law", none)), fd33, F33, b33, PySem.W.mg_of X G (He.eqO_ok (c.ck2 1 40 rfl rfl))⟩,
    ⟨(He.fAd K ("BadTerm", some "__init__")), fd34, F34, b34⟩,
    ⟨(He.fAd K ("World", some "__init__")), fd35, ex35, bd35⟩,
    ⟨(He.fAd K ("World", some "__getitem__")), fd36, F36, b36⟩,
    ⟨(He.fAd K ("Term", some "__init__")), fd37, F37⟩,
    ⟨(He.fAd K ("Term", some "__add__")), fd38, F38, b38⟩,
    ⟨(He.fAd K ("Term", some "__sub__")), fd39, F39, b39⟩,
    ⟨(He.fAd K ("Term", some "__or__")), fd40, F40, b40⟩,
    ⟨(He.fAd K ("Term", some "__eq__")), fd41, F41, b41⟩,
    ⟨(He.fAd K ("Term", some "__call__")), fd42, F42, b42⟩,
    ⟨(He.fAd K ("Term", some "later")), fd43, F43, b43⟩,
    ⟨(He.fAd K ("Term", some "earlier")), fd44, F44, b44⟩,
    ⟨(He.fAd K ("Term", some "part_at")), fd45, F45, b45⟩,
    ⟨(He.fAd K ("Term", some "children")), fd46, F46, b46⟩,
    ⟨(He.fAd K ("Term", some "form")), fd47, F47, b47⟩,
    ⟨(He.fAd K ("Term", some "answer_in")), fd48, F48, b48⟩,
    ⟨(He.fAd K ("Now", some "__init__")), cc49, cd49, lk49, hc49, kp49, ⟨rfl, ce49, Option.isSome_iff_exists.mp (c.ck2 1 57 rfl rfl), ⟨_, _, _, _, _, _, y1_49, y2_49, hfile⟩, He.eqO_ok (c.ck2 1 58 rfl rfl), He.eqO_ok (c.ck2 1 59 rfl rfl), of_decide_eq_true (c.ck2 2 0 rfl rfl), (c.ck2 2 1 rfl rfl), htop, (by show (defScope s_Now_init).names.lookup ("super" : Str) = _; decide +kernel), (by show (defScope s_Now_init).names.lookup ("__class__" : Str) = _; decide +kernel), by decide⟩⟩,
    ⟨(He.fAd K ("Shift", some "__init__")), cc50, cd50, lk50, hc50, kp50, ⟨rfl, ce50, Option.isSome_iff_exists.mp (c.ck2 2 3 rfl rfl), ⟨_, _, _, _, _, _, y1_50, y2_50, hfile⟩, He.eqO_ok (c.ck2 1 58 rfl rfl), He.eqO_ok (c.ck2 1 59 rfl rfl), of_decide_eq_true (c.ck2 2 0 rfl rfl), (c.ck2 2 1 rfl rfl), htop, (by show (defScope s_Shift_init).names.lookup ("super" : Str) = _; decide +kernel), (by show (defScope s_Shift_init).names.lookup ("__class__" : Str) = _; decide +kernel), by decide⟩⟩,
    ⟨(He.fAd K ("Shift", some "children")), fd51, F51, b51⟩,
    ⟨(He.fAd K ("Shift", some "form")), fd52, F52, b52⟩,
    ⟨(He.fAd K ("Shift", some "answer_in")), fd53, F53, b53⟩,
    ⟨(He.fAd K ("Look", some "__init__")), cc54, cd54, lk54, hc54, kp54, ⟨rfl, ce54, Option.isSome_iff_exists.mp (c.ck2 2 8 rfl rfl), ⟨_, _, _, _, _, _, y1_54, y2_54, hfile⟩, He.eqO_ok (c.ck2 1 58 rfl rfl), He.eqO_ok (c.ck2 1 59 rfl rfl), of_decide_eq_true (c.ck2 2 0 rfl rfl), (c.ck2 2 1 rfl rfl), htop, (by show (defScope s_Look_init).names.lookup ("super" : Str) = _; decide +kernel), (by show (defScope s_Look_init).names.lookup ("__class__" : Str) = _; decide +kernel), by decide⟩⟩,
    ⟨(He.fAd K ("Look", some "children")), fd55, F55, b55⟩,
    ⟨(He.fAd K ("Look", some "form")), fd56, F56, b56⟩,
    ⟨(He.fAd K ("Look", some "answer_in")), fd57, F57, b57⟩,
    ⟨(He.fAd K ("Pair", some "__init__")), cc58, cd58, lk58, hc58, kp58, ⟨rfl, ce58, Option.isSome_iff_exists.mp (c.ck2 2 13 rfl rfl), ⟨_, _, _, _, _, _, y1_58, y2_58, hfile⟩, He.eqO_ok (c.ck2 1 58 rfl rfl), He.eqO_ok (c.ck2 1 59 rfl rfl), of_decide_eq_true (c.ck2 2 0 rfl rfl), (c.ck2 2 1 rfl rfl), htop, (by show (defScope s_Pair_init).names.lookup ("super" : Str) = _; decide +kernel), (by show (defScope s_Pair_init).names.lookup ("__class__" : Str) = _; decide +kernel), by decide⟩⟩,
    ⟨(He.fAd K ("Pair", some "children")), fd59, F59, b59⟩,
    ⟨(He.fAd K ("Either", some "form")), fd60, F60, b60⟩,
    ⟨(He.fAd K ("Either", some "answer_in")), fd61, F61, b61⟩,
    ⟨(He.fAd K ("Later", some "form")), fd62, F62, b62⟩,
    ⟨(He.fAd K ("Later", some "answer_in")), fd63, F63, b63⟩,
    ⟨(He.fAd K ("Earlier", some "form")), fd64, F64, b64⟩,
    ⟨(He.fAd K ("Earlier", some "answer_in")), fd65, F65, b65⟩,
    ⟨⟨(c.ck2 2 21 rfl rfl), (c.ck2 2 22 rfl rfl), (c.ck2 2 23 rfl rfl), (He.eqO_ok (c.ck2 2 24 rfl rfl))⟩, (He.eqO_ok (c.ck2 2 25 rfl rfl)), (He.eqO_ok (c.ck2 2 26 rfl rfl)), (eqB_ok (c.ck2 2 27 rfl rfl)), (eqB_ok (c.ck2 2 28 rfl rfl))⟩,
    ⟨⟨(c.ck2 2 29 rfl rfl), (c.ck2 2 30 rfl rfl), (c.ck2 2 31 rfl rfl), (He.eqO_ok (c.ck2 2 32 rfl rfl))⟩, (He.eqO_ok (c.ck2 2 33 rfl rfl)), (He.eqO_ok (c.ck2 2 26 rfl rfl)), (eqB_ok (c.ck2 2 27 rfl rfl)), (eqB_ok (c.ck2 2 34 rfl rfl))⟩,
    ⟨⟨(c.ck2 2 35 rfl rfl), (c.ck2 2 36 rfl rfl), (c.ck2 2 37 rfl rfl), (He.eqO_ok (c.ck2 2 38 rfl rfl))⟩, (He.eqO_ok (c.ck2 2 39 rfl rfl)), (He.eqO_ok (c.ck2 2 26 rfl rfl)), (eqB_ok (c.ck2 2 27 rfl rfl)), (eqB_ok (c.ck2 2 40 rfl rfl))⟩,
    ⟨⟨(c.ck2 2 41 rfl rfl), (c.ck2 2 42 rfl rfl), (c.ck2 2 43 rfl rfl), (He.eqO_ok (c.ck2 2 44 rfl rfl))⟩, (He.eqO_ok (c.ck2 2 45 rfl rfl)), (He.eqO_ok (c.ck2 2 26 rfl rfl)), (eqB_ok (c.ck2 2 27 rfl rfl)), (eqB_ok (c.ck2 2 46 rfl rfl))⟩,
    ⟨⟨(c.ck2 2 47 rfl rfl), (c.ck2 2 48 rfl rfl), (c.ck2 2 49 rfl rfl), (He.eqO_ok (c.ck2 2 50 rfl rfl))⟩, (He.eqO_ok (c.ck2 2 51 rfl rfl)), (He.eqO_ok (c.ck2 2 26 rfl rfl)), (eqB_ok (c.ck2 2 27 rfl rfl)), (eqB_ok (c.ck2 2 52 rfl rfl))⟩,
    ⟨⟨(c.ck2 2 53 rfl rfl), (c.ck2 2 54 rfl rfl), (c.ck2 2 55 rfl rfl), (He.eqO_ok (c.ck2 2 56 rfl rfl))⟩, (He.eqO_ok (c.ck2 2 57 rfl rfl)), (He.eqO_ok (c.ck2 2 26 rfl rfl)), (eqB_ok (c.ck2 2 27 rfl rfl)), (eqB_ok (c.ck2 2 58 rfl rfl))⟩,
    ⟨⟨(c.ck2 2 59 rfl rfl), (c.ck2 3 0 rfl rfl), (c.ck2 3 1 rfl rfl), (He.eqO_ok (c.ck2 3 2 rfl rfl))⟩, (He.eqO_ok (c.ck2 3 3 rfl rfl)), (He.eqO_ok (c.ck2 2 26 rfl rfl)), (eqB_ok (c.ck2 2 27 rfl rfl)), (eqB_ok (c.ck2 3 4 rfl rfl))⟩,
    ⟨(c.ck2 3 5 rfl rfl), (He.eqO_ok (c.ck2 3 6 rfl rfl)), (c.ck2 3 7 rfl rfl), (c.ck2 3 8 rfl rfl)⟩,
    ⟨(c.ck2 3 9 rfl rfl), (He.eqO_ok (c.ck2 3 10 rfl rfl)), (c.ck2 3 7 rfl rfl), (c.ck2 3 11 rfl rfl)⟩,
    ⟨(c.ck2 3 12 rfl rfl), (He.eqO_ok (c.ck2 3 13 rfl rfl)), (c.ck2 3 7 rfl rfl), (c.ck2 3 14 rfl rfl)⟩,
    ⟨(c.ck2 3 15 rfl rfl), (He.eqO_ok (c.ck2 3 16 rfl rfl)), (c.ck2 3 17 rfl rfl), (c.ck2 3 18 rfl rfl)⟩,
    ⟨(c.ck2 3 19 rfl rfl), (He.eqO_ok (c.ck2 3 20 rfl rfl)), (c.ck2 3 21 rfl rfl), (c.ck2 3 22 rfl rfl)⟩,
    ⟨(c.ck2 3 23 rfl rfl), (He.eqO_ok (c.ck2 3 24 rfl rfl)), (c.ck2 3 25 rfl rfl), (c.ck2 3 26 rfl rfl)⟩,
    ⟨(He.eqO_ok (c.ck2 3 27 rfl rfl)), (c.ck2 3 28 rfl rfl), (c.ck2 3 29 rfl rfl)⟩,
    ⟨(He.eqO_ok (c.ck2 3 30 rfl rfl)), (c.ck2 3 31 rfl rfl), (c.ck2 3 32 rfl rfl)⟩,
    ⟨(He.eqO_ok (c.ck2 3 33 rfl rfl)), (c.ck2 3 34 rfl rfl), (c.ck2 3 35 rfl rfl)⟩,
    ⟨(He.eqO_ok (c.ck2 3 36 rfl rfl)), (c.ck2 3 37 rfl rfl), (c.ck2 3 38 rfl rfl)⟩,
    ⟨(He.eqO_ok (c.ck2 3 39 rfl rfl)), (c.ck2 3 40 rfl rfl), (c.ck2 3 41 rfl rfl)⟩,
    ⟨(He.eqO_ok (c.ck2 3 42 rfl rfl)), (c.ck2 3 43 rfl rfl), (c.ck2 3 44 rfl rfl)⟩,
    ⟨(He.eqO_ok (c.ck2 3 45 rfl rfl)), (c.ck2 3 46 rfl rfl), (c.ck2 3 47 rfl rfl)⟩,
    ⟨(He.eqO_ok (c.ck2 3 48 rfl rfl)), (c.ck2 3 31 rfl rfl), (c.ck2 3 32 rfl rfl)⟩,
    ⟨(He.eqO_ok (c.ck2 3 49 rfl rfl)), (c.ck2 3 34 rfl rfl), (c.ck2 3 35 rfl rfl)⟩,
    ⟨(He.eqO_ok (c.ck2 3 50 rfl rfl)), (c.ck2 3 51 rfl rfl), (c.ck2 3 52 rfl rfl)⟩,
    ⟨(He.eqO_ok (c.ck2 3 53 rfl rfl)), (c.ck2 3 40 rfl rfl), (c.ck2 3 41 rfl rfl)⟩,
    ⟨(He.eqO_ok (c.ck2 3 54 rfl rfl)), (c.ck2 3 43 rfl rfl), (c.ck2 3 44 rfl rfl)⟩,
    ⟨(He.eqO_ok (c.ck2 3 55 rfl rfl)), (c.ck2 3 56 rfl rfl), (c.ck2 3 57 rfl rfl)⟩,
    ⟨(He.eqO_ok (c.ck2 3 58 rfl rfl)), (c.ck2 3 31 rfl rfl), (c.ck2 3 32 rfl rfl)⟩,
    ⟨(He.eqO_ok (c.ck2 3 59 rfl rfl)), (c.ck2 3 34 rfl rfl), (c.ck2 3 35 rfl rfl)⟩,
    ⟨(He.eqO_ok (c.ck2 4 0 rfl rfl)), (c.ck2 4 1 rfl rfl), (c.ck2 4 2 rfl rfl)⟩,
    ⟨(He.eqO_ok (c.ck2 4 3 rfl rfl)), (c.ck2 3 40 rfl rfl), (c.ck2 3 41 rfl rfl)⟩,
    ⟨(He.eqO_ok (c.ck2 4 4 rfl rfl)), (c.ck2 3 43 rfl rfl), (c.ck2 3 44 rfl rfl)⟩,
    ⟨(He.eqO_ok (c.ck2 4 5 rfl rfl)), (c.ck2 4 6 rfl rfl), (c.ck2 4 7 rfl rfl)⟩,
    ⟨(He.eqO_ok (c.ck2 4 8 rfl rfl)), (c.ck2 4 9 rfl rfl), (c.ck2 4 10 rfl rfl)⟩,
    ⟨(He.eqO_ok (c.ck2 4 11 rfl rfl)), (c.ck2 3 34 rfl rfl), (c.ck2 3 35 rfl rfl)⟩,
    ⟨(He.eqO_ok (c.ck2 4 12 rfl rfl)), (c.ck2 4 13 rfl rfl), (c.ck2 4 14 rfl rfl)⟩,
    ⟨(He.eqO_ok (c.ck2 4 15 rfl rfl)), (c.ck2 3 40 rfl rfl), (c.ck2 3 41 rfl rfl)⟩,
    ⟨(He.eqO_ok (c.ck2 4 16 rfl rfl)), (c.ck2 3 43 rfl rfl), (c.ck2 3 44 rfl rfl)⟩,
    ⟨(He.eqO_ok (c.ck2 4 17 rfl rfl)), (c.ck2 4 18 rfl rfl), (c.ck2 4 19 rfl rfl)⟩,
    ⟨(He.eqO_ok (c.ck2 4 20 rfl rfl)), (c.ck2 4 21 rfl rfl), (c.ck2 4 22 rfl rfl)⟩,
    ⟨(He.eqO_ok (c.ck2 4 23 rfl rfl)), (c.ck2 3 34 rfl rfl), (c.ck2 3 35 rfl rfl)⟩,
    ⟨(He.eqO_ok (c.ck2 4 24 rfl rfl)), (c.ck2 4 25 rfl rfl), (c.ck2 4 26 rfl rfl)⟩,
    ⟨(He.eqO_ok (c.ck2 4 27 rfl rfl)), (c.ck2 3 40 rfl rfl), (c.ck2 3 41 rfl rfl)⟩,
    ⟨(He.eqO_ok (c.ck2 4 28 rfl rfl)), (c.ck2 3 43 rfl rfl), (c.ck2 3 44 rfl rfl)⟩,
    ⟨(He.eqO_ok (c.ck2 4 29 rfl rfl)), (c.ck2 4 30 rfl rfl), (c.ck2 4 31 rfl rfl)⟩,
    ⟨(He.eqO_ok (c.ck2 4 32 rfl rfl)), (c.ck2 4 33 rfl rfl), (c.ck2 4 34 rfl rfl)⟩,
    ⟨(He.eqO_ok (c.ck2 4 35 rfl rfl)), (c.ck2 3 34 rfl rfl), (c.ck2 3 35 rfl rfl)⟩,
    ⟨(He.eqO_ok (c.ck2 4 36 rfl rfl)), (c.ck2 4 37 rfl rfl), (c.ck2 4 38 rfl rfl)⟩,
    ⟨(He.eqO_ok (c.ck2 4 39 rfl rfl)), (c.ck2 3 40 rfl rfl), (c.ck2 3 41 rfl rfl)⟩,
    ⟨(He.eqO_ok (c.ck2 4 40 rfl rfl)), (c.ck2 3 43 rfl rfl), (c.ck2 3 44 rfl rfl)⟩,
    (He.eqO_ok (c.ck2 4 41 rfl rfl)),
    (He.eqO_ok (c.ck2 4 42 rfl rfl)),
    (He.eqO_ok (c.ck2 4 43 rfl rfl)),
    (He.eqO_ok (c.ck2 4 44 rfl rfl)),
    (He.eqO_ok (c.ck2 4 45 rfl rfl)),
    (He.eqO_ok (c.ck2 4 46 rfl rfl)),
    (He.eqO_ok (c.ck2 4 47 rfl rfl)),
    (He.eqO_ok (c.ck2 4 48 rfl rfl)),
    (He.eqO_ok (c.ck2 4 49 rfl rfl)),
    (He.eqO_ok (c.ck2 4 50 rfl rfl)),
    (He.eqO_ok (c.ck2 4 51 rfl rfl)),
    (He.eqO_ok (c.ck2 4 52 rfl rfl)),
    (He.eqO_ok (c.ck2 4 53 rfl rfl)),
    (He.eqO_ok (c.ck2 4 54 rfl rfl)),
    (He.eqO_ok (c.ck2 4 55 rfl rfl)),
    (He.eqO_ok (c.ck2 4 56 rfl rfl)),
    (He.eqO_ok (c.ck2 4 57 rfl rfl)),
    (He.eqO_ok (c.ck2 4 58 rfl rfl)),
    (He.eqO_ok (c.ck2 4 59 rfl rfl)),
    (He.eqO_ok (c.ck2 5 0 rfl rfl)),
    (He.eqO_ok (c.ck2 5 1 rfl rfl)),
    (He.eqO_ok (c.ck2 5 2 rfl rfl)),
    (He.eqO_ok (c.ck2 5 3 rfl rfl)),
    (He.eqO_ok (c.ck2 5 4 rfl rfl)),
    (He.eqO_ok (c.ck2 5 5 rfl rfl)),
    (He.eqO_ok (c.ck2 5 6 rfl rfl)),
    (He.eqO_ok (c.ck2 5 7 rfl rfl)),
    (He.eqO_ok (c.ck2 5 8 rfl rfl)),
    (He.eqO_ok (c.ck2 5 9 rfl rfl)),
    (He.eqO_ok (c.ck2 5 10 rfl rfl)),
    (He.eqO_ok (c.ck2 5 11 rfl rfl)),
    (He.eqO_ok (c.ck2 5 12 rfl rfl)),
    (He.eqO_ok (c.ck2 5 13 rfl rfl)),
    (He.eqO_ok (c.ck2 5 14 rfl rfl)),
    (He.eqO_ok (c.ck2 5 15 rfl rfl)),
    (He.eqO_ok (c.ck2 5 16 rfl rfl)),
    (He.eqO_ok (c.ck2 5 17 rfl rfl)),
    ⟨(eqB_ok (c.ck2 5 18 rfl rfl)), (He.eqO_ok (c.ck2 5 19 rfl rfl))⟩,
    ⟨(eqB_ok (c.ck2 5 20 rfl rfl)), (He.eqO_ok (c.ck2 5 21 rfl rfl))⟩,
    ⟨(eqB_ok (c.ck2 5 22 rfl rfl)), (He.eqO_ok (c.ck2 5 23 rfl rfl))⟩,
    ⟨(eqB_ok (c.ck2 5 24 rfl rfl)), (He.eqO_ok (c.ck2 5 25 rfl rfl))⟩,
    ⟨(eqB_ok (c.ck2 5 26 rfl rfl)), (He.eqO_ok (c.ck2 5 27 rfl rfl))⟩,
    ⟨(eqB_ok (c.ck2 5 28 rfl rfl)), (He.eqO_ok (c.ck2 5 29 rfl rfl))⟩,
    ⟨(c.ck2 5 30 rfl rfl), (He.eqO_ok (c.ck2 5 31 rfl rfl)), (c.ck2 5 32 rfl rfl), (He.eqO_ok (c.ck2 5 33 rfl rfl)), (c.ck2 5 34 rfl rfl), (c.ck2 5 35 rfl rfl), (eqB_ok (c.ck2 5 36 rfl rfl))⟩,
    ⟨(c.ck2 5 37 rfl rfl), (He.eqO_ok (c.ck2 5 38 rfl rfl)), (c.ck2 5 32 rfl rfl), (He.eqO_ok (c.ck2 5 39 rfl rfl)), (c.ck2 5 34 rfl rfl), (c.ck2 5 35 rfl rfl), (eqB_ok (c.ck2 5 40 rfl rfl))⟩,
    ⟨(c.ck2 5 41 rfl rfl), (He.eqO_ok (c.ck2 5 42 rfl rfl)), (c.ck2 5 32 rfl rfl), (He.eqO_ok (c.ck2 5 43 rfl rfl)), (c.ck2 5 34 rfl rfl), (c.ck2 5 35 rfl rfl), (eqB_ok (c.ck2 5 44 rfl rfl))⟩,
    ⟨(c.ck2 5 45 rfl rfl), (He.eqO_ok (c.ck2 5 46 rfl rfl)), (c.ck2 5 32 rfl rfl), (He.eqO_ok (c.ck2 5 47 rfl rfl)), (c.ck2 5 34 rfl rfl), (c.ck2 5 35 rfl rfl), (eqB_ok (c.ck2 5 48 rfl rfl))⟩,
    ⟨(c.ck2 5 49 rfl rfl), (He.eqO_ok (c.ck2 5 50 rfl rfl)), (c.ck2 5 32 rfl rfl), (He.eqO_ok (c.ck2 5 51 rfl rfl)), (c.ck2 5 34 rfl rfl), (c.ck2 5 35 rfl rfl), (eqB_ok (c.ck2 5 52 rfl rfl))⟩,
    ⟨(c.ck2 5 53 rfl rfl), (He.eqO_ok (c.ck2 5 54 rfl rfl)), (c.ck2 5 32 rfl rfl), (He.eqO_ok (c.ck2 5 55 rfl rfl)), (c.ck2 5 34 rfl rfl), (c.ck2 5 35 rfl rfl), (eqB_ok (c.ck2 5 56 rfl rfl))⟩,
    ⟨(c.ck2 5 30 rfl rfl), (He.eqO_ok (c.ck2 5 57 rfl rfl)), (c.ck2 5 58 rfl rfl), (He.eqO_ok (c.ck2 5 59 rfl rfl))⟩,
    ⟨(c.ck2 5 37 rfl rfl), (He.eqO_ok (c.ck2 6 0 rfl rfl)), (c.ck2 5 58 rfl rfl), (He.eqO_ok (c.ck2 6 1 rfl rfl))⟩,
    ⟨(c.ck2 5 41 rfl rfl), (He.eqO_ok (c.ck2 6 2 rfl rfl)), (c.ck2 5 58 rfl rfl), (He.eqO_ok (c.ck2 6 3 rfl rfl))⟩,
    ⟨(c.ck2 5 45 rfl rfl), (He.eqO_ok (c.ck2 6 4 rfl rfl)), (c.ck2 5 58 rfl rfl), (He.eqO_ok (c.ck2 6 5 rfl rfl))⟩,
    ⟨(c.ck2 5 49 rfl rfl), (He.eqO_ok (c.ck2 6 6 rfl rfl)), (c.ck2 5 58 rfl rfl), (He.eqO_ok (c.ck2 6 7 rfl rfl))⟩,
    ⟨(c.ck2 5 53 rfl rfl), (He.eqO_ok (c.ck2 6 8 rfl rfl)), (c.ck2 5 58 rfl rfl), (He.eqO_ok (c.ck2 6 9 rfl rfl))⟩,
    (eqB_ok (c.ck2 6 10 rfl rfl)),
    (eqB_ok (c.ck2 6 11 rfl rfl)),
    (eqB_ok (c.ck2 6 12 rfl rfl)),
    (eqB_ok (c.ck2 6 13 rfl rfl)),
    (eqB_ok (c.ck2 6 14 rfl rfl)),
    (eqB_ok (c.ck2 6 15 rfl rfl)),
    (eqB_ok (c.ck2 6 16 rfl rfl)),
    (eqB_ok (c.ck2 6 17 rfl rfl)),
    (eqB_ok (c.ck2 6 18 rfl rfl)),
    (eqB_ok (c.ck2 6 19 rfl rfl)),
    (eqB_ok (c.ck2 6 20 rfl rfl)),
    (eqB_ok (c.ck2 6 21 rfl rfl)),
    (eqB_ok (c.ck2 6 22 rfl rfl)),
    (eqB_ok (c.ck2 6 23 rfl rfl)),
    (eqB_ok (c.ck2 6 24 rfl rfl)),
    (eqB_ok (c.ck2 6 25 rfl rfl)),
    (eqB_ok (c.ck2 6 26 rfl rfl)),
    (eqB_ok (c.ck2 6 27 rfl rfl)),
    (eqB_ok (c.ck2 6 28 rfl rfl)),
    (eqB_ok (c.ck2 6 29 rfl rfl)),
    (eqB_ok (c.ck2 6 30 rfl rfl)),
    (eqB_ok (c.ck2 6 31 rfl rfl)),
    (eqB_ok (c.ck2 6 32 rfl rfl)),
    (eqB_ok (c.ck2 6 33 rfl rfl)),
    (eqB_ok (c.ck2 6 34 rfl rfl)),
    (eqB_ok (c.ck2 6 35 rfl rfl)),
    (eqB_ok (c.ck2 6 36 rfl rfl)),
    (eqB_ok (c.ck2 6 37 rfl rfl)),
    (eqB_ok (c.ck2 6 38 rfl rfl)),
    (eqB_ok (c.ck2 6 39 rfl rfl)),
    ⟨(He.eqO_ok (c.ck2 6 40 rfl rfl)), (c.ck2 6 41 rfl rfl), (c.ck2 6 42 rfl rfl)⟩,
    (eqB_ok (c.ck2 6 43 rfl rfl)),
    (eqB_ok (c.ck2 6 44 rfl rfl)),
    (eqB_ok (c.ck2 6 45 rfl rfl)),
    (eqB_ok (c.ck2 6 46 rfl rfl)),
    (eqB_ok (c.ck2 6 47 rfl rfl)),
    (eqB_ok (c.ck2 6 48 rfl rfl)),
    (eqB_ok (c.ck2 6 49 rfl rfl)),
    (eqB_ok (c.ck2 6 50 rfl rfl)),
    (eqB_ok (c.ck2 6 51 rfl rfl)),
    (eqB_ok (c.ck2 6 52 rfl rfl)),
    (eqB_ok (c.ck2 6 53 rfl rfl)),
    (eqB_ok (c.ck2 6 54 rfl rfl)),
    (eqB_ok (c.ck2 6 55 rfl rfl)),
    (eqB_ok (c.ck2 6 56 rfl rfl)),
    (eqB_ok (c.ck2 6 57 rfl rfl)),
    (eqB_ok (c.ck2 6 58 rfl rfl)),
    (eqB_ok (c.ck2 6 59 rfl rfl)),
    (eqB_ok (c.ck2 7 0 rfl rfl)),
    (eqB_ok (c.ck2 7 1 rfl rfl)),
    (eqB_ok (c.ck2 7 2 rfl rfl)),
    (eqB_ok (c.ck2 7 3 rfl rfl)),
    (eqB_ok (c.ck2 7 4 rfl rfl)),
    (eqB_ok (c.ck2 7 5 rfl rfl)),
    (eqB_ok (c.ck2 7 6 rfl rfl)),
    (eqB_ok (c.ck2 7 7 rfl rfl)),
    (eqB_ok (c.ck2 7 8 rfl rfl)),
    (eqB_ok (c.ck2 7 9 rfl rfl)),
    (eqB_ok (c.ck2 7 10 rfl rfl)),
    (eqB_ok (c.ck2 7 11 rfl rfl)),
    (eqB_ok (c.ck2 7 12 rfl rfl)),
    (eqB_ok (c.ck2 7 13 rfl rfl)),
    (eqB_ok (c.ck2 7 14 rfl rfl)),
    (eqB_ok (c.ck2 7 15 rfl rfl)),
    (eqB_ok (c.ck2 7 16 rfl rfl)),
    (eqB_ok (c.ck2 7 17 rfl rfl)),
    (eqB_ok (c.ck2 7 18 rfl rfl)),
    (eqB_ok (c.ck2 7 19 rfl rfl)),
    (eqB_ok (c.ck2 7 20 rfl rfl)),
    (eqB_ok (c.ck2 7 21 rfl rfl)),
    (eqB_ok (c.ck2 7 22 rfl rfl)),
    (eqB_ok (c.ck2 7 23 rfl rfl)),
    (eqB_ok (c.ck2 7 24 rfl rfl)),
    ⟨⟨oexB_ok (c.ck2 7 25 rfl rfl), (He.eqO_ok (c.ck2 7 26 rfl rfl)), (eqB_ok (c.ck2 7 27 rfl rfl)), of_decide_eq_true (c.ck2 7 28 rfl rfl), (c.ck2 7 29 rfl rfl)⟩, (He.eqO_ok (c.ck2 7 30 rfl rfl)), of_decide_eq_true (c.ck2 7 31 rfl rfl), (He.eqO_ok (c.ck2 7 32 rfl rfl)), xfB_ok (c.ck2 7 33 rfl rfl)⟩,
    (eqB_ok (c.ck2 7 34 rfl rfl)),
    (eqB_ok (c.ck2 7 35 rfl rfl)),
    (eqB_ok (c.ck2 7 36 rfl rfl)),
    (eqB_ok (c.ck2 7 37 rfl rfl)),
    ⟨cdA K ("law", none), cdP K ("law", none), rfl, rfl, FC33⟩,
    ⟨(He.eqO_ok (c.ck2 7 38 rfl rfl)), (c.ck2 7 39 rfl rfl), (c.ck2 7 40 rfl rfl)⟩,
    ⟨(He.eqO_ok (c.ck2 7 41 rfl rfl)), (c.ck2 7 39 rfl rfl), (c.ck2 7 40 rfl rfl)⟩,
    ⟨(He.eqO_ok (c.ck2 7 42 rfl rfl)), (c.ck2 7 39 rfl rfl), (c.ck2 7 40 rfl rfl)⟩,
    ⟨(He.eqO_ok (c.ck2 7 43 rfl rfl)), (c.ck2 7 39 rfl rfl), (c.ck2 7 40 rfl rfl)⟩,
    ⟨(He.eqO_ok (c.ck2 7 44 rfl rfl)), (c.ck2 7 39 rfl rfl), (c.ck2 7 40 rfl rfl)⟩,
    ⟨(He.eqO_ok (c.ck2 7 45 rfl rfl)), (c.ck2 7 39 rfl rfl), (c.ck2 7 40 rfl rfl)⟩,
    PySem.W.mg_none_of X G (He.eqO_ok (c.ck2 7 46 rfl rfl)),
    PySem.W.mg_none_of X G (He.eqO_ok (c.ck2 7 47 rfl rfl)),
    PySem.W.mg_none_of X G (He.eqO_ok (c.ck2 7 48 rfl rfl)),
    PySem.W.mg_none_of X G (He.eqO_ok (c.ck2 7 49 rfl rfl)),
    PySem.W.mg_none_of X G (He.eqO_ok (c.ck2 7 50 rfl rfl)),
    PySem.W.mg_none_of X G (He.eqO_ok (c.ck2 7 51 rfl rfl)),
    PySem.W.mg_none_of X G (He.eqO_ok (c.ck2 7 52 rfl rfl)),
    PySem.W.mg_none_of X G (He.eqO_ok (c.ck2 7 53 rfl rfl)),
    PySem.W.mg_none_of X G (He.eqO_ok (c.ck2 7 54 rfl rfl)),
    PySem.W.mg_none_of X G (He.eqO_ok (c.ck2 7 55 rfl rfl)),
    PySem.W.mg_none_of X G (He.eqO_ok (c.ck2 7 56 rfl rfl)),
    PySem.W.mg_none_of X G (He.eqO_ok (c.ck2 1 58 rfl rfl)),
    PySem.W.mg_none_of X G (He.eqO_ok (c.ck2 7 57 rfl rfl)),
    PySem.W.mg_none_of X G (He.eqO_ok (c.ck2 7 58 rfl rfl)),
    PySem.W.mg_none_of X G (He.eqO_ok (c.ck2 7 59 rfl rfl))⟩, rfl, bl⟩
-- END RUN
-- LAWIX: 76
end Pl

set_option Elab.async false
set_option linter.all false
set_option maxRecDepth 100000
set_option maxHeartbeats 4000000
/-! sorted over data, max with a default, C() -/
namespace Pl
open PySem PySem.Spec PyProof.Rows L2
section
variable {X : Cx}
/-- xs reads as data, item by item -/
def RdAll (K : PySem.W.Frag) (H : Hp) {β : Type} (enc : β → PyData) (vs : List V) (bs : List β) : Prop := vs.length = bs.length ∧ ∀ (i : Nat) (v : V) (b : β), vs[i]? = some v → bs[i]? = some b → Dp K H v (enc b)
theorem each_of {R : Value → β → Prop} : ∀ {us : List Value} {bs : List β}, us.length = bs.length → (∀ (i : Nat) u b, us[i]? = some u → bs[i]? = some b → R u b) → PySem.W.EachIs R us bs
  | [], [], _, _ => .nil
  | u :: us, b :: bs, hl, h => .cons (h 0 u b rfl rfl) (each_of (Nat.succ.inj hl) fun i u b h1 h2 => h (i + 1) u b h1 h2)
theorem each_at {R : Value → β → Prop} : ∀ {us : List Value} {bs : List β}, PySem.W.EachIs R us bs → ∀ (i : Nat) u b, us[i]? = some u → bs[i]? = some b → R u b
  | _, _, .cons r _, 0, u, b, h1, h2 => by
    cases h1
    cases h2
    exact r
  | _, _, .cons _ t, i + 1, u, b, h1, h2 => each_at t i u b h1 h2
  | _, _, .nil, _, u, b, h1, _ => by simp at h1
theorem vals_of : ∀ {vs : List V} {us : List Value}, PySem.W.EachIs (fun u v => RelV v u) us vs → Vals vs us
  | _, _, .nil => .nil
  | _, _, .cons r t => .cons r (vals_of t)
theorem each_fst {β : Type} : ∀ {us : List Value} {ps : List (V × β)}, PySem.W.EachIs (fun u (p : V × β) => RelV p.1 u) us ps → Vals (ps.map (·.1)) us
  | _, _, .nil => .nil
  | _, _, .cons r t => .cons r (each_fst t)
/-- sorted(xs): xs a list that reads as alike data -/
def rSortD (K : PySem.W.Frag) {β : Type} (enc : β → PyData) : List V → Hp → VK → Prop := fun xs H Q => ∃ (a : Addr) (ps : List (V × β)), xs = [V.ref a] ∧ SqL K H a (ps.map (·.1)) ∧ ps.length ≤ 100000 ∧ (∀ p ∈ ps, Dp K H p.1 (enc p.2)) ∧
  PySem.W.AllAlike ((ps.map (·.2)).map enc) ∧ PySem.W.Sortable ((ps.map (·.2)).map enc) ∧ (∀ p ∈ ps, (enc p.2).depth ≤ 10) ∧ ∀ q, H q = none → Q (.ref q) (upd H q (.lst ((ps.mergeSort (PySem.W.dataLe false fun p => enc p.2)).map (·.1))))
theorem cr_sortD {β : Type} {enc : β → PyData} (hu : X.A.units + 64 < cLine) : CallR X (.builtin "sorted") (rSortD X.K enc) := by
  intro pins s σ H xs us Q I r h
  obtain ⟨a, ps, rfl, hs, hl, hd, hal, hsr, hdp, q⟩ := h
  obtain ⟨its, rv, hli, _⟩ := I.list hs
  rw [Vals.ref1 r]
  have hle : its.length = ps.length := by rw [← rv.length, List.length_map]
  have rel : ∀ (i : Nat) u p, its[i]? = some u → ps[i]? = some p → RelV p.1 u := fun i u p h1 h2 => by
    obtain ⟨u', hu', r'⟩ := rv.get (i := i) (x := p.1) (by rw [List.getElem?_map, h2]; rfl)
    rw [h1] at hu'
    cases hu'
    exact r'
  have e1 : PySem.W.EachIs (fun u (p : V × β) => RelV p.1 u) its ps := each_of hle rel
  have e2 : PySem.W.EachIs (fun u (p : V × β) => ∃ as, Reads s.heap u (enc p.2) as) its ps := each_of hle fun i u p h1 h2 => Dp.reads I _ _ _ (hd p (List.mem_of_getElem? h2)) (rel i u p h1 h2)
  have em : (ps.map (·.2)).map enc = ps.map fun p => enc p.2 := by rw [List.map_map]; rfl
  refine PySem.W.sorted_data (bs := ps) (enc := fun p => enc p.2) hli.isList e1 e2 (by rw [← em]; exact hal) (by rw [← em]; exact hsr) (Nat.le_trans hl (by decide)) (fun p hp => by have := hdp p hp; show X.A.units + 2 + (enc p.2).depth < cLine; omega) fun out ho eo => ?_
  obtain ⟨c, hc⟩ := sortedAll_at s.heap its out.toArray
  have fr : H (s.heap.objs.size + 1) = none := I.hok.fresh (Nat.le_succ _)
  refine ⟨.ref (s.heap.objs.size + 1), _, I.laid (t' := s.toks) (fun _ _ => sortedAll_old) (Nat.le_succ _) ?_, rfl, q _ fr⟩
  have hv := each_fst eo
  refine ⟨?_, out, c, hv, hc⟩
  rw [List.length_map, List.length_mergeSort]
  exact Nat.le_trans hl (by decide)
def mxD (d : Int) : List Int → Int
  | [] => d
  | n :: r => r.foldl max n
/-- max(xs, default=d): a list of numbers -/
def rMaxDef (K : PySem.W.Frag) : List V → List V → Hp → VK → Prop := fun xs zs H Q => ∃ (a : Addr) (ns : List Int) (d : Int), xs = [V.ref a] ∧ zs = [V.int d] ∧ SqL K H a (ns.map V.int) ∧ Q (.int (mxD d ns)) H
theorem dp_ints {K : PySem.W.Frag} {H : Hp} : ∀ ns : List Int, DpAll K H (ns.map V.int) (ns.map PyData.int)
  | [] => .nil
  | n :: ns => .cons (.int n) (dp_ints ns)
theorem crk_maxDef (hc : X.calm = true) (hu : X.A.units + 64 < cLine) : CallRK X (.builtin "max") [("default" : Str)] (rMaxDef X.K) := by
  intro pins s σ H xs zs us ws Q I r1 r2 h
  obtain ⟨a, ns, d, rfl, rfl, hs, q⟩ := h
  obtain ⟨its, rv, hli, _⟩ := I.list hs
  rw [Vals.ref1 r1]
  obtain ⟨w, rfl, rw'⟩ := r2.one
  obtain ⟨t, rfl⟩ := (show ∃ t, w = Value.int d t from rw')
  obtain ⟨as, hr⟩ := Dp.readsAll I _ _ _ (dp_ints ns) rv
  have hdp := PySem.W.depth_ints ns
  refine PySem.W.max_list_default (A := X.A) (xs := ns.map PyData.int) (vs := its.toArray) (I.ok.hd hc) hli.isList hr ?_ ?_ ?_ ?_
  · refine ⟨fun x hx y hy => ?_, fun x hx => ?_⟩
    · obtain ⟨i, _, rfl⟩ := List.mem_map.mp hx
      obtain ⟨j, _, rfl⟩ := List.mem_map.mp hy
      rfl
    · obtain ⟨i, _, rfl⟩ := List.mem_map.mp hx
      intro z
      cases z
  · rw [hdp]
    omega
  · intro e h' tk hk
    have e' : ns = [] := List.map_eq_nil_iff.mp e
    subst e'
    exact ⟨.int d, H, I.kept hk, ⟨_, rfl⟩, q⟩
  · intro y ys i v h' tk bs e hv hr' hk
    cases ns with
    | nil => cases e
    | cons n r =>
      cases e
      rw [PySem.W.maxD_ints] at hr'
      cases hr'
      exact ⟨.int _, H, I.kept hk, ⟨_, rfl⟩, q⟩
/-- C() by a positional promise -/
theorem pe_makeR0 {CX : CXT} {k : Nat} {f C : Addr} {sp : Sp} {E : XK} {x : Str} {p pos : Pos} (M : Mk X.K C f) (F : FnR X.prog X.w X.K X.mg X.base CX k f sp) (hr : Room (k + 1) X.A) (hg : Gl X x) (hm : X.mg x = some (.ref C)) (hx : Passes CX X E) (hdb : (x == ("__debug__" : Str)) = false := by decide) :
    PE X (.Call (.Name x p) [] [] pos) (StX.tMakeR C sp E tNil) := by
  refine ⟨fun pins s σ H Q I h => ?_⟩
  refine wpAny_Call_Name_kw (ld_glob I hg hm ?_ hdb)
  exact PySem.W.callWith_K0 I.kIn M.kp (StX.run_makeR (us := []) M F hr hx I .nil h)
end
end Pl

set_option Elab.async false
set_option linter.all false
set_option maxRecDepth 100000
set_option maxHeartbeats 4000000
/-! Looks and rows in plain words; comprehensions that only read. -/
namespace Pl
open PySem L2
/-! ### looks -/
def fitsB (row m : Int) (way : Str) : Bool := if way = "at" then decide (row ≤ m) else if way = "before" then decide (row < m) else if way = "since" then decide (row ≥ m) else decide (row > m)
def isBack (way : Str) : Bool := decide (way = "at") || decide (way = "before")
def tooFar (row m : Int) : Option Int → Bool
  | none => false
  | some l => decide ((if row - m < 0 then -(row - m) else row - m) > l)
def lookedUp (ms : List Int) (m : Int) (way : Str) (lim : Option Int) : Option Int :=
  match ms.filter (fitsB · m way) with
  | [] => none
  | r :: rs => if tooFar (if isBack way then (r :: rs).getLast (by simp) else r) m lim then none else some (if isBack way then (r :: rs).getLast (by simp) else r)
/-- the row that a look takes -/
structure Best (ms : List Int) (m : Int) (way : Str) (x : Int) : Prop where
  mem : x ∈ ms
  fit : fitsB x m way = true
  top : ∀ y ∈ ms, fitsB y m way = true → if isBack way then y ≤ x else x ≤ y
theorem Best.uniq {ms ms' : List Int} {m : Int} {way : Str} {x y : Int} (h : Best ms m way x) (g : Best ms' m way y) (e : ∀ z, z ∈ ms ↔ z ∈ ms') : x = y := by
  have h1 := h.top y ((e y).mpr g.mem) g.fit
  have h2 := g.top x ((e x).mp h.mem) h.fit
  split at h1
  · rename_i q; rw [if_pos q] at h2; omega
  · rename_i q; rw [if_neg q] at h2; omega
theorem sorted_last {l : List Int} (h : l.Pairwise (· ≤ ·)) (hn : l ≠ []) : ∀ y ∈ l, y ≤ l.getLast hn := by
  induction l with
  | nil => exact absurd rfl hn
  | cons a l ih =>
    cases l with
    | nil =>
      intro y hy
      simp at hy
      subst hy
      exact Int.le_refl _
    | cons b l =>
      rw [List.getLast_cons (by simp)]
      intro y hy
      rw [List.pairwise_cons] at h
      rcases List.mem_cons.mp hy with rfl | hy
      · exact h.1 _ (List.getLast_mem _)
      · exact ih h.2 (by simp) y hy
theorem lookedUp_cases {ms : List Int} (hs : ms.Pairwise (· ≤ ·)) (m : Int) (way : Str) (lim : Option Int) :
    ((∀ y ∈ ms, fitsB y m way = false) ∧ lookedUp ms m way lim = none) ∨ ∃ x, Best ms m way x ∧ lookedUp ms m way lim = if tooFar x m lim then none else some x := by
  unfold lookedUp
  have hf : (ms.filter (fitsB · m way)).Pairwise (· ≤ ·) := hs.filter _
  have hm : ∀ y, y ∈ ms.filter (fitsB · m way) ↔ y ∈ ms ∧ fitsB y m way = true := fun y => List.mem_filter
  generalize ms.filter (fitsB · m way) = l at hf hm
  cases l with
  | nil =>
    refine .inl ⟨fun y hy => ?_, rfl⟩
    cases e : fitsB y m way with
    | false => rfl
    | true => exact absurd ((hm y).mpr ⟨hy, e⟩) (by simp)
  | cons r rs =>
    refine .inr ⟨if isBack way then (r :: rs).getLast (by simp) else r, ?_, rfl⟩
    by_cases hb : isBack way = true
    · rw [if_pos hb]
      have h1 := (hm _).mp (List.getLast_mem (l := r :: rs) (by simp))
      refine ⟨h1.1, h1.2, fun y hy hyf => ?_⟩
      rw [if_pos hb]
      exact sorted_last hf (by simp) y ((hm y).mpr ⟨hy, hyf⟩)
    · rw [if_neg hb]
      have h1 := (hm r).mp (by simp)
      refine ⟨h1.1, h1.2, fun y hy hyf => ?_⟩
      rw [if_neg hb]
      rcases List.mem_cons.mp ((hm y).mpr ⟨hy, hyf⟩) with e | e
      · rw [e]; exact Int.le_refl _
      · exact (List.pairwise_cons.mp hf).1 y e
theorem lookedUp_congr {l l' : List Int} (h : l.Pairwise (· ≤ ·)) (h' : l'.Pairwise (· ≤ ·)) (e : ∀ z, z ∈ l ↔ z ∈ l') (m : Int) (way : Str) (lim : Option Int) : lookedUp l m way lim = lookedUp l' m way lim := by
  rcases lookedUp_cases h m way lim with ⟨a1, a2⟩ | ⟨x, bx, ex⟩
  · rcases lookedUp_cases h' m way lim with ⟨b1, b2⟩ | ⟨y, by_, ey⟩
    · rw [a2, b2]
    · have := a1 y ((e y).mpr by_.mem)
      rw [by_.fit] at this
      cases this
  · rcases lookedUp_cases h' m way lim with ⟨b1, b2⟩ | ⟨y, by_, ey⟩
    · have := b1 x ((e x).mp bx.mem)
      rw [bx.fit] at this
      cases this
    · rw [ex, ey, bx.uniq by_ e]
theorem fits_back {y m : Int} {way : Str} (h : fitsB y m way = true) (hb : isBack way = true) : y ≤ m := by
  unfold fitsB at h
  unfold isBack at hb
  split at h
  · exact of_decide_eq_true h
  · split at h
    · have := of_decide_eq_true h; omega
    · rename_i h1 h2; simp [h1, h2] at hb
theorem fits_fore {y m : Int} {way : Str} (h : fitsB y m way = true) (hb : ¬ isBack way = true) : m ≤ y := by
  unfold fitsB at h
  unfold isBack at hb
  split at h
  · rename_i h1; simp [h1] at hb
  · split at h
    · rename_i h1; simp [h1] at hb
    · split at h
      · have := of_decide_eq_true h; omega
      · have := of_decide_eq_true h; omega
/-! ### rows -/
def rowsOf (ps : List (Str × Int)) (s : Str) : List Int := (ps.filter fun p => decide (p.1 = s)).map (·.2)
def encP : Str × Int → PyData := fun p => .tuple [.str p.1, .int p.2]
def sortP (ps : List (Str × Int)) : List (Str × Int) := ps.mergeSort (PySem.W.dataLe false encP)
def leP (p q : Str × Int) : Prop := p.1.cps.toList < q.1.cps.toList ∨ (p.1 = q.1 ∧ p.2 ≤ q.2)
theorem str_ext {a b : Str} (h : a.cps.toList = b.cps.toList) : a = b := by
  cases a; cases b
  simp only at h
  rw [Array.toList_inj] at h
  rw [h]
theorem dataLt_si (x x' : Str) (y y' : Int) : PySem.W.dataLt (.tuple [.str x, .int y]) (.tuple [.str x', .int y']) = decide (x.cps.toList < x'.cps.toList ∨ (x = x' ∧ y < y')) := by
  rw [PySem.W.dataLt_pair (by simp [PySem.W.alike]) (by simp [PySem.W.alike]), PySem.W.dataLt_int, PySem.W.dataLt_str]
  simp only [PyData.eqv, beq_iff_eq]
  by_cases h1 : x = x'
  · subst h1
    by_cases h2 : y = y' <;> simp [h2, List.lt_irrefl]
  · simp [h1]
theorem dataLe_si (p q : Str × Int) : PySem.W.dataLe false encP p q = true ↔ leP p q := by
  show (!PySem.W.dataLt (.tuple [.str q.1, .int q.2]) (.tuple [.str p.1, .int p.2])) = true ↔ _
  rw [dataLt_si]
  simp only [Bool.not_eq_true', decide_eq_false_iff_not]
  unfold leP
  constructor
  · intro h
    by_cases e : p.1 = q.1
    · exact .inr ⟨e, by
        have : ¬ (q.1 = p.1 ∧ q.2 < p.2) := fun z => h (.inr z)
        have : ¬ q.2 < p.2 := fun z => this ⟨e.symm, z⟩
        omega⟩
    · refine .inl ?_
      have h1 : ¬ q.1.cps.toList < p.1.cps.toList := fun z => h (.inl z)
      have h2 : p.1.cps.toList ≤ q.1.cps.toList := List.not_lt.mp h1
      rcases List.le_iff_lt_or_eq.mp h2 with z | z
      · exact z
      · exact absurd (str_ext z) e
  · rintro (h | ⟨h1, h2⟩) (g | ⟨g1, g2⟩)
    · exact List.lt_irrefl _ (List.lt_trans h g)
    · rw [g1] at h; exact List.lt_irrefl _ h
    · rw [h1] at g; exact List.lt_irrefl _ g
    · omega
theorem leP_trans {p q r : Str × Int} (h : leP p q) (g : leP q r) : leP p r := by
  rcases h with h | ⟨h1, h2⟩
  · rcases g with g | ⟨g1, g2⟩
    · exact .inl (List.lt_trans h g)
    · rw [g1] at h; exact .inl h
  · rcases g with g | ⟨g1, g2⟩
    · rw [← h1] at g; exact .inl g
    · exact .inr ⟨h1.trans g1, by omega⟩
theorem leP_total (p q : Str × Int) : leP p q ∨ leP q p := by
  by_cases e : p.1 = q.1
  · rcases Int.le_total p.2 q.2 with h | h
    · exact .inl (.inr ⟨e, h⟩)
    · exact .inr (.inr ⟨e.symm, h⟩)
  · by_cases h : p.1.cps.toList < q.1.cps.toList
    · exact .inl (.inl h)
    · have h2 : q.1.cps.toList ≤ p.1.cps.toList := List.not_lt.mp h
      rcases List.le_iff_lt_or_eq.mp h2 with z | z
      · exact .inr (.inl z)
      · exact absurd (str_ext z).symm e
theorem sortP_perm (ps : List (Str × Int)) : (sortP ps).Perm ps := List.mergeSort_perm _ _
theorem sortP_pw (ps : List (Str × Int)) : (sortP ps).Pairwise leP := by
  have h := List.pairwise_mergeSort (le := PySem.W.dataLe false encP) (fun a b c h1 h2 => (dataLe_si a c).mpr (leP_trans ((dataLe_si a b).mp h1) ((dataLe_si b c).mp h2))) (fun a b => by
    rw [Bool.or_eq_true]
    rcases leP_total a b with h | h
    · exact .inl ((dataLe_si a b).mpr h)
    · exact .inr ((dataLe_si b a).mpr h)) ps
  exact h.imp fun h => (dataLe_si _ _).mp h
theorem sortP_len (ps : List (Str × Int)) : (sortP ps).length = ps.length := (sortP_perm ps).length_eq
theorem rowsOf_sorted {ps : List (Str × Int)} (h : ps.Pairwise leP) (s : Str) : (rowsOf ps s).Pairwise (· ≤ ·) := by
  unfold rowsOf
  rw [List.pairwise_map]
  refine (List.Pairwise.and_mem.mp (h.filter _)).imp ?_
  rintro a b ⟨ha, hb, hab⟩
  have e1 : a.1 = s := of_decide_eq_true (List.mem_filter.mp ha).2
  have e2 : b.1 = s := of_decide_eq_true (List.mem_filter.mp hb).2
  rcases hab with h | h
  · rw [e1, e2] at h
    exact absurd h (List.lt_irrefl _)
  · exact h.2
theorem rowsOf_perm {ps qs : List (Str × Int)} (h : ps.Perm qs) (s : Str) : (rowsOf ps s).Perm (rowsOf qs s) := (h.filter _).map _
theorem mem_rowsOf {ps : List (Str × Int)} {s : Str} {x : Int} : x ∈ rowsOf ps s ↔ (s, x) ∈ ps := by
  unfold rowsOf
  rw [List.mem_map]
  constructor
  · rintro ⟨⟨a, b⟩, h, rfl⟩
    obtain ⟨h1, h2⟩ := List.mem_filter.mp h
    have : a = s := of_decide_eq_true h2
    subst this
    exact h1
  · intro h
    exact ⟨(s, x), List.mem_filter.mpr ⟨h, decide_eq_true rfl⟩, rfl⟩
/-! ### names, ways, limits, rows as the heap has them -/
abbrev letters : Str := "abcdefghijklmnopqrstuvwxyz"
def goodName (z : Str) : Prop := 1 ≤ z.length ∧ z.length ≤ 12 ∧ ∀ c ∈ z.cps.toList, c ∈ letters.cps.toList
abbrev ways : List Str := ["at", "before", "since", "after"]
def limOk : Option Int → Prop
  | none => True
  | some l => 0 ≤ l
/-- rows: names and lists of numbers -/
abbrev Rws := List (Str × List Int)
def EntAt (H : Hp) (kv : Key × V) (r : Str × List Int) : Prop := kv.1 = .inr r.1 ∧ ∃ a, kv.2 = .ref a ∧ H a = some (.lst (r.2.map V.int))
def EntsAt (H : Hp) (kvs : List (Key × V)) (rs : Rws) : Prop := kvs.length = rs.length ∧ ∀ (i : Nat) kv r, kvs[i]? = some kv → rs[i]? = some r → EntAt H kv r
theorem EntsAt.same {H H' : Hp} {kvs : List (Key × V)} {rs : Rws} (s : Same H H') (h : EntsAt H kvs rs) : EntsAt H' kvs rs := ⟨h.1, fun i kv r h1 h2 => by
  obtain ⟨e, a, e2, ha⟩ := h.2 i kv r h1 h2
  exact ⟨e, a, e2, s _ _ ha⟩⟩
def goodRows (rs : Rws) : Prop := (∀ r ∈ rs, goodName r.1 ∧ r.2.Nodup ∧ r.2.length ≤ 300) ∧ (rs.map fun r => r.2.length).sum ≤ 300
/-- the pairs of a row -/
def prsOf (r : Str × List Int) : List (Str × Int) := r.2.map fun m => (r.1, m)
def PrsAt (H : Hp) (vs : List V) (ps : List (Str × Int)) : Prop := vs.length = ps.length ∧ ∀ (i : Nat) p, ps[i]? = some p → ∃ t, vs[i]? = some (.ref t) ∧ H t = some (.tup [.str p.1, .int p.2])
theorem PrsAt.same {H H' : Hp} {vs : List V} {ps : List (Str × Int)} (s : Same H H') (h : PrsAt H vs ps) : PrsAt H' vs ps := ⟨h.1, fun i p e => by
  obtain ⟨t, e1, e2⟩ := h.2 i p e
  exact ⟨t, e1, s _ _ e2⟩⟩
theorem PrsAt.app {H : Hp} {vs us : List V} {ps qs : List (Str × Int)} (h : PrsAt H vs ps) (g : PrsAt H us qs) : PrsAt H (vs ++ us) (ps ++ qs) := by
  refine ⟨by rw [List.length_append, List.length_append, h.1, g.1], fun i p e => ?_⟩
  rw [List.getElem?_append] at e ⊢
  by_cases hl : i < ps.length
  · rw [if_pos hl] at e
    rw [if_pos (by rw [h.1]; exact hl)]
    exact h.2 i p e
  · rw [if_neg hl] at e
    rw [if_neg (by rw [h.1]; exact hl), h.1]
    exact g.2 _ p e
theorem PrsAt.put {H : Hp} {vs xs : List V} {ps : List (Str × Int)} {D : Addr} {o : HO} (hD : H D = some (.lst xs)) (h : PrsAt H vs ps) : PrsAt (upd H D o) vs ps := ⟨h.1, fun i p e => by
  obtain ⟨t, e1, e2⟩ := h.2 i p e
  refine ⟨t, e1, ?_⟩
  rw [upd_ne (fun z => by rw [z, hD] at e2; cases e2)]
  exact e2⟩
/-- the rows of a name -/
def getR (rs : Rws) (z : Str) : List Int := match rs.find? (fun r => decide (r.1 = z)) with
  | none => []
  | some r => r.2
def wRows (rs : Rws) : List (Str × Int) := sortP (rs.flatMap prsOf)
theorem mem_prs {rs : Rws} {z : Str} {x : Int} : (z, x) ∈ rs.flatMap prsOf ↔ ∃ r ∈ rs, r.1 = z ∧ x ∈ r.2 := by
  rw [List.mem_flatMap]
  constructor
  · rintro ⟨r, h1, h2⟩
    obtain ⟨y, h3, h4⟩ := List.mem_map.mp h2
    cases h4
    exact ⟨r, h1, rfl, h3⟩
  · rintro ⟨r, h1, rfl, h3⟩
    exact ⟨r, h1, List.mem_map.mpr ⟨x, h3, rfl⟩⟩
theorem mem_getR {rs : Rws} (hn : (rs.map (·.1)).Nodup) {z : Str} {x : Int} : x ∈ getR rs z ↔ ∃ r ∈ rs, r.1 = z ∧ x ∈ r.2 := by
  unfold getR
  constructor
  · intro h
    cases e : rs.find? (fun r => decide (r.1 = z)) with
    | none => rw [e] at h; cases h
    | some r =>
      rw [e] at h
      exact ⟨r, List.mem_of_find?_eq_some e, of_decide_eq_true (List.find?_some (p := fun r : Str × List Int => decide (r.1 = z)) e), h⟩
  · rintro ⟨r, h1, h2, h3⟩
    cases e : rs.find? (fun r => decide (r.1 = z)) with
    | none =>
      have := List.find?_eq_none.mp e r h1
      simp [h2] at this
    | some q =>
      have hq := List.mem_of_find?_eq_some e
      have eq : q.1 = z := of_decide_eq_true (List.find?_some (p := fun r : Str × List Int => decide (r.1 = z)) e)
      have : q = r := by
        obtain ⟨i, hi⟩ := List.mem_iff_getElem?.mp hq
        obtain ⟨j, hj⟩ := List.mem_iff_getElem?.mp h1
        have a1 : (rs.map (·.1))[i]? = some z := by rw [List.getElem?_map, hi, ← eq]; rfl
        have a2 : (rs.map (·.1))[j]? = some z := by rw [List.getElem?_map, hj, ← h2]; rfl
        have hl1 := List.getElem?_eq_some_iff.mp a1
        have hl2 := List.getElem?_eq_some_iff.mp a2
        have : i = j := by
          rcases Nat.lt_trichotomy i j with h | h | h
          · exact absurd (hl1.2.trans hl2.2.symm) (List.pairwise_iff_getElem.mp hn i j hl1.1 hl2.1 h)
          · exact h
          · exact absurd (hl2.2.trans hl1.2.symm) (List.pairwise_iff_getElem.mp hn j i hl2.1 hl1.1 h)
        subst this
        rw [hi] at hj
        exact Option.some.inj hj
      rw [this]
      exact h3
theorem mem_world {rs : Rws} (hn : (rs.map (·.1)).Nodup) (z : Str) (x : Int) : x ∈ rowsOf (wRows rs) z ↔ x ∈ getR rs z := by
  rw [mem_rowsOf, mem_getR hn, ← mem_prs]
  exact (sortP_perm _).mem_iff
theorem world_sorted (rs : Rws) (z : Str) : (rowsOf (wRows rs) z).Pairwise (· ≤ ·) := rowsOf_sorted (sortP_pw _) z
theorem wRows_len (rs : Rws) : (wRows rs).length = (rs.map fun r => r.2.length).sum := by
  unfold wRows
  rw [sortP_len]
  induction rs with
  | nil => rfl
  | cons x rs ih =>
    simp only [List.flatMap_cons, List.length_append, List.map_cons, List.sum_cons, ih]
    simp [prsOf]
theorem prs_sort {H : Hp} {us : List V} {ps : List (Str × Int)} (h : PrsAt H us ps) : PrsAt H (((us.zip ps).mergeSort (PySem.W.dataLe false fun p => encP p.2)).map (·.1)) (sortP ps) := by
  have e2 : (us.zip ps).map (·.2) = ps := List.map_snd_zip (by rw [h.1]; exact Nat.le_refl _)
  have e3 : sortP ps = ((us.zip ps).mergeSort (PySem.W.dataLe false fun p => encP p.2)).map (·.2) := by
    have z := List.map_mergeSort (r := PySem.W.dataLe false fun p : V × (Str × Int) => encP p.2) (s := PySem.W.dataLe false encP) (f := fun p : V × (Str × Int) => p.2) (l := us.zip ps) (fun a _ b _ => rfl)
    rw [z, e2]
    rfl
  rw [e3]
  refine ⟨by rw [List.length_map, List.length_map], fun i p e => ?_⟩
  rw [List.getElem?_map] at e ⊢
  cases hz : ((us.zip ps).mergeSort (PySem.W.dataLe false fun p => encP p.2))[i]? with
  | none => rw [hz] at e; cases e
  | some z =>
    rw [hz] at e
    obtain ⟨v, q⟩ := z
    have eq : q = p := Option.some.inj e
    subst eq
    have hm := List.mem_mergeSort.mp (List.mem_of_getElem? hz)
    obtain ⟨j, hj⟩ := List.mem_iff_getElem?.mp hm
    rw [List.getElem?_zip_eq_some] at hj
    obtain ⟨t, t1, t2⟩ := h.2 j q hj.2
    rw [hj.1] at t1
    exact ⟨t, t1, t2⟩
/-! ### what stands beside the box -/
def mn (S : List Addr) (H : Hp) : Hp := fun a => if a ∈ S then none else H a
theorem mn_at {S : List Addr} {H : Hp} {a : Addr} (h : a ∉ S) : mn S H a = H a := if_neg h
theorem mn_in {S : List Addr} {H : Hp} {a : Addr} (h : a ∈ S) : mn S H a = none := if_pos h
theorem mn_same {S : List Addr} {H : Hp} : Same (mn S H) H := fun a o e => by
  unfold mn at e
  split at e
  · cases e
  · exact e
theorem same_mn {S : List Addr} {G H : Hp} (s : Same G H) (h : ∀ a ∈ S, G a = none) : Same G (mn S H) := fun a o e => by
  rw [mn_at (fun z => by rw [h a z] at e; cases e)]
  exact s a o e
/-- S: lists -/
def Lsts (S : List Addr) (H : Hp) : Prop := ∀ a ∈ S, ∃ xs, H a = some (.lst xs)
theorem mn_nl {S : List Addr} {H : Hp} {a : Addr} {o : HO} (hS : Lsts S H) (h : H a = some o) (ho : ∀ xs, o ≠ .lst xs) : mn S H a = some o := by
  rw [mn_at (fun z => by obtain ⟨xs, e⟩ := hS a z; rw [h] at e; exact ho xs (Option.some.inj e))]
  exact h
theorem PrsAt.mn {S : List Addr} {H : Hp} (hS : Lsts S H) {vs : List V} {ps : List (Str × Int)} (h : PrsAt H vs ps) : PrsAt (mn S H) vs ps := ⟨h.1, fun i p e => by
  obtain ⟨t, e1, e2⟩ := h.2 i p e
  exact ⟨t, e1, mn_nl hS e2 (fun _ z => nomatch z)⟩⟩
theorem Wd.lsts {b c : Addr} {G H : Hp} (W : Wd b c G H) : Lsts [b, c] H := fun a ha => by
  obtain ⟨_, cs, k, b1, b2, _⟩ := W.box
  simp only [List.mem_cons, List.not_mem_nil, or_false] at ha
  rcases ha with rfl | rfl
  · exact ⟨_, b1⟩
  · exact ⟨_, b2⟩
theorem Wd.sm {b c : Addr} {G H H' : Hp} (W : Wd b c G H) (s : Same H H') : Wd b c G H' := ⟨W.box.same s, W.gh.trans s, W.gb, W.gc⟩
/-- all but the box is taken among what stays -/
theorem Wd.all {b c : Addr} {G H : Hp} (W : Wd b c G H) : Wd b c (mn [b, c] H) H := ⟨W.box, mn_same, mn_in (by simp), mn_in (by simp)⟩
theorem Wd.allS {b c : Addr} {G H : Hp} (W : Wd b c G H) : Same G (mn [b, c] H) := same_mn W.gh fun a ha => by
  simp only [List.mem_cons, List.not_mem_nil, or_false] at ha
  rcases ha with rfl | rfl
  · exact W.gb
  · exact W.gc
theorem Wd.weak {b c : Addr} {G G' H : Hp} (x : Wd b c G' H) (s : Same G G') : Wd b c G H := ⟨x.box, s.trans x.gh, s.free x.gb, s.free x.gc⟩
/-- what stands at p is taken among what stays -/
theorem Wd.keep {b c p : Addr} {G H : Hp} {o : HO} (x : Wd b c G H) (h : H p = some o) (hb : p ≠ b) (hc : p ≠ c) : Wd b c (upd G p o) H :=
  ⟨x.box, fun a u e => by
    by_cases q : a = p
    · subst q; rw [upd_same] at e; cases e; exact h
    · rw [upd_ne q] at e; exact x.gh a u e, by rw [upd_ne (Ne.symm hb)]; exact x.gb, by rw [upd_ne (Ne.symm hc)]; exact x.gc⟩
theorem Wd.nb {b c p : Addr} {G H : Hp} (x : Wd b c G H) (h : H p = none) : p ≠ b ∧ p ≠ c := by
  obtain ⟨_, h1⟩ := x.box.b
  obtain ⟨_, h2⟩ := x.box.c
  exact ⟨fun e => (by rw [e, h1] at h; cases h), fun e => (by rw [e, h2] at h; cases h)⟩
/-! ### comprehensions that only read and make -/
theorem lc_pure {K : PySem.W.Frag} {a : Addr} {xs : List V} {g : TG} {tt : TT} {te : TE} {vs : List Nat} {σ : St} {H1 : Hp} {D : Addr} {Qd : Hp → Prop} (F : V → Option V) (hS : SqL K H1 a xs) (hD : H1 D = none) (hz : xs.length ≤ 100000)
    (hs : ∀ x H (N : V → Hp → Prop) (N' : Hp → Prop), x ∈ xs → Same H1 H → (∀ y H', Same H H' → F x = some y → N y H') → (∀ H', Same H H' → F x = none → N' H') → g x (wipe σ vs) H fun σ2 H2 => wipe σ2 vs = wipe σ vs ∧ tt σ2 H2 fun b H3 => if b = true then te σ2 H3 N else N' H3)
    (hd : ∀ H', Same H1 H' → H' D = some (.lst (xs.filterMap F)) → Qd H') :
    ∃ W : Nat → Nat → Hp → Prop, (∃ m, W 0 m (upd H1 D (.lst []))) ∧ ∀ i m H, W i m H →
      ((Itl K a).stop i H ∧ Qd H) ∨ ((Itl K a).go i H ∧ ∃ Nx : Hp → Prop, (∀ H', Nx H' → ∃ m', m' < m ∧ W (i + 1) m' H') ∧ ∀ x H', (Itl K a).yld i H x H' → g x (wipe σ vs) H' fun σ2 H2 => wipe σ2 vs = wipe σ vs ∧ tt σ2 H2 fun b H3 =>
        if b = true then te σ2 H3 fun y H4 => ∃ acc, H4 D = some (.lst acc) ∧ acc.length < sizeLine ∧ Nx (upd H4 D (.lst (acc ++ [y]))) else Nx H3) := by
  refine lc_list (K := K) (a := a) (xs := xs) (fun i H' => Same H1 H' ∧ H' D = some (.lst ((xs.take i).filterMap F))) ⟨same_upd hD, upd_same⟩ (fun i H' _ pp => pp.1.seq hS) (fun i x H' hx pp => ?_) (fun H' pp => ?_)
  · obtain ⟨s1, hd1⟩ := pp
    have ht : xs.take (i + 1) = xs.take i ++ [x] := by rw [List.take_add_one, hx]; rfl
    refine hs x H' _ _ (List.mem_of_getElem? hx) s1 (fun y H4 s4 ey => ⟨_, s4 _ _ hd1, ?_, ?_, ?_⟩) (fun H4 s4 ey => ⟨s1.trans s4, ?_⟩)
    · have h1 := List.length_filterMap_le F (xs.take i)
      rw [List.length_take] at h1
      have h2 := (List.getElem?_eq_some_iff.mp hx).1
      exact szl (by omega)
    · exact same_mut (s1.trans s4) hD
    · rw [upd_same, ht, List.filterMap_append]
      simp [List.filterMap, ey]
    · rw [s4 _ _ hd1, ht, List.filterMap_append]
      simp [List.filterMap, ey]
  · rw [List.take_of_length_le (Nat.le_refl _)] at pp
    exact hd H' pp.1 pp.2
end Pl

namespace Pl
open PySem L2
/-! ### tests whose answer is known -/
theorem iT {c : Bool} {A B : Prop} (h : c = true) (x : A) : if c = true then A else B := by rw [if_pos h]; exact x
theorem iF {c : Bool} {A B : Prop} (h : c = false) (x : B) : if c = true then A else B := by rw [if_neg (by rw [h]; exact Bool.false_ne_true)]; exact x
theorem yes_if {σ : St} {H : Hp} {A B : Hp → Prop} (h : A H) : tYes σ H (fun b H3 => if b = true then A H3 else B H3) := by
  show if true = true then A H else B H
  rw [if_pos rfl]
  exact h
def oV : Option Int → V
  | none => .non
  | some x => .int x
def H0 : Hp := fun _ => none
theorem same0 (H : Hp) : Same H0 H := fun _ _ h => nomatch h
theorem Wd.begin {b c : Addr} {H : Hp} (x : BoxAt b c H) : Wd b c H0 H := ⟨x, same0 H, rfl, rfl⟩
section
variable {P : Program} {w : World} {K : PySem.W.Frag} {mg : Str → Option Value} {base : Heap}
def spIsInteger : Sp := fun vs H Q _ => ∃ (v : V) (t : String), vs = [v] ∧ Ty H v t ∧ Q (.bl (isInt v)) H
theorem ok_is_integer (T : Txt P K mg) {k : Nat} : FnOk P w K mg base CX0 (k + 1) T.is_integer.f T.is_integer.fd ["value"] spIsInteger := by
  refine T.is_integer.F.ok sc_is_integer (fun vs H Q E h => ?_) (fun cdv A outer s H vs Q E hr h => ?_)
  · obtain ⟨v, t, rfl, _⟩ := h
    rfl
  · obtain ⟨v, t, rfl, ty, q⟩ := h
    refine ⟨_, (pss_one (ps_ret (pe_and (pe_callB call_isi (by rfl) T.n_isinstance (by decide +kernel) (pa_cons (pv 0) (pa_cons (pe_bltn (v := .ty "int") (by rfl) T.n_int (by decide +kernel) rfl) pa_nil))) (pe_one (pe_not (pe_callB call_isi (by rfl) T.n_isinstance (by decide +kernel) (pa_cons (pv 0) (pa_cons (pe_bltn (v := .ty "bool") (by rfl) T.n_bool (by decide +kernel) rfl) pa_nil)))))))), ?_⟩
    refine ⟨v, rfl, _, _, _, _, _, rfl, .ty "int", ty.x, isI_int ty, _, rfl, ?_⟩
    rw [← isInt_of ty] at q
    cases h1 : tyB t "int" with
    | false =>
      rw [h1] at q
      exact iF rfl q
    | true =>
      rw [h1] at q
      refine iT rfl ⟨v, rfl, _, _, _, _, _, rfl, .ty "bool", ty.x, isI_bool ty, _, rfl, ?_⟩
      rw [Bool.true_and] at q
      exact q
/-- check_moment of a number -/
def spCkMoment : Sp := fun vs H Q _ => ∃ i : Int, vs = [.int i] ∧ Q .non H
theorem ok_check_moment (T : Txt P K mg) {k : Nat} : FnOk P w K mg base CX0 (k + 2) T.check_moment.f T.check_moment.fd ["value"] spCkMoment := by
  have G_is_integer : FnOk P w K mg base CX0 (k + 1) T.is_integer.f T.is_integer.fd ["value"] spIsInteger := ok_is_integer T
  refine T.check_moment.F.ok sc_check_moment (fun vs H Q E h => ?_) (fun cdv A outer s H vs Q E hr h => ?_)
  · obtain ⟨i, rfl, _⟩ := h
    rfl
  · obtain ⟨i, rfl, q⟩ := h
    refine ⟨_, (pss_one (ps_if (pt_not (pt_val (pe_call G_is_integer (hr.mono (by omega)) (by rfl) T.is_integer.g T.is_integer.F.kp T.is_integer.b .nil pass0 (pa_cons (pv 0) pa_nil)))) (pss_one ps_never) pss_nil)), ?_⟩
    refine ⟨.int i, rfl, .int i, "int", rfl, .int i, _, rfl, ?_⟩
    exact iF rfl q
end
end Pl

set_option Elab.async false
set_option linter.all false
set_option maxRecDepth 100000
set_option maxHeartbeats 4000000
/-! Short words for readings. -/
namespace Pl
open PySem L2
theorem at_same {H H' : Hp} {a : Addr} {o : HO} (s : Same H H') (h : H a = some o) : H' a = some o := s _ _ h
theorem sm2 {H H1 H2 : Hp} (b : Same H1 H2) (a : Same H H1) : Same H H2 := a.trans b
theorem nw1 {H K : Hp} {p : Addr} {o : HO} (e : upd H p o = K) (h : H p = none) : Same H K ∧ K p = some o := by subst e; exact ⟨same_upd h, upd_same⟩
theorem hu65 {k : Nat} {A : Around} (r : Room k A) : A.units + 65 < cLine := by have := r.un; omega
theorem dI_t {x y : Int} (h : x = y) : decide (V.int x = V.int y) = true := by subst h; exact decide_eq_true rfl
theorem dI_f {x y : Int} (h : ¬ x = y) : decide (V.int x = V.int y) = false := decide_eq_false fun z => h (V.int.inj z)
theorem dS_t {x y : Str} (h : x = y) : decide (V.str x = V.str y) = true := by subst h; exact decide_eq_true rfl
theorem dS_f {x y : Str} (h : ¬ x = y) : decide (V.str x = V.str y) = false := decide_eq_false fun z => h (V.str.inj z)
theorem nI_t {x y : Int} (h : x = y) : (!decide (V.int x = V.int y)) = false := by rw [dI_t h]; rfl
theorem nI_f {x y : Int} (h : ¬ x = y) : (!decide (V.int x = V.int y)) = true := by rw [dI_f h]; rfl
theorem nS_t {x y : Str} (h : x = y) : (!decide (V.str x = V.str y)) = false := by rw [dS_t h]; rfl
theorem nS_f {x y : Str} (h : ¬ x = y) : (!decide (V.str x = V.str y)) = true := by rw [dS_f h]; rfl
theorem nb_t {b : Bool} (h : b = false) : (!b) = true := by rw [h]; rfl
theorem nb_f {b : Bool} (h : b = true) : (!b) = false := by rw [h]; rfl
theorem q_none_int : tyB "NoneType" "int" = false := by unfold tyB; rw [kb_none_int]; rfl
theorem q_none_bool : tyB "NoneType" "bool" = false := by unfold tyB; rw [kb_none_bool]; rfl
theorem q_none_tuple : tyB "NoneType" "tuple" = false := by unfold tyB; rw [kb_none_tuple]; rfl
theorem q_none_list : tyB "NoneType" "list" = false := by unfold tyB; rw [kb_none_list]; rfl
theorem q_none_str : tyB "NoneType" "str" = false := by unfold tyB; rw [kb_none_str]; rfl
theorem q_bool_int : tyB "bool" "int" = true := by unfold tyB; rw [kb_bool_int]; rfl
theorem q_bool_bool : tyB "bool" "bool" = true := by unfold tyB; rw [kb_bool_bool]; rfl
theorem q_bool_tuple : tyB "bool" "tuple" = false := by unfold tyB; rw [kb_bool_tuple]; rfl
theorem q_bool_list : tyB "bool" "list" = false := by unfold tyB; rw [kb_bool_list]; rfl
theorem q_bool_str : tyB "bool" "str" = false := by unfold tyB; rw [kb_bool_str]; rfl
theorem q_int_int : tyB "int" "int" = true := by unfold tyB; rw [kb_int_int]; rfl
theorem q_int_bool : tyB "int" "bool" = false := by unfold tyB; rw [kb_int_bool]; rfl
theorem q_int_tuple : tyB "int" "tuple" = false := by unfold tyB; rw [kb_int_tuple]; rfl
theorem q_int_list : tyB "int" "list" = false := by unfold tyB; rw [kb_int_list]; rfl
theorem q_int_str : tyB "int" "str" = false := by unfold tyB; rw [kb_int_str]; rfl
theorem q_str_int : tyB "str" "int" = false := by unfold tyB; rw [kb_str_int]; rfl
theorem q_str_bool : tyB "str" "bool" = false := by unfold tyB; rw [kb_str_bool]; rfl
theorem q_str_tuple : tyB "str" "tuple" = false := by unfold tyB; rw [kb_str_tuple]; rfl
theorem q_str_list : tyB "str" "list" = false := by unfold tyB; rw [kb_str_list]; rfl
theorem q_str_str : tyB "str" "str" = true := by unfold tyB; rw [kb_str_str]; rfl
theorem q_list_int : tyB "list" "int" = false := by unfold tyB; rw [kb_list_int]; rfl
theorem q_list_bool : tyB "list" "bool" = false := by unfold tyB; rw [kb_list_bool]; rfl
theorem q_list_tuple : tyB "list" "tuple" = false := by unfold tyB; rw [kb_list_tuple]; rfl
theorem q_list_list : tyB "list" "list" = true := by unfold tyB; rw [kb_list_list]; rfl
theorem q_list_str : tyB "list" "str" = false := by unfold tyB; rw [kb_list_str]; rfl
theorem q_tuple_int : tyB "tuple" "int" = false := by unfold tyB; rw [kb_tuple_int]; rfl
theorem q_tuple_bool : tyB "tuple" "bool" = false := by unfold tyB; rw [kb_tuple_bool]; rfl
theorem q_tuple_tuple : tyB "tuple" "tuple" = true := by unfold tyB; rw [kb_tuple_tuple]; rfl
theorem q_tuple_list : tyB "tuple" "list" = false := by unfold tyB; rw [kb_tuple_list]; rfl
theorem q_tuple_str : tyB "tuple" "str" = false := by unfold tyB; rw [kb_tuple_str]; rfl
end Pl

namespace Pl
open PySem L2
local macro_rules | `(tactic| infer_instance) => `(tactic| first
  | with_reducible assumption
  | with_reducible exact Same.refl _
  | exact Wd.gh (by with_reducible assumption)
  | exact sm2 (by with_reducible assumption) (by infer_instance)
  | exact sm2 (same_upd (by with_reducible assumption)) (by infer_instance)
  | exact sm2 (Wd.gh (by with_reducible assumption)) (by infer_instance))
local macro_rules | `(tactic| trivial) => `(tactic| first
  | with_reducible assumption
  | with_reducible exact upd_same
  | exact at_same (by with_reducible assumption) (by trivial)
  | exact at_same (same_upd (by with_reducible assumption)) (by trivial)
  | exact at_same (Wd.gh (by with_reducible assumption)) (by trivial))
local macro_rules | `(tactic| ac_rfl) => `(tactic| first
  | exact Ty.int _
  | exact Ty.str _
  | exact Ty.non
  | exact Ty.bl _
  | exact Ty.tup (by trivial)
  | exact Ty.lst (by trivial))
local macro_rules | `(tactic| contradiction) => `(tactic| first
  | exact rfl
  | exact decide_eq_true (by first | assumption | omega)
  | exact decide_eq_false (by first | assumption | omega)
  | exact dI_t (by first | assumption | omega)
  | exact dI_f (by first | assumption | omega)
  | exact dS_t (by first | assumption | decide)
  | exact dS_f (by first | assumption | decide)
  | exact nI_t (by first | assumption | omega)
  | exact nI_f (by first | assumption | omega)
  | exact nS_t (by first | assumption | decide)
  | exact nS_f (by first | assumption | decide)
  | assumption
  | exact q_none_int | exact q_none_bool | exact q_none_tuple | exact q_none_list | exact q_none_str | exact q_bool_int | exact q_bool_bool | exact q_bool_tuple | exact q_bool_list | exact q_bool_str | exact q_int_int | exact q_int_bool | exact q_int_tuple | exact q_int_list | exact q_int_str | exact q_str_int | exact q_str_bool | exact q_str_tuple | exact q_str_list | exact q_str_str | exact q_list_int | exact q_list_bool | exact q_list_tuple | exact q_list_list | exact q_list_str | exact q_tuple_int | exact q_tuple_bool | exact q_tuple_tuple | exact q_tuple_list | exact q_tuple_str
  | exact nb_t (by contradiction)
  | exact nb_f (by contradiction))
local macro_rules | `(tactic| and_intros) => `(tactic| repeat (first
  | refine ⟨_, rfl, ?_⟩
  | refine ⟨_, _, rfl, rfl, ?_⟩
  | refine ⟨rfl, ?_⟩
  | refine ⟨_, _, _, _, rfl, rfl, SqT.of (by trivial), at_ix (by decide) rfl, ?_⟩
  | refine ⟨_, _, _, _, rfl, rfl, SqL.of (by trivial), at_ix (by decide) rfl, ?_⟩
  | refine ⟨_, _, rfl, Or.inl (SqL.of (by trivial)), ?_⟩
  | refine ⟨_, _, rfl, Or.inr (SqT.of (by trivial)), ?_⟩
  | refine ⟨_, _, _, _, _, rfl, (by trivial), (by trivial), (by trivial), rfl, ?_⟩
  | refine ⟨_, _, _, _, _, rfl, ClsV.ty _, Ty.x (by ac_rfl), isI_tuple (by ac_rfl), ?_⟩
  | refine ⟨_, _, _, _, _, rfl, ClsV.ty _, Ty.x (by ac_rfl), isI_list (by ac_rfl), ?_⟩
  | refine ⟨_, _, _, _, _, rfl, ClsV.ty _, Ty.x (by ac_rfl), isI_int (by ac_rfl), ?_⟩
  | refine ⟨_, _, _, _, _, rfl, ClsV.ty _, Ty.x (by ac_rfl), isI_bool (by ac_rfl), ?_⟩
  | refine ⟨_, _, _, _, _, rfl, ClsV.ty _, Ty.x (by ac_rfl), isI_str (by ac_rfl), ?_⟩
  | refine ⟨sz (Nat.le_of_ble_eq_true rfl), ?_⟩
  | refine ⟨Or.inl ⟨rfl, _, SqL.of (by trivial)⟩, ?_⟩
  | refine ⟨_, _, rfl, SqT.of (by trivial), rfl, _, _, rfl, _, _, rfl, _, _, rfl, _, _, rfl, rfl, ?_⟩
  | refine ⟨_, _, rfl, SqT.of (by trivial), rfl, _, _, rfl, _, _, rfl, _, _, rfl, rfl, ?_⟩
  | refine ⟨_, _, rfl, SqT.of (by trivial), rfl, _, _, rfl, _, _, rfl, rfl, ?_⟩
  | refine ⟨_, _, _, _, rfl, (by with_reducible assumption : Wd _ _ _ _), (by first | decide | omega), (by first | decide | omega), ?_⟩
  | refine ⟨_, _, _, rfl, (by with_reducible assumption : Wd _ _ _ _), ?_⟩
  | refine iT (by contradiction) ?_
  | refine iF (by contradiction) ?_))
-- USE RD
open LamX
section
variable {P : Program} {w : World} {K : PySem.W.Frag} {mg : Str → Option Value} {base : Heap}
theorem ok_BadTerm_init (T : Txt P K mg) {k : Nat} : FnOk P w K mg base CX0 (k + 1) T.BadTerm_init.f T.BadTerm_init.fd ["self", "value"] (spExI K "value") := by
  refine T.BadTerm_init.F.ok (k := k) sc_BadTerm_init (fun vs H Q E h => ?_) (fun cdv A outer s H vs Q E hr h => ?_)
  · obtain ⟨a, C, y, rfl, _⟩ := h
    rfl
  · obtain ⟨a, C, y, rfl, hT, ha, hno, q⟩ := h
    exact ⟨_, (pss_one (ps_ost (pv 0) (pv 1))), ⟨_, rfl, _, rfl, a, C, rfl, hT, hno, .inl ⟨ha, fun dx h1 h2 => q dx h1 h2⟩⟩⟩
end
def erL {K : PySem.W.Frag} {mg : Str → Option Value} {P : Program} (T : Txt P K mg) : List Er := [(T.c_BadTerm, "BadTerm", some "value")]
theorem gives_law_refusal {P : Program} {X : Cx} {K : PySem.W.Frag} {mg : Str → Option Value} (T : Txt P K mg) (hK : X.K = K) (hmg : X.mg = mg) {q : Str} (cdg : Value) : GivesTo X N_law_refusal "_law_refusal" (defScope s_law_refusal) T.law_refusal.f cdg (defBody s_law_refusal) "_law_deed" q (TRef (erL T)) := by
  subst hK hmg
  intro f c' s H Q tl act hc h
  refine ⟨_, (pss_cons (ps_set (i := 1) sc_law_refusal.nd rfl (.inl rfl) (pe_tup (pa_cons pe_str pa_nil)))
  (pss_cons (ps_try_mix rfl rfl sc_law_refusal.nd L2.takes0 (fun W pn xe tk _ => pss_act (fun E p1 p2 hW => act W pn xe E p1 p2 tk hW)) (.consAs (i := 2) rfl rfl ⟨rfl, by decide, .inl T.g_BadName⟩ (fun a oe cls d pn hz hf => (pss_one ps_never))
  (.consAs (i := 2) rfl rfl ⟨rfl, by decide, .inl T.g_BadMoment⟩ (fun a oe cls d pn hz hf => (pss_one ps_never))
  (.consAs (i := 2) rfl rfl ⟨rfl, by decide, .inl T.g_BadBound⟩ (fun a oe cls d pn hz hf => (pss_one ps_never))
  (.consAs (i := 2) rfl rfl ⟨rfl, by decide, .inl T.g_BadTerm⟩ (fun a oe cls d pn hz hf => (pss_one (ps_set (i := 1) sc_law_refusal.nd rfl (.inl rfl) (pe_tup (pa_cons pe_str (pa_cons (pe_xf T.er_BadTerm.xf T.er_BadTerm.no hz hf (pv 2)) pa_nil))))))
  (.consAs (i := 2) rfl rfl ⟨rfl, by decide, .inl T.g_BadWay⟩ (fun a oe cls d pn hz hf => (pss_one ps_never))
  (.consAs (i := 2) rfl rfl ⟨rfl, by decide, .inl T.g_BadPath⟩ (fun a oe cls d pn hz hf => (pss_one ps_never))
  (.consAs (i := 2) rfl rfl ⟨rfl, by decide, .inl T.g_BadWorld⟩ (fun a oe cls d pn hz hf => (pss_one ps_never))
  (.consAs (i := 2) rfl rfl ⟨rfl, by decide, .inl T.g_BadRows⟩ (fun a oe cls d pn hz hf => (pss_one ps_never))
  (.consAs (i := 2) rfl rfl ⟨rfl, by decide, .inl T.g_BadFact⟩ (fun a oe cls d pn hz hf => (pss_one ps_never))
  (.consAs (i := 2) rfl rfl ⟨rfl, by decide, .inl T.g_BadText⟩ (fun a oe cls d pn hz hf => (pss_one ps_never))
  (.consAs (i := 2) rfl rfl ⟨rfl, by decide, .inl T.g_Unknown⟩ (fun a oe cls d pn hz hf => (pss_one ps_never))
  (.cons ⟨rfl, by decide, .inl T.g_TooMany⟩ (fun a oe cls d pn hz hf => (pss_one ps_never))
  (.cons ⟨rfl, by decide, .inl T.g_Unlike⟩ (fun a oe cls d pn hz hf => (pss_one ps_never))
  (.cons ⟨rfl, by decide, .inl T.g_NotCovered⟩ (fun a oe cls d pn hz hf => (pss_one ps_never))
  (.cons ⟨rfl, by decide, .inl T.g_NotMost⟩ (fun a oe cls d pn hz hf => (pss_one ps_never))
  (.cons ⟨rfl, by decide, .inl T.g_NotSettled⟩ (fun a oe cls d pn hz hf => (pss_one ps_never))
  .nil)))))))))))))))))
  (pss_one (ps_ret (pv 1))))), ?_⟩
  and_intros
  intro p hp
  generalize el : upd _ p _ = H1
  have h1 : H1 = upd H p (.tup [.str "nothing"]) := el.symm
  obtain ⟨s1, q1⟩ := nw1 el hp
  clear el
  refine ⟨rfE (erL T) Q, fun cls d σ' H' hE hlen => ?_, rfl, s1 _ _ hc, ?_⟩
  · obtain ⟨e, he, rfl, hm⟩ := hE
    match σ', hlen with
    | [x0, x1, x2], _ =>
    simp only [erL, List.mem_cons, List.not_mem_nil, or_false] at he
    rcases he with rfl
    · refine ⟨false, T.em_BadTerm_BadName, (fun z => nomatch z), fun _ => ⟨false, T.em_BadTerm_BadMoment, (fun z => nomatch z), fun _ => ⟨false, T.em_BadTerm_BadBound, (fun z => nomatch z), fun _ => ⟨true, T.em_BadTerm_BadTerm, fun _ a ha => ?_, fun z => nomatch z⟩⟩⟩⟩
      obtain ⟨dd, fs, v, rfl, hx, hlk, hq⟩ := hm
      exact ⟨_, rfl, rfl, rfl, dd, fs, v, rfl, hx, hlk, sz (Nat.le_of_ble_eq_true rfl), fun p1 hp1 => ⟨_, rfl, hq p1 hp1⟩⟩
  · rw [h1]
    exact h p hp _ (fun v H' z => ⟨_, rfl, z⟩)
end Pl

namespace Pl
open PySem L2
/-! ### terms and their sizes -/
inductive Tm
  | now
  | shift (m : Tm) (n : Int)
  | look (s : Str) (m : Tm) (way : Str) (lim : Option Int)
  | either (a b : Tm)
  | later (a b : Tm)
  | earlier (a b : Tm)
def Tm.depth : Tm → Nat
  | .now => 1
  | .shift m _ => 1 + m.depth
  | .look _ m _ _ => 1 + m.depth
  | .either a b => 1 + max a.depth b.depth
  | .later a b => 1 + max a.depth b.depth
  | .earlier a b => 1 + max a.depth b.depth
def Tm.parts : Tm → Nat
  | .now => 1
  | .shift m _ => 1 + m.parts
  | .look _ m _ _ => 1 + m.parts
  | .either a b => 1 + (a.parts + b.parts)
  | .later a b => 1 + (a.parts + b.parts)
  | .earlier a b => 1 + (a.parts + b.parts)
def Tm.looks : Tm → Nat
  | .now => 0
  | .shift m _ => m.looks
  | .look _ m _ _ => m.looks + 1
  | .either a b => a.looks + b.looks
  | .later a b => a.looks + b.looks
  | .earlier a b => a.looks + b.looks
def Tm.choices : Tm → Nat
  | .now => 0
  | .shift m _ => m.choices
  | .look _ m _ _ => m.choices + 1
  | .either a b => a.choices + b.choices
  | .later a b => a.choices + b.choices + 1
  | .earlier a b => a.choices + b.choices + 1
def Tm.fits (t : Tm) : Prop := t.depth ≤ 12 ∧ t.parts ≤ 40 ∧ t.looks ≤ 12
/-- the fields of a term's object -/
def szF (t : Tm) : List (Str × V) := [("depth", .int t.depth), ("parts", .int t.parts), ("looks", .int t.looks), ("choices", .int t.choices)]
/-- the classes' places -/
structure CA where
  now : Addr
  shift : Addr
  look : Addr
  either : Addr
  later : Addr
  earlier : Addr
def shF (b : Addr) (n : Int) : List (Str × V) := [("moment", .ref b), ("amount", .int n)]
def loF (s : Str) (b : Addr) (wy : Str) (lim : Option Int) : List (Str × V) := [("stream", .str s), ("moment", .ref b), ("way", .str wy), ("within", oV lim)]
def paF (b d : Addr) : List (Str × V) := [("first", .ref b), ("second", .ref d)]
def TmAt (c : CA) (H : Hp) : Tm → Addr → Prop
  | .now, a => ∃ dx, H a = some (.ins c.now dx (szF .now))
  | .shift m n, a => ∃ dx b, H a = some (.ins c.shift dx (shF b n ++ szF (.shift m n))) ∧ TmAt c H m b
  | .look s m wy lim, a => ∃ dx b, H a = some (.ins c.look dx (loF s b wy lim ++ szF (.look s m wy lim))) ∧ TmAt c H m b
  | .either x y, a => ∃ dx b d, H a = some (.ins c.either dx (paF b d ++ szF (.either x y))) ∧ TmAt c H x b ∧ TmAt c H y d
  | .later x y, a => ∃ dx b d, H a = some (.ins c.later dx (paF b d ++ szF (.later x y))) ∧ TmAt c H x b ∧ TmAt c H y d
  | .earlier x y, a => ∃ dx b d, H a = some (.ins c.earlier dx (paF b d ++ szF (.earlier x y))) ∧ TmAt c H x b ∧ TmAt c H y d
theorem TmAt.same {c : CA} {H H' : Hp} (s : Same H H') : ∀ {t : Tm} {a : Addr}, TmAt c H t a → TmAt c H' t a
  | .now, _, ⟨dx, h⟩ => ⟨dx, s _ _ h⟩
  | .shift _ _, _, ⟨dx, b, h, h1⟩ => ⟨dx, b, s _ _ h, h1.same s⟩
  | .look _ _ _ _, _, ⟨dx, b, h, h1⟩ => ⟨dx, b, s _ _ h, h1.same s⟩
  | .either _ _, _, ⟨dx, b, d, h, h1, h2⟩ => ⟨dx, b, d, s _ _ h, h1.same s, h2.same s⟩
  | .later _ _, _, ⟨dx, b, d, h, h1, h2⟩ => ⟨dx, b, d, s _ _ h, h1.same s, h2.same s⟩
  | .earlier _ _, _, ⟨dx, b, d, h, h1, h2⟩ => ⟨dx, b, d, s _ _ h, h1.same s, h2.same s⟩

/-- the object of a term, its class and sizes -/
def Tm.cls (c : CA) : Tm → Addr
  | .now => c.now
  | .shift _ _ => c.shift
  | .look _ _ _ _ => c.look
  | .either _ _ => c.either
  | .later _ _ => c.later
  | .earlier _ _ => c.earlier
theorem TmAt.obj {c : CA} {H : Hp} {t : Tm} {a : Addr} (h : TmAt c H t a) : ∃ dx fs, H a = some (.ins (t.cls c) dx fs) ∧ fs.lookup ("depth" : Str) = some (.int t.depth) ∧ fs.lookup ("parts" : Str) = some (.int t.parts) ∧ fs.lookup ("looks" : Str) = some (.int t.looks) ∧ fs.lookup ("choices" : Str) = some (.int t.choices) ∧
    fs.lookup ("form" : Str) = none ∧ fs.lookup ("answer_in" : Str) = none := by
  cases t with
  | now => obtain ⟨dx, h⟩ := h; exact ⟨dx, _, h, rfl, rfl, rfl, rfl, rfl, rfl⟩
  | shift m n => obtain ⟨dx, b, h, _⟩ := h; exact ⟨dx, _, h, rfl, rfl, rfl, rfl, rfl, rfl⟩
  | look s m wy lim => obtain ⟨dx, b, h, _⟩ := h; exact ⟨dx, _, h, rfl, rfl, rfl, rfl, rfl, rfl⟩
  | either x y => obtain ⟨dx, b, d, h, _⟩ := h; exact ⟨dx, _, h, rfl, rfl, rfl, rfl, rfl, rfl⟩
  | later x y => obtain ⟨dx, b, d, h, _⟩ := h; exact ⟨dx, _, h, rfl, rfl, rfl, rfl, rfl, rfl⟩
  | earlier x y => obtain ⟨dx, b, d, h, _⟩ := h; exact ⟨dx, _, h, rfl, rfl, rfl, rfl, rfl, rfl⟩
def Tm.kids : Tm → List Tm
  | .now => []
  | .shift m _ => [m]
  | .look _ m _ _ => [m]
  | .either a b => [a, b]
  | .later a b => [a, b]
  | .earlier a b => [a, b]
def Tm.isLook : Tm → Bool
  | .look _ _ _ _ => true
  | _ => false
def Tm.chooses : Tm → Bool
  | .look _ _ _ _ => true
  | .later _ _ => true
  | .earlier _ _ => true
  | _ => false
theorem Tm.depth_kids (t : Tm) : (t.depth : Int) = 1 + mxD 0 (t.kids.map fun k => (k.depth : Int)) := by
  cases t <;> simp only [Tm.depth, Tm.kids, List.map, mxD, List.foldl] <;> omega
theorem Tm.parts_kids (t : Tm) : (t.parts : Int) = 1 + (t.kids.map fun k => (k.parts : Int)).sum := by
  cases t <;> simp only [Tm.parts, Tm.kids, List.map, List.sum_cons, List.sum_nil] <;> omega
theorem Tm.looks_kids (t : Tm) : (t.looks : Int) = (t.kids.map fun k => (k.looks : Int)).sum + (if t.isLook then 1 else 0) := by
  cases t <;> simp [Tm.looks, Tm.kids, Tm.isLook, List.map, List.sum_cons, List.sum_nil]
theorem Tm.choices_kids (t : Tm) : (t.choices : Int) = (t.kids.map fun k => (k.choices : Int)).sum + (if t.chooses then 1 else 0) := by
  cases t <;> simp [Tm.choices, Tm.kids, Tm.chooses, List.map, List.sum_cons, List.sum_nil]
/-- terms stand at places -/
def KidsAt (c : CA) (H : Hp) : List Tm → List Addr → Prop
  | [], [] => True
  | t :: ts, a :: as => TmAt c H t a ∧ KidsAt c H ts as
  | _, _ => False
theorem KidsAt.same {c : CA} {H H' : Hp} (s : Same H H') : ∀ {ts : List Tm} {as : List Addr}, KidsAt c H ts as → KidsAt c H' ts as
  | [], [], _ => trivial
  | _ :: _, _ :: _, ⟨h1, h2⟩ => ⟨h1.same s, KidsAt.same s h2⟩
theorem KidsAt.len {c : CA} {H : Hp} : ∀ {ts : List Tm} {as : List Addr}, KidsAt c H ts as → as.length = ts.length
  | [], [], _ => rfl
  | _ :: _, _ :: _, ⟨_, h2⟩ => congrArg Nat.succ h2.len
theorem KidsAt.at {c : CA} {H : Hp} : ∀ {ts : List Tm} {as : List Addr}, KidsAt c H ts as → ∀ (i : Nat) (a : Addr), as[i]? = some a → ∃ t, ts[i]? = some t ∧ TmAt c H t a
  | _ :: _, _ :: _, ⟨h1, _⟩, 0, a, e => by cases e; exact ⟨_, rfl, h1⟩
  | _ :: _, _ :: _, ⟨_, h2⟩, i + 1, a, e => KidsAt.at h2 i a e
  | [], [], _, _, _, e => by simp at e
end Pl

namespace Pl
open PySem L2
/-! ### what the text has of the terms' classes -/
section
variable {P : Program} {w : World} {K : PySem.W.Frag} {mg : Str → Option Value} {base : Heap}
def Txt.ca (T : Txt P K mg) : CA := ⟨T.c_Now, T.c_Shift, T.c_Look, T.c_Either, T.c_Later, T.c_Earlier⟩
structure KCls (T : Txt P K mg) (t : Tm) : Prop where
  o : OCls K (t.cls T.ca)
  nd : NoAttr K (t.cls T.ca) "depth"
  np : NoAttr K (t.cls T.ca) "parts"
  nl : NoAttr K (t.cls T.ca) "looks"
  nc : NoAttr K (t.cls T.ca) "choices"
  kt : PySem.W.kitOne K (.ref (t.cls T.ca)) (.ref T.c_Term) = some true
  kl : PySem.W.kitOne K (.ref (t.cls T.ca)) (.ref T.c_Look) = some t.isLook
  ka : PySem.W.kitAny K (.ref (t.cls T.ca)) [.ref T.c_Look, .ref T.c_Later, .ref T.c_Earlier] = some t.chooses
theorem Txt.kc (T : Txt P K mg) (t : Tm) : KCls T t := by
  cases t with
  | now => exact ⟨T.o_Now, T.n_Now_depth, T.n_Now_parts, T.n_Now_looks, T.n_Now_choices, T.k1_Now_Term, T.k1_Now_Look, T.ka_Now_Look_Later_Earlier⟩
  | shift => exact ⟨T.o_Shift, T.n_Shift_depth, T.n_Shift_parts, T.n_Shift_looks, T.n_Shift_choices, T.k1_Shift_Term, T.k1_Shift_Look, T.ka_Shift_Look_Later_Earlier⟩
  | look => exact ⟨T.o_Look, T.n_Look_depth, T.n_Look_parts, T.n_Look_looks, T.n_Look_choices, T.k1_Look_Term, T.k1_Look_Look, T.ka_Look_Look_Later_Earlier⟩
  | either => exact ⟨T.o_Either, T.n_Either_depth, T.n_Either_parts, T.n_Either_looks, T.n_Either_choices, T.k1_Either_Term, T.k1_Either_Look, T.ka_Either_Look_Later_Earlier⟩
  | later => exact ⟨T.o_Later, T.n_Later_depth, T.n_Later_parts, T.n_Later_looks, T.n_Later_choices, T.k1_Later_Term, T.k1_Later_Look, T.ka_Later_Look_Later_Earlier⟩
  | earlier => exact ⟨T.o_Earlier, T.n_Earlier_depth, T.n_Earlier_parts, T.n_Earlier_looks, T.n_Earlier_choices, T.k1_Earlier_Term, T.k1_Earlier_Look, T.ka_Earlier_Look_Later_Earlier⟩
/-- all but x is as it was -/
def But (x : Addr) (H H' : Hp) : Prop := ∀ b o, b ≠ x → H b = some o → H' b = some o
/-- [child.f for child in children]: a list of the children's sizes -/
theorem lc_kids (T : Txt P K mg) {s0 s1 s2 s3 : Option V} {H1 : Hp} {D p : Addr} {as : List Addr} {ts : List Tm} {f : Str} {g : Tm → Nat} {Qd : Hp → Prop} (hD : H1 D = none) (hp : H1 p = some (.tup (as.map V.ref))) (hk : KidsAt T.ca H1 ts as) (hl : as.length ≤ 2)
    (hf : ∀ t : Tm, NoAttr K (t.cls T.ca) f) (hg : ∀ {H : Hp} {t : Tm} {a : Addr}, TmAt T.ca H t a → ∃ dx fs, H a = some (.ins (t.cls T.ca) dx fs) ∧ fs.lookup f = some (.int (g t)))
    (q : ∀ H', Same H1 H' → H' D = some (.lst ((ts.map fun t => (g t : Int)).map V.int)) → Qd H') :
    ∃ W : Nat → Nat → Hp → Prop, (∃ m, W 0 m (upd H1 D (.lst []))) ∧ ∀ i m H, W i m H →
      ((Itt K p).stop i H ∧ Qd H) ∨ ((Itt K p).go i H ∧ ∃ Nx : Hp → Prop, (∀ H', Nx H' → ∃ m', m' < m ∧ W (i + 1) m' H') ∧ ∀ x H', (Itt K p).yld i H x H' → gName 3 x (wipe [s0, s1, s2, s3] [3]) H' fun σ2 H2 => wipe σ2 [3] = wipe [s0, s1, s2, s3] [3] ∧ tYes σ2 H2 fun b H3 =>
        if b = true then tFld K (tVar 3) f σ2 H3 fun y H4 => ∃ acc, H4 D = some (.lst acc) ∧ acc.length < sizeLine ∧ Nx (upd H4 D (.lst (acc ++ [y]))) else Nx H3) := by
  have hlen := hk.len
  refine lc_tup (K := K) (a := p) (xs := as.map V.ref) (fun i H' => Same H1 H' ∧ H' D = some (.lst (((ts.take i).map fun t => (g t : Int)).map V.int))) ⟨same_upd hD, upd_same⟩ (fun i H' _ pp => SqT.of (pp.1 _ _ hp)) (fun i x H' hx pp => ?_) (fun H' pp => ?_)
  · obtain ⟨s1, hd⟩ := pp
    obtain ⟨a, ha, rfl⟩ : ∃ a, as[i]? = some a ∧ x = .ref a := by
      rw [List.getElem?_map] at hx
      cases e : as[i]? with
      | none => rw [e] at hx; cases hx
      | some a => rw [e] at hx; exact ⟨a, rfl, (Option.some.inj hx).symm⟩
    obtain ⟨t, ht, hta⟩ := hk.at i a ha
    obtain ⟨dx, fs, ho, hfs⟩ := hg (hta.same s1)
    refine ⟨rfl, yes_if ⟨.ref a, rfl, a, _, dx, fs, _, rfl, ho, (T.kc t).o.cl, hf t, hfs, _, hd, ?_, ?_, ?_⟩⟩
    · rw [List.length_map, List.length_map, List.length_take]
      have := (List.getElem?_eq_some_iff.mp ht).1
      exact szl (by omega)
    · exact same_mut s1 hD
    · rw [upd_same, List.take_add_one, ht, List.map_append, List.map_append]
      rfl
  · rw [List.length_map, hlen, List.take_of_length_le (Nat.le_refl _)] at pp
    exact q H' pp.1 pp.2
end
end Pl

namespace Pl
open PySem L2
section
variable {P : Program} {w : World} {K : PySem.W.Frag} {mg : Str → Option Value} {base : Heap}
def szP (t : Tm) (fs : List (Str × V)) : List (Str × V) := putF "choices" (.int t.choices) (putF "looks" (.int t.looks) (putF "parts" (.int t.parts) (putF "depth" (.int t.depth) fs)))
/-- Term.__init__(self, *children): x gets its sizes -/
def spTI0 (T : Txt P K mg) : Sp := fun vs H Q _ => ∃ (G : Hp) (t : Tm) (x p dx : Addr) (fs : List (Str × V)) (as : List Addr), vs = [.ref x, .ref p] ∧ Same G H ∧ G x = none ∧ G p = some (.tup (as.map V.ref)) ∧ KidsAt T.ca G t.kids as ∧ H x = some (.ins (t.cls T.ca) dx fs) ∧ fs.length ≤ 10 ∧ t.fits ∧
  ∀ H', Same G H' → But x H H' → H' x = some (.ins (t.cls T.ca) dx (szP t fs)) → Q .non H'
def spTInit (T : Txt P K mg) : Sp := fun vs H Q _ => ∃ (G : Hp) (t : Tm) (x dx : Addr) (fs : List (Str × V)) (as : List Addr), vs = .ref x :: as.map V.ref ∧ Same G H ∧ G x = none ∧ KidsAt T.ca G t.kids as ∧ H x = some (.ins (t.cls T.ca) dx fs) ∧ fs.length ≤ 10 ∧ t.fits ∧
  ∀ H', Same G H' → But x H H' → H' x = some (.ins (t.cls T.ca) dx (szP t fs)) → Q .non H'
theorem But.refl (x : Addr) (H : Hp) : But x H H := fun _ _ _ h => h
theorem But.trans {x : Addr} {H H1 H2 : Hp} (a : But x H H1) (b : But x H1 H2) : But x H H2 := fun c o n h => b c o n (a c o n h)
theorem But.of {x : Addr} {H H1 : Hp} (s : Same H H1) : But x H H1 := fun b o _ h => s b o h
theorem But.put {x : Addr} {H H1 : Hp} {o : HO} (s : But x H H1) : But x H (upd H1 x o) := fun b u n h => by rw [upd_ne n]; exact s b u n h
theorem kids2 (t : Tm) : t.kids.length ≤ 2 := by cases t <;> simp [Tm.kids]
theorem length_putF_le (f : Str) (y : V) (fs : List (Str × V)) : (putF f y fs).length ≤ fs.length + 1 := by
  have := length_putF f y fs
  omega
theorem ok_term_init (T : Txt P K mg) {k : Nat} : FnR P w K mg base CX0 (k + 1) T.Term_init.f (spTInit T) := by
  obtain ⟨oc, od, kV, doc, pm, an, cdv, ct, osl, efd, lk, hcd⟩ := T.Term_init.F.ex
  rw [efd] at lk
  have F := StX.fn_star (P := P) (w := w) (mg := mg) (base := base) (CX := CX0) (k := k) (ps := ["self"]) (pv := "children") (sp := spTI0 T) lk hcd sc_Term_init StX.cxUp_none (StX.bind_star1 (B := fun l => bindArgs (PySem.W.fnOf "__init__" "Term.__init__" (defArgs s_Term_init) (defBody s_Term_init) (defScope s_Term_init) Value.none kV doc pm an cdv ct) ⟨l, []⟩) (fun a => rfl) (fun a r rs => rfl)) (fun A outer s H vs Q E hr h => by
    obtain ⟨G, t, x, p, dx, fs, as, rfl, sG, xG, pG, hk, hx, hl, hfit, q⟩ := h
    have kc := T.kc t
    have hle := hk.len
    have hl2 : as.length ≤ 2 := by rw [hle]; exact kids2 t
    refine ⟨_, (pss_cons (ps_fld (pv 0) (pe_op op_add pe_int (pe_callBK (crk_maxDef rfl hr.units) (by rfl) T.n_max (by decide +kernel) (pa_cons (pe_lc (own := [("child", 3)]) (g := gName 3) (tt := tYes) (te := (tFld K (tVar 3) "depth")) rfl sc_Term_init.nd (pi_tup (pv 1)) (blkOk_by (own := [("child", 3)]) (N := N_Term_init) (sc := defScope s_Term_init) (by decide +kernel)) (fun _ _ _ _ _ => (pg_name (i := 3) sc_Term_init.nd rfl (.inl rfl))) (fun _ _ _ _ _ => pts_nil) (fun _ _ _ _ _ => (pe_fld (pv 3) rfl))) pa_nil) (pk_cons pe_int pk_nil))) rfl)
  (pss_cons (ps_fld (pv 0) (pe_op op_add pe_int (pe_callB (cr_sum rfl) (by rfl) T.n_sum (by decide +kernel) (pa_cons (pe_lc (own := [("child", 3)]) (g := gName 3) (tt := tYes) (te := (tFld K (tVar 3) "parts")) rfl sc_Term_init.nd (pi_tup (pv 1)) (blkOk_by (own := [("child", 3)]) (N := N_Term_init) (sc := defScope s_Term_init) (by decide +kernel)) (fun _ _ _ _ _ => (pg_name (i := 3) sc_Term_init.nd rfl (.inl rfl))) (fun _ _ _ _ _ => pts_nil) (fun _ _ _ _ _ => (pe_fld (pv 3) rfl))) pa_nil))) rfl)
  (pss_cons (ps_fld (pv 0) (pe_op op_add (pe_callB (cr_sum rfl) (by rfl) T.n_sum (by decide +kernel) (pa_cons (pe_lc (own := [("child", 3)]) (g := gName 3) (tt := tYes) (te := (tFld K (tVar 3) "looks")) rfl sc_Term_init.nd (pi_tup (pv 1)) (blkOk_by (own := [("child", 3)]) (N := N_Term_init) (sc := defScope s_Term_init) (by decide +kernel)) (fun _ _ _ _ _ => (pg_name (i := 3) sc_Term_init.nd rfl (.inl rfl))) (fun _ _ _ _ _ => pts_nil) (fun _ _ _ _ _ => (pe_fld (pv 3) rfl))) pa_nil)) (pe_callTy call_int1 (by rfl) T.n_int (by decide +kernel) (pa_cons (pe_callB call_isi (by rfl) T.n_isinstance (by decide +kernel) (pa_cons (pv 0) (pa_cons (pe_glob (v := .ref T.c_Look) (by rfl) T.g_Look rfl) pa_nil))) pa_nil))) rfl)
  (pss_cons (ps_set (i := 2) sc_Term_init.nd rfl (.inl rfl) (pe_callB call_isiT (by rfl) T.n_isinstance (by decide +kernel) (pa_cons (pv 0) (pa_cons (pe_tup (pa_cons (pe_glob (v := .ref T.c_Look) (by rfl) T.g_Look rfl) (pa_cons (pe_glob (v := .ref T.c_Later) (by rfl) T.g_Later rfl) (pa_cons (pe_glob (v := .ref T.c_Earlier) (by rfl) T.g_Earlier rfl) pa_nil)))) pa_nil))))
  (pss_cons (ps_fld (pv 0) (pe_op op_add (pe_callB (cr_sum rfl) (by rfl) T.n_sum (by decide +kernel) (pa_cons (pe_lc (own := [("child", 3)]) (g := gName 3) (tt := tYes) (te := (tFld K (tVar 3) "choices")) rfl sc_Term_init.nd (pi_tup (pv 1)) (blkOk_by (own := [("child", 3)]) (N := N_Term_init) (sc := defScope s_Term_init) (by decide +kernel)) (fun _ _ _ _ _ => (pg_name (i := 3) sc_Term_init.nd rfl (.inl rfl))) (fun _ _ _ _ _ => pts_nil) (fun _ _ _ _ _ => (pe_fld (pv 3) rfl))) pa_nil)) (pe_callTy call_int1 (by rfl) T.n_int (by decide +kernel) (pa_cons (pv 2) pa_nil))) rfl)
  (pss_one (ps_if (PW.pt (pw_or (pt_cmpR op_gt (pe_fld (pv 0) rfl) (pe_glob (v := .int 12) (by rfl) T.k_DEEPEST ⟨_, rfl⟩) (nomark _)) (pw_or (pt_cmpR op_gt (pe_fld (pv 0) rfl) (pe_glob (v := .int 40) (by rfl) T.k_MOST_PARTS ⟨_, rfl⟩) (nomark _)) (pw_or1 (pt_cmpR op_gt (pe_fld (pv 0) rfl) (pe_glob (v := .int 12) (by rfl) T.k_MOST_LOOKS ⟨_, rfl⟩) (nomark _)))))) (pss_one ps_never) pss_nil))))))), ?_⟩
    refine ⟨.ref p, rfl, p, rfl, ⟨_, SqT.of (sG _ _ pG)⟩, fun D1 hD1 => ?_⟩
    refine lc_kids T (f := "depth") (g := Tm.depth) hD1 (sG _ _ pG) (hk.same sG) hl2 (fun t => (T.kc t).nd) (fun ht => by obtain ⟨dx, fs, h1, h2, _⟩ := ht.obj; exact ⟨dx, fs, h1, h2⟩) (fun H1 s1 d1 => ?_)
    refine ⟨D1, _, 0, rfl, rfl, SqL.of d1, _, _, rfl, rfl, .ref x, rfl, x, _, dx, fs, rfl, s1 _ _ hx, kc.o.cl, kc.nd, by omega, ?_⟩
    -- parts
    have e1 : (1 + mxD 0 (t.kids.map fun t => (t.depth : Int))) = (t.depth : Int) := (Tm.depth_kids t).symm
    have hx1 := upd_same (H := H1) (a := x) (o := HO.ins (t.cls T.ca) dx (putF "depth" (.int t.depth) fs))
    have sG1 : Same G (upd H1 x (.ins (t.cls T.ca) dx (putF "depth" (.int t.depth) fs))) := same_mut (sG.trans s1) xG
    have b1 : But x H (upd H1 x (.ins (t.cls T.ca) dx (putF "depth" (.int t.depth) fs))) := (But.of s1).put
    dsimp only
    rw [e1]
    have l1 := length_putF_le "depth" (.int t.depth) fs
    generalize upd H1 x (.ins (t.cls T.ca) dx (putF "depth" (.int t.depth) fs)) = H2 at hx1 sG1 b1 ⊢
    refine ⟨.ref p, rfl, p, rfl, ⟨_, SqT.of (sG1 _ _ pG)⟩, fun D2 hD2 => ?_⟩
    refine lc_kids T (f := "parts") (g := Tm.parts) hD2 (sG1 _ _ pG) (hk.same sG1) hl2 (fun t => (T.kc t).np) (fun ht => by obtain ⟨dx, fs, h1, _, h2, _⟩ := ht.obj; exact ⟨dx, fs, h1, h2⟩) (fun H3 s3 d3 => ?_)
    refine ⟨D2, _, rfl, SqL.of d3, _, _, rfl, rfl, .ref x, rfl, x, _, dx, _, rfl, s3 _ _ hx1, kc.o.cl, kc.np, by omega, ?_⟩
    have e2 : (1 + (t.kids.map fun t => (t.parts : Int)).sum) = (t.parts : Int) := (Tm.parts_kids t).symm
    dsimp only
    rw [e2]
    have hx2 := upd_same (H := H3) (a := x) (o := HO.ins (t.cls T.ca) dx (putF "parts" (.int t.parts) (putF "depth" (.int t.depth) fs)))
    have sG2 : Same G (upd H3 x (.ins (t.cls T.ca) dx (putF "parts" (.int t.parts) (putF "depth" (.int t.depth) fs)))) := same_mut (sG1.trans s3) xG
    have b2 : But x H (upd H3 x (.ins (t.cls T.ca) dx (putF "parts" (.int t.parts) (putF "depth" (.int t.depth) fs)))) := (b1.trans (But.of s3)).put
    have l2 := length_putF_le "parts" (.int t.parts) (putF "depth" (.int t.depth) fs)
    generalize upd H3 x (.ins (t.cls T.ca) dx (putF "parts" (.int t.parts) (putF "depth" (.int t.depth) fs))) = H4 at hx2 sG2 b2 ⊢
    -- looks
    refine ⟨.ref p, rfl, p, rfl, ⟨_, SqT.of (sG2 _ _ pG)⟩, fun D3 hD3 => ?_⟩
    refine lc_kids T (f := "looks") (g := Tm.looks) hD3 (sG2 _ _ pG) (hk.same sG2) hl2 (fun t => (T.kc t).nl) (fun ht => by obtain ⟨dx, fs, h1, _, _, h2, _⟩ := ht.obj; exact ⟨dx, fs, h1, h2⟩) (fun H5 s5 d5 => ?_)
    refine ⟨D3, _, rfl, SqL.of d5, .ref x, rfl, _, _, _, _, _, rfl, .own _, kc.o.ty (s5 _ _ hx2), kc.kl, .inr ⟨_, rfl, _, _, rfl, rfl, .ref x, rfl, x, _, dx, _, rfl, s5 _ _ hx2, kc.o.cl, kc.nl, by omega, ?_⟩⟩
    have e3 : ((t.kids.map fun t => (t.looks : Int)).sum + (if t.isLook then 1 else 0)) = (t.looks : Int) := (Tm.looks_kids t).symm
    dsimp only
    rw [e3]
    have hx3 := upd_same (H := H5) (a := x) (o := HO.ins (t.cls T.ca) dx (putF "looks" (.int t.looks) (putF "parts" (.int t.parts) (putF "depth" (.int t.depth) fs))))
    have sG3 : Same G (upd H5 x (.ins (t.cls T.ca) dx (putF "looks" (.int t.looks) (putF "parts" (.int t.parts) (putF "depth" (.int t.depth) fs))))) := same_mut (sG2.trans s5) xG
    have b3 : But x H (upd H5 x (.ins (t.cls T.ca) dx (putF "looks" (.int t.looks) (putF "parts" (.int t.parts) (putF "depth" (.int t.depth) fs))))) := (b2.trans (But.of s5)).put
    have l3 := length_putF_le "looks" (.int t.looks) (putF "parts" (.int t.parts) (putF "depth" (.int t.depth) fs))
    generalize upd H5 x (.ins (t.cls T.ca) dx (putF "looks" (.int t.looks) (putF "parts" (.int t.parts) (putF "depth" (.int t.depth) fs)))) = H6 at hx3 sG3 b3 ⊢
    -- chooses
    refine ⟨.ref x, rfl, sz (by show 3 ≤ 100000; decide), fun r hr0 => ?_⟩
    have s6 : Same H6 (upd H6 r (.tup [.ref T.c_Look, .ref T.c_Later, .ref T.c_Earlier])) := same_upd hr0
    refine ⟨_, r, _, _, _, _, rfl, upd_same, .cons (.own _) (.cons (.own _) (.cons (.own _) .nil)), kc.o.ty (s6 _ _ hx3), kc.ka, ?_⟩
    have hx4 := s6 _ _ hx3
    have sG4 := sG3.trans s6
    have b4 := b3.trans (But.of s6)
    generalize upd H6 r (.tup [.ref T.c_Look, .ref T.c_Later, .ref T.c_Earlier]) = H7 at hx4 sG4 b4 ⊢
    refine ⟨.ref p, rfl, p, rfl, ⟨_, SqT.of (sG4 _ _ pG)⟩, fun D4 hD4 => ?_⟩
    refine lc_kids T (f := "choices") (g := Tm.choices) hD4 (sG4 _ _ pG) (hk.same sG4) hl2 (fun t => (T.kc t).nc) (fun ht => by obtain ⟨dx, fs, h1, _, _, _, h2, _⟩ := ht.obj; exact ⟨dx, fs, h1, h2⟩) (fun H8 s8 d8 => ?_)
    refine ⟨D4, _, rfl, SqL.of d8, .bl t.chooses, rfl, .inr ⟨_, rfl, _, _, rfl, rfl, .ref x, rfl, x, _, dx, _, rfl, s8 _ _ hx4, kc.o.cl, kc.nc, by omega, ?_⟩⟩
    have e4 : ((t.kids.map fun t => (t.choices : Int)).sum + (if t.chooses then 1 else 0)) = (t.choices : Int) := (Tm.choices_kids t).symm
    dsimp only
    rw [e4]
    have hx5 := upd_same (H := H8) (a := x) (o := HO.ins (t.cls T.ca) dx (szP t fs))
    have sG5 : Same G (upd H8 x (.ins (t.cls T.ca) dx (szP t fs))) := same_mut (sG4.trans s8) xG
    have b5 : But x H (upd H8 x (.ins (t.cls T.ca) dx (szP t fs))) := (b4.trans (But.of s8)).put
    show _
    change _
    obtain ⟨f1, f2, f3⟩ := hfit
    have k1 : (szP t fs).lookup ("depth" : Str) = some (.int t.depth) := by
      unfold szP
      rw [lookup_putF, if_neg (by decide +kernel), lookup_putF, if_neg (by decide +kernel), lookup_putF, if_neg (by decide +kernel), lookup_putF, if_pos rfl]
    have k2 : (szP t fs).lookup ("parts" : Str) = some (.int t.parts) := by
      unfold szP
      rw [lookup_putF, if_neg (by decide +kernel), lookup_putF, if_neg (by decide +kernel), lookup_putF, if_pos rfl]
    have k3 : (szP t fs).lookup ("looks" : Str) = some (.int t.looks) := by
      unfold szP
      rw [lookup_putF, if_neg (by decide +kernel), lookup_putF, if_pos rfl]
    refine ⟨.ref x, rfl, x, _, dx, _, _, rfl, hx5, kc.o.cl, kc.nd, k1, _, _, rfl, rfl, _, rfl, iF (decide_eq_false (by omega)) ?_⟩
    refine ⟨.ref x, rfl, x, _, dx, _, _, rfl, hx5, kc.o.cl, kc.np, k2, _, _, rfl, rfl, _, rfl, iF (decide_eq_false (by omega)) ?_⟩
    refine ⟨.ref x, rfl, x, _, dx, _, _, rfl, hx5, kc.o.cl, kc.nl, k3, _, _, rfl, rfl, _, rfl, iF (decide_eq_false (by omega)) ?_⟩
    exact q _ sG5 b5 hx5)
  refine F.imp fun vs H Q E h => ?_
  obtain ⟨G, t, x, dx, fs, as, rfl, sG, xG, hk, hx, hl, hfit, q⟩ := h
  refine ⟨[.ref x], as.map V.ref, rfl, rfl, ?_, fun p hp => ?_⟩
  · rw [List.length_map, hk.len]
    exact Nat.le_trans (kids2 t) (by decide)
  · refine ⟨upd G p (.tup (as.map V.ref)), t, x, p, dx, fs, as, rfl, same_both sG, ?_, upd_same, hk.same (same_upd (sG.free hp)), ?_, hl, hfit, fun H' s' b' h' => ?_⟩
    · rw [upd_ne (ne_of_none hx hp)]
      exact xG
    · rw [upd_ne (ne_of_none hx hp)]
      exact hx
    · exact q H' ((same_upd (sG.free hp)).trans s') (fun b o n e => b' b o n (by rw [upd_ne (ne_of_none e hp)]; exact e)) h'
end
end Pl

namespace Pl
open PySem L2
section
variable {P : Program} {w : World} {K : PySem.W.Frag} {mg : Str → Option Value} {base : Heap}
/-- Now.__init__(self) -/
def spNowInit (T : Txt P K mg) : Sp := fun vs H Q _ => ∃ (G : Hp) (x dx : Addr), vs = [.ref x] ∧ Same G H ∧ G x = none ∧ H x = some (.ins T.c_Now dx []) ∧ ∀ H', Same G H' → TmAt T.ca H' .now x → Q .non H'
theorem ok_now_init (T : Txt P K mg) {k : Nat} : FnR P w K mg base CX0 (k + 2) T.Now_init.f (spNowInit T) := by
  refine T.Now_init.ok0 (pre := []) rfl sc_Now_init rfl rfl (by decide +kernel) (by decide) rfl T.n_super (fun _ _ _ _ _ _ _ us hl => match us, hl with | [_], _ => rfl) (ok_term_init T (k := k)) (fun vs H Q E h => ?_) (fun A outer s H vs Q E hr h => ?_)
  · obtain ⟨G, x, dx, rfl, _⟩ := h
    rfl
  · obtain ⟨G, x, dx, rfl, sG, xG, hx, q⟩ := h
    refine ⟨_, pss_nil, ?_⟩
    refine ⟨x, _, dx, [], rfl, rfl, hx, T.s_Now_Now, G, .now, x, dx, [], [], rfl, sG, xG, trivial, hx, by decide, ⟨by decide, by decide, by decide⟩, fun H' s' b' h' => q H' s' ⟨dx, h'⟩⟩
/-- Shift.__init__(self, moment, amount) -/
def spShiftInit (T : Txt P K mg) : Sp := fun vs H Q _ => ∃ (G : Hp) (m : Tm) (n : Int) (x a dx : Addr), vs = [.ref x, .ref a, .int n] ∧ Same G H ∧ G x = none ∧ TmAt T.ca G m a ∧ (Tm.shift m n).fits ∧ H x = some (.ins T.c_Shift dx []) ∧ ∀ H', Same G H' → TmAt T.ca H' (.shift m n) x → Q .non H'
theorem ok_shift_init (T : Txt P K mg) {k : Nat} : FnR P w K mg base CX0 (k + 2) T.Shift_init.f (spShiftInit T) := by
  refine T.Shift_init.ok (pre := (defBody s_Shift_init).take 2) rfl sc_Shift_init rfl rfl (by decide +kernel) (by decide) rfl T.n_super (fun _ _ _ _ _ _ _ us hl => match us, hl with | [_, _, _], _ => rfl) (ok_term_init T (k := k)) (fun vs H Q E h => ?_) (fun A outer s H vs Q E hr h => ?_)
  · obtain ⟨G, m, n, x, a, dx, rfl, _⟩ := h
    rfl
  · obtain ⟨G, m, n, x, a, dx, rfl, sG, xG, hm, hfit, hx, q⟩ := h
    refine ⟨_, _, (pss_cons (ps_fld (pv 0) (pv 1) rfl)
  (pss_one (ps_fld (pv 0) (pv 2) rfl))), (pa_cons (pv 1) pa_nil), ?_⟩
    refine ⟨.ref a, rfl, .ref x, rfl, x, _, dx, [], rfl, hx, T.o_Shift.cl, T.n_Shift_moment, by decide, ?_⟩
    refine ⟨.int n, rfl, .ref x, rfl, x, _, dx, _, rfl, upd_same, T.o_Shift.cl, T.n_Shift_amount, (by show 1 < 1000; decide), ?_⟩
    rw [upd_upd]
    have sG1 : Same G (upd H x (.ins T.c_Shift dx (putF "amount" (.int n) (putF "moment" (.ref a) [])))) := same_mut sG xG
    refine ⟨x, _, dx, _, rfl, rfl, upd_same, T.s_Shift_Shift, .ref a, rfl, G, .shift m n, x, dx, shF a n, [a], rfl, sG1, xG, ⟨hm, trivial⟩, upd_same, (by show 2 ≤ 10; decide), hfit, fun H' s' b' h' => q H' s' ⟨dx, a, h', hm.same s'⟩⟩
end
end Pl

namespace Pl
open PySem L2
/-! ### what a term's form reads as -/
inductive Kd
  | now | shift | look | either | later | earlier
def Tm.kind : Tm → Kd
  | .now => .now
  | .shift _ _ => .shift
  | .look _ _ _ _ => .look
  | .either _ _ => .either
  | .later _ _ => .later
  | .earlier _ _ => .earlier
def oD : Option Int → PyData
  | none => .none
  | some i => .int i
def Tm.data : Tm → PyData
  | .now => .tuple [.str "now"]
  | .shift m n => .tuple [.str "shift", .int n, m.data]
  | .look s m wy lim => .tuple [.str wy, .str s, oD lim, m.data]
  | .either a b => .tuple [.str "either", a.data, b.data]
  | .later a b => .tuple [.str "later", a.data, b.data]
  | .earlier a b => .tuple [.str "earlier", a.data, b.data]
mutual
theorem Dp.same {K : PySem.W.Frag} {H H' : Hp} (s : Same H H') : ∀ (d : PyData) (v : V), Dp K H v d → Dp K H' v d
  | .none, _, h => by cases h; exact .non
  | .bool b, _, h => by cases h; exact .bl b
  | .int i, _, h => by cases h; exact .int i
  | .str x, _, h => by cases h; exact .str x
  | .list ds, _, h => by
    cases h with
    | lst hs ha => exact .lst (s.seq hs) (DpAll.same s ds _ ha)
  | .tuple ds, _, h => by
    cases h with
    | tup hs ha => exact .tup (Same.tup s hs) (DpAll.same s ds _ ha)
  | .dict _, _, h => by cases h
theorem DpAll.same {K : PySem.W.Frag} {H H' : Hp} (s : Same H H') : ∀ (ds : List PyData) (vs : List V), DpAll K H vs ds → DpAll K H' vs ds
  | [], _, h => by cases h; exact .nil
  | d :: ds, _, h => by
    cases h with
    | cons h1 h2 => exact .cons (Dp.same s d _ h1) (DpAll.same s ds _ h2)
end
theorem dp_oV {K : PySem.W.Frag} {H : Hp} (o : Option Int) : Dp K H (oV o) (oD o) := by
  cases o
  · exact .non
  · exact .int _
section
variable {P : Program} {w : World} {K : PySem.W.Frag} {mg : Str → Option Value} {base : Heap}
def Txt.formF (T : Txt P K mg) : Kd → Addr
  | .now => T.Term_form.f
  | .shift => T.Shift_form.f
  | .look => T.Look_form.f
  | .either => T.Either_form.f
  | .later => T.Later_form.f
  | .earlier => T.Earlier_form.f
theorem Txt.formM (T : Txt P K mg) (t : Tm) : Meth K (t.cls T.ca) "form" (T.formF t.kind) := by
  cases t
  · exact T.m_Now_form
  · exact T.m_Shift_form
  · exact T.m_Look_form
  · exact T.m_Either_form
  · exact T.m_Later_form
  · exact T.m_Earlier_form
def spForm (T : Txt P K mg) (n : Nat) (kd : Kd) : Sp := fun vs H Q _ => ∃ (t : Tm) (a : Addr), vs = [.ref a] ∧ t.kind = kd ∧ t.depth ≤ n ∧ TmAt T.ca H t a ∧ ∀ r H', Same H H' → Dp K H' (.ref r) t.data → Q (.ref r) H'
/-- o.form() -/
theorem rd_form (T : Txt P K mg) {n : Nat} {σ : St} {H : Hp} {Q : VK} {ta : TE} {t : Tm} {a : Addr} (hd : t.depth ≤ n) (hta : TmAt T.ca H t a) (q : ∀ r H', Same H H' → Dp K H' (.ref r) t.data → Q (.ref r) H') :
    ∃ a' C dx fs i, V.ref a = .ref a' ∧ H a' = some (.ins C dx fs) ∧ fs.lookup ("form" : Str) = none ∧ Cls K C ∧ Meth K C "form" (T.formF i) ∧ tNil σ H fun vs H2 => spForm T n i (.ref a :: vs) H2 Q E0 := by
  obtain ⟨dx, fs, h1, _, _, _, _, h2, _⟩ := hta.obj
  exact ⟨a, _, dx, fs, t.kind, rfl, h1, h2, (T.kc t).o.cl, T.formM t, t, a, rfl, rfl, hd, hta, q⟩
theorem depth_pos (t : Tm) : 0 < t.depth := by cases t <;> simp only [Tm.depth] <;> omega
theorem ok_form (T : Txt P K mg) {k : Nat} : ∀ (n : Nat) (kd : Kd), FnR P w K mg base CX0 (k + n) (T.formF kd) (spForm T n kd)
  | 0, kd => fun A outer s H us vs Q E hr e0 r h => by
    obtain ⟨t, a, _, _, hd, _⟩ := h
    have := depth_pos t
    omega
  | n + 1, kd => by
    have G_form : ∀ kd, FnR P w K mg base CX0 (k + n) (T.formF kd) (spForm T n kd) := fun kd => ok_form T n kd
    cases kd with
    | now =>
      refine toR (T.Term_form.F.ok (k := k + n) sc_Term_form (fun vs H Q E h => ?_) (fun cdv A outer s H vs Q E hr h => ?_)) T.Term_form.b
      · obtain ⟨t, a, rfl, _⟩ := h
        rfl
      · obtain ⟨t, a, rfl, hk, hd, hta, q⟩ := h
        cases t with
        | now =>
          refine ⟨_, (pss_one (ps_ret (pe_tup (pa_cons pe_str pa_nil)))), ?_⟩
          refine ⟨sz (by show 1 ≤ 100000; decide), fun p hp => ?_⟩
          exact q p _ (same_upd hp) (.tup (SqT.of upd_same) (.cons (.str _) .nil))
        | _ => cases hk
    | shift =>
      refine toR (T.Shift_form.F.ok (k := k + n) sc_Shift_form (fun vs H Q E h => ?_) (fun cdv A outer s H vs Q E hr h => ?_)) T.Shift_form.b
      · obtain ⟨t, a, rfl, _⟩ := h
        rfl
      · obtain ⟨t, a, rfl, hk, hd, hta, q⟩ := h
        cases t with
        | shift m i =>
          obtain ⟨dx, b, ha, hm⟩ := hta
          have hd' : m.depth ≤ n := by simp only [Tm.depth] at hd; omega
          refine ⟨_, (pss_one (ps_ret (pe_tup (pa_cons pe_str (pa_cons (pe_fld (pv 0) rfl) (pa_cons (pe_methV0 (pe_fld (pv 0) rfl) G_form (hr.mono (by omega)) pass0) pa_nil)))))), ?_⟩
          refine ⟨.ref a, rfl, a, _, dx, _, _, rfl, ha, T.o_Shift.cl, T.n_Shift_amount, rfl, .ref a, rfl, a, _, dx, _, _, rfl, ha, T.o_Shift.cl, T.n_Shift_moment, rfl, ?_⟩
          refine rd_form T (ta := tVar 0) hd' hm fun r H' s' hr' => ?_
          refine ⟨sz (by show 3 ≤ 100000; decide), fun p hp => ?_⟩
          exact q p _ (s'.trans (same_upd hp)) (.tup (SqT.of upd_same) (.cons (.str _) (.cons (.int _) (.cons (Dp.same (same_upd hp) _ _ hr') .nil))))
        | _ => cases hk
    | look =>
      refine toR (T.Look_form.F.ok (k := k + n) sc_Look_form (fun vs H Q E h => ?_) (fun cdv A outer s H vs Q E hr h => ?_)) T.Look_form.b
      · obtain ⟨t, a, rfl, _⟩ := h
        rfl
      · obtain ⟨t, a, rfl, hk, hd, hta, q⟩ := h
        cases t with
        | look st m wy lim =>
          obtain ⟨dx, b, ha, hm⟩ := hta
          have hd' : m.depth ≤ n := by simp only [Tm.depth] at hd; omega
          refine ⟨_, (pss_one (ps_ret (pe_tup (pa_cons (pe_fld (pv 0) rfl) (pa_cons (pe_fld (pv 0) rfl) (pa_cons (pe_fld (pv 0) rfl) (pa_cons (pe_methV0 (pe_fld (pv 0) rfl) G_form (hr.mono (by omega)) pass0) pa_nil))))))), ?_⟩
          refine ⟨.ref a, rfl, a, _, dx, _, _, rfl, ha, T.o_Look.cl, T.n_Look_way, rfl, .ref a, rfl, a, _, dx, _, _, rfl, ha, T.o_Look.cl, T.n_Look_stream, rfl, .ref a, rfl, a, _, dx, _, _, rfl, ha, T.o_Look.cl, T.n_Look_within, rfl, .ref a, rfl, a, _, dx, _, _, rfl, ha, T.o_Look.cl, T.n_Look_moment, rfl, ?_⟩
          refine rd_form T (ta := tVar 0) hd' hm fun r H' s' hr' => ?_
          refine ⟨sz (by show 4 ≤ 100000; decide), fun p hp => ?_⟩
          exact q p _ (s'.trans (same_upd hp)) (.tup (SqT.of upd_same) (.cons (.str _) (.cons (.str _) (.cons (dp_oV _) (.cons (Dp.same (same_upd hp) _ _ hr') .nil)))))
        | _ => cases hk
    | either =>
      refine toR (T.Either_form.F.ok (k := k + n) sc_Either_form (fun vs H Q E h => ?_) (fun cdv A outer s H vs Q E hr h => ?_)) T.Either_form.b
      · obtain ⟨t, a, rfl, _⟩ := h
        rfl
      · obtain ⟨t, a, rfl, hk, hd, hta, q⟩ := h
        cases t with
        | either x y =>
          obtain ⟨dx, b, d, ha, hx, hy⟩ := hta
          have hd1 : x.depth ≤ n := by simp only [Tm.depth] at hd; omega
          have hd2 : y.depth ≤ n := by simp only [Tm.depth] at hd; omega
          refine ⟨_, (pss_one (ps_ret (pe_tup (pa_cons pe_str (pa_cons (pe_methV0 (pe_fld (pv 0) rfl) G_form (hr.mono (by omega)) pass0) (pa_cons (pe_methV0 (pe_fld (pv 0) rfl) G_form (hr.mono (by omega)) pass0) pa_nil)))))), ?_⟩
          refine ⟨.ref a, rfl, a, _, dx, _, _, rfl, ha, T.o_Either.cl, T.n_Either_first, rfl, ?_⟩
          refine rd_form T (ta := tVar 0) hd1 hx fun r1 H1 s1 hr1 => ?_
          refine ⟨.ref a, rfl, a, _, dx, _, _, rfl, s1 _ _ ha, T.o_Either.cl, T.n_Either_second, rfl, ?_⟩
          refine rd_form T (ta := tVar 0) hd2 (hy.same s1) fun r2 H2 s2 hr2 => ?_
          refine ⟨sz (by show 3 ≤ 100000; decide), fun p hp => ?_⟩
          exact q p _ ((s1.trans s2).trans (same_upd hp)) (.tup (SqT.of upd_same) (.cons (.str _) (.cons (Dp.same (s2.trans (same_upd hp)) _ _ hr1) (.cons (Dp.same (same_upd hp) _ _ hr2) .nil))))
        | _ => cases hk
    | later =>
      refine toR (T.Later_form.F.ok (k := k + n) sc_Later_form (fun vs H Q E h => ?_) (fun cdv A outer s H vs Q E hr h => ?_)) T.Later_form.b
      · obtain ⟨t, a, rfl, _⟩ := h
        rfl
      · obtain ⟨t, a, rfl, hk, hd, hta, q⟩ := h
        cases t with
        | later x y =>
          obtain ⟨dx, b, d, ha, hx, hy⟩ := hta
          have hd1 : x.depth ≤ n := by simp only [Tm.depth] at hd; omega
          have hd2 : y.depth ≤ n := by simp only [Tm.depth] at hd; omega
          refine ⟨_, (pss_one (ps_ret (pe_tup (pa_cons pe_str (pa_cons (pe_methV0 (pe_fld (pv 0) rfl) G_form (hr.mono (by omega)) pass0) (pa_cons (pe_methV0 (pe_fld (pv 0) rfl) G_form (hr.mono (by omega)) pass0) pa_nil)))))), ?_⟩
          refine ⟨.ref a, rfl, a, _, dx, _, _, rfl, ha, T.o_Later.cl, T.n_Later_first, rfl, ?_⟩
          refine rd_form T (ta := tVar 0) hd1 hx fun r1 H1 s1 hr1 => ?_
          refine ⟨.ref a, rfl, a, _, dx, _, _, rfl, s1 _ _ ha, T.o_Later.cl, T.n_Later_second, rfl, ?_⟩
          refine rd_form T (ta := tVar 0) hd2 (hy.same s1) fun r2 H2 s2 hr2 => ?_
          refine ⟨sz (by show 3 ≤ 100000; decide), fun p hp => ?_⟩
          exact q p _ ((s1.trans s2).trans (same_upd hp)) (.tup (SqT.of upd_same) (.cons (.str _) (.cons (Dp.same (s2.trans (same_upd hp)) _ _ hr1) (.cons (Dp.same (same_upd hp) _ _ hr2) .nil))))
        | _ => cases hk
    | earlier =>
      refine toR (T.Earlier_form.F.ok (k := k + n) sc_Earlier_form (fun vs H Q E h => ?_) (fun cdv A outer s H vs Q E hr h => ?_)) T.Earlier_form.b
      · obtain ⟨t, a, rfl, _⟩ := h
        rfl
      · obtain ⟨t, a, rfl, hk, hd, hta, q⟩ := h
        cases t with
        | earlier x y =>
          obtain ⟨dx, b, d, ha, hx, hy⟩ := hta
          have hd1 : x.depth ≤ n := by simp only [Tm.depth] at hd; omega
          have hd2 : y.depth ≤ n := by simp only [Tm.depth] at hd; omega
          refine ⟨_, (pss_one (ps_ret (pe_tup (pa_cons pe_str (pa_cons (pe_methV0 (pe_fld (pv 0) rfl) G_form (hr.mono (by omega)) pass0) (pa_cons (pe_methV0 (pe_fld (pv 0) rfl) G_form (hr.mono (by omega)) pass0) pa_nil)))))), ?_⟩
          refine ⟨.ref a, rfl, a, _, dx, _, _, rfl, ha, T.o_Earlier.cl, T.n_Earlier_first, rfl, ?_⟩
          refine rd_form T (ta := tVar 0) hd1 hx fun r1 H1 s1 hr1 => ?_
          refine ⟨.ref a, rfl, a, _, dx, _, _, rfl, s1 _ _ ha, T.o_Earlier.cl, T.n_Earlier_second, rfl, ?_⟩
          refine rd_form T (ta := tVar 0) hd2 (hy.same s1) fun r2 H2 s2 hr2 => ?_
          refine ⟨sz (by show 3 ≤ 100000; decide), fun p hp => ?_⟩
          exact q p _ ((s1.trans s2).trans (same_upd hp)) (.tup (SqT.of upd_same) (.cons (.str _) (.cons (Dp.same (s2.trans (same_upd hp)) _ _ hr1) (.cons (Dp.same (same_upd hp) _ _ hr2) .nil))))
        | _ => cases hk
end
end Pl

namespace Pl
open PySem L2
/-- the term plus an amount -/
def Tm.plus : Tm → Int → Tm
  | .shift m n, k => if k = 0 then .shift m n else if k + n = 0 then m else .shift m (k + n)
  | t, k => if k = 0 then t else .shift t k
def Tm.sok : Tm → Prop
  | .now => True
  | .shift m _ => m.sok
  | .look s m wy _ => PyData.strOk s = true ∧ PyData.strOk wy = true ∧ m.sok
  | .either a b => a.sok ∧ b.sok
  | .later a b => a.sok ∧ b.sok
  | .earlier a b => a.sok ∧ b.sok
theorem oD_ok (o : Option Int) : (oD o).canLay0 = true ∧ (oD o).depth = 0 := by cases o <;> simp [oD, PyData.canLay0, PyData.depth]
theorem Tm.canLay : ∀ (t : Tm), t.sok → t.data.canLay0 = true
  | .now, _ => by simp only [Tm.data, PyData.canLay0, PyData.canLayAll0]; decide +kernel
  | .shift m n, h => by
    have := Tm.canLay m h
    simp only [Tm.data, PyData.canLay0, PyData.canLayAll0, this, Bool.and_true, Bool.true_and]
    decide +kernel
  | .look s m wy lim, ⟨h1, h2, h3⟩ => by
    have := Tm.canLay m h3
    simp only [Tm.data, PyData.canLay0, PyData.canLayAll0, this, h1, h2, (oD_ok lim).1, Bool.and_true, Bool.true_and]
  | .either a b, ⟨h1, h2⟩ => by
    have e1 := Tm.canLay a h1
    have e2 := Tm.canLay b h2
    simp only [Tm.data, PyData.canLay0, PyData.canLayAll0, e1, e2, Bool.and_true, Bool.true_and]
    decide +kernel
  | .later a b, ⟨h1, h2⟩ => by
    have e1 := Tm.canLay a h1
    have e2 := Tm.canLay b h2
    simp only [Tm.data, PyData.canLay0, PyData.canLayAll0, e1, e2, Bool.and_true, Bool.true_and]
    decide +kernel
  | .earlier a b, ⟨h1, h2⟩ => by
    have e1 := Tm.canLay a h1
    have e2 := Tm.canLay b h2
    simp only [Tm.data, PyData.canLay0, PyData.canLayAll0, e1, e2, Bool.and_true, Bool.true_and]
    decide +kernel
theorem Tm.dataDepth : ∀ (t : Tm), t.data.depth = t.depth
  | .now => by simp [Tm.data, PyData.depth, PyData.depthAll, Tm.depth]
  | .shift m n => by
    have := Tm.dataDepth m
    simp only [Tm.data, PyData.depth, PyData.depthAll, Tm.depth, this]
    omega
  | .look s m wy lim => by
    have := Tm.dataDepth m
    simp only [Tm.data, PyData.depth, PyData.depthAll, Tm.depth, this, (oD_ok lim).2]
    omega
  | .either a b => by
    have e1 := Tm.dataDepth a
    have e2 := Tm.dataDepth b
    simp only [Tm.data, PyData.depth, PyData.depthAll, Tm.depth, e1, e2]
    omega
  | .later a b => by
    have e1 := Tm.dataDepth a
    have e2 := Tm.dataDepth b
    simp only [Tm.data, PyData.depth, PyData.depthAll, Tm.depth, e1, e2]
    omega
  | .earlier a b => by
    have e1 := Tm.dataDepth a
    have e2 := Tm.dataDepth b
    simp only [Tm.data, PyData.depth, PyData.depthAll, Tm.depth, e1, e2]
    omega
theorem Tm.shaped {t : Tm} (h : t.sok) (hd : t.depth ≤ 12) : SeqAt.shaped t.data = true := by
  unfold SeqAt.shaped
  rw [t.canLay h, t.dataDepth]
  simp only [Bool.true_and, decide_eq_true_eq]
  omega
section
variable {P : Program} {w : World} {K : PySem.W.Frag} {mg : Str → Option Value} {base : Heap}
theorem Txt.ks (T : Txt P K mg) (t : Tm) : PySem.W.kitOne K (.ref (t.cls T.ca)) (.ref T.c_Shift) = some (match t with | .shift _ _ => true | _ => false) := by
  cases t
  · exact T.k1_Now_Shift
  · exact T.k1_Shift_Shift
  · exact T.k1_Look_Shift
  · exact T.k1_Either_Shift
  · exact T.k1_Later_Shift
  · exact T.k1_Earlier_Shift
theorem TmAt.ty {T : Txt P K mg} {H : Hp} {t : Tm} {a : Addr} (h : TmAt T.ca H t a) : TyX K H (.ref a) (.ref (t.cls T.ca)) := by
  obtain ⟨dx, fs, h1, _⟩ := h.obj
  exact (T.kc t).o.ty h1
/-- Term.__eq__ -/
def spTEq (T : Txt P K mg) : Sp := fun vs H Q _ => ∃ (t u : Tm) (a b : Addr), vs = [.ref a, .ref b] ∧ TmAt T.ca H t a ∧ TmAt T.ca H u b ∧ t.sok ∧ u.sok ∧ t.depth ≤ 12 ∧ u.depth ≤ 12 ∧ ∀ H', Same H H' → Q (.bl (PyData.eqv t.data u.data)) H'
theorem ok_term_eq (T : Txt P K mg) {k : Nat} : FnR P w K mg base CX0 (k + 13) T.Term_eq.f (spTEq T) := by
  have G_form : ∀ kd, FnR P w K mg base CX0 (k + 12) (T.formF kd) (spForm T 12 kd) := fun kd => ok_form T 12 kd
  refine toR (T.Term_eq.F.ok (k := k + 12) sc_Term_eq (fun vs H Q E h => ?_) (fun cdv A outer s H vs Q E hr h => ?_)) T.Term_eq.b
  · obtain ⟨t, u, a, b, rfl, _⟩ := h
    rfl
  · obtain ⟨t, u, a, b, rfl, ht, hu, st, su, dt, du, q⟩ := h
    refine ⟨_, (pss_one (ps_ret (pe_and (pe_callB call_isi (by rfl) T.n_isinstance (by decide +kernel) (pa_cons (pv 1) (pa_cons (pe_glob (v := .ref T.c_Term) (by rfl) T.g_Term rfl) pa_nil))) (pe_one (pe_cmpR (op_eqD hr.units) (pe_methV0 (pv 0) G_form (hr.mono (by omega)) pass0) (pe_methV0 (pv 1) G_form (hr.mono (by omega)) pass0) (nomark _)))))), ?_⟩
    refine ⟨.ref b, rfl, _, _, _, _, _, rfl, .own _, hu.ty, (T.kc u).kt, _, rfl, iT rfl ⟨.ref a, rfl, ?_⟩⟩
    refine rd_form T (ta := tVar 0) dt ht fun r1 H1 s1 hr1 => ?_
    refine ⟨.ref b, rfl, ?_⟩
    refine rd_form T (ta := tVar 1) du (hu.same s1) fun r2 H2 s2 hr2 => ?_
    exact ⟨_, _, Dp.same s2 _ _ hr1, hr2, Tm.shaped st dt, Tm.shaped su du, q H2 (s1.trans s2)⟩
/-- shifted(term, amount) -/
def spShifted (T : Txt P K mg) : Sp := fun vs H Q _ => ∃ (t : Tm) (a : Addr) (k : Int), vs = [.ref a, .int k] ∧ TmAt T.ca H t a ∧ (t.plus k).fits ∧ ∀ r H', Same H H' → TmAt T.ca H' (t.plus k) r → Q (.ref r) H'
theorem ok_shifted (T : Txt P K mg) {k : Nat} : FnOk P w K mg base CX0 (k + 4) T.shifted.f T.shifted.fd ["term", "amount"] (spShifted T) := by
  have G_Shift_init : FnR P w K mg base CX0 (k + 2) T.Shift_init.f (spShiftInit T) := ok_shift_init T
  refine T.shifted.F.ok (k := k + 3) sc_shifted (fun vs H Q E h => ?_) (fun cdv A outer s H vs Q E hr h => ?_)
  · obtain ⟨t, a, k, rfl, _⟩ := h
    rfl
  · obtain ⟨t, a, n, rfl, ht, hf, q⟩ := h
    refine ⟨_, (pss_cons (ps_if (PW.pt (pw_and (pt_val (pe_callB call_isi (by rfl) T.n_isinstance (by decide +kernel) (pa_cons (pv 0) (pa_cons (pe_glob (v := .ref T.c_Shift) (by rfl) T.g_Shift rfl) pa_nil)))) (pw_and1 (pt_cmpR op_ne (pv 1) pe_int (nomark _))))) (pss_cons (ps_set (i := 1) sc_shifted.nd rfl (.inl rfl) (pe_op op_add (pv 1) (pe_fld (pv 0) rfl)))
  (pss_one (ps_set (i := 0) sc_shifted.nd rfl (.inl rfl) (pe_fld (pv 0) rfl)))) pss_nil)
  (pss_cons (ps_if (pt_cmpR op_eq (pv 1) pe_int (nomark _)) (pss_one (ps_ret (pv 0))) pss_nil)
  (pss_one (ps_ret (StX.pe_makeR T.mk_Shift G_Shift_init (hr.mono (by omega)) (by rfl) T.g_Shift pass0 (pa_cons (pv 0) (pa_cons (pv 1) pa_nil))))))), ?_⟩
    have mk : ∀ (m : Tm) (b : Addr) (n : Int) (H : Hp) (Q : VK), TmAt T.ca H m b → (Tm.shift m n).fits → (∀ r H', Same H H' → TmAt T.ca H' (.shift m n) r → Q (.ref r) H') → ∀ x dx, H x = none → H dx = none → dx ≠ x →
        spShiftInit T [.ref x, .ref b, .int n] (upd (upd H dx (.own x)) x (.ins T.c_Shift dx [])) (fun v H2 => v = .non ∧ Q (.ref x) H2) E0 := fun m b n H Q hm hf q x dx hx hdx hne => by
      have s1 : Same H (upd (upd H dx (.own x)) x (.ins T.c_Shift dx [])) := fun c o e => by
        rw [upd_ne (ne_of_none e hx), upd_ne (ne_of_none e hdx)]
        exact e
      exact ⟨H, m, n, x, b, dx, rfl, s1, hx, hm, hf, upd_same, fun H' s' h' => ⟨rfl, q x H' s' h'⟩⟩
    by_cases hs : ∃ m i, t = .shift m i
    · obtain ⟨m, i, rfl⟩ := hs
      obtain ⟨dx, b, ha, hm⟩ := id ht
      refine ⟨.ref a, rfl, _, _, _, _, _, rfl, .own _, ht.ty, T.k1_Shift_Shift, _, rfl, iT rfl ⟨.int n, rfl, rfl, _, rfl, ?_⟩⟩
      by_cases n0 : n = 0
      · subst n0
        refine iF rfl ?_
        refine ⟨.int 0, rfl, rfl, _, rfl, iT rfl ⟨.ref a, rfl, ?_⟩⟩
        exact q a H (Same.refl H) ht
      · refine iT (by simp [n0]) ?_
        refine ⟨.int n, rfl, .ref a, rfl, a, _, dx, _, _, rfl, ha, T.o_Shift.cl, T.n_Shift_amount, rfl, _, _, rfl, rfl, .ref a, rfl, a, _, dx, _, _, rfl, ha, T.o_Shift.cl, T.n_Shift_moment, rfl, ?_⟩
        refine ⟨.int (n + i), rfl, rfl, _, rfl, ?_⟩
        by_cases e : n + i = 0
        · have ep : (Tm.shift m i).plus n = m := by simp only [Tm.plus]; rw [if_neg n0, if_pos e]
          rw [ep] at q
          exact iT (decide_eq_true (by rw [e])) ⟨.ref b, rfl, q b H (Same.refl H) hm⟩
        · have ep : (Tm.shift m i).plus n = .shift m (n + i) := by simp only [Tm.plus]; rw [if_neg n0, if_neg e]
          rw [ep] at q hf
          exact iF (decide_eq_false (fun h => e (V.int.inj h))) ⟨.ref b, rfl, .int (n + i), rfl, mk m b (n + i) H Q hm hf q⟩
    · have ek : PySem.W.kitOne K (.ref (t.cls T.ca)) (.ref T.c_Shift) = some false := by
        have := T.ks t
        cases t with
        | shift m i => exact absurd ⟨m, i, rfl⟩ hs
        | _ => exact this
      refine ⟨.ref a, rfl, _, _, _, _, _, rfl, .own _, ht.ty, ek, _, rfl, iF rfl ?_⟩
      refine ⟨.int n, rfl, rfl, _, rfl, ?_⟩
      have ep : t.plus n = if n = 0 then t else .shift t n := by
        cases t with
        | shift m i => exact absurd ⟨m, i, rfl⟩ hs
        | _ => rfl
      rw [ep] at q hf
      by_cases n0 : n = 0
      · rw [if_pos n0] at q
        exact iT (decide_eq_true (by rw [n0])) ⟨.ref a, rfl, q a H (Same.refl H) ht⟩
      · rw [if_neg n0] at q hf
        exact iF (decide_eq_false (fun h => n0 (V.int.inj h))) ⟨.ref a, rfl, .int n, rfl, mk t a n H Q ht hf q⟩
/-- Term.__add__, Term.__sub__ -/
def spTAdd (T : Txt P K mg) (sg : Int) : Sp := fun vs H Q _ => ∃ (t : Tm) (a : Addr) (k : Int), vs = [.ref a, .int k] ∧ TmAt T.ca H t a ∧ (t.plus (sg * k)).fits ∧ ∀ r H', Same H H' → TmAt T.ca H' (t.plus (sg * k)) r → Q (.ref r) H'
theorem ok_term_add (T : Txt P K mg) {k : Nat} : FnR P w K mg base CX0 (k + 5) T.Term_add.f (spTAdd T 1) := by
  have G_check_moment : FnOk P w K mg base CX0 (k + 2) T.check_moment.f T.check_moment.fd ["value"] spCkMoment := ok_check_moment T
  have G_shifted : FnOk P w K mg base CX0 (k + 4) T.shifted.f T.shifted.fd ["term", "amount"] (spShifted T) := ok_shifted T
  refine toR (T.Term_add.F.ok (k := k + 4) sc_Term_add (fun vs H Q E h => ?_) (fun cdv A outer s H vs Q E hr h => ?_)) T.Term_add.b
  · obtain ⟨t, a, k, rfl, _⟩ := h
    rfl
  · obtain ⟨t, a, n, rfl, ht, hf, q⟩ := h
    rw [Int.one_mul] at hf q
    refine ⟨_, (pss_cons (ps_expr (pe_call G_check_moment (hr.mono (by omega)) (by rfl) T.check_moment.g T.check_moment.F.kp T.check_moment.b .nil pass0 (pa_cons (pv 1) pa_nil)))
  (pss_one (ps_ret (pe_call G_shifted (hr.mono (by omega)) (by rfl) T.shifted.g T.shifted.F.kp T.shifted.b .nil pass0 (pa_cons (pv 0) (pa_cons (pv 1) pa_nil)))))), ?_⟩
    exact ⟨.int n, rfl, n, rfl, .ref a, rfl, .int n, rfl, t, a, n, rfl, ht, hf, q⟩
theorem ok_term_sub (T : Txt P K mg) {k : Nat} : FnR P w K mg base CX0 (k + 5) T.Term_sub.f (spTAdd T (-1)) := by
  have G_check_moment : FnOk P w K mg base CX0 (k + 2) T.check_moment.f T.check_moment.fd ["value"] spCkMoment := ok_check_moment T
  have G_shifted : FnOk P w K mg base CX0 (k + 4) T.shifted.f T.shifted.fd ["term", "amount"] (spShifted T) := ok_shifted T
  refine toR (T.Term_sub.F.ok (k := k + 4) sc_Term_sub (fun vs H Q E h => ?_) (fun cdv A outer s H vs Q E hr h => ?_)) T.Term_sub.b
  · obtain ⟨t, a, k, rfl, _⟩ := h
    rfl
  · obtain ⟨t, a, n, rfl, ht, hf, q⟩ := h
    rw [show -1 * n = -n by omega] at hf q
    refine ⟨_, (pss_cons (ps_expr (pe_call G_check_moment (hr.mono (by omega)) (by rfl) T.check_moment.g T.check_moment.F.kp T.check_moment.b .nil pass0 (pa_cons (pv 1) pa_nil)))
  (pss_one (ps_ret (pe_call G_shifted (hr.mono (by omega)) (by rfl) T.shifted.g T.shifted.F.kp T.shifted.b .nil pass0 (pa_cons (pv 0) (pa_cons (pe_un un_neg (pv 1)) pa_nil)))))), ?_⟩
    exact ⟨.int n, rfl, n, rfl, .ref a, rfl, .int n, rfl, n, rfl, t, a, -n, rfl, ht, hf, q⟩
/-- check_term of a term -/
def spCkTerm (T : Txt P K mg) : Sp := fun vs H Q _ => ∃ (t : Tm) (a : Addr), vs = [.ref a] ∧ TmAt T.ca H t a ∧ Q .non H
theorem ok_check_term (T : Txt P K mg) {k : Nat} : FnOk P w K mg base CX0 (k + 1) T.check_term.f T.check_term.fd ["value"] (spCkTerm T) := by
  refine T.check_term.F.ok (k := k) sc_check_term (fun vs H Q E h => ?_) (fun cdv A outer s H vs Q E hr h => ?_)
  · obtain ⟨t, a, rfl, _⟩ := h
    rfl
  · obtain ⟨t, a, rfl, ht, q⟩ := h
    refine ⟨_, (pss_one (ps_if (pt_not (pt_val (pe_callB call_isi (by rfl) T.n_isinstance (by decide +kernel) (pa_cons (pv 0) (pa_cons (pe_glob (v := .ref T.c_Term) (by rfl) T.g_Term rfl) pa_nil))))) (pss_one ps_never) pss_nil)), ?_⟩
    exact ⟨.ref a, rfl, _, _, _, _, _, rfl, .own _, ht.ty, (T.kc t).kt, _, rfl, iF rfl q⟩
/-- a world's object -/
def WoIs (T : Txt P K mg) (H : Hp) (a : Addr) : Prop := ∃ dx fs, H a = some (.ins T.c_World dx fs)
/-- a world at a, its list of pairs at l, its rows ps -/
def WoA (T : Txt P K mg) (H : Hp) (a l : Addr) (ps : List (Str × Int)) : Prop := ∃ dx vs, H a = some (.ins T.c_World dx [("pairs", .ref l)]) ∧ H l = some (.lst vs) ∧ PrsAt H vs ps
theorem WoA.same {T : Txt P K mg} {H H' : Hp} {a l : Addr} {ps : List (Str × Int)} (s : Same H H') (h : WoA T H a l ps) : WoA T H' a l ps := by
  obtain ⟨dx, vs, h1, h2, h3⟩ := h
  exact ⟨dx, vs, s _ _ h1, s _ _ h2, h3.same s⟩
theorem WoA.is {T : Txt P K mg} {H : Hp} {a l : Addr} {ps : List (Str × Int)} (h : WoA T H a l ps) : WoIs T H a := by
  obtain ⟨dx, vs, h1, _⟩ := h
  exact ⟨dx, _, h1⟩
theorem WoA.mn {T : Txt P K mg} {S : List Addr} {H : Hp} {a l : Addr} {ps : List (Str × Int)} (hS : Lsts S H) (hl : l ∉ S) (h : WoA T H a l ps) : WoA T (mn S H) a l ps := by
  obtain ⟨dx, vs, h1, h2, h3⟩ := h
  exact ⟨dx, vs, mn_nl hS h1 (fun _ z => nomatch z), by rw [mn_at hl]; exact h2, h3.mn hS⟩
theorem TmAt.mn {c : CA} {S : List Addr} {H : Hp} (hS : Lsts S H) : ∀ {t : Tm} {a : Addr}, TmAt c H t a → TmAt c (mn S H) t a := by
  have key : ∀ {a C dx : Addr} {fs : List (Str × V)}, H a = some (.ins C dx fs) → Pl.mn S H a = some (.ins C dx fs) := fun {a C dx fs} h => mn_nl hS h (fun _ z => nomatch z)
  intro t
  induction t with
  | now => intro a ⟨dx, h⟩; exact ⟨dx, key h⟩
  | shift m n ih => intro a ⟨dx, b, h, h1⟩; exact ⟨dx, b, key h, ih h1⟩
  | look s m wy lim ih => intro a ⟨dx, b, h, h1⟩; exact ⟨dx, b, key h, ih h1⟩
  | either x y i1 i2 => intro a ⟨dx, b, d, h, h1, h2⟩; exact ⟨dx, b, d, key h, i1 h1, i2 h2⟩
  | later x y i1 i2 => intro a ⟨dx, b, d, h, h1, h2⟩; exact ⟨dx, b, d, key h, i1 h1, i2 h2⟩
  | earlier x y i1 i2 => intro a ⟨dx, b, d, h, h1, h2⟩; exact ⟨dx, b, d, key h, i1 h1, i2 h2⟩
def spCkWorld (T : Txt P K mg) : Sp := fun vs H Q _ => ∃ (a : Addr), vs = [.ref a] ∧ WoIs T H a ∧ Q .non H
theorem ok_check_world (T : Txt P K mg) {k : Nat} : FnOk P w K mg base CX0 (k + 1) T.check_world.f T.check_world.fd ["value"] (spCkWorld T) := by
  refine T.check_world.F.ok (k := k) sc_check_world (fun vs H Q E h => ?_) (fun cdv A outer s H vs Q E hr h => ?_)
  · obtain ⟨a, rfl, _⟩ := h
    rfl
  · obtain ⟨a, rfl, ⟨dx, fs, ha⟩, q⟩ := h
    refine ⟨_, (pss_one (ps_if (pt_not (pt_val (pe_callB call_isi (by rfl) T.n_isinstance (by decide +kernel) (pa_cons (pv 0) (pa_cons (pe_glob (v := .ref T.c_World) (by rfl) T.g_World rfl) pa_nil))))) (pss_one ps_never) pss_nil)), ?_⟩
    exact ⟨.ref a, rfl, _, _, _, _, _, rfl, .own _, T.o_World.ty ha, T.k1_World_World, _, rfl, iF rfl q⟩
end
end Pl

namespace Pl
open PySem L2
local macro_rules | `(tactic| infer_instance) => `(tactic| first
  | with_reducible assumption
  | with_reducible exact Same.refl _
  | exact Wd.gh (by with_reducible assumption)
  | exact sm2 (by with_reducible assumption) (by infer_instance)
  | exact sm2 (same_upd (by with_reducible assumption)) (by infer_instance)
  | exact sm2 (Wd.gh (by with_reducible assumption)) (by infer_instance))
local macro_rules | `(tactic| trivial) => `(tactic| first
  | with_reducible assumption
  | with_reducible exact upd_same
  | exact at_same (by with_reducible assumption) (by trivial)
  | exact at_same (same_upd (by with_reducible assumption)) (by trivial)
  | exact at_same (Wd.gh (by with_reducible assumption)) (by trivial))
local macro_rules | `(tactic| ac_rfl) => `(tactic| first
  | exact Ty.int _
  | exact Ty.str _
  | exact Ty.non
  | exact Ty.bl _
  | exact Ty.tup (by trivial)
  | exact Ty.lst (by trivial))
local macro_rules | `(tactic| contradiction) => `(tactic| first
  | exact rfl
  | exact decide_eq_true (by first | assumption | omega)
  | exact decide_eq_false (by first | assumption | omega)
  | exact dI_t (by first | assumption | omega)
  | exact dI_f (by first | assumption | omega)
  | exact dS_t (by first | assumption | decide)
  | exact dS_f (by first | assumption | decide)
  | exact nI_t (by first | assumption | omega)
  | exact nI_f (by first | assumption | omega)
  | exact nS_t (by first | assumption | decide)
  | exact nS_f (by first | assumption | decide)
  | assumption
  | exact q_none_int | exact q_none_bool | exact q_none_tuple | exact q_none_list | exact q_none_str | exact q_bool_int | exact q_bool_bool | exact q_bool_tuple | exact q_bool_list | exact q_bool_str | exact q_int_int | exact q_int_bool | exact q_int_tuple | exact q_int_list | exact q_int_str | exact q_str_int | exact q_str_bool | exact q_str_tuple | exact q_str_list | exact q_str_str | exact q_list_int | exact q_list_bool | exact q_list_tuple | exact q_list_list | exact q_list_str | exact q_tuple_int | exact q_tuple_bool | exact q_tuple_tuple | exact q_tuple_list | exact q_tuple_str
  | exact nb_t (by contradiction)
  | exact nb_f (by contradiction))
local macro_rules | `(tactic| and_intros) => `(tactic| repeat (first
  | refine ⟨_, rfl, ?_⟩
  | refine ⟨_, _, rfl, rfl, ?_⟩
  | refine ⟨rfl, ?_⟩
  | refine ⟨_, _, _, _, rfl, rfl, SqT.of (by trivial), at_ix (by decide) rfl, ?_⟩
  | refine ⟨_, _, _, _, rfl, rfl, SqL.of (by trivial), at_ix (by decide) rfl, ?_⟩
  | refine ⟨_, _, rfl, Or.inl (SqL.of (by trivial)), ?_⟩
  | refine ⟨_, _, rfl, Or.inr (SqT.of (by trivial)), ?_⟩
  | refine ⟨_, _, _, _, _, rfl, (by trivial), (by trivial), (by trivial), rfl, ?_⟩
  | refine ⟨_, _, _, _, _, rfl, ClsV.ty _, Ty.x (by ac_rfl), isI_tuple (by ac_rfl), ?_⟩
  | refine ⟨_, _, _, _, _, rfl, ClsV.ty _, Ty.x (by ac_rfl), isI_list (by ac_rfl), ?_⟩
  | refine ⟨_, _, _, _, _, rfl, ClsV.ty _, Ty.x (by ac_rfl), isI_int (by ac_rfl), ?_⟩
  | refine ⟨_, _, _, _, _, rfl, ClsV.ty _, Ty.x (by ac_rfl), isI_bool (by ac_rfl), ?_⟩
  | refine ⟨_, _, _, _, _, rfl, ClsV.ty _, Ty.x (by ac_rfl), isI_str (by ac_rfl), ?_⟩
  | refine ⟨sz (Nat.le_of_ble_eq_true rfl), ?_⟩
  | refine ⟨Or.inl ⟨rfl, _, SqL.of (by trivial)⟩, ?_⟩
  | refine ⟨_, _, rfl, SqT.of (by trivial), rfl, _, _, rfl, _, _, rfl, _, _, rfl, _, _, rfl, rfl, ?_⟩
  | refine ⟨_, _, rfl, SqT.of (by trivial), rfl, _, _, rfl, _, _, rfl, _, _, rfl, rfl, ?_⟩
  | refine ⟨_, _, rfl, SqT.of (by trivial), rfl, _, _, rfl, _, _, rfl, rfl, ?_⟩
  | refine ⟨_, _, _, _, rfl, (by with_reducible assumption : Wd _ _ _ _), (by first | decide | omega), (by first | decide | omega), ?_⟩
  | refine ⟨_, _, _, rfl, (by with_reducible assumption : Wd _ _ _ _), ?_⟩
  | refine iT (by contradiction) ?_
  | refine iF (by contradiction) ?_))
-- USE RD
section
variable {P : Program} {w : World} {K : PySem.W.Frag} {mg : Str → Option Value} {base : Heap}
def spTermBad (T : Txt P K mg) : Sp := fun vs H _ E => ∃ (v : V) (t : String), vs = [v] ∧ Ty H v t ∧ ∀ H' d, Same H H' → H' d = none → E (.ref T.c_BadTerm) (some d) (upd H' d (.xd [(("value" : Str), v)]))
theorem ok_check_term_bad (T : Txt P K mg) {k : Nat} : FnOk P w K mg base (L2.CX P w) (k + 3) T.check_term.f T.check_term.fd ["value"] (spTermBad T) := by
  have G_BadTerm_init : FnOk P w K mg base CX0 (k + 1) T.BadTerm_init.f T.BadTerm_init.fd ["self", "value"] (spExI K "value") := ok_BadTerm_init T
  refine T.check_term.F.okX (k := k + 2) sc_check_term (fun vs H Q E h => ?_) (fun cdv A outer s H vs Q E hr h => ?_)
  · obtain ⟨v, t, rfl, _⟩ := h
    rfl
  · obtain ⟨v, t, rfl, ty, q⟩ := h
    refine ⟨_, (pss_one (ps_if (pt_not (pt_val (pe_callB call_isi (by rfl) T.n_isinstance (by decide +kernel) (pa_cons (pv 0) (pa_cons (pe_glob (v := .ref T.c_Term) (by rfl) T.g_Term rfl) pa_nil))))) (pss_one (ps_raise rfl (takes_of rfl rfl rfl rfl) (pmk_oex T.er_BadTerm.x T.er_BadTerm.i T.er_BadTerm.t G_BadTerm_init (hr.mono (by omega)) T.BadTerm_init.b .nil pass0 (by rfl) T.g_BadTerm (pa_cons (pv 0) pa_nil)))) pss_nil)), ?_⟩
    have kt : PySem.W.kitOne K (.type t) (.ref T.c_Term) = some false := by
      cases ty
      · exact T.k1_NoneType_Term
      · exact T.k1_bool_Term
      · exact T.k1_int_Term
      · exact T.k1_str_Term
      · exact T.k1_list_Term
      · exact T.k1_tuple_Term
    refine ⟨v, rfl, _, _, _, _, _, rfl, .own _, ty.x, kt, _, rfl, iT rfl ?_⟩
    exact ⟨_, rfl, exI_made T.er_BadTerm.x T.er_BadTerm.no (fun d hd => q H d (Same.refl _) hd)⟩
end
end Pl

namespace Pl
open PySem L2
section
variable {P : Program} {w : World} {K : PySem.W.Frag} {mg : Str → Option Value} {base : Heap}
def spOpen (K : PySem.W.Frag) : Sp := fun vs H Q _ => ∃ (a : Addr) (ns : List Int), vs = [.ref a] ∧ SqL K H a (ns.map V.int) ∧ ns.length ≤ 63 ∧
  ∀ (b c : Addr) (H' : Hp), H b = none → H c = none → Same H H' → BoxAt b c H' → Q (.ref b) H'
theorem cut63 (ns : List Int) (h : ns.length ≤ 63) : cutV (ns.map V.int) none (some 63) = ns.map V.int := by
  unfold cutV
  rw [HT.sIx_none, show HT.sIx (ns.map V.int).length (ns.map V.int).length (some 63) = min 63 (ns.map V.int).length from HT.sIx_nat _ _ 63]
  rw [List.drop_zero, List.length_map, Nat.sub_zero]
  exact List.take_of_length_le (by rw [List.length_map]; omega)
theorem ok_law_open (T : Txt P K mg) {k : Nat} : FnOk P w K mg base CX0 (k + 1) T.law_open.f T.law_open.fd ["_law_script"] (spOpen K) := by
  refine T.law_open.F.ok sc_law_open (fun vs H Q E h => ?_) (fun cdv A outer s H vs Q E hr h => ?_)
  · obtain ⟨a, ns, rfl, _⟩ := h
    rfl
  · obtain ⟨a, ns, rfl, hS, hl, q⟩ := h
    refine ⟨_, (pss_cons (ps_set (i := 1) sc_law_open.nd rfl (.inl rfl) (pe_callTy call_list_of (by rfl) T.n_list (by decide +kernel) (pa_cons (pe_slice sl_list (pv 0) po_none (po_some pe_int)) pa_nil)))
  (pss_cons (ps_if (pt_cmpR op_eq (pe_callB call_len_seq (by rfl) T.n_len PySem.boot_len (pa_cons (pv 1) pa_nil)) pe_int (nomark _)) (pss_one (ps_expr (pe_bm PySem.F.plainAttrs_list PySem.F.slot_list_append PySem.F.type_list_append mt_append (pv 1) (pa_cons pe_int pa_nil)))) pss_nil)
  (pss_one (ps_ret (pe_lst (pa_cons (pv 1) (pa_cons pe_int pa_nil))))))), ?_⟩
    refine ⟨.ref a, rfl, 63, rfl, a, _, rfl, hS, fun p hp => ?_⟩
    rw [cut63 ns hl]
    refine ⟨p, _, rfl, .inl (SqL.of upd_same), fun c hc => ?_⟩
    have ncp : c ≠ p := fun e => by
      rw [e, upd_same] at hc
      cases hc
    have hc0 : H c = none := by rw [upd_ne ncp] at hc; exact hc
    have s1 : Same H (upd (upd H p (.lst (ns.map V.int))) c (.lst (ns.map V.int))) := (same_upd hp).trans (same_upd hc)
    refine ⟨.ref c, rfl, c, _, rfl, .inl (SqL.of upd_same), rfl, _, rfl, ite2 (fun e => ?_) (fun e => ?_)⟩
    · have e0 : ((ns.map V.int).length : Int) = 0 := V.int.inj (of_decide_eq_true e)
      have e1 : ns = [] := by
        cases ns with
        | nil => rfl
        | cons x r =>
          rw [List.length_map, List.length_cons] at e0
          omega
      subst e1
      refine ⟨.ref c, rfl, .inl ⟨rfl, _, SqL.of upd_same⟩, c, _, _, rfl, rfl, upd_same, szl (by show 0 < 100000; decide), ?_⟩
      rw [upd_upd]
      have s2 : Same H (upd (upd H p (.lst [])) c (.lst [.int 0])) := (same_upd hp).trans (same_upd hc)
      refine ⟨.ref c, rfl, sz (by show 2 ≤ 100000; decide), fun b hb => ?_⟩
      have nbc : b ≠ c := fun e => by
        rw [e, upd_same] at hb
        cases hb
      exact q b c _ (s2.free hb) hc0 (s2.trans (same_upd hb)) ⟨nbc, [0], 0, upd_same, by rw [upd_ne (Ne.symm nbc), upd_same]; rfl, by decide, by decide⟩
    · have h0 : 0 < ns.length := by
        cases ns with
        | nil => exact absurd (decide_eq_true rfl) e
        | cons x r => exact Nat.succ_pos _
      refine ⟨.ref c, rfl, sz (by show 2 ≤ 100000; decide), fun b hb => ?_⟩
      have nbc : b ≠ c := fun e => by
        rw [e, upd_same] at hb
        cases hb
      exact q b c _ (s1.free hb) hc0 (s1.trans (same_upd hb)) ⟨nbc, ns, 0, upd_same, by rw [upd_ne (Ne.symm nbc), upd_same], h0, by omega⟩
theorem nzA : (2147483647 : Int) ≠ 0 := by decide
theorem nzB : (2147483399 : Int) ≠ 0 := by decide
def spPick : Sp := fun vs H Q _ => ∃ (b c : Addr) (G : Hp) (m : Int), vs = [.ref b, .int m] ∧ Wd b c G H ∧ 0 < m ∧ m < 1073741824 ∧
  ∀ (i : Int) (H' : Hp), Wd b c G H' → 0 ≤ i → i < m → Q (.int i) H'
theorem box_cells {b c : Addr} {G H : Hp} {cs cs' : List Int} {k : Int} (nbc : b ≠ c) (x : Wd b c G H) (h : 0 < cs.length) (h' : cs.length ≤ 64) : Wd b c G (upd (upd H b (.lst [.ref c, .int k])) c (.lst (cs.map V.int))) :=
  ⟨⟨nbc, cs, k, by rw [upd_ne nbc, upd_same], upd_same, h, h'⟩, same_mut (same_mut x.gh x.gb) x.gc, x.gb, x.gc⟩
theorem ok_law_pick (T : Txt P K mg) {k : Nat} : FnOk P w K mg base CX0 (k + 1) T.law_pick.f T.law_pick.fd ["_law_box", "_law_many"] spPick := by
  refine T.law_pick.F.ok sc_law_pick (fun vs H Q E h => ?_) (fun cdv A outer s H vs Q E hr h => ?_)
  · obtain ⟨b, c, G, m, rfl, _⟩ := h
    rfl
  · obtain ⟨b, c, G, m, rfl, W, m0, m1, q⟩ := h
    obtain ⟨nbc, cs, k, hb, hc, l0, l1⟩ := W.box
    refine ⟨_, (pss_cons (ps_set (i := 2) sc_law_pick.nd rfl (.inl rfl) (pe_ix ix_list (pv 0) pe_int (fun _ _ => rfl)))
  (pss_cons (ps_set (i := 3) sc_law_pick.nd rfl (.inl rfl) (pe_ix ix_list (pv 0) pe_int (fun _ _ => rfl)))
  (pss_cons (ps_asg (pe_op op_add (pv 3) pe_int) (pg_sub (pv 0) pe_int set_list))
  (pss_cons (ps_set (i := 4) sc_law_pick.nd rfl (.inl rfl) (pe_op op_modN (pv 3) (pe_callB call_len_seq (by rfl) T.n_len PySem.boot_len (pa_cons (pv 2) pa_nil))))
  (pss_cons (ps_set (i := 5) sc_law_pick.nd rfl (.inl rfl) (pe_ix ix_list (pv 2) (pv 4) (fun _ _ => rfl)))
  (pss_cons (ps_if (pt_cmpR op_ge (pv 5) (pe_op op_pow pe_int pe_int) (nomark _)) (pss_cons (ps_asg (pe_op op_fdivN (pv 5) (pv 1)) (pg_sub (pv 2) (pv 4) set_list))
  (pss_one (ps_ret (pe_op op_modN (pe_callTy call_int1 (by rfl) T.n_int (by decide +kernel) (pa_cons (pv 5) pa_nil)) (pv 1))))) pss_nil)
  (pss_cons (ps_set (i := 6) sc_law_pick.nd rfl (.inl rfl) (pe_op op_modN (pe_callTy call_int1 (by rfl) T.n_int (by decide +kernel) (pa_cons (pe_op op_mul (pe_op op_add (pe_op op_add (pe_op op_modN (pe_callTy call_int1 (by rfl) T.n_int (by decide +kernel) (pa_cons (pv 5) pa_nil)) pe_int) (pe_op op_mul pe_int (pv 3))) pe_int) pe_int) pa_nil)) pe_int))
  (pss_cons (ps_set (i := 6) sc_law_pick.nd rfl (.inl rfl) (pe_op op_modN (pe_callTy call_int1 (by rfl) T.n_int (by decide +kernel) (pa_cons (pe_op op_mul (pv 6) (pe_op op_add (pe_op op_fdivN (pv 6) pe_int) pe_int)) pa_nil)) pe_int))
  (pss_cons (ps_set (i := 6) sc_law_pick.nd rfl (.inl rfl) (pe_op op_modN (pe_callTy call_int1 (by rfl) T.n_int (by decide +kernel) (pa_cons (pe_op op_mul (pv 6) (pe_op op_add (pe_op op_fdivN (pv 6) pe_int) pe_int)) pa_nil)) pe_int))
  (pss_one (ps_ret (pe_op op_modN (pe_callTy call_int1 (by rfl) T.n_int (by decide +kernel) (pa_cons (pe_op op_fdivN (pv 6) pe_int) pa_nil)) (pv 1))))))))))))), ?_⟩
    refine ⟨.ref b, rfl, b, _, 0, _, rfl, rfl, SqL.of hb, rfl, ?_⟩
    refine ⟨.ref b, rfl, b, _, 1, _, rfl, rfl, SqL.of hb, rfl, ?_⟩
    refine ⟨.int k, rfl, k, 1, rfl, rfl, .ref b, rfl, b, _, 1, 1, rfl, rfl, hb, rfl, ?_⟩
    show tSeq _ _ _ _ (upd H b (.lst [.ref c, .int (k + 1)]))
    have hc1 : upd H b (.lst [.ref c, .int (k + 1)]) c = some (.lst (cs.map V.int)) := by rw [upd_ne (Ne.symm nbc)]; exact hc
    have W1 : Wd b c G (upd H b (.lst [.ref c, .int (k + 1)])) := ⟨⟨nbc, cs, k + 1, upd_same, hc1, l0, l1⟩, same_mut W.gh W.gb, W.gb, W.gc⟩
    have ln : (0 : Int) < ((cs.map V.int).length : Int) := by rw [List.length_map]; omega
    refine ⟨.int k, rfl, .ref c, rfl, c, _, rfl, .inl (SqL.of hc1), k, _, rfl, rfl, by omega, ?_⟩
    have j0 := fm0 (a := k) ln
    have j1 := fm1 (a := k) ln
    dsimp only
    generalize ej : k.fmod ((cs.map V.int).length : Int) = j at j0 j1 ⊢
    have j2 : j < (cs.length : Int) := by rw [List.length_map] at j1; exact j1
    obtain ⟨x, hx⟩ := at_ints j0 j2
    refine ⟨.ref c, rfl, .int j, rfl, c, _, j, .int x, rfl, rfl, SqL.of hc1, hx, ?_⟩
    refine ⟨.int x, rfl, 10, 18, rfl, rfl, ⟨by decide, by decide, by decide⟩, x, _, rfl, rfl, _, rfl, ite2 (fun _ => ?_) (fun _ => ?_)⟩
    · refine ⟨.int x, rfl, .int m, rfl, x, m, rfl, rfl, ⟨by omega, by omega⟩, .ref c, rfl, .int j, rfl, c, _, j, j.toNat, rfl, rfl, hc1, ix_in j0 j1, ?_⟩
      refine ⟨.int x, rfl, .inl ⟨x, rfl, .int m, rfl, x, m, rfl, rfl, by omega, ?_⟩⟩
      refine q _ _ ?_ (fm0 m0) (fm1 m0)
      rw [← List.map_set]
      exact ⟨⟨nbc, cs.set j.toNat (x.fdiv m), k + 1, by rw [upd_ne nbc, upd_same], upd_same, by rw [List.length_set]; exact l0, by rw [List.length_set]; exact l1⟩, same_mut W1.gh W1.gc, W1.gb, W1.gc⟩
    · -- the number is mixed
      refine ⟨.int x, rfl, .inl ⟨x, rfl, x, 2147483647, rfl, rfl, nzA, .int k, rfl, 7919, k, rfl, rfl, .inl ⟨by decide, by decide⟩, _, _, rfl, rfl, _, 1, rfl, rfl, _, 48271, rfl, rfl, .inr ⟨by decide, by decide⟩, .inl ⟨_, rfl, _, 2147483647, rfl, rfl, nzA, ?_⟩⟩⟩
      have a0 := fm0 (a := (x.fmod 2147483647 + 7919 * k + 1) * 48271) (b := 2147483647) (by decide)
      have a1 := fm1 (a := (x.fmod 2147483647 + 7919 * k + 1) * 48271) (b := 2147483647) (by decide)
      dsimp only
      generalize ((x.fmod 2147483647 + 7919 * k + 1) * 48271).fmod 2147483647 = y at a0 a1 ⊢
      refine ⟨.int y, rfl, .int y, rfl, y, 1009, rfl, rfl, ⟨by decide, by decide⟩, _, 69621, rfl, rfl, y, _, rfl, rfl, .inl ⟨by omega, by omega⟩, .inl ⟨_, rfl, _, 2147483647, rfl, rfl, nzA, ?_⟩⟩
      have b0 := fm0 (a := y * (y.fdiv 1009 + 69621)) (b := 2147483647) (by decide)
      have b1 := fm1 (a := y * (y.fdiv 1009 + 69621)) (b := 2147483647) (by decide)
      dsimp only
      generalize (y * (y.fdiv 1009 + 69621)).fmod 2147483647 = z at b0 b1 ⊢
      refine ⟨.int z, rfl, .int z, rfl, z, 2003, rfl, rfl, ⟨by decide, by decide⟩, _, 40692, rfl, rfl, z, _, rfl, rfl, .inl ⟨by omega, by omega⟩, .inl ⟨_, rfl, _, 2147483399, rfl, rfl, nzB, ?_⟩⟩
      dsimp only
      generalize (z * (z.fdiv 2003 + 40692)).fmod 2147483399 = u
      refine ⟨.int u, rfl, u, 7, rfl, rfl, ⟨by decide, by decide⟩, .inl ⟨_, rfl, .int m, rfl, _, m, rfl, rfl, by omega, ?_⟩⟩
      exact q _ _ W1 (fm0 m0) (fm1 m0)
def spNumber : Sp := fun vs H Q _ => ∃ (b c : Addr) (G : Hp), vs = [.ref b] ∧ Wd b c G H ∧ ∀ (i : Int) (H' : Hp), Wd b c G H' → -100000000 * 10 ^ 32 ≤ i → i ≤ 100000001 * 10 ^ 32 → Q (.int i) H'
theorem ok_law_number (T : Txt P K mg) {k : Nat} : FnOk P w K mg base CX0 (k + 2) T.law_number.f T.law_number.fd ["_law_box"] spNumber := by
  have G_law_pick : FnOk P w K mg base CX0 (k + 1) T.law_pick.f T.law_pick.fd ["_law_box", "_law_many"] spPick := ok_law_pick T
  refine T.law_number.F.ok sc_law_number (fun vs H Q E h => ?_) (fun cdv A outer s H vs Q E hr h => ?_)
  · obtain ⟨b, c, G, rfl, _⟩ := h
    rfl
  · obtain ⟨b, c, G, rfl, W, q⟩ := h
    refine ⟨_, (pss_cons (ps_set (i := 1) sc_law_number.nd rfl (.inl rfl) (pe_call G_law_pick (hr.mono (by omega)) (by rfl) T.law_pick.g T.law_pick.F.kp T.law_pick.b .nil pass0 (pa_cons (pv 0) (pa_cons pe_int pa_nil))))
  (pss_cons (ps_if (pt_cmpR op_lt (pv 1) pe_int (nomark _)) (pss_one (ps_ret (pe_op op_sub (pe_call G_law_pick (hr.mono (by omega)) (by rfl) T.law_pick.g T.law_pick.F.kp T.law_pick.b .nil pass0 (pa_cons (pv 0) (pa_cons pe_int pa_nil))) pe_int))) pss_nil)
  (pss_cons (ps_if (pt_cmpR op_eq (pv 1) pe_int (nomark _)) (pss_one (ps_ret (pe_op op_sub (pe_call G_law_pick (hr.mono (by omega)) (by rfl) T.law_pick.g T.law_pick.F.kp T.law_pick.b .nil pass0 (pa_cons (pv 0) (pa_cons pe_int pa_nil))) pe_int))) pss_nil)
  (pss_cons (ps_if (pt_cmpR op_eq (pv 1) pe_int (nomark _)) (pss_one (ps_ret (pe_op op_sub (pe_call G_law_pick (hr.mono (by omega)) (by rfl) T.law_pick.g T.law_pick.F.kp T.law_pick.b .nil pass0 (pa_cons (pv 0) (pa_cons pe_int pa_nil))) pe_int))) pss_nil)
  (pss_one (ps_ret (pe_op op_add (pe_op op_mul (pe_op op_sub (pe_call G_law_pick (hr.mono (by omega)) (by rfl) T.law_pick.g T.law_pick.F.kp T.law_pick.b .nil pass0 (pa_cons (pv 0) (pa_cons pe_int pa_nil))) pe_int) (pe_op op_pow pe_int pe_int)) (pe_call G_law_pick (hr.mono (by omega)) (by rfl) T.law_pick.g T.law_pick.F.kp T.law_pick.b .nil pass0 (pa_cons (pv 0) (pa_cons pe_int pa_nil)))))))))), ?_⟩
    refine ⟨.ref b, rfl, b, c, G, 8, rfl, W, by decide, by decide, fun i H1 W1 i0 i1 => ?_⟩
    refine ⟨.int i, rfl, i, 5, rfl, rfl, _, rfl, ite2 (fun _ => ?_) (fun _ => ?_)⟩
    · refine ⟨.ref b, rfl, b, c, G, 9, rfl, W1, by decide, by decide, fun j H2 W2 j0 j1 => ?_⟩
      exact ⟨j, 4, rfl, rfl, q _ _ W2 (by omega) (by omega)⟩
    · refine ⟨.int i, rfl, rfl, _, rfl, ite2 (fun _ => ?_) (fun _ => ?_)⟩
      · refine ⟨.ref b, rfl, b, c, G, 41, rfl, W1, by decide, by decide, fun j H2 W2 j0 j1 => ?_⟩
        exact ⟨j, 20, rfl, rfl, q _ _ W2 (by omega) (by omega)⟩
      · refine ⟨.int i, rfl, rfl, _, rfl, ite2 (fun _ => ?_) (fun _ => ?_)⟩
        · refine ⟨.ref b, rfl, b, c, G, 2000001, rfl, W1, by decide, by decide, fun j H2 W2 j0 j1 => ?_⟩
          exact ⟨j, 1000000, rfl, rfl, q _ _ W2 (by omega) (by omega)⟩
        · refine ⟨.ref b, rfl, b, c, G, 200000001, rfl, W1, by decide, by decide, fun j H2 W2 j0 j1 => ?_⟩
          refine ⟨j, 100000000, rfl, rfl, 10, 32, rfl, rfl, ⟨by decide, by decide, by decide⟩, _, _, rfl, rfl, .inl ⟨by omega, by omega⟩, ?_⟩
          refine ⟨.ref b, rfl, b, c, G, 100000000, rfl, W2, by decide, by decide, fun l H3 W3 l0 l1 => ?_⟩
          refine ⟨_, l, rfl, rfl, q _ _ W3 ?_ ?_⟩
          · show -100000000 * 10 ^ 32 ≤ (j - 100000000) * (10 ^ 32 : Int) + l
            omega
          · show (j - 100000000) * (10 ^ 32 : Int) + l ≤ 100000001 * 10 ^ 32
            omega
end
end Pl

namespace Pl
open PySem L2
section
variable {P : Program} {w : World} {K : PySem.W.Frag} {mg : Str → Option Value} {base : Heap}
def spIsName : Sp := fun vs H Q _ => ∃ z : Str, vs = [.str z] ∧ goodName z ∧ ∀ H', Same H H' → Q (.bl true) H'
theorem ok_is_name (T : Txt P K mg) {k : Nat} : FnOk P w K mg base CX0 (k + 1) T.is_name.f T.is_name.fd ["name"] spIsName := by
  refine T.is_name.F.ok (k := k) sc_is_name (fun vs H Q E h => ?_) (fun cdv A outer s H vs Q E hr h => ?_)
  · obtain ⟨z, rfl, _⟩ := h
    rfl
  · obtain ⟨z, rfl, ⟨g1, g2, g3⟩, q⟩ := h
    refine ⟨_, (pss_cons (ps_if (PW.pt (pw_or (pt_not (pt_val (pe_callB call_isi (by rfl) T.n_isinstance (by decide +kernel) (pa_cons (pv 0) (pa_cons (pe_bltn (v := .ty "str") (by rfl) T.n_str (by decide +kernel) rfl) pa_nil))))) (pw_or1 (pt_not (pt_chain op_le op_le pe_int (pe_callB call_len_str (by rfl) T.n_len PySem.boot_len (pa_cons (pv 0) pa_nil)) pe_int))))) (pss_one (ps_ret pe_bl)) pss_nil)
  (pss_one (ps_ret (pe_cmpR op_eq (pe_callB call_len_seq (by rfl) T.n_len PySem.boot_len (pa_cons (pe_lc (own := [("letter", 1)]) (g := gName 1) (tt := (tTest (tOp _ (tVar 1) (tC _)))) (te := (tVar 1)) rfl sc_is_name.nd (pi_str (pv 0)) (blkOk_by (own := [("letter", 1)]) (N := N_is_name) (sc := defScope s_is_name) (by decide +kernel)) (fun _ _ _ _ _ => (pg_name (i := 1) sc_is_name.nd rfl (.inl rfl))) (fun _ _ _ _ _ => (pts_one (pt_cmpR op_notIn_sign (pv 1) (pe_glob (v := .str "abcdefghijklmnopqrstuvwxyz") (by rfl) T.k_LETTERS ⟨_, rfl⟩) (by with_unfolding_all rfl)))) (fun _ _ _ _ _ => (pv 1))) pa_nil)) pe_int (nomark _))))), ?_⟩
    have ty : Ty H (.str z) "str" := .str z
    have hz : z.length ≤ sizeLine := Nat.le_trans g2 (by decide)
    refine ⟨.str z, rfl, _, _, _, _, _, rfl, .ty "str", ty.x, isI_str ty, _, rfl, iF (by unfold tyB; rw [kb_str_str]; rfl) ?_⟩
    refine ⟨.str z, rfl, z, rfl, hz, ?_⟩
    refine ⟨_, _, rfl, rfl, _, rfl, iT (decide_eq_true (by omega)) ⟨_, _, rfl, rfl, _, rfl, iF (by rw [decide_eq_true (by omega : ((z.length : Nat) : Int) ≤ 12)]; rfl) ?_⟩⟩
    refine ⟨.str z, rfl, z, rfl, fun D hD => ?_⟩
    refine lc_it (walk_str (z := z)) (fun i H' => Same H H' ∧ H' D = some (.lst [])) ⟨same_upd hD, upd_same⟩ (fun _ _ _ _ => trivial) (fun i x H1 H2 hi pp y => ?_) (fun H' pp => ?_)
    · obtain ⟨rfl, c, hc, rfl⟩ := y
      refine ⟨rfl, ?_⟩
      refine ⟨.str ⟨#[c]⟩, rfl, c, _, rfl, rfl, _, rfl, ?_⟩
      have hin : c ∈ letters.cps.toList := g3 c (by
        have := Array.mem_of_getElem? hc
        exact Array.mem_toList_iff.mpr this)
      exact iF (by rw [decide_eq_true hin]; rfl) pp
    · exact ⟨D, _, rfl, .inl (SqL.of pp.2), rfl, q H' pp.1⟩
def spCkName : Sp := fun vs H Q _ => ∃ z : Str, vs = [.str z] ∧ goodName z ∧ ∀ H', Same H H' → Q .non H'
theorem ok_check_name (T : Txt P K mg) {k : Nat} : FnOk P w K mg base CX0 (k + 2) T.check_name.f T.check_name.fd ["name"] spCkName := by
  have G_is_name : FnOk P w K mg base CX0 (k + 1) T.is_name.f T.is_name.fd ["name"] spIsName := ok_is_name T
  refine T.check_name.F.ok (k := k + 1) sc_check_name (fun vs H Q E h => ?_) (fun cdv A outer s H vs Q E hr h => ?_)
  · obtain ⟨z, rfl, _⟩ := h
    rfl
  · obtain ⟨z, rfl, g, q⟩ := h
    refine ⟨_, (pss_one (ps_if (pt_not (pt_val (pe_call G_is_name (hr.mono (by omega)) (by rfl) T.is_name.g T.is_name.F.kp T.is_name.b .nil pass0 (pa_cons (pv 0) pa_nil)))) (pss_one ps_never) pss_nil)), ?_⟩
    exact ⟨.str z, rfl, z, rfl, g, fun H' s' => ⟨_, rfl, iF rfl (q H' s')⟩⟩
/-- check_rows of a list of distinct numbers -/
def spCkRows : Sp := fun vs H Q _ => ∃ (v : V) (a : Addr) (ns : List Int), vs = [v, .ref a] ∧ H a = some (.lst (ns.map V.int)) ∧ ns.Nodup ∧ ns.length ≤ 300 ∧ Q .non H
theorem ok_check_rows (T : Txt P K mg) {k : Nat} : FnOk P w K mg base CX0 (k + 2) T.check_rows.f T.check_rows.fd ["name", "moments"] spCkRows := by
  have G_is_integer : FnOk P w K mg base CX0 (k + 1) T.is_integer.f T.is_integer.fd ["value"] spIsInteger := ok_is_integer T
  refine T.check_rows.F.ok (k := k + 1) sc_check_rows (fun vs H Q E h => ?_) (fun cdv A outer s H vs Q E hr h => ?_)
  · obtain ⟨v, a, ns, rfl, _⟩ := h
    rfl
  · obtain ⟨v, a, ns, rfl, ha, hnd, hl, q⟩ := h
    refine ⟨_, (pss_cons (ps_if (pt_not (pt_val (pe_callB call_isi (by rfl) T.n_isinstance (by decide +kernel) (pa_cons (pv 1) (pa_cons (pe_bltn (v := .ty "list") (by rfl) T.n_list (by decide +kernel) rfl) pa_nil))))) (pss_one ps_never) pss_nil)
  (pss_cons (ps_for PassesOwn.never rfl (pi_list (pv 1)) (pg_name (i := 2) sc_check_rows.nd rfl (.inl rfl))
   (pss_one (ps_if (pt_not (pt_val (pe_call G_is_integer (hr.mono (by omega)) (by rfl) T.is_integer.g T.is_integer.F.kp T.is_integer.b .nil pass0 (pa_cons (pv 2) pa_nil)))) (pss_one ps_never) pss_nil)))
  (pss_one (ps_if (pt_cmpR op_lt (RZ.pe_lenSetI (by rfl) T.n_len (by rfl) T.n_set (pv 1)) (pe_callB call_len_seq (by rfl) T.n_len PySem.boot_len (pa_cons (pv 1) pa_nil)) (nomark _)) (pss_one ps_never) pss_nil)))), ?_⟩
    have ty : Ty H (.ref a) "list" := .lst ha
    refine ⟨.ref a, rfl, _, _, _, _, _, rfl, .ty "list", ty.x, isI_list ty, _, rfl, iF (by unfold tyB; rw [kb_list_list]; rfl) ?_⟩
    refine ⟨.ref a, rfl, a, rfl, ⟨_, SqL.of ha⟩, ?_⟩
    refine for_list (K := K) (a := a) (xs := ns.map V.int) (fun i σ H' => H' = H ∧ ∃ u, σ = [some v, some (.ref a), u]) ⟨rfl, _, rfl⟩ (fun i σ H' _ pp => by rw [pp.1]; exact SqL.of ha) (fun i x σ H' hx pp => ?_) (fun σ H' pp => ?_)
    · obtain ⟨rfl, u, rfl⟩ := pp
      obtain ⟨j, rfl⟩ : ∃ j, x = V.int j := by
        rw [List.getElem?_map] at hx
        cases e : ns[i]? with
        | none => rw [e] at hx; cases hx
        | some j => rw [e] at hx; exact ⟨j, (Option.some.inj hx).symm⟩
      exact ⟨.int j, rfl, .int j, "int", rfl, .int j, _, rfl, iF rfl ⟨rfl, _, rfl⟩⟩
    · obtain ⟨rfl, u, rfl⟩ := pp
      refine ⟨.ref a, rfl, a, ns, rfl, SqL.of ha, hnd, by omega, .ref a, rfl, a, _, rfl, .inl (SqL.of ha), _, _, rfl, rfl, _, rfl, ?_⟩
      exact iF (decide_eq_false (by rw [List.length_map]; omega)) q
/-- limited(pairs) -/
def spLimited : Sp := fun vs H Q _ => ∃ (a : Addr) (xs : List V), vs = [.ref a] ∧ H a = some (.lst xs) ∧ xs.length ≤ 300 ∧ Q (.ref a) H
theorem ok_limited (T : Txt P K mg) {k : Nat} : FnOk P w K mg base CX0 (k + 1) T.limited.f T.limited.fd ["pairs"] spLimited := by
  refine T.limited.F.ok (k := k) sc_limited (fun vs H Q E h => ?_) (fun cdv A outer s H vs Q E hr h => ?_)
  · obtain ⟨a, xs, rfl, _⟩ := h
    rfl
  · obtain ⟨a, xs, rfl, ha, hl, q⟩ := h
    refine ⟨_, (pss_cons (ps_if (pt_cmpR op_gt (pe_callB call_len_seq (by rfl) T.n_len PySem.boot_len (pa_cons (pv 0) pa_nil)) (pe_glob (v := .int 300) (by rfl) T.k_MOST_ROWS ⟨_, rfl⟩) (nomark _)) (pss_one ps_never) pss_nil)
  (pss_one (ps_ret (pv 0)))), ?_⟩
    refine ⟨.ref a, rfl, a, _, rfl, .inl (SqL.of ha), _, _, rfl, rfl, _, rfl, iF (decide_eq_false (by omega)) ?_⟩
    exact ⟨.ref a, rfl, q⟩
end
end Pl

namespace Pl
open PySem L2
section
variable {P : Program} {w : World} {K : PySem.W.Frag} {mg : Str → Option Value} {base : Heap}
theorem prs_len {rs : Rws} (i : Nat) (r : Str × List Int) (h : rs[i]? = some r) : ((rs.take i).flatMap prsOf).length + (prsOf r).length ≤ (rs.map fun r => r.2.length).sum := by
  induction rs generalizing i with
  | nil => simp at h
  | cons x rs ih =>
    cases i with
    | zero =>
      have e : x = r := Option.some.inj h
      subst e
      simp [prsOf]
    | succ i =>
      have := ih i h
      simp only [List.take_succ_cons, List.flatMap_cons, List.length_append, List.map_cons, List.sum_cons]
      have e : (prsOf x).length = x.2.length := by simp [prsOf]
      omega
theorem prs_all (rs : Rws) : (rs.flatMap prsOf).length = (rs.map fun r => r.2.length).sum := by
  induction rs with
  | nil => rfl
  | cons x rs ih =>
    simp only [List.flatMap_cons, List.length_append, List.map_cons, List.sum_cons, ih]
    simp [prsOf]
/-- checked_pairs: the sorted pairs -/
def spChPairs : Sp := fun vs H Q _ => ∃ (d : Addr) (kvs : List (Key × V)) (rs : Rws), vs = [.ref d] ∧ H d = some (.dK kvs) ∧ EntsAt H kvs rs ∧ goodRows rs ∧
  ∀ (r : Addr) (H' : Hp) (us : List V), Same H H' → H r = none → H' r = some (.lst us) → PrsAt H' us (wRows rs) → Q (.ref r) H'
theorem ok_checked_pairs (T : Txt P K mg) {k : Nat} : FnOk P w K mg base CX0 (k + 3) T.checked_pairs.f T.checked_pairs.fd ["rows"] spChPairs := by
  have G_check_name : FnOk P w K mg base CX0 (k + 2) T.check_name.f T.check_name.fd ["name"] spCkName := ok_check_name T
  have G_check_rows : FnOk P w K mg base CX0 (k + 2) T.check_rows.f T.check_rows.fd ["name", "moments"] spCkRows := ok_check_rows T
  have G_limited : FnOk P w K mg base CX0 (k + 1) T.limited.f T.limited.fd ["pairs"] spLimited := ok_limited T
  refine T.checked_pairs.F.ok (k := k + 2) sc_checked_pairs (fun vs H Q E h => ?_) (fun cdv A outer s H vs Q E hr h => ?_)
  · obtain ⟨d, kvs, rs, rfl, _⟩ := h
    rfl
  · obtain ⟨d, kvs, rs, rfl, hd, he, hg, q⟩ := h
    refine ⟨_, (pss_cons (ps_set (i := 1) sc_checked_pairs.nd rfl (.inl rfl) (pe_lst pa_nil))
  (pss_cons (ps_lock (ps_for PassesOwn.never rfl (pi_items (pv 0)) (pg_tup rfl (pgs_cons (pg_name (i := 2) sc_checked_pairs.nd rfl (.inr rfl)) (pgs_cons (pg_name (i := 3) sc_checked_pairs.nd rfl (.inl rfl)) pgs_nil)))
   (pss_cons (ps_expr (pe_call G_check_name (hr.mono (by omega)) (by rfl) T.check_name.g T.check_name.F.kp T.check_name.b .nil pass0 (pa_cons (pv 2) pa_nil)))
  (pss_cons (ps_expr (pe_call G_check_rows (hr.mono (by omega)) (by rfl) T.check_rows.g T.check_rows.F.kp T.check_rows.b .nil pass0 (pa_cons (pv 2) (pa_cons (pv 3) pa_nil))))
  (pss_one (ps_aug (i := 1) sc_checked_pairs.nd rfl (.inl rfl) (pe_lc (own := [("moment", 4)]) (g := gName 4) (tt := tYes) (te := (tTup (tCons (tVar 2) (tCons (tVar 4) tNil)))) rfl sc_checked_pairs.nd (pi_list (pv 3)) (blkOk_by (own := [("moment", 4)]) (N := N_checked_pairs) (sc := defScope s_checked_pairs) (by decide +kernel)) (fun _ _ _ _ _ => (pg_name (i := 4) sc_checked_pairs.nd rfl (.inl rfl))) (fun _ _ _ _ _ => pts_nil) (fun _ _ _ _ _ => (pe_tup (pa_cons (pv 2) (pa_cons (pv 4) pa_nil))))) iop_ext))))))
  (pss_one (ps_ret (pe_call G_limited (hr.mono (by omega)) (by rfl) T.limited.g T.limited.F.kp T.limited.b .nil pass0 (pa_cons (pe_callB (cr_sortD (enc := fun p : Str × Int => .tuple [.str p.1, .int p.2]) hr.units) (by rfl) T.n_sorted (by decide +kernel) (pa_cons (pv 1) pa_nil)) pa_nil)))))), ?_⟩
    refine ⟨sz (by show 0 ≤ 100000; decide), fun l hl => ?_⟩
    have hd1 : upd H l (.lst []) d = some (.dK kvs) := by rw [upd_ne (ne_of_none hd hl)]; exact hd
    refine ⟨d, _, hd1, trivial, fun od => ?_⟩
    refine ⟨.ref d, rfl, d, od, kvs, rfl, upd_same, ?_⟩
    refine for_it (walk_items (d := d) (o := od) (kvs := kvs)) (fun i σ H' => ∃ (us : List V) (y2 y3 y4 : Option V), σ = [some (.ref d), some (.ref l), y2, y3, y4] ∧ (∀ b o, b ≠ d → H b = some o → H' b = some o) ∧ H' d = some (.frz od (.dK kvs)) ∧
      H' l = some (.lst us) ∧ PrsAt H' us ((rs.take i).flatMap prsOf)) ?_ (fun i σ H' _ pp => ?_) (fun i x σ H1 H2 hi pp y => ?_) (fun σ H' pp => ?_)
    · exact ⟨[], none, none, none, rfl, fun b o nb e => by rw [upd_ne nb, upd_ne (ne_of_none e hl)]; exact e, upd_same, by rw [upd_ne (ne_of_none hd hl).symm, upd_same], rfl, fun i p e => by simp at e⟩
    · obtain ⟨us, y2, y3, y4, _, _, h3, _⟩ := pp
      exact h3
    · obtain ⟨us, y2, y3, y4, rfl, hb, hdf, hlu, hpr⟩ := pp
      obtain ⟨t, xk, yv, rfl, hT, rfl, e1, e2⟩ := y
      obtain ⟨kv, hkv⟩ : ∃ kv, kvs[i]? = some kv := ⟨_, List.getElem?_eq_getElem hi⟩
      obtain ⟨r, hr0⟩ : ∃ r, rs[i]? = some r := ⟨_, List.getElem?_eq_getElem (by rw [← he.1]; exact hi)⟩
      obtain ⟨k1, a, k2, ha⟩ := he.2 i kv r hkv hr0
      dsimp only at e1 e2
      rw [hkv] at e1 e2
      have e1' : kV kv.1 = xk := Option.some.inj e1
      have e2' : kv.2 = yv := Option.some.inj e2
      rw [k1] at e1'
      rw [k2] at e2'
      subst e1' e2'
      obtain ⟨g1, g2, g3⟩ := hg.1 r (List.mem_of_getElem? hr0)
      have nad : a ≠ d := fun z => by rw [z, hd] at ha; cases ha
      have ha1 : H1 a = some (.lst (r.2.map V.int)) := hb a _ nad ha
      have s2 : Same H1 (upd H1 t (.tup [kV (.inr r.1), .ref a])) := same_upd hT
      refine ⟨t, _, rfl, SqT.of upd_same, rfl, _, _, rfl, _, _, rfl, rfl, ?_⟩
      refine ⟨.str r.1, rfl, r.1, rfl, g1, fun H3 s3 => ?_⟩
      have s23 := s2.trans s3
      refine ⟨.str r.1, rfl, .ref a, rfl, .str r.1, a, r.2, rfl, s23 _ _ ha1, g2, g3, ?_⟩
      refine ⟨.ref l, rfl, .ref a, rfl, a, rfl, ⟨_, SqL.of (s23 _ _ ha1)⟩, fun D hD => ?_⟩
      have hD1 : H1 D = none := s23.free hD
      refine lc_list (K := K) (a := a) (xs := r.2.map V.int) (fun j H' => Same H3 H' ∧ ∃ vs, H' D = some (.lst vs) ∧ PrsAt H' vs ((prsOf r).take j)) ⟨same_upd hD, [], upd_same, rfl, fun i p e => by simp at e⟩ (fun j H' _ pp => SqL.of (pp.1 _ _ (s23 _ _ ha1))) (fun j x H' hx pp => ?_) (fun H' pp => ?_)
      · obtain ⟨s4, vs, hv, hp4⟩ := pp
        obtain ⟨m, hm, rfl⟩ : ∃ m, r.2[j]? = some m ∧ x = V.int m := by
          rw [List.getElem?_map] at hx
          cases e : r.2[j]? with
          | none => rw [e] at hx; cases hx
          | some m => rw [e] at hx; exact ⟨m, rfl, (Option.some.inj hx).symm⟩
        have hj : j < r.2.length := (List.getElem?_eq_some_iff.mp hm).1
        refine ⟨rfl, yes_if ⟨.str r.1, rfl, .int m, rfl, sz (by show 2 ≤ 100000; decide), fun p hp => ?_⟩⟩
        have npD : D ≠ p := ne_of_none hv hp
        have hv5 : upd H' p (.tup [.str r.1, .int m]) D = some (.lst vs) := by rw [upd_ne npD]; exact hv
        have hlen : vs.length ≤ 300 := by
          have := hp4.1
          rw [List.length_take] at this
          have e : (prsOf r).length = r.2.length := by simp [prsOf]
          omega
        refine ⟨vs, hv5, szl (by omega), same_mut (s4.trans (same_upd hp)) hD, vs ++ [.ref p], upd_same, ?_⟩
        have hpm : (prsOf r)[j]? = some (r.1, m) := by
          unfold prsOf
          rw [List.getElem?_map, hm]
          rfl
        rw [List.take_add_one, hpm]
        refine PrsAt.put hv5 ((hp4.same (same_upd hp)).app ⟨rfl, fun i q e => ?_⟩)
        cases i with
        | zero =>
          cases e
          exact ⟨p, rfl, upd_same⟩
        | succ i => simp at e
      · obtain ⟨s4, vs, hv, hp4⟩ := pp
        have e : (prsOf r).length = r.2.length := by simp [prsOf]
        rw [List.length_map, List.take_of_length_le (by omega)] at hp4
        have s14 := s23.trans s4
        have hl4 := s14 _ _ hlu
        have hlen := prs_len i r hr0
        have nlD : l ≠ D := fun z => by rw [z] at hlu; rw [hD1] at hlu; cases hlu
        refine ⟨l, D, us, vs, rfl, rfl, hl4, hv, sz (by rw [hpr.1, hp4.1]; have := hg.2; omega), ?_⟩
        refine ⟨us ++ vs, _, _, _, rfl, fun b o nb eb => ?_, ?_, upd_same, ?_⟩
        · rw [upd_ne (ne_of_none eb hl)]
          exact s14 _ _ (hb b o nb eb)
        · rw [upd_ne (ne_of_none hd hl)]
          exact s14 _ _ hdf
        · rw [List.take_add_one, hr0]
          rw [show (rs.take i ++ (some r).toList) = rs.take i ++ [r] from rfl, List.flatMap_append, List.flatMap_cons, List.flatMap_nil, List.append_nil]
          exact PrsAt.put hl4 ((hpr.same s14).app hp4)
    · obtain ⟨us, y2, y3, y4, rfl, hb, hdf, hlu, hpr⟩ := pp
      rw [he.1, List.take_of_length_le (Nat.le_refl _)] at hpr
      refine ⟨hdf, ?_⟩
      have hl5 : upd H' d (.dK kvs) l = some (.lst us) := by rw [upd_ne (ne_of_none hd hl).symm]; exact hlu
      have sH : Same H (upd H' d (.dK kvs)) := fun b o e => by
        by_cases nb : b = d
        · subst nb
          rw [upd_same, ← hd, e]
        · rw [upd_ne nb]
          exact hb b o nb e
      have hpr5 : PrsAt (upd H' d (.dK kvs)) us (rs.flatMap prsOf) := ⟨hpr.1, fun i p e => by
        obtain ⟨t, t1, t2⟩ := hpr.2 i p e
        refine ⟨t, t1, ?_⟩
        rw [upd_ne (fun z => by rw [z, hdf] at t2; cases t2)]
        exact t2⟩
      have hlen : us.length ≤ 300 := by rw [hpr.1, prs_all]; exact hg.2
      generalize upd H' d (.dK kvs) = H5 at hl5 sH hpr5 ⊢
      have hz1 : (us.zip (rs.flatMap prsOf)).map (·.1) = us := List.map_fst_zip (by rw [hpr5.1]; exact Nat.le_refl _)
      refine ⟨.ref l, rfl, l, us.zip (rs.flatMap prsOf), rfl, by rw [hz1]; exact SqL.of hl5, by rw [List.length_zip]; omega, fun p hp => ?_, PySem.W.AllAlike.of fun b b' => rfl, PySem.W.Sortable.tuples fun b => ⟨_, _, rfl⟩, fun p hp => ?_, fun z hz => ?_⟩
      · obtain ⟨i, hi⟩ := List.mem_iff_getElem?.mp hp
        obtain ⟨v, q'⟩ := p
        rw [List.getElem?_zip_eq_some] at hi
        obtain ⟨t, t1, t2⟩ := hpr5.2 i q' hi.2
        rw [hi.1] at t1
        cases t1
        exact .tup (SqT.of t2) (.cons (.str _) (.cons (.int _) .nil))
      · show PyData.depth (.tuple [.str p.2.1, .int p.2.2]) ≤ 10
        simp [PyData.depth, PyData.depthAll]
      · refine ⟨z, _, rfl, upd_same, ?_, q z _ _ (sH.trans (same_upd hz)) (sH.free hz) upd_same ((prs_sort hpr5).same (same_upd hz))⟩
        rw [List.length_map, List.length_mergeSort, List.length_zip]
        omega
end
end Pl

namespace Pl
open PySem L2
section
variable {P : Program} {w : World} {K : PySem.W.Frag} {mg : Str → Option Value} {base : Heap}
/-- World.__init__(self, rows) -/
def spWInit (T : Txt P K mg) : Sp := fun vs H Q _ => ∃ (G : Hp) (x d dx : Addr) (kvs : List (Key × V)) (rs : Rws), vs = [.ref x, .ref d] ∧ Same G H ∧ G x = none ∧ H x = some (.ins T.c_World dx []) ∧ H d = some (.dK kvs) ∧ EntsAt H kvs rs ∧ goodRows rs ∧
  ∀ H' l, Same G H' → H l = none → WoA T H' x l (wRows rs) → Q .non H'
theorem ok_world_init (T : Txt P K mg) {k : Nat} : FnR P w K mg base CX0 (k + 4) T.World_init.f (spWInit T) := by
  have G_checked_pairs : FnOk P w K mg base CX0 (k + 3) T.checked_pairs.f T.checked_pairs.fd ["rows"] spChPairs := ok_checked_pairs T
  refine toR (T.World_init.ok (k := k + 3) sc_World_init (fun vs H Q E h => ?_) (fun cdv A outer s H vs Q E hr h => ?_)) T.World_init.b
  · obtain ⟨G, x, d, dx, kvs, rs, rfl, _⟩ := h
    rfl
  · obtain ⟨G, x, d, dx, kvs, rs, rfl, sG, xG, hx, hd, he, hg, q⟩ := h
    refine ⟨_, (pss_one (ps_if (pt_cmpR op_isN (pv 1) pe_non (nomark _)) (pss_one (ps_fld (pv 0) (pe_lst pa_nil) rfl)) (pss_one (ps_fld (pv 0) (pe_call G_checked_pairs (hr.mono (by omega)) (by rfl) T.checked_pairs.g T.checked_pairs.F.kp T.checked_pairs.b .nil pass0 (pa_cons (pv 1) pa_nil)) rfl)))), ?_⟩
    refine ⟨.ref d, rfl, rfl, _, rfl, iF (decide_eq_false (fun h => nomatch h)) ?_⟩
    refine ⟨.ref d, rfl, d, kvs, rs, rfl, hd, he, hg, fun r H1 us s1 r0 h1 h2 => ?_⟩
    refine ⟨.ref x, rfl, x, _, dx, [], rfl, s1 _ _ hx, T.o_World.cl, T.n_World_pairs, by decide, ?_⟩
    have hx1 := s1 _ _ hx
    have nrx : r ≠ x := fun e => by rw [e, hx1] at h1; cases h1
    refine q _ r (same_mut (sG.trans s1) xG) r0 ⟨dx, us, upd_same, by rw [upd_ne nrx]; exact h1, h2.1, fun i p e => ?_⟩
    obtain ⟨t, t1, t2⟩ := h2.2 i p e
    exact ⟨t, t1, by rw [upd_ne (fun z => by rw [z, hx1] at t2; cases t2)]; exact t2⟩
theorem inV_ints (x : Int) : ∀ ns : List Int, inV (.int x) (ns.map V.int) = decide (x ∈ ns)
  | [] => by simp [inV]
  | n :: ns => by
    have := inV_ints x ns
    unfold inV at this ⊢
    rw [List.map_cons, List.any_cons, this]
    show ((n == x) || _) = _
    by_cases e : n = x
    · subst e; simp
    · have e' : ¬ x = n := fun z => e z.symm
      simp [e, e', List.mem_cons]
theorem flat_ints : ∀ ns : List Int, (ns.map V.int).all flatV = true
  | [] => rfl
  | n :: ns => by
    rw [List.map_cons, List.all_cons, flat_ints ns]
    rfl
end
end Pl

namespace Pl
open PySem L2
theorem tl_flat : ∀ parts : List (List Nat), TL.joinL [] parts = parts.flatten
  | [] => rfl
  | [p] => by simp [TL.joinL]
  | p :: q :: ps => by
    have := tl_flat (q :: ps)
    simp only [TL.joinL, List.flatten_cons, List.append_nil, List.nil_append] at this ⊢
    rw [this]
theorem one_good {c : Nat} (h : c ∈ letters.cps.toList) : goodName ⟨#[c]⟩ := ⟨by show 1 ≤ 1; decide, by show 1 ≤ 12; decide, fun d hd => by
  have : d = c := by simpa using hd
  rw [this]; exact h⟩
theorem join_good {cs : List Nat} (h1 : 1 ≤ cs.length) (h2 : cs.length ≤ 12) (h : ∀ c ∈ cs, c ∈ letters.cps.toList) : goodName (Txt.join "" (cs.map fun c => (⟨#[c]⟩ : Str))) := by
  have e : (Txt.join "" (cs.map fun c => (⟨#[c]⟩ : Str))).cps.toList = cs := by
    rw [TL.join_eq]
    show TL.tl _ = cs
    rw [TL.tl_join, show TL.tl ("" : Str) = [] from by decide +kernel, tl_flat, List.map_map]
    clear h1 h2 h
    induction cs with
    | nil => rfl
    | cons c cs ih =>
      rw [List.map_cons, List.flatten_cons, ih]
      rfl
  have el : (Txt.join "" (cs.map fun c => (⟨#[c]⟩ : Str))).length = cs.length := by
    show (Txt.join "" (cs.map fun c => (⟨#[c]⟩ : Str))).cps.size = cs.length
    rw [← Array.length_toList, e]
  exact ⟨by rw [el]; exact h1, by rw [el]; exact h2, by rw [e]; exact h⟩
theorem let_at {i : Int} (h0 : 0 ≤ i) (h1 : i < 26) : ∃ c, atI letters.cps.toList i = some c ∧ c ∈ letters.cps.toList := by
  have hl : i.toNat < letters.cps.toList.length := by
    have : letters.cps.toList.length = 26 := by decide +kernel
    omega
  exact ⟨letters.cps.toList[i.toNat], at_ix2 h0 (List.getElem?_eq_getElem hl), List.getElem_mem hl⟩
theorem inV_strs (x : Str) : ∀ zs : List Str, inV (.str x) (zs.map V.str) = decide (x ∈ zs)
  | [] => by simp [inV]
  | n :: ns => by
    have := inV_strs x ns
    unfold inV at this ⊢
    rw [List.map_cons, List.any_cons, this]
    show ((n == x) || _) = _
    by_cases e : n = x
    · subst e; simp
    · have e' : ¬ x = n := fun z => e z.symm
      simp [e, e', List.mem_cons]
theorem flat_strs : ∀ zs : List Str, (zs.map V.str).all flatV = true
  | [] => rfl
  | n :: ns => by
    rw [List.map_cons, List.all_cons, flat_strs ns]
    rfl
abbrev abcd : List Str := ["a", "b", "c", "d"]
theorem spare {zs : List Str} (h : zs.length ≤ 3) : ∃ z r, abcd.filter (fun w => !decide (w ∈ zs)) = z :: r ∧ z ∈ abcd ∧ z ∉ zs := by
  cases e : abcd.filter (fun w => !decide (w ∈ zs)) with
  | cons z r =>
    have : z ∈ abcd.filter (fun w => !decide (w ∈ zs)) := by rw [e]; simp
    obtain ⟨m1, m2⟩ := List.mem_filter.mp this
    exact ⟨z, r, rfl, m1, by simpa using m2⟩
  | nil =>
    exfalso
    have hin : ∀ w ∈ abcd, w ∈ zs := fun w hw => by
      have := List.filter_eq_nil_iff.mp e w hw
      simpa using this
    have ha := hin "a" (by decide)
    have hb : ("b" : Str) ∈ zs.erase "a" := (List.mem_erase_of_ne (by decide)).mpr (hin "b" (by decide))
    have hc : ("c" : Str) ∈ (zs.erase "a").erase "b" := (List.mem_erase_of_ne (by decide)).mpr ((List.mem_erase_of_ne (by decide)).mpr (hin "c" (by decide)))
    have hd : ("d" : Str) ∈ ((zs.erase "a").erase "b").erase "c" := (List.mem_erase_of_ne (by decide)).mpr ((List.mem_erase_of_ne (by decide)).mpr ((List.mem_erase_of_ne (by decide)).mpr (hin "d" (by decide))))
    have l1 := List.length_erase_of_mem ha
    have l2 := List.length_erase_of_mem hb
    have l3 := List.length_erase_of_mem hc
    have l4 := List.length_pos_of_mem hd
    omega
theorem abcd_good {z : Str} (h : z ∈ abcd) : goodName z := by
  simp only [abcd, List.mem_cons, List.not_mem_nil, or_false] at h
  rcases h with rfl | rfl | rfl | rfl <;> exact ⟨by decide +kernel, by decide +kernel, by decide +kernel⟩
section
variable {P : Program} {w : World} {K : PySem.W.Frag} {mg : Str → Option Value} {base : Heap}
/-- _law_names: distinct names -/
def spNames : Sp := fun vs H Q _ => ∃ (b c : Addr) (G : Hp) (n : Nat), vs = [.ref b, .int (n : Nat)] ∧ Wd b c G H ∧ n ≤ 4 ∧
  ∀ (a : Addr) (zs : List Str) (H' : Hp), G a = none → a ≠ b → a ≠ c → Wd b c (upd G a (.lst (zs.map V.str))) H' → zs.Nodup → zs.length = n → (∀ z ∈ zs, goodName z) → Q (.ref a) H'
theorem ok_law_names (T : Txt P K mg) {k : Nat} : FnOk P w K mg base CX0 (k + 2) T.law_names.f T.law_names.fd ["_law_box", "_law_many"] spNames := by
  have G_law_pick : FnOk P w K mg base CX0 (k + 1) T.law_pick.f T.law_pick.fd ["_law_box", "_law_many"] spPick := ok_law_pick T
  refine T.law_names.F.ok (k := k + 1) sc_law_names (fun vs H Q E h => ?_) (fun cdv A outer s H vs Q E hr h => ?_)
  · obtain ⟨b, c, G, n, rfl, _⟩ := h
    rfl
  · obtain ⟨b, c, G, n, rfl, W, hn, q⟩ := h
    refine ⟨_, (pss_cons (ps_set (i := 2) sc_law_names.nd rfl (.inr rfl) pe_str)
  (pss_cons (ps_set (i := 3) sc_law_names.nd rfl (.inr rfl) (pe_lst pa_nil))
  (pss_cons (ps_for PassesOwn.never rfl (pi_range1 (by rfl) T.n_range (pa_cons (pv 1) pa_nil)) (pg_name (i := 4) sc_law_names.nd rfl (.inl rfl))
   (pss_cons (ps_set (i := 5) sc_law_names.nd rfl (.inl rfl) (pe_ix ix_str (pv 2) (pe_call G_law_pick (hr.mono (by omega)) (by rfl) T.law_pick.g T.law_pick.F.kp T.law_pick.b .nil pass0 (pa_cons (pv 0) (pa_cons pe_int pa_nil))) (fun _ _ => rfl)))
  (Evl.pss_cut (ps_if (pt_cmpR op_eq (pe_call G_law_pick (hr.mono (by omega)) (by rfl) T.law_pick.g T.law_pick.F.kp T.law_pick.b .nil pass0 (pa_cons (pv 0) (pa_cons pe_int pa_nil))) pe_int (nomark _)) (pss_one (ps_set (i := 5) sc_law_names.nd rfl (.inl rfl) (pe_join pe_str (pe_lc (own := [("_law_j", 6)]) (g := gName 6) (tt := tYes) (te := (tOp _ (tVar 2) (tCall _ _ _ (tCons (tVar 0) (tCons (tC _) tNil))))) rfl sc_law_names.nd (pi_range1 (by rfl) T.n_range (pa_cons (pe_op op_add pe_int (pe_call G_law_pick (hr.mono (by omega)) (by rfl) T.law_pick.g T.law_pick.F.kp T.law_pick.b .nil pass0 (pa_cons (pv 0) (pa_cons pe_int pa_nil)))) pa_nil)) (blkOk_by (own := [("_law_j", 6)]) (N := N_law_names) (sc := defScope s_law_names) (by decide +kernel)) (fun _ _ _ _ _ => (pg_name (i := 6) sc_law_names.nd rfl (.inl rfl))) (fun _ _ _ _ _ => pts_nil) (fun _ _ _ _ _ => (pe_ix ix_str (pv 2) (pe_call G_law_pick (hr.mono (by omega)) (by rfl) T.law_pick.g T.law_pick.F.kp T.law_pick.b .nil pass0 (pa_cons (pv 0) (pa_cons pe_int pa_nil))) (fun _ _ => rfl))))))) pss_nil)
  (Evl.pss_cut (ps_if (pt_cmpR op_in_seq (pv 5) (pv 3) (by with_unfolding_all rfl)) (pss_one (ps_set (i := 5) sc_law_names.nd rfl (.inl rfl) (pe_ix ix_list (pe_lc (own := [("_law_word", 7)]) (g := gName 7) (tt := (tTest (tOp (rIn K true) (tVar 7) (tVar 3)))) (te := (tVar 7)) rfl sc_law_names.nd (pi_list (pe_lst (pa_cons pe_str (pa_cons pe_str (pa_cons pe_str (pa_cons pe_str pa_nil)))))) (blkOk_by (own := [("_law_word", 7)]) (N := N_law_names) (sc := defScope s_law_names) (by decide +kernel)) (fun _ _ _ _ _ => (pg_name (i := 7) sc_law_names.nd rfl (.inl rfl))) (fun _ _ _ _ _ => (pts_one (pt_cmpR op_notIn_seq (pv 7) (pv 3) (by with_unfolding_all rfl)))) (fun _ _ _ _ _ => (pv 7))) pe_int (fun _ _ => rfl)))) pss_nil)
  (pss_one (ps_expr (pe_bm PySem.F.plainAttrs_list PySem.F.slot_list_append PySem.F.type_list_append mt_append (pv 3) (pa_cons (pv 5) pa_nil))))))))
  (pss_one (ps_ret (pv 3)))))), ?_⟩
    refine ⟨Nat.zero_le _, fun p hp => ?_⟩
    obtain ⟨pb, pc⟩ := W.nb hp
    have gp : G p = none := W.gh.free hp
    have W1 : Wd b c (upd G p (.lst [])) (upd H p (.lst [])) := (W.mut gp pb pc).keep upd_same pb pc
    refine ⟨_, rfl, (n : Nat), rfl, by omega, by omega, ?_⟩
    refine for_range (lo := 0) (n := ((n : Nat) : Int).toNat) (fun t σ H' => ∃ (zs : List Str) (y4 y5 : Option V), σ = [some (.ref b), some (.int (n : Nat)), some (.str letters), some (.ref p), y4, y5, none, none] ∧ Wd b c (upd G p (.lst (zs.map V.str))) H' ∧ zs.Nodup ∧ zs.length = t ∧ ∀ z ∈ zs, goodName z) ⟨[], none, none, rfl, W1, by simp, rfl, fun z h => nomatch h⟩ (fun t σ H' ht pp => ?_) (fun σ H' pp => ?_)
    · obtain ⟨zs, y4, y5, rfl, W2, nd, hl, hg⟩ := pp
      have ht : t < n := ht
      refine ⟨.str letters, rfl, .ref b, rfl, b, c, _, 3, rfl, W2, by decide, by decide, fun i H1 W3 i0 i1 => ?_⟩
      obtain ⟨ch, hch, hin⟩ := let_at i0 (by omega)
      refine ⟨letters, i, ch, rfl, rfl, by decide +kernel, hch, ?_⟩
      refine ⟨fun σ H2 => ∃ (z : Str) (x4 : Option V), goodName z ∧ σ = [some (.ref b), some (.int (n : Nat)), some (.str letters), some (.ref p), x4, some (.str z), none, none] ∧ Wd b c (upd G p (.lst (zs.map V.str))) H2, ?_, ?_⟩
      · refine ⟨.ref b, rfl, b, c, _, 2, rfl, W3, by decide, by decide, fun j H2 W4 j0 j1 => ?_⟩
        refine ⟨rfl, _, rfl, ite2 (fun _ => ?_) (fun _ => ?_)⟩
        · refine ⟨⟨_, rfl⟩, ?_⟩
          refine ⟨.ref b, rfl, b, c, _, 12, rfl, W4, by decide, by decide, fun m H3 W5 m0 m1 => ?_⟩
          refine ⟨1, m, rfl, rfl, 1 + m, rfl, by omega, by omega, fun D hD => ?_⟩
          obtain ⟨Db, Dc⟩ := W5.nb hD
          have gD : upd G p (.lst (zs.map V.str)) D = none := W5.gh.free hD
          refine lc_range (lo := 0) (n := (1 + m).toNat) (fun r H' => ∃ cs : List Nat, Wd b c (upd (upd G p (.lst (zs.map V.str))) D (.lst ((cs.map fun c => (⟨#[c]⟩ : Str)).map V.str))) H' ∧ cs.length = r ∧ ∀ c ∈ cs, c ∈ letters.cps.toList) ⟨[], (W5.mut gD Db Dc).keep upd_same Db Dc, rfl, fun c h => nomatch h⟩ (fun r H' hr' pp => ?_) (fun H' pp => ?_)
          · obtain ⟨cs, W6, hc, hcs⟩ := pp
            refine ⟨rfl, yes_if ?_⟩
            refine ⟨.str letters, rfl, .ref b, rfl, b, c, _, 26, rfl, W6, by decide, by decide, fun u H7 W7 u0 u1 => ?_⟩
            obtain ⟨d, hd, hdin⟩ := let_at u0 u1
            refine ⟨letters, u, d, rfl, rfl, by decide +kernel, hd, ?_⟩
            have hD7 := W7.gh _ _ (upd_same (H := upd G p (.lst (zs.map V.str))) (a := D))
            refine ⟨_, hD7, szl (by rw [List.length_map, List.length_map]; omega), cs ++ [d], ?_, by rw [List.length_append, hc]; rfl, fun x hx => ?_⟩
            · have e : (cs.map fun c => (⟨#[c]⟩ : Str)).map V.str ++ [V.str ⟨#[d]⟩] = ((cs ++ [d]).map fun c => (⟨#[c]⟩ : Str)).map V.str := by rw [List.map_append, List.map_append]; rfl
              rw [e]
              exact ((W7.weak (same_upd gD)).mut gD Db Dc).keep upd_same Db Dc
            · rcases List.mem_append.mp hx with h | h
              · exact hcs x h
              · cases List.mem_singleton.mp h
                exact hdin
          · obtain ⟨cs, W6, hc, hcs⟩ := pp
            have hD7 := W6.gh _ _ (upd_same (H := upd G p (.lst (zs.map V.str))) (a := D))
            refine ⟨_, D, cs.map fun c => (⟨#[c]⟩ : Str), rfl, rfl, .inl (SqL.of hD7), ?_, ?_⟩
            · rw [show (("" : Str)).length = 0 from rfl, Nat.mul_zero, Nat.add_zero, List.map_map]
              have : (cs.map ((fun x : Str => x.length) ∘ fun c => (⟨#[c]⟩ : Str))).sum = cs.length := by
                clear hD7 W6 hcs hc
                induction cs with
                | nil => rfl
                | cons x xs ih =>
                  rw [List.map_cons, List.sum_cons, ih, List.length_cons]
                  show 1 + xs.length = xs.length + 1
                  omega
              rw [this]
              omega
            · exact ⟨_, _, join_good (by omega) (by omega) hcs, rfl, W6.weak (same_upd gD)⟩
        · exact ⟨_, _, one_good hin, rfl, W4⟩
      · rintro σ H2 ⟨z, x4, gz, rfl, W4⟩
        refine ⟨fun σ H3 => ∃ (z : Str) (x4 : Option V), goodName z ∧ z ∉ zs ∧ σ = [some (.ref b), some (.int (n : Nat)), some (.str letters), some (.ref p), x4, some (.str z), none, none] ∧ Wd b c (upd G p (.lst (zs.map V.str))) H3, ?_, ?_⟩
        · have hp4 := W4.gh _ _ (upd_same (H := G) (a := p))
          refine ⟨.str z, rfl, .ref p, rfl, p, _, rfl, .inl (SqL.of hp4), rfl, flat_strs zs, _, rfl, ?_⟩
          rw [inV_strs]
          by_cases hz : z ∈ zs
          · refine iT (decide_eq_true hz) ⟨sz (by show 4 ≤ 100000; decide), fun L hL => ?_⟩
            have s5 : Same H2 (upd H2 L (.lst (abcd.map V.str))) := same_upd hL
            have W5 := W4.sm s5
            have hp5 := W5.gh _ _ (upd_same (H := G) (a := p))
            refine ⟨L, rfl, ⟨abcd.map V.str, SqL.of upd_same⟩, fun D hD => ?_⟩
            refine lc_pure (K := K) (a := L) (xs := abcd.map V.str) (fun v => match v with | .str r => if !decide (r ∈ zs) then some (V.str r) else none | _ => none) (SqL.of upd_same) hD (by decide) (fun x H6 N N' hx s6 n1 n2 => ?_) (fun H6 s6 hD6 => ?_)
            · obtain ⟨r, _, rfl⟩ := List.mem_map.mp hx
              refine ⟨rfl, .str r, rfl, .ref p, rfl, p, _, rfl, .inl (SqL.of (s6 _ _ hp5)), rfl, flat_strs zs, _, rfl, ?_⟩
              rw [inV_strs]
              cases hf : decide (r ∈ zs) with
              | true => exact iF rfl (n2 _ (Same.refl _) (by simp only [hf]; rfl))
              | false => exact iT rfl ⟨.str r, rfl, n1 _ _ (Same.refl _) (by simp only [hf]; rfl)⟩
            · obtain ⟨z2, r2, e2, m2, n2⟩ := spare (zs := zs) (by omega)
              have e3 : (abcd.map V.str).filterMap (fun v => match v with | .str r => if !decide (r ∈ zs) then some (V.str r) else none | _ => none) = (abcd.filter (fun w => !decide (w ∈ zs))).map V.str := by
                generalize abcd = l
                induction l with
                | nil => rfl
                | cons x l ih =>
                  rw [List.map_cons, List.filterMap_cons, List.filter_cons, ih]
                  by_cases hx : x ∈ zs <;> simp [hx]
              rw [e3, e2] at hD6
              refine ⟨D, _, 0, .str z2, rfl, rfl, SqL.of hD6, at_ix (by decide) rfl, ?_⟩
              exact ⟨z2, _, abcd_good m2, n2, rfl, W5.sm s6⟩
          · exact iF (decide_eq_false hz) ⟨z, _, gz, hz, rfl, W4⟩
        · rintro σ H3 ⟨z, x4, gz, hz, rfl, W5⟩
          have hp5 := W5.gh _ _ (upd_same (H := G) (a := p))
          refine ⟨.ref p, rfl, .inl ⟨rfl, _, SqL.of hp5⟩, .str z, rfl, p, _, _, rfl, rfl, hp5, szl (by rw [List.length_map]; omega), ?_⟩
          have e : zs.map V.str ++ [V.str z] = (zs ++ [z]).map V.str := by rw [List.map_append]; rfl
          rw [e]
          refine ⟨zs ++ [z], _, _, rfl, ((W5.weak (same_upd gp)).mut gp pb pc).keep upd_same pb pc, List.nodup_append.mpr ⟨nd, by simp, fun a ha b hb => by cases List.mem_singleton.mp hb; exact fun y => hz (y ▸ ha)⟩, by rw [List.length_append, hl]; rfl, fun y hy => ?_⟩
          rcases List.mem_append.mp hy with h | h
          · exact hg y h
          · cases List.mem_singleton.mp h
            exact gz
    · obtain ⟨zs, y4, y5, rfl, W2, nd, hl, hg⟩ := pp
      exact ⟨.ref p, rfl, q p zs H' gp pb pc W2 nd (by omega) hg⟩
/-- _law_limit -/
def spLimitL : Sp := fun vs H Q _ => ∃ (b c : Addr) (G : Hp), vs = [.ref b] ∧ Wd b c G H ∧ ∀ (lim : Option Int) (H' : Hp), limOk lim → Wd b c G H' → Q (oV lim) H'
theorem ok_law_limit (T : Txt P K mg) {k : Nat} : FnOk P w K mg base CX0 (k + 3) T.law_limit.f T.law_limit.fd ["_law_box"] spLimitL := by
  have G_law_pick : FnOk P w K mg base CX0 (k + 1) T.law_pick.f T.law_pick.fd ["_law_box", "_law_many"] spPick := ok_law_pick T
  have G_law_number : FnOk P w K mg base CX0 (k + 2) T.law_number.f T.law_number.fd ["_law_box"] spNumber := ok_law_number T
  refine T.law_limit.F.ok (k := k + 2) sc_law_limit (fun vs H Q E h => ?_) (fun cdv A outer s H vs Q E hr h => ?_)
  · obtain ⟨b, c, G, rfl, _⟩ := h
    rfl
  · obtain ⟨b, c, G, rfl, W, q⟩ := h
    refine ⟨_, (pss_cons (ps_set (i := 1) sc_law_limit.nd rfl (.inl rfl) (pe_call G_law_pick (hr.mono (by omega)) (by rfl) T.law_pick.g T.law_pick.F.kp T.law_pick.b .nil pass0 (pa_cons (pv 0) (pa_cons pe_int pa_nil))))
  (pss_cons (ps_if (pt_cmpR op_lt (pv 1) pe_int (nomark _)) (pss_one (ps_ret pe_non)) pss_nil)
  (pss_cons (ps_if (pt_cmpR op_lt (pv 1) pe_int (nomark _)) (pss_one (ps_ret (pe_call G_law_pick (hr.mono (by omega)) (by rfl) T.law_pick.g T.law_pick.F.kp T.law_pick.b .nil pass0 (pa_cons (pv 0) (pa_cons pe_int pa_nil))))) pss_nil)
  (pss_one (ps_ret (pe_callB call_abs (by rfl) T.n_abs (by decide +kernel) (pa_cons (pe_call G_law_number (hr.mono (by omega)) (by rfl) T.law_number.g T.law_number.F.kp T.law_number.b .nil pass0 (pa_cons (pv 0) pa_nil)) pa_nil))))))), ?_⟩
    refine ⟨.ref b, rfl, b, c, G, 5, rfl, W, by decide, by decide, fun i H1 W1 i0 i1 => ?_⟩
    refine ⟨.int i, rfl, i, 2, rfl, rfl, _, rfl, ite2 (fun _ => q none H1 trivial W1) (fun _ => ?_)⟩
    refine ⟨.int i, rfl, i, 4, rfl, rfl, _, rfl, ite2 (fun _ => ?_) (fun _ => ?_)⟩
    · exact ⟨.ref b, rfl, b, c, G, 7, rfl, W1, by decide, by decide, fun j H2 W2 j0 j1 => q (some j) H2 j0 W2⟩
    · refine ⟨.ref b, rfl, b, c, G, rfl, W1, fun j H2 W2 _ _ => ⟨j, rfl, ?_⟩⟩
      exact q (some (if j < 0 then -j else j)) H2 (by show 0 ≤ (if j < 0 then -j else j); split <;> omega) W2
end
end Pl

namespace Pl
open PySem L2
section
variable {P : Program} {w : World} {K : PySem.W.Frag} {mg : Str → Option Value} {base : Heap}
def geZ : V → Bool
  | .int i => decide (i ≥ 0)
  | _ => false
def spFromZero : Sp := fun vs H Q _ => ∃ (v : V) (t : String), vs = [v] ∧ Ty H v t ∧ Q (.bl (geZ v)) H
theorem ok_is_from_zero (T : Txt P K mg) {k : Nat} : FnOk P w K mg base CX0 (k + 2) T.is_from_zero.f T.is_from_zero.fd ["value"] spFromZero := by
  have G_is_integer : FnOk P w K mg base CX0 (k + 1) T.is_integer.f T.is_integer.fd ["value"] spIsInteger := ok_is_integer T
  refine T.is_from_zero.F.ok (k := k + 1) sc_is_from_zero (fun vs H Q E h => ?_) (fun cdv A outer s H vs Q E hr h => ?_)
  · obtain ⟨v, t, rfl, _⟩ := h
    rfl
  · obtain ⟨v, t, rfl, ty, q⟩ := h
    refine ⟨_, (pss_one (ps_ret (pe_and (pe_call G_is_integer (hr.mono (by omega)) (by rfl) T.is_integer.g T.is_integer.F.kp T.is_integer.b .nil pass0 (pa_cons (pv 0) pa_nil)) (pe_one (pe_cmpR op_ge (pv 0) pe_int (nomark _)))))), ?_⟩
    refine ⟨v, rfl, v, t, rfl, ty, _, rfl, ?_⟩
    cases v with
    | int i => exact iT rfl ⟨.int i, rfl, i, 0, rfl, rfl, q⟩
    | _ => exact iF rfl q
def spCkBound : Sp := fun vs H Q _ => ∃ i : Int, vs = [.int i] ∧ 0 ≤ i ∧ Q .non H
theorem ok_check_bound (T : Txt P K mg) {k : Nat} : FnOk P w K mg base CX0 (k + 3) T.check_bound.f T.check_bound.fd ["value"] spCkBound := by
  have G_is_from_zero : FnOk P w K mg base CX0 (k + 2) T.is_from_zero.f T.is_from_zero.fd ["value"] spFromZero := ok_is_from_zero T
  refine T.check_bound.F.ok (k := k + 2) sc_check_bound (fun vs H Q E h => ?_) (fun cdv A outer s H vs Q E hr h => ?_)
  · obtain ⟨i, rfl, _⟩ := h
    rfl
  · obtain ⟨i, rfl, i0, q⟩ := h
    refine ⟨_, (pss_one (ps_if (pt_not (pt_val (pe_call G_is_from_zero (hr.mono (by omega)) (by rfl) T.is_from_zero.g T.is_from_zero.F.kp T.is_from_zero.b .nil pass0 (pa_cons (pv 0) pa_nil)))) (pss_one ps_never) pss_nil)), ?_⟩
    exact ⟨.int i, rfl, .int i, "int", rfl, .int i, _, rfl, iF (by rw [show geZ (.int i) = true from decide_eq_true i0]; rfl) q⟩
def spCkLimit : Sp := fun vs H Q _ => ∃ lim : Option Int, vs = [oV lim] ∧ limOk lim ∧ Q .non H
theorem ok_check_limit (T : Txt P K mg) {k : Nat} : FnOk P w K mg base CX0 (k + 4) T.check_limit.f T.check_limit.fd ["value"] spCkLimit := by
  have G_check_bound : FnOk P w K mg base CX0 (k + 3) T.check_bound.f T.check_bound.fd ["value"] spCkBound := ok_check_bound T
  refine T.check_limit.F.ok (k := k + 3) sc_check_limit (fun vs H Q E h => ?_) (fun cdv A outer s H vs Q E hr h => ?_)
  · obtain ⟨i, rfl, _⟩ := h
    rfl
  · obtain ⟨lim, rfl, h, q⟩ := h
    refine ⟨_, (pss_one (ps_if (pt_cmpR op_notN (pv 0) pe_non (nomark _)) (pss_one (ps_expr (pe_call G_check_bound (hr.mono (by omega)) (by rfl) T.check_bound.g T.check_bound.F.kp T.check_bound.b .nil pass0 (pa_cons (pv 0) pa_nil)))) pss_nil)), ?_⟩
    cases lim with
    | none => exact ⟨_, rfl, rfl, _, rfl, iF rfl q⟩
    | some i => exact ⟨_, rfl, rfl, _, rfl, iT rfl ⟨_, rfl, i, rfl, h, q⟩⟩
theorem inV_ways {z : Str} (h : z ∈ ways) : inV (.str z) [.str "at", .str "before", .str "since", .str "after"] = true := by
  simp only [ways, List.mem_cons, List.not_mem_nil, or_false] at h
  rcases h with rfl | rfl | rfl | rfl <;> decide +kernel
/-- Look.__init__(self, stream, moment, way, *, within) -/
def spLookInit (T : Txt P K mg) : Sp := fun vs H Q _ => ∃ (G : Hp) (m : Tm) (z wy : Str) (lim : Option Int) (x a dx : Addr), vs = [.ref x, .str z, .ref a, .str wy, oV lim] ∧ Same G H ∧ G x = none ∧ TmAt T.ca G m a ∧ goodName z ∧ wy ∈ ways ∧ limOk lim ∧ (Tm.look z m wy lim).fits ∧ H x = some (.ins T.c_Look dx []) ∧
  ∀ H', Same G H' → TmAt T.ca H' (.look z m wy lim) x → Q .non H'
theorem ok_look_init (T : Txt P K mg) {k : Nat} : ∃ fd, FnOk P w K mg base CX0 (k + 5) T.Look_init.f fd ["self", "stream", "moment", "way", "within"] (spLookInit T) ∧ KBn K fd ["self", "stream", "moment", "way", "within"] 4 ["within"] (fun us ws => us ++ ws) (fun vs zs => vs ++ zs) := by
  have G_check_name : FnOk P w K mg base CX0 (k + 2) T.check_name.f T.check_name.fd ["name"] spCkName := ok_check_name T
  have G_check_term : FnOk P w K mg base CX0 (k + 1) T.check_term.f T.check_term.fd ["value"] (spCkTerm T) := ok_check_term T
  have G_check_limit : FnOk P w K mg base CX0 (k + 4) T.check_limit.f T.check_limit.fd ["value"] spCkLimit := ok_check_limit T
  refine T.Look_init.okK (pre := (defBody s_Look_init).take 8) 4 ["within"] rfl sc_Look_init rfl rfl (by decide +kernel) (by decide) rfl T.n_super (fun _ _ _ _ _ _ _ us ws hl hl2 => match us, ws, hl, hl2 with | [_, _, _, _], [_], _, _ => rfl) ((ok_term_init T (k := k)).mono (show k + 1 ≤ k + 4 by omega)) (fun vs H Q E h => ?_) (fun A outer s H vs Q E hr h => ?_)
  · obtain ⟨G, m, z, wy, lim, x, a, dx, rfl, _⟩ := h
    rfl
  · obtain ⟨G, m, z, wy, lim, x, a, dx, rfl, sG, xG, hm, hz, hw, hlm, hfit, hx, q⟩ := h
    refine ⟨_, _, (pss_cons (ps_expr (pe_call G_check_name (hr.mono (by omega)) (by rfl) T.check_name.g T.check_name.F.kp T.check_name.b .nil pass0 (pa_cons (pv 1) pa_nil)))
  (pss_cons (ps_expr (pe_call G_check_term (hr.mono (by omega)) (by rfl) T.check_term.g T.check_term.F.kp T.check_term.b .nil pass0 (pa_cons (pv 2) pa_nil)))
  (pss_cons (ps_if (PW.pt (pw_or (pt_not (pt_val (pe_callB call_isi (by rfl) T.n_isinstance (by decide +kernel) (pa_cons (pv 3) (pa_cons (pe_bltn (v := .ty "str") (by rfl) T.n_str (by decide +kernel) rfl) pa_nil))))) (pw_or1 (pt_cmpR op_notIn_seq (pv 3) (pe_glob (v := .ref T.a_WAYS) (by rfl) T.k_WAYS rfl) (by with_unfolding_all rfl))))) (pss_one ps_never) pss_nil)
  (pss_cons (ps_expr (pe_call G_check_limit (hr.mono (by omega)) (by rfl) T.check_limit.g T.check_limit.F.kp T.check_limit.b .nil pass0 (pa_cons (pv 4) pa_nil)))
  (pss_cons (ps_fld (pv 0) (pv 1) rfl)
  (pss_cons (ps_fld (pv 0) (pv 2) rfl)
  (pss_cons (ps_fld (pv 0) (pv 3) rfl)
  (pss_one (ps_fld (pv 0) (pv 4) rfl))))))))), (pa_cons (pv 2) pa_nil), ?_⟩
    refine ⟨.str z, rfl, z, rfl, hz, fun H1 s1 => ?_⟩
    have sG1 := sG.trans s1
    have ty : Ty H1 (.str wy) "str" := .str wy
    refine ⟨.ref a, rfl, m, a, rfl, hm.same sG1, ?_⟩
    refine ⟨.str wy, rfl, _, _, _, _, _, rfl, .ty "str", ty.x, isI_str ty, _, rfl, iF (by unfold tyB; rw [kb_str_str]; rfl) ?_⟩
    refine ⟨.str wy, rfl, T.a_WAYS, _, rfl, .inr (T.t_WAYS H1), rfl, by decide +kernel, _, rfl, iF (by rw [inV_ways hw]; rfl) ?_⟩
    refine ⟨oV lim, rfl, lim, rfl, hlm, ?_⟩
    refine ⟨.str z, rfl, .ref x, rfl, x, _, dx, [], rfl, s1 _ _ hx, T.o_Look.cl, T.n_Look_stream, by decide, ?_⟩
    refine ⟨.ref a, rfl, .ref x, rfl, x, _, dx, _, rfl, upd_same, T.o_Look.cl, T.n_Look_moment, (by show 1 < 1000; decide), ?_⟩
    rw [upd_upd]
    refine ⟨.str wy, rfl, .ref x, rfl, x, _, dx, _, rfl, upd_same, T.o_Look.cl, T.n_Look_way, (by show 2 < 1000; decide), ?_⟩
    rw [upd_upd]
    refine ⟨oV lim, rfl, .ref x, rfl, x, _, dx, _, rfl, upd_same, T.o_Look.cl, T.n_Look_within, (by show 3 < 1000; decide), ?_⟩
    rw [upd_upd]
    have sG2 : Same G (upd H1 x (.ins T.c_Look dx (loF z a wy lim))) := same_mut sG1 xG
    refine ⟨x, _, dx, loF z a wy lim, rfl, rfl, upd_same, T.s_Look_Look, .ref a, rfl, G, .look z m wy lim, x, dx, loF z a wy lim, [a], rfl, sG2, xG, ⟨hm, trivial⟩, upd_same, (by show 4 ≤ 10; decide), hfit, fun H' s' b' h' => q H' s' ⟨dx, a, h', hm.same s'⟩⟩
/-- fits(row, moment, way) -/
def spFits : Sp := fun vs H Q _ => ∃ (r m : Int) (wy : Str), vs = [.int r, .int m, .str wy] ∧ Q (.bl (fitsB r m wy)) H
theorem dstr {a b : Str} : decide (V.str a = V.str b) = decide (a = b) := by
  by_cases h : a = b
  · subst h; simp
  · have : ¬ V.str a = V.str b := fun z => h (V.str.inj z)
    simp [h, this]
theorem ok_fits (T : Txt P K mg) {k : Nat} : FnOk P w K mg base CX0 (k + 1) T.fits.f T.fits.fd ["row", "moment", "way"] spFits := by
  refine T.fits.F.ok (k := k) sc_fits (fun vs H Q E h => ?_) (fun cdv A outer s H vs Q E hr h => ?_)
  · obtain ⟨r, m, wy, rfl, _⟩ := h
    rfl
  · obtain ⟨r, m, wy, rfl, q⟩ := h
    refine ⟨_, (pss_cons (ps_if (pt_cmpR op_eq (pv 2) pe_str (nomark _)) (pss_one (ps_ret (pe_cmpR op_le (pv 0) (pv 1) (nomark _)))) pss_nil)
  (pss_cons (ps_if (pt_cmpR op_eq (pv 2) pe_str (nomark _)) (pss_one (ps_ret (pe_cmpR op_lt (pv 0) (pv 1) (nomark _)))) pss_nil)
  (pss_cons (ps_if (pt_cmpR op_eq (pv 2) pe_str (nomark _)) (pss_one (ps_ret (pe_cmpR op_ge (pv 0) (pv 1) (nomark _)))) pss_nil)
  (pss_one (ps_ret (pe_cmpR op_gt (pv 0) (pv 1) (nomark _))))))), ?_⟩
    unfold fitsB at q
    refine ⟨.str wy, rfl, rfl, _, rfl, ?_⟩
    rw [dstr]
    by_cases h1 : wy = "at"
    · rw [if_pos h1] at q
      exact iT (decide_eq_true h1) ⟨_, rfl, _, rfl, r, m, rfl, rfl, q⟩
    rw [if_neg h1] at q
    refine iF (decide_eq_false h1) ⟨.str wy, rfl, rfl, _, rfl, ?_⟩
    rw [dstr]
    by_cases h2 : wy = "before"
    · rw [if_pos h2] at q
      exact iT (decide_eq_true h2) ⟨_, rfl, _, rfl, r, m, rfl, rfl, q⟩
    rw [if_neg h2] at q
    refine iF (decide_eq_false h2) ⟨.str wy, rfl, rfl, _, rfl, ?_⟩
    rw [dstr]
    by_cases h3 : wy = "since"
    · rw [if_pos h3] at q
      exact iT (decide_eq_true h3) ⟨_, rfl, _, rfl, r, m, rfl, rfl, q⟩
    rw [if_neg h3] at q
    exact iF (decide_eq_false h3) ⟨_, rfl, _, rfl, r, m, rfl, rfl, q⟩
def intF (p : Int → Bool) : V → Option V
  | .int r => if p r then some (.int r) else none
  | _ => none
theorem filt_ints (p : Int → Bool) : ∀ ns : List Int, (ns.map V.int).filterMap (intF p) = (ns.filter p).map V.int
  | [] => rfl
  | n :: ns => by
    rw [List.map_cons, List.filterMap_cons, filt_ints p ns]
    cases h : p n <;> simp [intF, h]
theorem mem_ints {x : V} {ns : List Int} (h : x ∈ ns.map V.int) : ∃ r, r ∈ ns ∧ x = .int r := by
  obtain ⟨r, h1, h2⟩ := List.mem_map.mp h
  exact ⟨r, h1, h2.symm⟩
/-- looked_up(moments, moment, way, within) -/
def spLookedUp (K : PySem.W.Frag) : Sp := fun vs H Q _ => ∃ (a : Addr) (ms : List Int) (m : Int) (wy : Str) (lim : Option Int), vs = [.ref a, .int m, .str wy, oV lim] ∧ SqL K H a (ms.map V.int) ∧ ms.length ≤ 1000 ∧ ∀ H', Same H H' → Q (oV (lookedUp ms m wy lim)) H'
theorem ok_looked_up (T : Txt P K mg) {k : Nat} : FnOk P w K mg base CX0 (k + 2) T.looked_up.f T.looked_up.fd ["moments", "moment", "way", "within"] (spLookedUp K) := by
  have G_fits : FnOk P w K mg base CX0 (k + 1) T.fits.f T.fits.fd ["row", "moment", "way"] spFits := ok_fits T
  refine T.looked_up.F.ok (k := k + 1) sc_looked_up (fun vs H Q E h => ?_) (fun cdv A outer s H vs Q E hr h => ?_)
  · obtain ⟨a, ms, m, wy, lim, rfl, _⟩ := h
    rfl
  · obtain ⟨a, ms, m, wy, lim, rfl, ha, hl, q⟩ := h
    refine ⟨_, (pss_cons (ps_setLc (i := 4) (own := [("row", 5)]) (g := gName 5) (tt := (tB (tCall _ _ _ (tCons (tVar 5) (tCons (tVar 1) (tCons (tVar 2) tNil)))))) (te := (tVar 5)) rfl sc_looked_up.nd rfl rfl (sw_true rfl rfl rfl (by decide +kernel)) (pi_list (pv 0)) (blkOk_by (own := [("row", 5)]) (N := N_looked_up) (sc := defScope s_looked_up) (by decide +kernel)) (fun _ _ _ _ _ => (pg_name (i := 5) sc_looked_up.nd rfl (.inl rfl))) (fun _ _ _ _ _ => (pts_one (pt_val (pe_call G_fits (hr.mono (by omega)) (by rfl) T.fits.g T.fits.F.kp T.fits.b .nil pass0 (pa_cons (pv 5) (pa_cons (pv 1) (pa_cons (pv 2) pa_nil))))))) (fun _ _ _ _ _ => (pv 5)))
  (pss_cons (ps_if (pt_cmpR op_eq (pe_callB call_len_seq (by rfl) T.n_len PySem.boot_len (pa_cons (pv 4) pa_nil)) pe_int (nomark _)) (pss_one (ps_ret pe_non)) pss_nil)
  (pss_cons (ps_set (i := 5) sc_looked_up.nd rfl (.inl rfl) (pe_ix ix_list (pv 4) pe_int (fun _ _ => rfl)))
  (Evl.pss_cut (ps_if (PW.pt (pw_or (pt_cmpR op_eq (pv 2) pe_str (nomark _)) (pw_or1 (pt_cmpR op_eq (pv 2) pe_str (nomark _))))) (pss_one (ps_set (i := 5) sc_looked_up.nd rfl (.inl rfl) (pe_ix ix_list (pv 4) (pe_un un_neg pe_int) (fun _ _ => rfl)))) pss_nil)
  (pss_cons (ps_if (PW.pt (pw_and (pt_cmpR op_notN (pv 3) pe_non (nomark _)) (pw_and1 (pt_cmpR op_gt (pe_callB call_abs (by rfl) T.n_abs (by decide +kernel) (pa_cons (pe_op op_sub (pv 5) (pv 1)) pa_nil)) (pv 3) (nomark _))))) (pss_one (ps_ret pe_non)) pss_nil)
  (pss_one (ps_ret (pv 5)))))))), ?_⟩
    refine ⟨.ref a, rfl, a, rfl, ⟨_, ha⟩, fun D hD => ?_⟩
    refine lc_pure (K := K) (a := a) (xs := ms.map V.int) (intF fun r => fitsB r m wy) ha hD (by rw [List.length_map]; omega) (fun x H1 N N' hx s1 n1 n2 => ?_) (fun H1 s1 hD1 => ?_)
    · obtain ⟨r, _, rfl⟩ := mem_ints hx
      refine ⟨rfl, .int r, rfl, .int m, rfl, .str wy, rfl, r, m, wy, rfl, _, rfl, ?_⟩
      cases hf : fitsB r m wy with
      | true => exact iT rfl ⟨.int r, rfl, n1 _ _ (Same.refl _) (by simp [intF, hf])⟩
      | false => exact iF rfl (n2 _ (Same.refl _) (by simp [intF, hf]))
    · rw [filt_ints] at hD1
      unfold lookedUp at q
      generalize ms.filter (fitsB · m wy) = l at q hD1
      refine ⟨.ref D, rfl, D, _, rfl, .inl (SqL.of hD1), rfl, _, rfl, ?_⟩
      cases l with
      | nil => exact iT rfl (q H1 s1)
      | cons r rs =>
        refine iF (decide_eq_false (fun e => by
          have := V.int.inj e
          simp at this
          omega)) ?_
        refine ⟨.ref D, rfl, D, _, 0, .int r, rfl, rfl, SqL.of hD1, at_ix (by decide) rfl, ?_⟩
        have hlast : atI ((r :: rs).map V.int) (-1) = some (.int ((r :: rs).getLast (by simp))) := by
          have e : (r :: rs).map V.int = ((r :: rs).dropLast).map V.int ++ [V.int ((r :: rs).getLast (by simp))] := by
            rw [← List.map_singleton, ← List.map_append, List.dropLast_concat_getLast]
          rw [e]
          exact atI_last _ _
        refine ⟨fun σ H2 => H2 = H1 ∧ σ = [some (.ref a), some (.int m), some (.str wy), some (oV lim), some (.ref D), some (.int (if isBack wy then (r :: rs).getLast (by simp) else r))], ?_, ?_⟩
        · refine ⟨.str wy, rfl, rfl, _, rfl, ?_⟩
          rw [dstr]
          by_cases h1 : wy = "at"
          · refine iT (decide_eq_true h1) (iT rfl ?_)
            refine ⟨.ref D, rfl, 1, rfl, D, _, -1, _, rfl, rfl, SqL.of hD1, hlast, ?_⟩
            rw [if_pos (by simp [isBack, h1])]
            exact ⟨rfl, rfl⟩
          · refine iF (decide_eq_false h1) ⟨.str wy, rfl, rfl, _, rfl, ?_⟩
            rw [dstr]
            by_cases h2 : wy = "before"
            · refine iT (decide_eq_true h2) ?_
              refine ⟨.ref D, rfl, 1, rfl, D, _, -1, _, rfl, rfl, SqL.of hD1, hlast, ?_⟩
              rw [if_pos (by simp [isBack, h2])]
              exact ⟨rfl, rfl⟩
            · refine iF (decide_eq_false h2) ?_
              rw [if_neg (by simp [isBack, h1, h2])]
              exact ⟨rfl, rfl⟩
        · rintro σ H2 ⟨rfl, rfl⟩
          dsimp only at q
          generalize (if isBack wy then (r :: rs).getLast (by simp) else r) = y at q ⊢
          cases lim with
          | none => exact ⟨_, rfl, rfl, _, rfl, iF rfl (iF rfl ⟨_, rfl, q _ s1⟩)⟩
          | some l =>
            refine ⟨_, rfl, rfl, _, rfl, iT rfl ⟨_, rfl, _, rfl, y, m, rfl, rfl, _, rfl, _, rfl, _, l, rfl, rfl, _, rfl, ?_⟩⟩
            cases hf : tooFar y m (some l) with
            | true =>
              rw [hf, if_pos rfl] at q
              exact iT hf (q _ s1)
            | false =>
              rw [hf, if_neg Bool.false_ne_true] at q
              exact iF hf ⟨_, rfl, q _ s1⟩
end
end Pl

namespace Pl
open PySem L2
section
variable {P : Program} {w : World} {K : PySem.W.Frag} {mg : Str → Option Value} {base : Heap}
def Tm.isPair : Tm → Option (Tm × Tm)
  | .either a b => some (a, b)
  | .later a b => some (a, b)
  | .earlier a b => some (a, b)
  | _ => none
/-- Pair.__init__(self, first, second) -/
def spPairInit (T : Txt P K mg) : Sp := fun vs H Q _ => ∃ (G : Hp) (t u1 u2 : Tm) (x a d dx : Addr), vs = [.ref x, .ref a, .ref d] ∧ t.isPair = some (u1, u2) ∧ Same G H ∧ G x = none ∧ TmAt T.ca G u1 a ∧ TmAt T.ca G u2 d ∧ t.fits ∧ H x = some (.ins (t.cls T.ca) dx []) ∧ ∀ H', Same G H' → TmAt T.ca H' t x → Q .non H'
structure PCls (T : Txt P K mg) (t : Tm) : Prop where
  cl : Cls K (t.cls T.ca)
  n1 : NoAttr K (t.cls T.ca) "first"
  n2 : NoAttr K (t.cls T.ca) "second"
  sup : SupC K (t.cls T.ca) T.c_Pair T.Term_init.f "__init__"
theorem Txt.pc (T : Txt P K mg) {t u1 u2 : Tm} (h : t.isPair = some (u1, u2)) : PCls T t := by
  cases t with
  | either => exact ⟨T.o_Either.cl, T.n_Either_first, T.n_Either_second, T.s_Either_Pair⟩
  | later => exact ⟨T.o_Later.cl, T.n_Later_first, T.n_Later_second, T.s_Later_Pair⟩
  | earlier => exact ⟨T.o_Earlier.cl, T.n_Earlier_first, T.n_Earlier_second, T.s_Earlier_Pair⟩
  | _ => cases h
theorem ok_pair_init (T : Txt P K mg) {k : Nat} : FnR P w K mg base CX0 (k + 2) T.Pair_init.f (spPairInit T) := by
  refine T.Pair_init.ok (pre := (defBody s_Pair_init).take 2) rfl sc_Pair_init rfl rfl (by decide +kernel) (by decide) rfl T.n_super (fun _ _ _ _ _ _ _ us hl => match us, hl with | [_, _, _], _ => rfl) (ok_term_init T (k := k)) (fun vs H Q E h => ?_) (fun A outer s H vs Q E hr h => ?_)
  · obtain ⟨G, t, u1, u2, x, a, d, dx, rfl, _⟩ := h
    rfl
  · obtain ⟨G, t, u1, u2, x, a, d, dx, rfl, hp, sG, xG, h1, h2, hfit, hx, q⟩ := h
    have pc := T.pc hp
    refine ⟨_, _, (pss_cons (ps_fld (pv 0) (pv 1) rfl)
  (pss_one (ps_fld (pv 0) (pv 2) rfl))), (pa_cons (pv 1) (pa_cons (pv 2) pa_nil)), ?_⟩
    refine ⟨.ref a, rfl, .ref x, rfl, x, _, dx, [], rfl, hx, pc.cl, pc.n1, by decide, ?_⟩
    refine ⟨.ref d, rfl, .ref x, rfl, x, _, dx, _, rfl, upd_same, pc.cl, pc.n2, (by show 1 < 1000; decide), ?_⟩
    rw [upd_upd]
    have sG1 : Same G (upd H x (.ins (t.cls T.ca) dx (paF a d))) := same_mut sG xG
    have hk : KidsAt T.ca G t.kids [a, d] := by
      cases t with
      | either => cases hp; exact ⟨h1, h2, trivial⟩
      | later => cases hp; exact ⟨h1, h2, trivial⟩
      | earlier => cases hp; exact ⟨h1, h2, trivial⟩
      | _ => cases hp
    refine ⟨x, _, dx, paF a d, rfl, rfl, upd_same, pc.sup, .ref a, rfl, .ref d, rfl, G, t, x, dx, paF a d, [a, d], rfl, sG1, xG, hk, upd_same, (by show 2 ≤ 10; decide), hfit, fun H' s' b' h' => q H' s' ?_⟩
    cases t with
    | either => cases hp; exact ⟨dx, a, d, h', h1.same s', h2.same s'⟩
    | later => cases hp; exact ⟨dx, a, d, h', h1.same s', h2.same s'⟩
    | earlier => cases hp; exact ⟨dx, a, d, h', h1.same s', h2.same s'⟩
    | _ => cases hp
theorem mk_same {H : Hp} {x dx C : Addr} {fs : List (Str × V)} (hx : H x = none) (hdx : H dx = none) : Same H (upd (upd H dx (.own x)) x (.ins C dx fs)) := fun c o h => by
  rw [upd_ne (ne_of_none h hx), upd_ne (ne_of_none h hdx)]
  exact h
/-- one | other, one.later(other), one.earlier(other) -/
def spJoin (T : Txt P K mg) (f : Tm → Tm → Tm) : Sp := fun vs H Q _ => ∃ (t u : Tm) (a d : Addr), vs = [.ref a, .ref d] ∧ TmAt T.ca H t a ∧ TmAt T.ca H u d ∧ (f t u).fits ∧ ∀ r H', Same H H' → TmAt T.ca H' (f t u) r → Q (.ref r) H'
theorem ok_term_or (T : Txt P K mg) {k : Nat} : FnR P w K mg base CX0 (k + 4) T.Term_or.f (spJoin T .either) := by
  have G_check_term : FnOk P w K mg base CX0 (k + 1) T.check_term.f T.check_term.fd ["value"] (spCkTerm T) := ok_check_term T
  have G_Either_init : FnR P w K mg base CX0 (k + 2) T.Pair_init.f (spPairInit T) := ok_pair_init T
  refine toR (T.Term_or.F.ok (k := k + 3) sc_Term_or (fun vs H Q E h => ?_) (fun cdv A outer s H vs Q E hr h => ?_)) T.Term_or.b
  · obtain ⟨t, u, a, d, rfl, _⟩ := h
    rfl
  · obtain ⟨t, u, a, d, rfl, h1, h2, hf, q⟩ := h
    refine ⟨_, (pss_cons (ps_expr (pe_call G_check_term (hr.mono (by omega)) (by rfl) T.check_term.g T.check_term.F.kp T.check_term.b .nil pass0 (pa_cons (pv 1) pa_nil)))
  (pss_one (ps_ret (StX.pe_makeR T.mk_Either G_Either_init (hr.mono (by omega)) (by rfl) T.g_Either pass0 (pa_cons (pv 0) (pa_cons (pv 1) pa_nil)))))), ?_⟩
    refine ⟨.ref d, rfl, u, d, rfl, h2, .ref a, rfl, .ref d, rfl, fun x dx hx hdx _ => ?_⟩
    exact ⟨H, .either t u, t, u, x, a, d, dx, rfl, rfl, mk_same hx hdx, hx, h1, h2, hf, upd_same, fun H' s' h' => ⟨rfl, q x H' s' h'⟩⟩
theorem ok_term_later (T : Txt P K mg) {k : Nat} : FnR P w K mg base CX0 (k + 4) T.Term_later.f (spJoin T .later) := by
  have G_check_term : FnOk P w K mg base CX0 (k + 1) T.check_term.f T.check_term.fd ["value"] (spCkTerm T) := ok_check_term T
  have G_Later_init : FnR P w K mg base CX0 (k + 2) T.Pair_init.f (spPairInit T) := ok_pair_init T
  refine toR (T.Term_later.F.ok (k := k + 3) sc_Term_later (fun vs H Q E h => ?_) (fun cdv A outer s H vs Q E hr h => ?_)) T.Term_later.b
  · obtain ⟨t, u, a, d, rfl, _⟩ := h
    rfl
  · obtain ⟨t, u, a, d, rfl, h1, h2, hf, q⟩ := h
    refine ⟨_, (pss_cons (ps_expr (pe_call G_check_term (hr.mono (by omega)) (by rfl) T.check_term.g T.check_term.F.kp T.check_term.b .nil pass0 (pa_cons (pv 1) pa_nil)))
  (pss_one (ps_ret (StX.pe_makeR T.mk_Later G_Later_init (hr.mono (by omega)) (by rfl) T.g_Later pass0 (pa_cons (pv 0) (pa_cons (pv 1) pa_nil)))))), ?_⟩
    refine ⟨.ref d, rfl, u, d, rfl, h2, .ref a, rfl, .ref d, rfl, fun x dx hx hdx _ => ?_⟩
    exact ⟨H, .later t u, t, u, x, a, d, dx, rfl, rfl, mk_same hx hdx, hx, h1, h2, hf, upd_same, fun H' s' h' => ⟨rfl, q x H' s' h'⟩⟩
theorem ok_term_earlier (T : Txt P K mg) {k : Nat} : FnR P w K mg base CX0 (k + 4) T.Term_earlier.f (spJoin T .earlier) := by
  have G_check_term : FnOk P w K mg base CX0 (k + 1) T.check_term.f T.check_term.fd ["value"] (spCkTerm T) := ok_check_term T
  have G_Earlier_init : FnR P w K mg base CX0 (k + 2) T.Pair_init.f (spPairInit T) := ok_pair_init T
  refine toR (T.Term_earlier.F.ok (k := k + 3) sc_Term_earlier (fun vs H Q E h => ?_) (fun cdv A outer s H vs Q E hr h => ?_)) T.Term_earlier.b
  · obtain ⟨t, u, a, d, rfl, _⟩ := h
    rfl
  · obtain ⟨t, u, a, d, rfl, h1, h2, hf, q⟩ := h
    refine ⟨_, (pss_cons (ps_expr (pe_call G_check_term (hr.mono (by omega)) (by rfl) T.check_term.g T.check_term.F.kp T.check_term.b .nil pass0 (pa_cons (pv 1) pa_nil)))
  (pss_one (ps_ret (StX.pe_makeR T.mk_Earlier G_Earlier_init (hr.mono (by omega)) (by rfl) T.g_Earlier pass0 (pa_cons (pv 0) (pa_cons (pv 1) pa_nil)))))), ?_⟩
    refine ⟨.ref d, rfl, u, d, rfl, h2, .ref a, rfl, .ref d, rfl, fun x dx hx hdx _ => ?_⟩
    exact ⟨H, .earlier t u, t, u, x, a, d, dx, rfl, rfl, mk_same hx hdx, hx, h1, h2, hf, upd_same, fun H' s' h' => ⟨rfl, q x H' s' h'⟩⟩
/-- how | finds its def -/
theorem Txt.bc (T : Txt P K mg) (t : Tm) : BinC K (t.cls T.ca) T.Term_or.f .BitOr := by
  cases t
  · exact T.bc_Now_BitOr
  · exact T.bc_Shift_BitOr
  · exact T.bc_Look_BitOr
  · exact T.bc_Either_BitOr
  · exact T.bc_Later_BitOr
  · exact T.bc_Earlier_BitOr
theorem Txt.sb (T : Txt P K mg) (t u : Tm) : t.cls T.ca = u.cls T.ca ∨ PySem.W.subIn K (.ref (u.cls T.ca)) (.ref (t.cls T.ca)) = some false := by
  cases t <;> cases u <;> first
    | exact .inl rfl
    | exact .inr T.sb_Now_Shift | exact .inr T.sb_Now_Look | exact .inr T.sb_Now_Either | exact .inr T.sb_Now_Later | exact .inr T.sb_Now_Earlier
    | exact .inr T.sb_Shift_Now | exact .inr T.sb_Shift_Look | exact .inr T.sb_Shift_Either | exact .inr T.sb_Shift_Later | exact .inr T.sb_Shift_Earlier
    | exact .inr T.sb_Look_Now | exact .inr T.sb_Look_Shift | exact .inr T.sb_Look_Either | exact .inr T.sb_Look_Later | exact .inr T.sb_Look_Earlier
    | exact .inr T.sb_Either_Now | exact .inr T.sb_Either_Shift | exact .inr T.sb_Either_Look | exact .inr T.sb_Either_Later | exact .inr T.sb_Either_Earlier
    | exact .inr T.sb_Later_Now | exact .inr T.sb_Later_Shift | exact .inr T.sb_Later_Look | exact .inr T.sb_Later_Either | exact .inr T.sb_Later_Earlier
    | exact .inr T.sb_Earlier_Now | exact .inr T.sb_Earlier_Shift | exact .inr T.sb_Earlier_Look | exact .inr T.sb_Earlier_Either | exact .inr T.sb_Earlier_Later
theorem Txt.laterM (T : Txt P K mg) (t : Tm) : Meth K (t.cls T.ca) "later" T.Term_later.f := by
  cases t
  · exact T.m_Now_later
  · exact T.m_Shift_later
  · exact T.m_Look_later
  · exact T.m_Either_later
  · exact T.m_Later_later
  · exact T.m_Earlier_later
theorem Txt.earlierM (T : Txt P K mg) (t : Tm) : Meth K (t.cls T.ca) "earlier" T.Term_earlier.f := by
  cases t
  · exact T.m_Now_earlier
  · exact T.m_Shift_earlier
  · exact T.m_Look_earlier
  · exact T.m_Either_earlier
  · exact T.m_Later_earlier
  · exact T.m_Earlier_earlier
/-- an attribute that no term has -/
theorem TmAt.ins {c : CA} {H : Hp} {t : Tm} {a : Addr} (h : TmAt c H t a) : ∃ dx fs, H a = some (.ins (t.cls c) dx fs) ∧ fs.lookup ("later" : Str) = none ∧ fs.lookup ("earlier" : Str) = none ∧ fs.lookup ("streams" : Str) = none ∧ fs.lookup ("look_streams" : Str) = none ∧ fs.lookup ("children" : Str) = none ∧ fs.lookup ("part_at" : Str) = none ∧ fs.lookup ("part_paths" : Str) = none ∧ fs.lookup ("with_part" : Str) = none ∧ fs.lookup ("with_child" : Str) = none ∧ fs.lookup ("both" : Str) = none := by
  cases t with
  | now => obtain ⟨dx, h⟩ := h; exact ⟨dx, _, h, rfl, rfl, rfl, rfl, rfl, rfl, rfl, rfl, rfl, rfl⟩
  | shift m n => obtain ⟨dx, b, h, _⟩ := h; exact ⟨dx, _, h, rfl, rfl, rfl, rfl, rfl, rfl, rfl, rfl, rfl, rfl⟩
  | look s m wy lim => obtain ⟨dx, b, h, _⟩ := h; exact ⟨dx, _, h, rfl, rfl, rfl, rfl, rfl, rfl, rfl, rfl, rfl, rfl⟩
  | either x y => obtain ⟨dx, b, d, h, _⟩ := h; exact ⟨dx, _, h, rfl, rfl, rfl, rfl, rfl, rfl, rfl, rfl, rfl, rfl⟩
  | later x y => obtain ⟨dx, b, d, h, _⟩ := h; exact ⟨dx, _, h, rfl, rfl, rfl, rfl, rfl, rfl, rfl, rfl, rfl, rfl⟩
  | earlier x y => obtain ⟨dx, b, d, h, _⟩ := h; exact ⟨dx, _, h, rfl, rfl, rfl, rfl, rfl, rfl, rfl, rfl, rfl, rfl⟩
end
end Pl

namespace Pl
open PySem L2
/-! ### what a term answers -/
def Tm.ans (rows : Str → List Int) (now : Int) : Tm → Option Int
  | .now => some now
  | .shift m n => match m.ans rows now with
    | none => none
    | some x => some (x + n)
  | .look s m wy lim => match m.ans rows now with
    | none => none
    | some x => lookedUp (rows s) x wy lim
  | .either a b => match a.ans rows now with
    | none => b.ans rows now
    | some x => some x
  | .later a b => match a.ans rows now, b.ans rows now with
    | some x, some y => some (if y > x then y else x)
    | _, _ => none
  | .earlier a b => match a.ans rows now, b.ans rows now with
    | some x, some y => some (if y < x then y else x)
    | _, _ => none
/-- names, ways and limits are good -/
def Tm.wf : Tm → Prop
  | .now => True
  | .shift m _ => m.wf
  | .look s m wy lim => goodName s ∧ wy ∈ ways ∧ limOk lim ∧ m.wf
  | .either a b => a.wf ∧ b.wf
  | .later a b => a.wf ∧ b.wf
  | .earlier a b => a.wf ∧ b.wf
section
variable {P : Program} {w : World} {K : PySem.W.Frag} {mg : Str → Option Value} {base : Heap}
def rowF (H : Hp) (z : Str) : V → Option V
  | .ref t => match H t with
    | some (.tup [.str s, .int m]) => if s = z then some (.int m) else none
    | _ => none
  | _ => none
theorem rowF_all {H : Hp} {z : Str} : ∀ {vs : List V} {ps : List (Str × Int)}, PrsAt H vs ps → vs.filterMap (rowF H z) = (rowsOf ps z).map V.int
  | [], [], _ => rfl
  | v :: vs, p :: ps, h => by
    obtain ⟨t, e1, e2⟩ := h.2 0 p rfl
    cases e1
    have ih := rowF_all (z := z) (vs := vs) (ps := ps) ⟨Nat.succ.inj h.1, fun i q e => h.2 (i + 1) q e⟩
    unfold rowsOf at ih ⊢
    rw [List.filterMap_cons, List.filter_cons]
    have e3 : rowF H z (.ref t) = if p.1 = z then some (.int p.2) else none := by
      simp only [rowF, e2]
    rw [e3]
    by_cases hz : p.1 = z
    · rw [if_pos hz, if_pos (decide_eq_true hz), List.map_cons, List.map_cons, ih]
    · rw [if_neg hz, if_neg (by simp [hz]), ih]
  | [], _ :: _, h => nomatch h.1
  | _ :: _, [], h => nomatch h.1
/-- world[name] -/
def spGetItem (T : Txt P K mg) : Sp := fun vs H Q _ => ∃ (a l : Addr) (z : Str) (ps : List (Str × Int)), vs = [.ref a, .str z] ∧ WoA T H a l ps ∧ goodName z ∧ ps.length ≤ 1000 ∧ ∀ r H', Same H H' → H r = none → H' r = some (.lst ((rowsOf ps z).map V.int)) → Q (.ref r) H'
theorem ok_getitem (T : Txt P K mg) {k : Nat} : FnR P w K mg base CX0 (k + 3) T.World_getitem.f (spGetItem T) := by
  have G_check_name : FnOk P w K mg base CX0 (k + 2) T.check_name.f T.check_name.fd ["name"] spCkName := ok_check_name T
  refine toR (T.World_getitem.F.ok (k := k + 2) sc_World_getitem (fun vs H Q E h => ?_) (fun cdv A outer s H vs Q E hr h => ?_)) T.World_getitem.b
  · obtain ⟨a, l, z, ps, rfl, _⟩ := h
    rfl
  · obtain ⟨a, l, z, ps, rfl, hw, hz, hl, q⟩ := h
    refine ⟨_, (pss_cons (ps_expr (pe_call G_check_name (hr.mono (by omega)) (by rfl) T.check_name.g T.check_name.F.kp T.check_name.b .nil pass0 (pa_cons (pv 1) pa_nil)))
  (pss_one (ps_ret (pe_lc (own := [("stream", 2), ("moment", 3)]) (g := gTup K 2 (gCons (gName 2) (gCons (gName 3) gNil))) (tt := (tTest (tOp _ (tVar 2) (tVar 1)))) (te := (tVar 3)) rfl sc_World_getitem.nd (pi_list (pe_fld (pv 0) rfl)) (blkOk_by (own := [("stream", 2), ("moment", 3)]) (N := N_World_getitem) (sc := defScope s_World_getitem) (by decide +kernel)) (fun _ _ _ _ _ => (pg_tup rfl (pgs_cons (pg_name (i := 2) sc_World_getitem.nd rfl (.inl rfl)) (pgs_cons (pg_name (i := 3) sc_World_getitem.nd rfl (.inl rfl)) pgs_nil)))) (fun _ _ _ _ _ => (pts_one (pt_cmpR op_eq (pv 2) (pv 1) (nomark _)))) (fun _ _ _ _ _ => (pv 3)))))), ?_⟩
    refine ⟨.str z, rfl, z, rfl, hz, fun H1 s1 => ?_⟩
    obtain ⟨dx, vs, h1, h2, h3⟩ := hw.same s1
    refine ⟨.ref a, rfl, a, _, dx, _, _, rfl, h1, T.o_World.cl, T.n_World_pairs, rfl, l, rfl, ⟨_, SqL.of h2⟩, fun D hD => ?_⟩
    refine lc_pure (K := K) (a := l) (xs := vs) (rowF H1 z) (SqL.of h2) hD (by rw [h3.1]; omega) (fun x H2 N N' hx s2 n1 n2 => ?_) (fun H2 s2 hD2 => ?_)
    · obtain ⟨i, hi⟩ := List.mem_iff_getElem?.mp hx
      have hip : i < ps.length := by rw [← h3.1]; exact (List.getElem?_eq_some_iff.mp hi).1
      obtain ⟨t, e1, e2⟩ := h3.2 i ps[i] (List.getElem?_eq_getElem hip)
      rw [hi] at e1
      cases e1
      refine ⟨t, _, rfl, SqT.of (s2 _ _ e2), rfl, ?_⟩
      refine ⟨_, _, rfl, _, _, rfl, ?_⟩
      refine ⟨rfl, rfl, ?_⟩
      refine ⟨_, rfl, _, rfl, rfl, _, rfl, ?_⟩
      have e3 : rowF H1 z (.ref t) = if ps[i].1 = z then some (.int ps[i].2) else none := by simp only [rowF, e2]
      rw [dstr]
      by_cases hz : ps[i].1 = z
      · rw [if_pos hz] at e3
        exact iT (decide_eq_true hz) ⟨_, rfl, n1 _ _ (Same.refl _) e3⟩
      · rw [if_neg hz] at e3
        exact iF (decide_eq_false hz) (n2 _ (Same.refl _) e3)
    · rw [rowF_all h3] at hD2
      exact q D H2 (s1.trans s2) (s1.free hD) hD2
def Txt.ansF (T : Txt P K mg) : Kd → Addr
  | .now => T.Term_answer_in.f
  | .shift => T.Shift_answer_in.f
  | .look => T.Look_answer_in.f
  | .either => T.Either_answer_in.f
  | .later => T.Later_answer_in.f
  | .earlier => T.Earlier_answer_in.f
theorem Txt.ansM (T : Txt P K mg) (t : Tm) : Meth K (t.cls T.ca) "answer_in" (T.ansF t.kind) := by
  cases t
  · exact T.m_Now_answer_in
  · exact T.m_Shift_answer_in
  · exact T.m_Look_answer_in
  · exact T.m_Either_answer_in
  · exact T.m_Later_answer_in
  · exact T.m_Earlier_answer_in
def spAns (T : Txt P K mg) (n : Nat) (kd : Kd) : Sp := fun vs H Q _ => ∃ (t : Tm) (a wa l : Addr) (ps : List (Str × Int)) (x : Int), vs = [.ref a, .ref wa, .int x] ∧ t.kind = kd ∧ t.depth ≤ n ∧ t.wf ∧ TmAt T.ca H t a ∧ WoA T H wa l ps ∧ ps.length ≤ 1000 ∧ ∀ H', Same H H' → Q (oV (t.ans (rowsOf ps) x)) H'
/-- o.answer_in(world, now) -/
theorem rd_ans (T : Txt P K mg) {n : Nat} {σ : St} {H : Hp} {Q : VK} {tw tn : TE} {t : Tm} {a wa l : Addr} {ps : List (Str × Int)} {x : Int} (hd : t.depth ≤ n) (hw : t.wf) (hta : TmAt T.ca H t a) (ho : WoA T H wa l ps) (hl : ps.length ≤ 1000) (h1 : ∀ Q' : VK, Q' (.ref wa) H → tw σ H Q') (h2 : ∀ Q' : VK, Q' (.int x) H → tn σ H Q')
    (q : ∀ H', Same H H' → Q (oV (t.ans (rowsOf ps) x)) H') :
    ∃ a' C dx fs i, V.ref a = .ref a' ∧ H a' = some (.ins C dx fs) ∧ fs.lookup ("answer_in" : Str) = none ∧ Cls K C ∧ Meth K C "answer_in" (T.ansF i) ∧ tCons tw (tCons tn tNil) σ H fun vs H2 => spAns T n i (.ref a :: vs) H2 Q E0 := by
  obtain ⟨dx, fs, g1, _, _, _, _, _, g2⟩ := hta.obj
  exact ⟨a, _, dx, fs, t.kind, rfl, g1, g2, (T.kc t).o.cl, T.ansM t, h1 _ (h2 _ ⟨t, a, wa, l, ps, x, rfl, rfl, hd, hw, hta, ho, hl, q⟩)⟩
theorem oV_none {o : Option Int} (h : o = none) : decide (oV o = .non) = true := by subst h; rfl
theorem oV_some {o : Option Int} {x : Int} (h : o = some x) : decide (oV o = .non) = false := by subst h; rfl
theorem ok_ans (T : Txt P K mg) {k : Nat} : ∀ (n : Nat) (kd : Kd), FnR P w K mg base CX0 (k + 4 + n) (T.ansF kd) (spAns T n kd)
  | 0, kd => fun A outer s H us vs Q E hr e0 r h => by
    obtain ⟨t, a, _, _, _, _, _, _, hd, _⟩ := h
    have := depth_pos t
    omega
  | n + 1, kd => by
    have G_answer_in : ∀ kd, FnR P w K mg base CX0 (k + 4 + n) (T.ansF kd) (spAns T n kd) := fun kd => ok_ans T n kd
    have G_getitem : FnR P w K mg base CX0 (k + 3) T.World_getitem.f (spGetItem T) := ok_getitem T
    have G_looked_up : FnOk P w K mg base CX0 (k + 2) T.looked_up.f T.looked_up.fd ["moments", "moment", "way", "within"] (spLookedUp K) := ok_looked_up T
    cases kd with
    | now =>
      refine toR (T.Term_answer_in.F.ok (k := k + 4 + n) sc_Term_answer_in (fun vs H Q E h => ?_) (fun cdv A outer s H vs Q E hr h => ?_)) T.Term_answer_in.b
      · obtain ⟨t, a, wa, l, ps, x, rfl, _⟩ := h
        rfl
      · obtain ⟨t, a, wa, l, ps, x, rfl, hk, hd, hw, hta, ho, hl, q⟩ := h
        cases t with
        | now =>
          refine ⟨_, (pss_one (ps_ret (pv 2))), ?_⟩
          exact ⟨.int x, rfl, q H (Same.refl H)⟩
        | _ => cases hk
    | shift =>
      refine toR (T.Shift_answer_in.F.ok (k := k + 4 + n) sc_Shift_answer_in (fun vs H Q E h => ?_) (fun cdv A outer s H vs Q E hr h => ?_)) T.Shift_answer_in.b
      · obtain ⟨t, a, wa, l, ps, x, rfl, _⟩ := h
        rfl
      · obtain ⟨t, a, wa, l, ps, x, rfl, hk, hd, hw, hta, ho, hl, q⟩ := h
        cases t with
        | shift m i =>
          obtain ⟨dx, b, ha, hm⟩ := hta
          have hd' : m.depth ≤ n := by simp only [Tm.depth] at hd; omega
          refine ⟨_, (pss_cons (ps_set (i := 3) sc_Shift_answer_in.nd rfl (.inl rfl) (pe_methV (pe_fld (pv 0) rfl) G_answer_in (hr.mono (by omega)) pass0 (pa_cons (pv 1) (pa_cons (pv 2) pa_nil))))
  (pss_cons (ps_if (pt_cmpR op_isN (pv 3) pe_non (nomark _)) (pss_one (ps_ret pe_non)) pss_nil)
  (pss_one (ps_ret (pe_op op_add (pv 3) (pe_fld (pv 0) rfl)))))), ?_⟩
          refine ⟨.ref a, rfl, a, _, dx, _, _, rfl, ha, T.o_Shift.cl, T.n_Shift_moment, rfl, ?_⟩
          refine rd_ans T (t := m) (x := x) hd' hw hm ho hl (fun Q' h => ⟨_, rfl, h⟩) (fun Q' h => ⟨.int x, rfl, h⟩) fun H1 s1 => ?_
          simp only [Tm.ans] at q
          cases e : m.ans (rowsOf ps) x with
          | none =>
            rw [e] at q
            exact ⟨_, rfl, rfl, _, rfl, iT rfl (q H1 s1)⟩
          | some y =>
            rw [e] at q
            exact ⟨_, rfl, rfl, _, rfl, iF rfl ⟨.int y, rfl, .ref a, rfl, a, _, dx, _, _, rfl, s1 _ _ ha, T.o_Shift.cl, T.n_Shift_amount, rfl, _, _, rfl, rfl, q H1 s1⟩⟩
        | _ => cases hk
    | look =>
      refine toR (T.Look_answer_in.F.ok (k := k + 4 + n) sc_Look_answer_in (fun vs H Q E h => ?_) (fun cdv A outer s H vs Q E hr h => ?_)) T.Look_answer_in.b
      · obtain ⟨t, a, wa, l, ps, x, rfl, _⟩ := h
        rfl
      · obtain ⟨t, a, wa, l, ps, x, rfl, hk, hd, hw, hta, ho, hl, q⟩ := h
        cases t with
        | look z m wy lim =>
          obtain ⟨dx, b, ha, hm⟩ := hta
          obtain ⟨w1, w2, w3, w4⟩ := hw
          have hd' : m.depth ≤ n := by simp only [Tm.depth] at hd; omega
          refine ⟨_, (pss_cons (ps_set (i := 3) sc_Look_answer_in.nd rfl (.inl rfl) (pe_methV (pe_fld (pv 0) rfl) G_answer_in (hr.mono (by omega)) pass0 (pa_cons (pv 1) (pa_cons (pv 2) pa_nil))))
  (pss_cons (ps_if (pt_cmpR op_isN (pv 3) pe_non (nomark _)) (pss_one (ps_ret pe_non)) pss_nil)
  (pss_one (ps_ret (pe_call G_looked_up (hr.mono (by omega)) (by rfl) T.looked_up.g T.looked_up.F.kp T.looked_up.b .nil pass0 (pa_cons (pe_getO G_getitem (hr.mono (by omega)) pass0 (pv 1) (pe_fld (pv 0) rfl)) (pa_cons (pv 3) (pa_cons (pe_fld (pv 0) rfl) (pa_cons (pe_fld (pv 0) rfl) pa_nil))))))))), ?_⟩
          refine ⟨.ref a, rfl, a, _, dx, _, _, rfl, ha, T.o_Look.cl, T.n_Look_moment, rfl, ?_⟩
          refine rd_ans T (t := m) (x := x) hd' w4 hm ho hl (fun Q' h => ⟨_, rfl, h⟩) (fun Q' h => ⟨.int x, rfl, h⟩) fun H1 s1 => ?_
          simp only [Tm.ans] at q
          cases e : m.ans (rowsOf ps) x with
          | none =>
            rw [e] at q
            exact ⟨_, rfl, rfl, _, rfl, iT rfl (q H1 s1)⟩
          | some y =>
            rw [e] at q
            refine ⟨_, rfl, rfl, _, rfl, iF rfl ⟨.ref wa, rfl, .ref a, rfl, a, _, dx, _, _, rfl, s1 _ _ ha, T.o_Look.cl, T.n_Look_stream, rfl, ?_⟩⟩
            obtain ⟨dw, vs, hwa, _⟩ := ho.same s1
            refine ⟨wa, _, dw, _, rfl, hwa, T.gi_World, wa, l, z, ps, rfl, ho.same s1, w1, hl, fun r H2 s2 _ hr2 => ?_⟩
            have ha2 := s2 _ _ (s1 _ _ ha)
            refine ⟨.int y, rfl, .ref a, rfl, a, _, dx, _, _, rfl, ha2, T.o_Look.cl, T.n_Look_way, rfl, .ref a, rfl, a, _, dx, _, _, rfl, ha2, T.o_Look.cl, T.n_Look_within, rfl, ?_⟩
            refine ⟨r, rowsOf ps z, y, wy, lim, rfl, SqL.of hr2, ?_, fun H3 s3 => q H3 ((s1.trans s2).trans s3)⟩
            unfold rowsOf
            rw [List.length_map]
            exact Nat.le_trans (List.length_filter_le _ _) hl
        | _ => cases hk
    | either =>
      refine toR (T.Either_answer_in.F.ok (k := k + 4 + n) sc_Either_answer_in (fun vs H Q E h => ?_) (fun cdv A outer s H vs Q E hr h => ?_)) T.Either_answer_in.b
      · obtain ⟨t, a, wa, l, ps, x, rfl, _⟩ := h
        rfl
      · obtain ⟨t, a, wa, l, ps, x, rfl, hk, hd, hw, hta, ho, hl, q⟩ := h
        cases t with
        | either t1 t2 =>
          obtain ⟨dx, b, d, ha, hx, hy⟩ := hta
          have hd1 : t1.depth ≤ n := by simp only [Tm.depth] at hd; omega
          have hd2 : t2.depth ≤ n := by simp only [Tm.depth] at hd; omega
          refine ⟨_, (pss_cons (ps_set (i := 3) sc_Either_answer_in.nd rfl (.inl rfl) (pe_methV (pe_fld (pv 0) rfl) G_answer_in (hr.mono (by omega)) pass0 (pa_cons (pv 1) (pa_cons (pv 2) pa_nil))))
  (pss_cons (ps_if (pt_cmpR op_isN (pv 3) pe_non (nomark _)) (pss_one (ps_ret (pe_methV (pe_fld (pv 0) rfl) G_answer_in (hr.mono (by omega)) pass0 (pa_cons (pv 1) (pa_cons (pv 2) pa_nil))))) pss_nil)
  (pss_one (ps_ret (pv 3))))), ?_⟩
          refine ⟨.ref a, rfl, a, _, dx, _, _, rfl, ha, T.o_Either.cl, T.n_Either_first, rfl, ?_⟩
          refine rd_ans T (t := t1) (x := x) hd1 hw.1 hx ho hl (fun Q' h => ⟨_, rfl, h⟩) (fun Q' h => ⟨.int x, rfl, h⟩) fun H1 s1 => ?_
          simp only [Tm.ans] at q
          cases e : t1.ans (rowsOf ps) x with
          | none =>
            rw [e] at q
            refine ⟨_, rfl, rfl, _, rfl, iT rfl ⟨.ref a, rfl, a, _, dx, _, _, rfl, s1 _ _ ha, T.o_Either.cl, T.n_Either_second, rfl, ?_⟩⟩
            exact rd_ans T (t := t2) (x := x) hd2 hw.2 (hy.same s1) (ho.same s1) hl (fun Q' h => ⟨_, rfl, h⟩) (fun Q' h => ⟨.int x, rfl, h⟩) fun H2 s2 => q H2 (s1.trans s2)
          | some y =>
            rw [e] at q
            exact ⟨_, rfl, rfl, _, rfl, iF rfl ⟨.int y, rfl, q H1 s1⟩⟩
        | _ => cases hk
    | later =>
      refine toR (T.Later_answer_in.F.ok (k := k + 4 + n) sc_Later_answer_in (fun vs H Q E h => ?_) (fun cdv A outer s H vs Q E hr h => ?_)) T.Later_answer_in.b
      · obtain ⟨t, a, wa, l, ps, x, rfl, _⟩ := h
        rfl
      · obtain ⟨t, a, wa, l, ps, x, rfl, hk, hd, hw, hta, ho, hl, q⟩ := h
        cases t with
        | later t1 t2 =>
          obtain ⟨dx, b, d, ha, hx, hy⟩ := hta
          have hd1 : t1.depth ≤ n := by simp only [Tm.depth] at hd; omega
          have hd2 : t2.depth ≤ n := by simp only [Tm.depth] at hd; omega
          refine ⟨_, (pss_cons (ps_set (i := 3) sc_Later_answer_in.nd rfl (.inl rfl) (pe_methV (pe_fld (pv 0) rfl) G_answer_in (hr.mono (by omega)) pass0 (pa_cons (pv 1) (pa_cons (pv 2) pa_nil))))
  (pss_cons (ps_set (i := 4) sc_Later_answer_in.nd rfl (.inl rfl) (pe_methV (pe_fld (pv 0) rfl) G_answer_in (hr.mono (by omega)) pass0 (pa_cons (pv 1) (pa_cons (pv 2) pa_nil))))
  (pss_cons (ps_if (PW.pt (pw_or (pt_cmpR op_isN (pv 3) pe_non (nomark _)) (pw_or1 (pt_cmpR op_isN (pv 4) pe_non (nomark _))))) (pss_one (ps_ret pe_non)) pss_nil)
  (pss_one (ps_ret (pe_callB (call_max2 rfl) (by rfl) T.n_max (by decide +kernel) (pa_cons (pv 3) (pa_cons (pv 4) pa_nil)))))))), ?_⟩
          refine ⟨.ref a, rfl, a, _, dx, _, _, rfl, ha, T.o_Later.cl, T.n_Later_first, rfl, ?_⟩
          refine rd_ans T (t := t1) (x := x) hd1 hw.1 hx ho hl (fun Q' h => ⟨_, rfl, h⟩) (fun Q' h => ⟨.int x, rfl, h⟩) fun H1 s1 => ?_
          refine ⟨.ref a, rfl, a, _, dx, _, _, rfl, s1 _ _ ha, T.o_Later.cl, T.n_Later_second, rfl, ?_⟩
          refine rd_ans T (t := t2) (x := x) hd2 hw.2 (hy.same s1) (ho.same s1) hl (fun Q' h => ⟨_, rfl, h⟩) (fun Q' h => ⟨.int x, rfl, h⟩) fun H2 s2 => ?_
          simp only [Tm.ans] at q
          cases e : t1.ans (rowsOf ps) x with
          | none =>
            rw [e] at q
            exact ⟨_, rfl, rfl, _, rfl, iT rfl (iT rfl (q H2 (s1.trans s2)))⟩
          | some y =>
            rw [e] at q
            cases e2 : t2.ans (rowsOf ps) x with
            | none =>
              rw [e2] at q
              exact ⟨_, rfl, rfl, _, rfl, iF rfl ⟨_, rfl, rfl, _, rfl, iT rfl (q H2 (s1.trans s2))⟩⟩
            | some y2 =>
              rw [e2] at q
              exact ⟨_, rfl, rfl, _, rfl, iF rfl ⟨_, rfl, rfl, _, rfl, iF rfl ⟨.int y, rfl, .int y2, rfl, y, y2, rfl, q H2 (s1.trans s2)⟩⟩⟩
        | _ => cases hk
    | earlier =>
      refine toR (T.Earlier_answer_in.F.ok (k := k + 4 + n) sc_Earlier_answer_in (fun vs H Q E h => ?_) (fun cdv A outer s H vs Q E hr h => ?_)) T.Earlier_answer_in.b
      · obtain ⟨t, a, wa, l, ps, x, rfl, _⟩ := h
        rfl
      · obtain ⟨t, a, wa, l, ps, x, rfl, hk, hd, hw, hta, ho, hl, q⟩ := h
        cases t with
        | earlier t1 t2 =>
          obtain ⟨dx, b, d, ha, hx, hy⟩ := hta
          have hd1 : t1.depth ≤ n := by simp only [Tm.depth] at hd; omega
          have hd2 : t2.depth ≤ n := by simp only [Tm.depth] at hd; omega
          refine ⟨_, (pss_cons (ps_set (i := 3) sc_Earlier_answer_in.nd rfl (.inl rfl) (pe_methV (pe_fld (pv 0) rfl) G_answer_in (hr.mono (by omega)) pass0 (pa_cons (pv 1) (pa_cons (pv 2) pa_nil))))
  (pss_cons (ps_set (i := 4) sc_Earlier_answer_in.nd rfl (.inl rfl) (pe_methV (pe_fld (pv 0) rfl) G_answer_in (hr.mono (by omega)) pass0 (pa_cons (pv 1) (pa_cons (pv 2) pa_nil))))
  (pss_cons (ps_if (PW.pt (pw_or (pt_cmpR op_isN (pv 3) pe_non (nomark _)) (pw_or1 (pt_cmpR op_isN (pv 4) pe_non (nomark _))))) (pss_one (ps_ret pe_non)) pss_nil)
  (pss_one (ps_ret (pe_callB (call_min2 rfl) (by rfl) T.n_min (by decide +kernel) (pa_cons (pv 3) (pa_cons (pv 4) pa_nil)))))))), ?_⟩
          refine ⟨.ref a, rfl, a, _, dx, _, _, rfl, ha, T.o_Earlier.cl, T.n_Earlier_first, rfl, ?_⟩
          refine rd_ans T (t := t1) (x := x) hd1 hw.1 hx ho hl (fun Q' h => ⟨_, rfl, h⟩) (fun Q' h => ⟨.int x, rfl, h⟩) fun H1 s1 => ?_
          refine ⟨.ref a, rfl, a, _, dx, _, _, rfl, s1 _ _ ha, T.o_Earlier.cl, T.n_Earlier_second, rfl, ?_⟩
          refine rd_ans T (t := t2) (x := x) hd2 hw.2 (hy.same s1) (ho.same s1) hl (fun Q' h => ⟨_, rfl, h⟩) (fun Q' h => ⟨.int x, rfl, h⟩) fun H2 s2 => ?_
          simp only [Tm.ans] at q
          cases e : t1.ans (rowsOf ps) x with
          | none =>
            rw [e] at q
            exact ⟨_, rfl, rfl, _, rfl, iT rfl (iT rfl (q H2 (s1.trans s2)))⟩
          | some y =>
            rw [e] at q
            cases e2 : t2.ans (rowsOf ps) x with
            | none =>
              rw [e2] at q
              exact ⟨_, rfl, rfl, _, rfl, iF rfl ⟨_, rfl, rfl, _, rfl, iT rfl (q H2 (s1.trans s2))⟩⟩
            | some y2 =>
              rw [e2] at q
              exact ⟨_, rfl, rfl, _, rfl, iF rfl ⟨_, rfl, rfl, _, rfl, iF rfl ⟨.int y, rfl, .int y2, rfl, y, y2, rfl, q H2 (s1.trans s2)⟩⟩⟩
        | _ => cases hk
/-- term(world, now) -/
def spTCall (T : Txt P K mg) : Sp := fun vs H Q _ => ∃ (t : Tm) (a wa l : Addr) (ps : List (Str × Int)) (x : Int), vs = [.ref a, .ref wa, .int x] ∧ t.depth ≤ 12 ∧ t.wf ∧ TmAt T.ca H t a ∧ WoA T H wa l ps ∧ ps.length ≤ 1000 ∧ ∀ H', Same H H' → Q (oV (t.ans (rowsOf ps) x)) H'
theorem ok_term_call (T : Txt P K mg) {k : Nat} : FnR P w K mg base CX0 (k + 17) T.Term_call.f (spTCall T) := by
  have G_check_moment : FnOk P w K mg base CX0 (k + 2) T.check_moment.f T.check_moment.fd ["value"] spCkMoment := ok_check_moment T
  have G_check_world : FnOk P w K mg base CX0 (k + 1) T.check_world.f T.check_world.fd ["value"] (spCkWorld T) := ok_check_world T
  have G_answer_in : ∀ kd, FnR P w K mg base CX0 (k + 4 + 12) (T.ansF kd) (spAns T 12 kd) := fun b => ok_ans T 12 b
  refine toR (T.Term_call.F.ok (k := k + 16) sc_Term_call (fun vs H Q E h => ?_) (fun cdv A outer s H vs Q E hr h => ?_)) T.Term_call.b
  · obtain ⟨t, a, wa, l, ps, x, rfl, _⟩ := h
    rfl
  · obtain ⟨t, a, wa, l, ps, x, rfl, hd, hw, hta, ho, hl, q⟩ := h
    refine ⟨_, (pss_cons (ps_expr (pe_call G_check_world (hr.mono (by omega)) (by rfl) T.check_world.g T.check_world.F.kp T.check_world.b .nil pass0 (pa_cons (pv 1) pa_nil)))
  (pss_cons (ps_expr (pe_call G_check_moment (hr.mono (by omega)) (by rfl) T.check_moment.g T.check_moment.F.kp T.check_moment.b .nil pass0 (pa_cons (pv 2) pa_nil)))
  (pss_one (ps_ret (pe_methV (pv 0) G_answer_in (hr.mono (by omega)) pass0 (pa_cons (pv 1) (pa_cons (pv 2) pa_nil))))))), ?_⟩
    refine ⟨.ref wa, rfl, wa, rfl, ho.is, .int x, rfl, x, rfl, .ref a, rfl, ?_⟩
    exact rd_ans T (t := t) (x := x) hd hw hta ho hl (fun Q' h => ⟨.ref wa, rfl, h⟩) (fun Q' h => ⟨.int x, rfl, h⟩) q
theorem callO_of (T : Txt P K mg) (t : Tm) : StX.CallO K (t.cls T.ca) T.Term_call.f := by
  cases t with
  | now => exact T.call_Now
  | shift => exact T.call_Shift
  | look => exact T.call_Look
  | either => exact T.call_Either
  | later => exact T.call_Later
  | earlier => exact T.call_Earlier
end
end Pl

namespace Pl
open PySem L2
/-! ### the law's own trees -/
def Tm.isShift : Tm → Bool
  | .shift _ _ => true
  | _ => false
/-- no shift by 0, no shift directly in a shift -/
def Tm.norm : Tm → Prop
  | .now => True
  | .shift m n => n ≠ 0 ∧ m.isShift = false ∧ m.norm
  | .look _ m _ _ => m.norm
  | .either a b => a.norm ∧ b.norm
  | .later a b => a.norm ∧ b.norm
  | .earlier a b => a.norm ∧ b.norm
/-- its looks are of these streams -/
def Tm.over (zs : List Str) : Tm → Prop
  | .now => True
  | .shift m _ => m.over zs
  | .look s m _ _ => s ∈ zs ∧ m.over zs
  | .either a b => a.over zs ∧ b.over zs
  | .later a b => a.over zs ∧ b.over zs
  | .earlier a b => a.over zs ∧ b.over zs
def Tm.plusL : Tm → Int → Tm
  | .shift m n, k => if k + n = 0 then m else .shift m (k + n)
  | t, k => if k = 0 then t else .shift t k
theorem Tm.plusL_eq {t : Tm} (h : t.norm) (k : Int) : t.plusL k = t.plus k := by
  cases t with
  | shift m n =>
    simp only [Tm.plusL, Tm.plus]
    by_cases hk : k = 0
    · subst hk
      rw [if_pos rfl, Int.zero_add, if_neg h.1]
    · rw [if_neg hk]
  | _ => rfl
structure TrOk (zs : List Str) (l j : Nat) (t : Tm) : Prop where
  wf : t.wf
  nm : t.norm
  ov : t.over zs
  dp : t.depth ≤ l + j + 2
  pt : t.parts ≤ l + 3 * j + 2
  lk : t.looks = l
  ch : t.choices ≤ l + j
theorem plus_ok (t : Tm) (k : Int) : (t.plus k).depth ≤ t.depth + 1 ∧ (t.plus k).parts ≤ t.parts + 1 ∧ (t.plus k).looks = t.looks ∧ (t.plus k).choices = t.choices ∧ (t.wf → (t.plus k).wf) ∧ (t.norm → (t.plus k).norm) ∧ ∀ zs, t.over zs → (t.plus k).over zs := by
  cases t with
  | shift m n =>
    simp only [Tm.plus]
    split
    · exact ⟨by omega, by omega, rfl, rfl, id, id, fun _ h => h⟩
    · split
      · exact ⟨by simp only [Tm.depth]; omega, by simp only [Tm.parts]; omega, rfl, rfl, id, fun h => h.2.2, fun _ h => h⟩
      · rename_i h1 h2
        exact ⟨by simp only [Tm.depth]; omega, by simp only [Tm.parts]; omega, rfl, rfl, id, fun h => ⟨h2, h.2.1, h.2.2⟩, fun _ h => h⟩
  | _ =>
    simp only [Tm.plus]
    split
    · exact ⟨by omega, by omega, rfl, rfl, id, id, fun _ h => h⟩
    · rename_i h1
      exact ⟨by simp only [Tm.depth]; omega, by simp only [Tm.parts]; omega, rfl, rfl, id, fun h => ⟨h1, rfl, h⟩, fun _ h => h⟩
def TrAt (H : Hp) : Tm → Addr → Prop
  | .now, a => H a = some (.tup [.str "now"])
  | .shift m n, a => ∃ b, H a = some (.tup [.str "shift", .int n, .ref b]) ∧ TrAt H m b
  | .look s m wy lim, a => ∃ b, H a = some (.tup [.str "look", .str s, .str wy, oV lim, .ref b]) ∧ TrAt H m b
  | .either x y, a => ∃ b d, H a = some (.tup [.str "either", .ref b, .ref d]) ∧ TrAt H x b ∧ TrAt H y d
  | .later x y, a => ∃ b d, H a = some (.tup [.str "later", .ref b, .ref d]) ∧ TrAt H x b ∧ TrAt H y d
  | .earlier x y, a => ∃ b d, H a = some (.tup [.str "earlier", .ref b, .ref d]) ∧ TrAt H x b ∧ TrAt H y d
theorem TrAt.same {H H' : Hp} (s : Same H H') : ∀ {t : Tm} {a : Addr}, TrAt H t a → TrAt H' t a
  | .now, _, h => s _ _ h
  | .shift _ _, _, ⟨b, h, h1⟩ => ⟨b, s _ _ h, h1.same s⟩
  | .look _ _ _ _, _, ⟨b, h, h1⟩ => ⟨b, s _ _ h, h1.same s⟩
  | .either _ _, _, ⟨b, d, h, h1, h2⟩ => ⟨b, d, s _ _ h, h1.same s, h2.same s⟩
  | .later _ _, _, ⟨b, d, h, h1, h2⟩ => ⟨b, d, s _ _ h, h1.same s, h2.same s⟩
  | .earlier _ _, _, ⟨b, d, h, h1, h2⟩ => ⟨b, d, s _ _ h, h1.same s, h2.same s⟩
theorem TrAt.mn {S : List Addr} {H : Hp} (hS : Lsts S H) : ∀ {t : Tm} {a : Addr}, TrAt H t a → TrAt (mn S H) t a := by
  have key : ∀ {a : Addr} {xs : List V}, H a = some (.tup xs) → Pl.mn S H a = some (.tup xs) := fun {a xs} h => mn_nl hS h (fun _ z => nomatch z)
  intro t
  induction t with
  | now => intro a h; exact key h
  | shift m n ih => intro a ⟨b, h, h1⟩; exact ⟨b, key h, ih h1⟩
  | look s m wy lim ih => intro a ⟨b, h, h1⟩; exact ⟨b, key h, ih h1⟩
  | either x y i1 i2 => intro a ⟨b, d, h, h1, h2⟩; exact ⟨b, d, key h, i1 h1, i2 h2⟩
  | later x y i1 i2 => intro a ⟨b, d, h, h1, h2⟩; exact ⟨b, d, key h, i1 h1, i2 h2⟩
  | earlier x y i1 i2 => intro a ⟨b, d, h, h1, h2⟩; exact ⟨b, d, key h, i1 h1, i2 h2⟩
/-- the word at the head of a tree -/
def Tm.word : Tm → Str
  | .now => "now"
  | .shift _ _ => "shift"
  | .look _ _ _ _ => "look"
  | .either _ _ => "either"
  | .later _ _ => "later"
  | .earlier _ _ => "earlier"
theorem TrAt.obj {H : Hp} {t : Tm} {a : Addr} (h : TrAt H t a) : ∃ xs, H a = some (.tup (.str t.word :: xs)) := by
  cases t with
  | now => exact ⟨_, h⟩
  | shift => obtain ⟨b, h, _⟩ := h; exact ⟨_, h⟩
  | look => obtain ⟨b, h, _⟩ := h; exact ⟨_, h⟩
  | either => obtain ⟨b, d, h, _⟩ := h; exact ⟨_, h⟩
  | later => obtain ⟨b, d, h, _⟩ := h; exact ⟨_, h⟩
  | earlier => obtain ⟨b, d, h, _⟩ := h; exact ⟨_, h⟩
section
variable {P : Program} {w : World} {K : PySem.W.Frag} {mg : Str → Option Value} {base : Heap}
/-- _law_shift -/
def spShiftL : Sp := fun vs H Q _ => ∃ (t : Tm) (a : Addr) (k : Int), vs = [.ref a, .int k] ∧ TrAt H t a ∧ ∀ r H', Same H H' → TrAt H' (t.plusL k) r → Q (.ref r) H'
theorem ok_law_shift (T : Txt P K mg) {k : Nat} : FnOk P w K mg base CX0 (k + 1) T.law_shift.f T.law_shift.fd ["_law_tree_here", "_law_amount"] spShiftL := by
  refine T.law_shift.F.ok (k := k) sc_law_shift (fun vs H Q E h => ?_) (fun cdv A outer s H vs Q E hr h => ?_)
  · obtain ⟨t, a, k, rfl, _⟩ := h
    rfl
  · obtain ⟨t, a, n, rfl, ht, q⟩ := h
    refine ⟨_, (pss_cons (ps_if (pt_cmpR op_eq (pe_ix ix_tup (pv 0) pe_int (fun _ _ => rfl)) pe_str (nomark _)) (pss_cons (ps_set (i := 1) sc_law_shift.nd rfl (.inl rfl) (pe_op op_add (pv 1) (pe_ix ix_tup (pv 0) pe_int (fun _ _ => rfl))))
  (pss_one (ps_set (i := 0) sc_law_shift.nd rfl (.inl rfl) (pe_ix ix_tup (pv 0) pe_int (fun _ _ => rfl))))) pss_nil)
  (pss_cons (ps_if (pt_cmpR op_eq (pv 1) pe_int (nomark _)) (pss_one (ps_ret (pv 0))) pss_nil)
  (pss_one (ps_ret (pe_tup (pa_cons pe_str (pa_cons (pv 1) (pa_cons (pv 0) pa_nil)))))))), ?_⟩
    obtain ⟨xs, ho⟩ := ht.obj
    refine ⟨_, rfl, a, _, 0, .str t.word, rfl, rfl, SqT.of ho, at_ix (by decide) rfl, rfl, _, rfl, ?_⟩
    rw [dstr]
    by_cases hs : ∃ m i, t = .shift m i
    · obtain ⟨m, i, rfl⟩ := hs
      obtain ⟨b, ha, hm⟩ := ht
      refine iT rfl ⟨_, rfl, _, rfl, a, _, 1, .int i, rfl, rfl, SqT.of ha, at_ix (by decide) rfl, _, _, rfl, rfl, _, rfl, a, _, 2, .ref b, rfl, rfl, SqT.of ha, at_ix (by decide) rfl, ?_⟩
      refine ⟨_, rfl, rfl, _, rfl, ?_⟩
      simp only [Tm.plusL] at q
      by_cases e : n + i = 0
      · rw [if_pos e] at q
        exact iT (decide_eq_true (by show V.int (n + i) = _; rw [e])) ⟨_, rfl, q b H (Same.refl H) hm⟩
      · rw [if_neg e] at q
        refine iF (decide_eq_false (fun h => e (V.int.inj h))) ⟨_, rfl, _, rfl, sz (by show 3 ≤ 100000; decide), fun p hp => ?_⟩
        exact q p _ (same_upd hp) ⟨b, upd_same, hm.same (same_upd hp)⟩
    · have hw : ¬ t.word = "shift" := by
        cases t with
        | shift m i => exact absurd ⟨m, i, rfl⟩ hs
        | _ => simp only [Tm.word]; decide
      refine iF (decide_eq_false hw) ?_
      have ep : t.plusL n = if n = 0 then t else .shift t n := by
        cases t with
        | shift m i => exact absurd ⟨m, i, rfl⟩ hs
        | _ => rfl
      rw [ep] at q
      refine ⟨_, rfl, rfl, _, rfl, ?_⟩
      by_cases n0 : n = 0
      · rw [if_pos n0] at q
        exact iT (decide_eq_true (by rw [n0])) ⟨_, rfl, q a H (Same.refl H) ht⟩
      · rw [if_neg n0] at q
        refine iF (decide_eq_false (fun h => n0 (V.int.inj h))) ⟨_, rfl, _, rfl, sz (by show 3 ≤ 100000; decide), fun p hp => ?_⟩
        exact q p _ (same_upd hp) ⟨a, upd_same, ht.same (same_upd hp)⟩
/-- _law_tree -/
def spTree (n : Nat) : Sp := fun vs H Q _ => ∃ (b c nl : Addr) (G : Hp) (zs : List Str) (l j : Nat), vs = [.ref b, .ref nl, .int (l : Nat), .int (j : Nat)] ∧ Wd b c G H ∧ G nl = some (.lst (zs.map V.str)) ∧ 0 < zs.length ∧ zs.length ≤ 10 ∧ (∀ z ∈ zs, goodName z) ∧ l + j < n ∧ n ≤ 100 ∧
  ∀ (t : Tm) (a : Addr) (G' H' : Hp), Same G G' → Wd b c G' H' → TrAt G' t a → TrOk zs l j t → Q (.ref a) H'
theorem kind3 {i : Int} (h0 : 0 ≤ i) (h1 : i < 3) : ∃ (wd : Str) (f : Tm → Tm → Tm), atI ([.str "either", .str "later", .str "earlier"] : List V) i = some (.str wd) ∧ (∀ (H : Hp) (x y : Tm) (a b d : Addr), H a = some (.tup [.str wd, .ref b, .ref d]) → TrAt H x b → TrAt H y d → TrAt H (f x y) a) ∧
    (∀ x y, (f x y).depth = 1 + max x.depth y.depth ∧ (f x y).parts = 1 + (x.parts + y.parts) ∧ (f x y).looks = x.looks + y.looks ∧ (f x y).choices ≤ x.choices + y.choices + 1 ∧ (x.wf → y.wf → (f x y).wf) ∧ (x.norm → y.norm → (f x y).norm) ∧ ∀ zs, x.over zs → y.over zs → (f x y).over zs) := by
  have : i = 0 ∨ i = 1 ∨ i = 2 := by omega
  rcases this with rfl | rfl | rfl
  · exact ⟨"either", .either, at_ix (by decide) rfl, fun H x y a b d h1 h2 h3 => ⟨b, d, h1, h2, h3⟩, fun x y => ⟨rfl, rfl, rfl, Nat.le_succ _, fun a b => ⟨a, b⟩, fun a b => ⟨a, b⟩, fun _ a b => ⟨a, b⟩⟩⟩
  · exact ⟨"later", .later, at_ix (by decide) rfl, fun H x y a b d h1 h2 h3 => ⟨b, d, h1, h2, h3⟩, fun x y => ⟨rfl, rfl, rfl, Nat.le_refl _, fun a b => ⟨a, b⟩, fun a b => ⟨a, b⟩, fun _ a b => ⟨a, b⟩⟩⟩
  · exact ⟨"earlier", .earlier, at_ix (by decide) rfl, fun H x y a b d h1 h2 h3 => ⟨b, d, h1, h2, h3⟩, fun x y => ⟨rfl, rfl, rfl, Nat.le_refl _, fun a b => ⟨a, b⟩, fun a b => ⟨a, b⟩, fun _ a b => ⟨a, b⟩⟩⟩
theorem ways_at {i : Int} (h0 : 0 ≤ i) (h1 : i < 4) : ∃ wy ∈ ways, atI (ways.map V.str) i = some (.str wy) := by
  have hl : i.toNat < ways.length := by
    have : ways.length = 4 := rfl
    omega
  exact ⟨ways[i.toNat], List.getElem_mem hl, at_ix h0 (by rw [List.getElem?_map, List.getElem?_eq_getElem hl]; rfl)⟩
theorem strs_at {zs : List Str} {i : Int} (h0 : 0 ≤ i) (h1 : i < zs.length) : ∃ z ∈ zs, atI (zs.map V.str) i = some (.str z) := by
  have hl : i.toNat < zs.length := by omega
  exact ⟨zs[i.toNat], List.getElem_mem hl, at_ix h0 (by rw [List.getElem?_map, List.getElem?_eq_getElem hl]; rfl)⟩
theorem ok_law_tree (T : Txt P K mg) {k : Nat} : ∀ n, FnOk P w K mg base CX0 (k + 4 + n) T.law_tree.f T.law_tree.fd ["_law_box", "_law_names_here", "_law_looks", "_law_joins"] (spTree n)
  | 0 => T.law_tree.F.ok (k := k + 3) sc_law_tree (fun vs H Q E h => by obtain ⟨_, _, _, _, _, _, _, _, _, _, _, _, _, h, _⟩ := h; omega) (fun _ _ _ _ _ _ _ _ _ h => by obtain ⟨_, _, _, _, _, _, _, _, _, _, _, _, _, h, _⟩ := h; omega)
  | n + 1 => by
    have G_law_tree : FnOk P w K mg base CX0 (k + 4 + n) T.law_tree.f T.law_tree.fd ["_law_box", "_law_names_here", "_law_looks", "_law_joins"] (spTree n) := ok_law_tree T n
    have G_law_pick : FnOk P w K mg base CX0 (k + 1) T.law_pick.f T.law_pick.fd ["_law_box", "_law_many"] spPick := ok_law_pick T
    have G_law_number : FnOk P w K mg base CX0 (k + 2) T.law_number.f T.law_number.fd ["_law_box"] spNumber := ok_law_number T
    have G_law_limit : FnOk P w K mg base CX0 (k + 3) T.law_limit.f T.law_limit.fd ["_law_box"] spLimitL := ok_law_limit T
    have G_law_shift : FnOk P w K mg base CX0 (k + 1) T.law_shift.f T.law_shift.fd ["_law_tree_here", "_law_amount"] spShiftL := ok_law_shift T
    refine T.law_tree.F.ok (k := k + 4 + n) sc_law_tree (fun vs H Q E h => ?_) (fun cdv A outer s H vs Q E hr h => ?_)
    · obtain ⟨b, c, nl, G, zs, l, j, rfl, _⟩ := h
      rfl
    · obtain ⟨b, c, nl, G, zs, l, j, rfl, W, hnl, hz0, hz1, hg, hn, hn1, q⟩ := h
      refine ⟨_, (pss_cons (ps_set (i := 4) sc_law_tree.nd rfl (.inl rfl) (pe_call G_law_pick (hr.mono (by omega)) (by rfl) T.law_pick.g T.law_pick.F.kp T.law_pick.b .nil pass0 (pa_cons (pv 0) (pa_cons pe_int pa_nil))))
  (Evl.pss_cut (ps_if (PW.pt (pw_and (pt_cmpR op_gt (pv 3) pe_int (nomark _)) (pw_and1 (pt_cmpR op_lt (pv 4) pe_int (nomark _))))) (pss_cons (ps_set (i := 5) sc_law_tree.nd rfl (.inl rfl) (pe_call G_law_pick (hr.mono (by omega)) (by rfl) T.law_pick.g T.law_pick.F.kp T.law_pick.b .nil pass0 (pa_cons (pv 0) (pa_cons (pe_op op_add (pv 2) pe_int) pa_nil))))
  (pss_cons (ps_set (i := 6) sc_law_tree.nd rfl (.inl rfl) (pe_call G_law_pick (hr.mono (by omega)) (by rfl) T.law_pick.g T.law_pick.F.kp T.law_pick.b .nil pass0 (pa_cons (pv 0) (pa_cons (pv 3) pa_nil))))
  (pss_cons (ps_set (i := 7) sc_law_tree.nd rfl (.inl rfl) (pe_call G_law_tree (hr.mono (by omega)) (by rfl) T.law_tree.g T.law_tree.F.kp T.law_tree.b .nil pass0 (pa_cons (pv 0) (pa_cons (pv 1) (pa_cons (pv 5) (pa_cons (pv 6) pa_nil))))))
  (pss_cons (ps_set (i := 8) sc_law_tree.nd rfl (.inl rfl) (pe_call G_law_tree (hr.mono (by omega)) (by rfl) T.law_tree.g T.law_tree.F.kp T.law_tree.b .nil pass0 (pa_cons (pv 0) (pa_cons (pv 1) (pa_cons (pe_op op_sub (pv 2) (pv 5)) (pa_cons (pe_op op_sub (pe_op op_sub (pv 3) pe_int) (pv 6)) pa_nil))))))
  (pss_one (ps_ret (pe_tup (pa_cons (pe_ix ix_list (pe_lst (pa_cons pe_str (pa_cons pe_str (pa_cons pe_str pa_nil)))) (pv 4) (fun _ _ => rfl)) (pa_cons (pv 7) (pa_cons (pv 8) pa_nil)))))))))) pss_nil)
  (Evl.pss_cut (ps_if (PW.pt (pw_and (pt_cmpR op_gt (pv 3) pe_int (nomark _)) (pw_and1 (pt_cmpR op_eq (pv 4) pe_int (nomark _))))) (pss_cons (ps_set (i := 9) sc_law_tree.nd rfl (.inl rfl) (pe_call G_law_tree (hr.mono (by omega)) (by rfl) T.law_tree.g T.law_tree.F.kp T.law_tree.b .nil pass0 (pa_cons (pv 0) (pa_cons (pv 1) (pa_cons (pv 2) (pa_cons (pe_op op_sub (pv 3) pe_int) pa_nil))))))
  (pss_one (ps_ret (pe_call G_law_shift (hr.mono (by omega)) (by rfl) T.law_shift.g T.law_shift.F.kp T.law_shift.b .nil pass0 (pa_cons (pv 9) (pa_cons (pe_call G_law_number (hr.mono (by omega)) (by rfl) T.law_number.g T.law_number.F.kp T.law_number.b .nil pass0 (pa_cons (pv 0) pa_nil)) pa_nil)))))) pss_nil)
  (pss_cons (ps_if (pt_cmpR op_gt (pv 2) pe_int (nomark _)) (pss_cons (ps_set (i := 10) sc_law_tree.nd rfl (.inl rfl) (pe_ix ix_list (pv 1) (pe_call G_law_pick (hr.mono (by omega)) (by rfl) T.law_pick.g T.law_pick.F.kp T.law_pick.b .nil pass0 (pa_cons (pv 0) (pa_cons (pe_callB call_len_seq (by rfl) T.n_len PySem.boot_len (pa_cons (pv 1) pa_nil)) pa_nil))) (fun _ _ => rfl)))
  (pss_cons (ps_set (i := 11) sc_law_tree.nd rfl (.inl rfl) (pe_ix ix_list (pe_lst (pa_cons pe_str (pa_cons pe_str (pa_cons pe_str (pa_cons pe_str pa_nil))))) (pe_call G_law_pick (hr.mono (by omega)) (by rfl) T.law_pick.g T.law_pick.F.kp T.law_pick.b .nil pass0 (pa_cons (pv 0) (pa_cons pe_int pa_nil))) (fun _ _ => rfl)))
  (pss_cons (ps_set (i := 12) sc_law_tree.nd rfl (.inl rfl) (pe_call G_law_limit (hr.mono (by omega)) (by rfl) T.law_limit.g T.law_limit.F.kp T.law_limit.b .nil pass0 (pa_cons (pv 0) pa_nil)))
  (pss_one (ps_ret (pe_tup (pa_cons pe_str (pa_cons (pv 10) (pa_cons (pv 11) (pa_cons (pv 12) (pa_cons (pe_call G_law_tree (hr.mono (by omega)) (by rfl) T.law_tree.g T.law_tree.F.kp T.law_tree.b .nil pass0 (pa_cons (pv 0) (pa_cons (pv 1) (pa_cons (pe_op op_sub (pv 2) pe_int) (pa_cons (pv 3) pa_nil))))) pa_nil))))))))))) pss_nil)
  (pss_cons (ps_if (pt_cmpR op_eq (pe_op op_modN (pv 4) pe_int) pe_int (nomark _)) (pss_one (ps_ret (pe_tup (pa_cons pe_str pa_nil)))) pss_nil)
  (pss_one (ps_ret (pe_call G_law_shift (hr.mono (by omega)) (by rfl) T.law_shift.g T.law_shift.F.kp T.law_shift.b .nil pass0 (pa_cons (pe_tup (pa_cons pe_str pa_nil)) (pa_cons (pe_call G_law_number (hr.mono (by omega)) (by rfl) T.law_number.g T.law_number.F.kp T.law_number.b .nil pass0 (pa_cons (pv 0) pa_nil)) pa_nil)))))))))), ?_⟩
      refine ⟨_, rfl, b, c, _, 8, rfl, W, by decide, by decide, fun kd H1 W1 k0 k1 => ?_⟩
      -- a shift of a tree
      have shiftEnd : ∀ {t : Tm} {a : Addr} {G1 H1 : Hp} {i : Int} {Q' : VK}, Same G G1 → Wd b c G1 H1 → TrAt G1 t a → t.norm → (∀ r G' H', Same G G' → Wd b c G' H' → TrAt G' (t.plus i) r → Q' (.ref r) H') → spShiftL [.ref a, .int i] H1 Q' E0 := fun {t a G1 H1 i Q'} s1 W1 ht hnm q' => by
        refine ⟨t, a, i, rfl, ht.same W1.gh, fun r H' s' hr' => ?_⟩
        rw [Tm.plusL_eq hnm] at hr'
        have W' := W1.sm s'
        exact q' r (mn [b, c] H') H' (s1.trans W'.allS) W'.all (hr'.mn W'.lsts)
      refine ⟨fun σ H' => H1 = H' ∧ σ = [some (.ref b), some (.ref nl), some (.int (l : Nat)), some (.int (j : Nat)), some (.int kd), none, none, none, none, none, none, none, none], ?_, ?_⟩
      · -- a join of two trees
        refine ⟨_, rfl, _, _, rfl, rfl, _, rfl, ?_⟩
        by_cases hj : 0 < j
        · refine iT (decide_eq_true (by omega)) ⟨_, rfl, _, _, rfl, rfl, _, rfl, ?_⟩
          by_cases h3 : kd < 3
          · refine iT (decide_eq_true (by omega)) ?_
            refine ⟨_, rfl, _, rfl, _, _, rfl, rfl, b, c, _, (l : Int) + 1, rfl, W1, by omega, by omega, fun lf H2 W2 l0 l1 => ?_⟩
            refine ⟨_, rfl, _, rfl, b, c, _, (j : Int), rfl, W2, by omega, by omega, fun ir H3 W3 i0 i1 => ?_⟩
            have e1 : lf = ((lf.toNat : Nat) : Int) := by omega
            have e2 : ir = ((ir.toNat : Nat) : Int) := by omega
            rw [e1, e2]
            refine ⟨_, rfl, _, rfl, _, rfl, _, rfl, b, c, nl, G, zs, lf.toNat, ir.toNat, rfl, W3, hnl, hz0, hz1, hg, by omega, by omega, fun t1 a1 G4 H4 s4 W4 ht1 ok1 => ?_⟩
            refine ⟨_, rfl, _, rfl, _, rfl, _, rfl, _, _, rfl, rfl, _, rfl, _, _, rfl, rfl, _, rfl, _, _, rfl, rfl, b, c, nl, G4, zs, l - lf.toNat, j - 1 - ir.toNat, ?_, W4, s4 _ _ hnl, hz0, hz1, hg, by omega, by omega, fun t2 a2 G5 H5 s5 W5 ht2 ok2 => ?_⟩
            · show [V.ref b, V.ref nl, V.int ((l : Int) - ((lf.toNat : Nat) : Int)), V.int ((j : Int) - 1 - ((ir.toNat : Nat) : Int))] = _
              rw [show (l : Int) - ((lf.toNat : Nat) : Int) = ((l - lf.toNat : Nat) : Int) by omega, show (j : Int) - 1 - ((ir.toNat : Nat) : Int) = ((j - 1 - ir.toNat : Nat) : Int) by omega]
            · obtain ⟨wd, f, hat, hf, hs⟩ := kind3 k0 h3
              refine ⟨sz (by show 3 ≤ 100000; decide), fun p hp => ?_⟩
              refine ⟨_, rfl, p, _, kd, .str wd, rfl, rfl, SqL.of upd_same, hat, _, rfl, _, rfl, sz (by show 3 ≤ 100000; decide), fun r hr' => ?_⟩
              have s6 := (same_upd (o := .lst [.str "either", .str "later", .str "earlier"]) hp).trans (same_upd (o := .tup [.str wd, .ref a1, .ref a2]) hr')
              have W6 := W5.sm s6
              have g6 := W5.gh.trans s6
              obtain ⟨d1, d2, d3, d4, d5, d6, d7⟩ := hs t1 t2
              refine q (f t1 t2) r _ _ (s4.trans (s5.trans W6.allS)) W6.all ((hf _ _ _ _ _ _ upd_same (ht1.same (s5.trans g6)) (ht2.same g6)).mn W6.lsts) ⟨d5 ok1.wf ok2.wf, d6 ok1.nm ok2.nm, d7 zs ok1.ov ok2.ov, ?_, ?_, ?_, ?_⟩
              · rw [d1]; have := ok1.dp; have := ok2.dp; omega
              · rw [d2]; have := ok1.pt; have := ok2.pt; omega
              · rw [d3, ok1.lk, ok2.lk]; omega
              · have := ok1.ch; have := ok2.ch; omega
          · exact iF (decide_eq_false (by omega)) ⟨rfl, rfl⟩
        · exact iF (decide_eq_false (by omega)) (iF rfl ⟨rfl, rfl⟩)
      rintro σ H1' ⟨rfl, rfl⟩
      refine ⟨fun σ H' => H1 = H' ∧ σ = [some (.ref b), some (.ref nl), some (.int (l : Nat)), some (.int (j : Nat)), some (.int kd), none, none, none, none, none, none, none, none], ?_, ?_⟩
      · -- a shift of a tree
        refine ⟨_, rfl, _, _, rfl, rfl, _, rfl, ?_⟩
        by_cases hj : 0 < j
        · refine iT (decide_eq_true (by omega)) ⟨_, rfl, rfl, _, rfl, ?_⟩
          by_cases h4 : kd = 3
          · subst h4
            refine iT rfl ?_
            refine ⟨_, rfl, _, rfl, _, rfl, _, rfl, _, _, rfl, rfl, b, c, nl, G, zs, l, j - 1, ?_, W1, hnl, hz0, hz1, hg, by omega, by omega, fun t1 a1 G4 H4 s4 W4 ht1 ok1 => ?_⟩
            · show [V.ref b, V.ref nl, V.int (l : Int), V.int ((j : Int) - 1)] = _
              rw [show (j : Int) - 1 = ((j - 1 : Nat) : Int) by omega]
            · refine ⟨_, rfl, _, rfl, b, c, _, rfl, W4, fun i H5 W5 _ _ => ?_⟩
              refine shiftEnd s4 W5 ht1 ok1.nm fun r G' H' sG WG hr' => ?_
              obtain ⟨p1, p2, p3, p4, p5, p6, p7⟩ := plus_ok t1 i
              exact q _ r G' H' sG WG hr' ⟨p5 ok1.wf, p6 ok1.nm, p7 zs ok1.ov, by have := ok1.dp; omega, by have := ok1.pt; omega, by rw [p3]; exact ok1.lk, by rw [p4]; have := ok1.ch; omega⟩
          · exact iF (decide_eq_false (fun h => h4 (V.int.inj h))) ⟨rfl, rfl⟩
        · exact iF (decide_eq_false (by omega)) (iF rfl ⟨rfl, rfl⟩)
      rintro σ H1' ⟨rfl, rfl⟩
      refine ⟨_, rfl, _, _, rfl, rfl, _, rfl, ?_⟩
      by_cases hl : 0 < l
      · -- a look
        refine iT (decide_eq_true (by omega)) ?_
        refine ⟨_, rfl, _, rfl, _, rfl, nl, _, rfl, .inl (SqL.of (W1.gh _ _ hnl)), b, c, _, ((zs.map V.str).length : Int), rfl, W1, by rw [List.length_map]; omega, by rw [List.length_map]; omega, fun i H2 W2 i0 i1 => ?_⟩
        rw [List.length_map] at i1
        obtain ⟨z, hz, hat⟩ := strs_at i0 i1
        refine ⟨nl, _, i, .str z, rfl, rfl, SqL.of (W2.gh _ _ hnl), hat, ?_⟩
        refine ⟨sz (by show 4 ≤ 100000; decide), fun wl hwl => ?_⟩
        obtain ⟨wb, wc⟩ := W2.nb hwl
        have gwl := W2.gh.free hwl
        have W3 : Wd b c (upd G wl (.lst (ways.map V.str))) (upd H2 wl (.lst (ways.map V.str))) := (W2.mut gwl wb wc).keep upd_same wb wc
        refine ⟨_, rfl, b, c, _, 4, rfl, W3, by decide, by decide, fun i2 H4 W4 j0 j1 => ?_⟩
        obtain ⟨wy, hwy, hat2⟩ := ways_at j0 j1
        refine ⟨wl, ways.map V.str, i2, .str wy, rfl, rfl, SqL.of (W4.gh _ _ upd_same), hat2, ?_⟩
        have W5 : Wd b c G H4 := W4.weak (same_upd gwl)
        refine ⟨_, rfl, b, c, _, rfl, W5, fun lim H5 hlim W6 => ?_⟩
        refine ⟨_, rfl, _, rfl, _, rfl, _, rfl, _, rfl, _, rfl, _, _, rfl, rfl, _, rfl, b, c, nl, G, zs, l - 1, j, ?_, W6, hnl, hz0, hz1, hg, by omega, by omega, fun t1 a1 G7 H7 s7 W7 ht1 ok1 => ?_⟩
        · show [V.ref b, V.ref nl, V.int ((l : Int) - 1), V.int (j : Int)] = _
          rw [show (l : Int) - 1 = ((l - 1 : Nat) : Int) by omega]
        · refine ⟨sz (by show 5 ≤ 100000; decide), fun r hr' => ?_⟩
          have s8 := same_upd (o := .tup [.str "look", .str z, .str wy, oV lim, .ref a1]) hr'
          have W8 := W7.sm s8
          have g8 := W7.gh.trans s8
          have ht8 : TrAt (upd H7 r (.tup [.str "look", .str z, .str wy, oV lim, .ref a1])) (.look z t1 wy lim) r := ⟨a1, upd_same, ht1.same g8⟩
          exact q (.look z t1 wy lim) r _ _ (s7.trans W8.allS) W8.all (ht8.mn W8.lsts) ⟨⟨hg z hz, hwy, hlim, ok1.wf⟩, ok1.nm, ⟨hz, ok1.ov⟩, by simp only [Tm.depth]; have := ok1.dp; omega, by simp only [Tm.parts]; have := ok1.pt; omega, by simp only [Tm.looks]; rw [ok1.lk]; omega, by simp only [Tm.choices]; have := ok1.ch; omega⟩
      · refine iF (decide_eq_false (by omega)) ?_
        have hl0 : l = 0 := by omega
        subst hl0
        refine ⟨_, rfl, kd, 2, rfl, rfl, (by show (2 : Int) ≠ 0; decide), rfl, _, rfl, ite2 (fun _ => ?_) (fun _ => ?_)⟩
        · refine ⟨sz (by show 1 ≤ 100000; decide), fun r hr' => ?_⟩
          have s8 := same_upd (o := .tup [.str "now"]) hr'
          have W8 := W1.sm s8
          have ht8 : TrAt (upd H1 r (.tup [.str "now"])) .now r := upd_same
          exact q .now r _ _ W8.allS W8.all (ht8.mn W8.lsts) ⟨trivial, trivial, trivial, by simp only [Tm.depth]; omega, by simp only [Tm.parts]; omega, rfl, by simp only [Tm.choices]; omega⟩
        · refine ⟨sz (by show 1 ≤ 100000; decide), fun r hr' => ?_⟩
          have s8 := same_upd (o := .tup [.str "now"]) hr'
          have W8 := W1.sm s8
          have ht8 : TrAt (upd H1 r (.tup [.str "now"])) .now r := upd_same
          refine ⟨_, rfl, b, c, _, rfl, W8.all, fun i H9 W9 _ _ => ?_⟩
          refine shiftEnd W8.allS W9 (ht8.mn W8.lsts) trivial fun r' G' H' sG WG hr'' => ?_
          obtain ⟨p1, p2, p3, p4, p5, p6, p7⟩ := plus_ok .now i
          simp only [Tm.depth, Tm.parts, Tm.looks, Tm.choices] at p1 p2 p3 p4
          exact q _ r' G' H' sG WG hr'' ⟨p5 trivial, p6 trivial, p7 zs trivial, by omega, by omega, p3, by omega⟩
end
end Pl

namespace Pl
open PySem L2
def limB' (B : Int) : Option Int → Prop
  | none => True
  | some x => x ≤ B
abbrev limB : Option Int → Prop := limB' (10 ^ 41)
theorem limB_mono {B C : Int} (h : B ≤ C) : ∀ {l : Option Int}, limB' B l → limB' C l
  | none, _ => trivial
  | some x, hx => Int.le_trans hx h
/-- its numbers are at most B -/
def Tm.bd (B : Int) : Tm → Prop
  | .now => True
  | .shift m n => (-B ≤ n ∧ n ≤ B) ∧ m.bd B
  | .look _ m _ lim => limB' B lim ∧ m.bd B
  | .either a b => a.bd B ∧ b.bd B
  | .later a b => a.bd B ∧ b.bd B
  | .earlier a b => a.bd B ∧ b.bd B
theorem bd_mono {B C : Int} (h : B ≤ C) : ∀ {t : Tm}, t.bd B → t.bd C
  | .now, _ => trivial
  | .shift m n, ⟨⟨a, b⟩, c⟩ => ⟨⟨by omega, by omega⟩, bd_mono h c⟩
  | .look _ m _ lim, ⟨a, b⟩ => ⟨limB_mono h a, bd_mono h b⟩
  | .either _ _, ⟨a, b⟩ => ⟨bd_mono h a, bd_mono h b⟩
  | .later _ _, ⟨a, b⟩ => ⟨bd_mono h a, bd_mono h b⟩
  | .earlier _ _, ⟨a, b⟩ => ⟨bd_mono h a, bd_mono h b⟩
theorem bd_plus {B N : Int} {t : Tm} {k : Int} (hB : 0 ≤ B) (h : t.bd B) (h0 : -N ≤ k) (h1 : k ≤ N) : (t.plus k).bd (B + N) := by
  have hn : 0 ≤ N := by omega
  have fin : (if k = 0 then t else .shift t k : Tm).bd (B + N) := by
    split
    · exact bd_mono (by omega) h
    · exact ⟨⟨by omega, by omega⟩, bd_mono (by omega) h⟩
  cases t with
  | shift m n =>
    obtain ⟨⟨a, b⟩, c⟩ := h
    simp only [Tm.plus]
    split
    · exact ⟨⟨by omega, by omega⟩, bd_mono (by omega) c⟩
    · split
      · exact bd_mono (by omega) c
      · exact ⟨⟨by omega, by omega⟩, bd_mono (by omega) c⟩
  | _ => exact fin
section
variable {P : Program} {w : World} {K : PySem.W.Frag} {mg : Str → Option Value} {base : Heap}
def spLimitB : Sp := fun vs H Q _ => ∃ (b c : Addr) (G : Hp), vs = [.ref b] ∧ Wd b c G H ∧ ∀ (lim : Option Int) (H' : Hp), limOk lim → limB lim → Wd b c G H' → Q (oV lim) H'
theorem ok_law_limitB (T : Txt P K mg) {k : Nat} : FnOk P w K mg base CX0 (k + 3) T.law_limit.f T.law_limit.fd ["_law_box"] spLimitB := by
  have G_law_pick : FnOk P w K mg base CX0 (k + 1) T.law_pick.f T.law_pick.fd ["_law_box", "_law_many"] spPick := ok_law_pick T
  have G_law_number : FnOk P w K mg base CX0 (k + 2) T.law_number.f T.law_number.fd ["_law_box"] spNumber := ok_law_number T
  refine T.law_limit.F.ok (k := k + 2) sc_law_limit (fun vs H Q E h => ?_) (fun cdv A outer s H vs Q E hr h => ?_)
  · obtain ⟨b, c, G, rfl, _⟩ := h
    rfl
  · obtain ⟨b, c, G, rfl, W, q⟩ := h
    refine ⟨_, (pss_cons (ps_set (i := 1) sc_law_limit.nd rfl (.inl rfl) (pe_call G_law_pick (hr.mono (by omega)) (by rfl) T.law_pick.g T.law_pick.F.kp T.law_pick.b .nil pass0 (pa_cons (pv 0) (pa_cons pe_int pa_nil))))
  (pss_cons (ps_if (pt_cmpR op_lt (pv 1) pe_int (nomark _)) (pss_one (ps_ret pe_non)) pss_nil)
  (pss_cons (ps_if (pt_cmpR op_lt (pv 1) pe_int (nomark _)) (pss_one (ps_ret (pe_call G_law_pick (hr.mono (by omega)) (by rfl) T.law_pick.g T.law_pick.F.kp T.law_pick.b .nil pass0 (pa_cons (pv 0) (pa_cons pe_int pa_nil))))) pss_nil)
  (pss_one (ps_ret (pe_callB call_abs (by rfl) T.n_abs (by decide +kernel) (pa_cons (pe_call G_law_number (hr.mono (by omega)) (by rfl) T.law_number.g T.law_number.F.kp T.law_number.b .nil pass0 (pa_cons (pv 0) pa_nil)) pa_nil))))))), ?_⟩
    refine ⟨.ref b, rfl, b, c, G, 5, rfl, W, by decide, by decide, fun i H1 W1 i0 i1 => ?_⟩
    refine ⟨.int i, rfl, i, 2, rfl, rfl, _, rfl, ite2 (fun _ => q none H1 trivial trivial W1) (fun _ => ?_)⟩
    refine ⟨.int i, rfl, i, 4, rfl, rfl, _, rfl, ite2 (fun _ => ?_) (fun _ => ?_)⟩
    · exact ⟨.ref b, rfl, b, c, G, 7, rfl, W1, by decide, by decide, fun j H2 W2 j0 j1 => q (some j) H2 j0 (by show j ≤ 10 ^ 41; omega) W2⟩
    · refine ⟨.ref b, rfl, b, c, G, rfl, W1, fun j H2 W2 jb0 jb1 => ⟨j, rfl, ?_⟩⟩
      exact q (some (if j < 0 then -j else j)) H2 (by show 0 ≤ (if j < 0 then -j else j); split <;> omega) (by show (if j < 0 then -j else j) ≤ 10 ^ 41; split <;> omega) W2
/-- _law_tree -/
def spTreeB (n : Nat) : Sp := fun vs H Q _ => ∃ (b c nl : Addr) (G : Hp) (zs : List Str) (l j : Nat), vs = [.ref b, .ref nl, .int (l : Nat), .int (j : Nat)] ∧ Wd b c G H ∧ G nl = some (.lst (zs.map V.str)) ∧ 0 < zs.length ∧ zs.length ≤ 10 ∧ (∀ z ∈ zs, goodName z) ∧ l + j < n ∧ n ≤ 100 ∧
  ∀ (t : Tm) (a : Addr) (G' H' : Hp), Same G G' → Wd b c G' H' → TrAt G' t a → TrOk zs l j t → t.bd (((j : Int) + 1) * 10 ^ 41) → Q (.ref a) H'
theorem kind3B {i : Int} (h0 : 0 ≤ i) (h1 : i < 3) : ∃ (wd : Str) (f : Tm → Tm → Tm), atI ([.str "either", .str "later", .str "earlier"] : List V) i = some (.str wd) ∧ (∀ (H : Hp) (x y : Tm) (a b d : Addr), H a = some (.tup [.str wd, .ref b, .ref d]) → TrAt H x b → TrAt H y d → TrAt H (f x y) a) ∧
    (∀ x y, (f x y).depth = 1 + max x.depth y.depth ∧ (f x y).parts = 1 + (x.parts + y.parts) ∧ (f x y).looks = x.looks + y.looks ∧ (f x y).choices ≤ x.choices + y.choices + 1 ∧ (x.wf → y.wf → (f x y).wf) ∧ (x.norm → y.norm → (f x y).norm) ∧ (∀ zs, x.over zs → y.over zs → (f x y).over zs) ∧ ∀ B, x.bd B → y.bd B → (f x y).bd B) := by
  have : i = 0 ∨ i = 1 ∨ i = 2 := by omega
  rcases this with rfl | rfl | rfl
  · exact ⟨"either", .either, at_ix (by decide) rfl, fun H x y a b d h1 h2 h3 => ⟨b, d, h1, h2, h3⟩, fun x y => ⟨rfl, rfl, rfl, Nat.le_succ _, fun a b => ⟨a, b⟩, fun a b => ⟨a, b⟩, fun _ a b => ⟨a, b⟩, fun _ a b => ⟨a, b⟩⟩⟩
  · exact ⟨"later", .later, at_ix (by decide) rfl, fun H x y a b d h1 h2 h3 => ⟨b, d, h1, h2, h3⟩, fun x y => ⟨rfl, rfl, rfl, Nat.le_refl _, fun a b => ⟨a, b⟩, fun a b => ⟨a, b⟩, fun _ a b => ⟨a, b⟩, fun _ a b => ⟨a, b⟩⟩⟩
  · exact ⟨"earlier", .earlier, at_ix (by decide) rfl, fun H x y a b d h1 h2 h3 => ⟨b, d, h1, h2, h3⟩, fun x y => ⟨rfl, rfl, rfl, Nat.le_refl _, fun a b => ⟨a, b⟩, fun a b => ⟨a, b⟩, fun _ a b => ⟨a, b⟩, fun _ a b => ⟨a, b⟩⟩⟩
theorem ok_law_treeB (T : Txt P K mg) {k : Nat} : ∀ n, FnOk P w K mg base CX0 (k + 4 + n) T.law_tree.f T.law_tree.fd ["_law_box", "_law_names_here", "_law_looks", "_law_joins"] (spTreeB n)
  | 0 => T.law_tree.F.ok (k := k + 3) sc_law_tree (fun vs H Q E h => by obtain ⟨_, _, _, _, _, _, _, _, _, _, _, _, _, h, _⟩ := h; omega) (fun _ _ _ _ _ _ _ _ _ h => by obtain ⟨_, _, _, _, _, _, _, _, _, _, _, _, _, h, _⟩ := h; omega)
  | n + 1 => by
    have G_law_tree : FnOk P w K mg base CX0 (k + 4 + n) T.law_tree.f T.law_tree.fd ["_law_box", "_law_names_here", "_law_looks", "_law_joins"] (spTreeB n) := ok_law_treeB T n
    have G_law_pick : FnOk P w K mg base CX0 (k + 1) T.law_pick.f T.law_pick.fd ["_law_box", "_law_many"] spPick := ok_law_pick T
    have G_law_number : FnOk P w K mg base CX0 (k + 2) T.law_number.f T.law_number.fd ["_law_box"] spNumber := ok_law_number T
    have G_law_limit : FnOk P w K mg base CX0 (k + 3) T.law_limit.f T.law_limit.fd ["_law_box"] spLimitB := ok_law_limitB T
    have G_law_shift : FnOk P w K mg base CX0 (k + 1) T.law_shift.f T.law_shift.fd ["_law_tree_here", "_law_amount"] spShiftL := ok_law_shift T
    refine T.law_tree.F.ok (k := k + 4 + n) sc_law_tree (fun vs H Q E h => ?_) (fun cdv A outer s H vs Q E hr h => ?_)
    · obtain ⟨b, c, nl, G, zs, l, j, rfl, _⟩ := h
      rfl
    · obtain ⟨b, c, nl, G, zs, l, j, rfl, W, hnl, hz0, hz1, hg, hn, hn1, q⟩ := h
      refine ⟨_, (pss_cons (ps_set (i := 4) sc_law_tree.nd rfl (.inl rfl) (pe_call G_law_pick (hr.mono (by omega)) (by rfl) T.law_pick.g T.law_pick.F.kp T.law_pick.b .nil pass0 (pa_cons (pv 0) (pa_cons pe_int pa_nil))))
  (Evl.pss_cut (ps_if (PW.pt (pw_and (pt_cmpR op_gt (pv 3) pe_int (nomark _)) (pw_and1 (pt_cmpR op_lt (pv 4) pe_int (nomark _))))) (pss_cons (ps_set (i := 5) sc_law_tree.nd rfl (.inl rfl) (pe_call G_law_pick (hr.mono (by omega)) (by rfl) T.law_pick.g T.law_pick.F.kp T.law_pick.b .nil pass0 (pa_cons (pv 0) (pa_cons (pe_op op_add (pv 2) pe_int) pa_nil))))
  (pss_cons (ps_set (i := 6) sc_law_tree.nd rfl (.inl rfl) (pe_call G_law_pick (hr.mono (by omega)) (by rfl) T.law_pick.g T.law_pick.F.kp T.law_pick.b .nil pass0 (pa_cons (pv 0) (pa_cons (pv 3) pa_nil))))
  (pss_cons (ps_set (i := 7) sc_law_tree.nd rfl (.inl rfl) (pe_call G_law_tree (hr.mono (by omega)) (by rfl) T.law_tree.g T.law_tree.F.kp T.law_tree.b .nil pass0 (pa_cons (pv 0) (pa_cons (pv 1) (pa_cons (pv 5) (pa_cons (pv 6) pa_nil))))))
  (pss_cons (ps_set (i := 8) sc_law_tree.nd rfl (.inl rfl) (pe_call G_law_tree (hr.mono (by omega)) (by rfl) T.law_tree.g T.law_tree.F.kp T.law_tree.b .nil pass0 (pa_cons (pv 0) (pa_cons (pv 1) (pa_cons (pe_op op_sub (pv 2) (pv 5)) (pa_cons (pe_op op_sub (pe_op op_sub (pv 3) pe_int) (pv 6)) pa_nil))))))
  (pss_one (ps_ret (pe_tup (pa_cons (pe_ix ix_list (pe_lst (pa_cons pe_str (pa_cons pe_str (pa_cons pe_str pa_nil)))) (pv 4) (fun _ _ => rfl)) (pa_cons (pv 7) (pa_cons (pv 8) pa_nil)))))))))) pss_nil)
  (Evl.pss_cut (ps_if (PW.pt (pw_and (pt_cmpR op_gt (pv 3) pe_int (nomark _)) (pw_and1 (pt_cmpR op_eq (pv 4) pe_int (nomark _))))) (pss_cons (ps_set (i := 9) sc_law_tree.nd rfl (.inl rfl) (pe_call G_law_tree (hr.mono (by omega)) (by rfl) T.law_tree.g T.law_tree.F.kp T.law_tree.b .nil pass0 (pa_cons (pv 0) (pa_cons (pv 1) (pa_cons (pv 2) (pa_cons (pe_op op_sub (pv 3) pe_int) pa_nil))))))
  (pss_one (ps_ret (pe_call G_law_shift (hr.mono (by omega)) (by rfl) T.law_shift.g T.law_shift.F.kp T.law_shift.b .nil pass0 (pa_cons (pv 9) (pa_cons (pe_call G_law_number (hr.mono (by omega)) (by rfl) T.law_number.g T.law_number.F.kp T.law_number.b .nil pass0 (pa_cons (pv 0) pa_nil)) pa_nil)))))) pss_nil)
  (pss_cons (ps_if (pt_cmpR op_gt (pv 2) pe_int (nomark _)) (pss_cons (ps_set (i := 10) sc_law_tree.nd rfl (.inl rfl) (pe_ix ix_list (pv 1) (pe_call G_law_pick (hr.mono (by omega)) (by rfl) T.law_pick.g T.law_pick.F.kp T.law_pick.b .nil pass0 (pa_cons (pv 0) (pa_cons (pe_callB call_len_seq (by rfl) T.n_len PySem.boot_len (pa_cons (pv 1) pa_nil)) pa_nil))) (fun _ _ => rfl)))
  (pss_cons (ps_set (i := 11) sc_law_tree.nd rfl (.inl rfl) (pe_ix ix_list (pe_lst (pa_cons pe_str (pa_cons pe_str (pa_cons pe_str (pa_cons pe_str pa_nil))))) (pe_call G_law_pick (hr.mono (by omega)) (by rfl) T.law_pick.g T.law_pick.F.kp T.law_pick.b .nil pass0 (pa_cons (pv 0) (pa_cons pe_int pa_nil))) (fun _ _ => rfl)))
  (pss_cons (ps_set (i := 12) sc_law_tree.nd rfl (.inl rfl) (pe_call G_law_limit (hr.mono (by omega)) (by rfl) T.law_limit.g T.law_limit.F.kp T.law_limit.b .nil pass0 (pa_cons (pv 0) pa_nil)))
  (pss_one (ps_ret (pe_tup (pa_cons pe_str (pa_cons (pv 10) (pa_cons (pv 11) (pa_cons (pv 12) (pa_cons (pe_call G_law_tree (hr.mono (by omega)) (by rfl) T.law_tree.g T.law_tree.F.kp T.law_tree.b .nil pass0 (pa_cons (pv 0) (pa_cons (pv 1) (pa_cons (pe_op op_sub (pv 2) pe_int) (pa_cons (pv 3) pa_nil))))) pa_nil))))))))))) pss_nil)
  (pss_cons (ps_if (pt_cmpR op_eq (pe_op op_modN (pv 4) pe_int) pe_int (nomark _)) (pss_one (ps_ret (pe_tup (pa_cons pe_str pa_nil)))) pss_nil)
  (pss_one (ps_ret (pe_call G_law_shift (hr.mono (by omega)) (by rfl) T.law_shift.g T.law_shift.F.kp T.law_shift.b .nil pass0 (pa_cons (pe_tup (pa_cons pe_str pa_nil)) (pa_cons (pe_call G_law_number (hr.mono (by omega)) (by rfl) T.law_number.g T.law_number.F.kp T.law_number.b .nil pass0 (pa_cons (pv 0) pa_nil)) pa_nil)))))))))), ?_⟩
      refine ⟨_, rfl, b, c, _, 8, rfl, W, by decide, by decide, fun kd H1 W1 k0 k1 => ?_⟩
      -- a shift of a tree
      have shiftEnd : ∀ {t : Tm} {a : Addr} {G1 H1 : Hp} {i : Int} {Q' : VK}, Same G G1 → Wd b c G1 H1 → TrAt G1 t a → t.norm → (∀ r G' H', Same G G' → Wd b c G' H' → TrAt G' (t.plus i) r → Q' (.ref r) H') → spShiftL [.ref a, .int i] H1 Q' E0 := fun {t a G1 H1 i Q'} s1 W1 ht hnm q' => by
        refine ⟨t, a, i, rfl, ht.same W1.gh, fun r H' s' hr' => ?_⟩
        rw [Tm.plusL_eq hnm] at hr'
        have W' := W1.sm s'
        exact q' r (mn [b, c] H') H' (s1.trans W'.allS) W'.all (hr'.mn W'.lsts)
      refine ⟨fun σ H' => H1 = H' ∧ σ = [some (.ref b), some (.ref nl), some (.int (l : Nat)), some (.int (j : Nat)), some (.int kd), none, none, none, none, none, none, none, none], ?_, ?_⟩
      · -- a join of two trees
        refine ⟨_, rfl, _, _, rfl, rfl, _, rfl, ?_⟩
        by_cases hj : 0 < j
        · refine iT (decide_eq_true (by omega)) ⟨_, rfl, _, _, rfl, rfl, _, rfl, ?_⟩
          by_cases h3 : kd < 3
          · refine iT (decide_eq_true (by omega)) ?_
            refine ⟨_, rfl, _, rfl, _, _, rfl, rfl, b, c, _, (l : Int) + 1, rfl, W1, by omega, by omega, fun lf H2 W2 l0 l1 => ?_⟩
            refine ⟨_, rfl, _, rfl, b, c, _, (j : Int), rfl, W2, by omega, by omega, fun ir H3 W3 i0 i1 => ?_⟩
            have e1 : lf = ((lf.toNat : Nat) : Int) := by omega
            have e2 : ir = ((ir.toNat : Nat) : Int) := by omega
            rw [e1, e2]
            refine ⟨_, rfl, _, rfl, _, rfl, _, rfl, b, c, nl, G, zs, lf.toNat, ir.toNat, rfl, W3, hnl, hz0, hz1, hg, by omega, by omega, fun t1 a1 G4 H4 s4 W4 ht1 ok1 bd1 => ?_⟩
            refine ⟨_, rfl, _, rfl, _, rfl, _, rfl, _, _, rfl, rfl, _, rfl, _, _, rfl, rfl, _, rfl, _, _, rfl, rfl, b, c, nl, G4, zs, l - lf.toNat, j - 1 - ir.toNat, ?_, W4, s4 _ _ hnl, hz0, hz1, hg, by omega, by omega, fun t2 a2 G5 H5 s5 W5 ht2 ok2 bd2 => ?_⟩
            · show [V.ref b, V.ref nl, V.int ((l : Int) - ((lf.toNat : Nat) : Int)), V.int ((j : Int) - 1 - ((ir.toNat : Nat) : Int))] = _
              rw [show (l : Int) - ((lf.toNat : Nat) : Int) = ((l - lf.toNat : Nat) : Int) by omega, show (j : Int) - 1 - ((ir.toNat : Nat) : Int) = ((j - 1 - ir.toNat : Nat) : Int) by omega]
            · obtain ⟨wd, f, hat, hf, hs⟩ := kind3B k0 h3
              refine ⟨sz (by show 3 ≤ 100000; decide), fun p hp => ?_⟩
              refine ⟨_, rfl, p, _, kd, .str wd, rfl, rfl, SqL.of upd_same, hat, _, rfl, _, rfl, sz (by show 3 ≤ 100000; decide), fun r hr' => ?_⟩
              have s6 := (same_upd (o := .lst [.str "either", .str "later", .str "earlier"]) hp).trans (same_upd (o := .tup [.str wd, .ref a1, .ref a2]) hr')
              have W6 := W5.sm s6
              have g6 := W5.gh.trans s6
              obtain ⟨d1, d2, d3, d4, d5, d6, d7, d8⟩ := hs t1 t2
              refine q (f t1 t2) r _ _ (s4.trans (s5.trans W6.allS)) W6.all ((hf _ _ _ _ _ _ upd_same (ht1.same (s5.trans g6)) (ht2.same g6)).mn W6.lsts) ⟨d5 ok1.wf ok2.wf, d6 ok1.nm ok2.nm, d7 zs ok1.ov ok2.ov, ?_, ?_, ?_, ?_⟩ (d8 _ (bd_mono (by omega) bd1) (bd_mono (by omega) bd2))
              · rw [d1]; have := ok1.dp; have := ok2.dp; omega
              · rw [d2]; have := ok1.pt; have := ok2.pt; omega
              · rw [d3, ok1.lk, ok2.lk]; omega
              · have := ok1.ch; have := ok2.ch; omega
          · exact iF (decide_eq_false (by omega)) ⟨rfl, rfl⟩
        · exact iF (decide_eq_false (by omega)) (iF rfl ⟨rfl, rfl⟩)
      rintro σ H1' ⟨rfl, rfl⟩
      refine ⟨fun σ H' => H1 = H' ∧ σ = [some (.ref b), some (.ref nl), some (.int (l : Nat)), some (.int (j : Nat)), some (.int kd), none, none, none, none, none, none, none, none], ?_, ?_⟩
      · -- a shift of a tree
        refine ⟨_, rfl, _, _, rfl, rfl, _, rfl, ?_⟩
        by_cases hj : 0 < j
        · refine iT (decide_eq_true (by omega)) ⟨_, rfl, rfl, _, rfl, ?_⟩
          by_cases h4 : kd = 3
          · subst h4
            refine iT rfl ?_
            refine ⟨_, rfl, _, rfl, _, rfl, _, rfl, _, _, rfl, rfl, b, c, nl, G, zs, l, j - 1, ?_, W1, hnl, hz0, hz1, hg, by omega, by omega, fun t1 a1 G4 H4 s4 W4 ht1 ok1 bd1 => ?_⟩
            · show [V.ref b, V.ref nl, V.int (l : Int), V.int ((j : Int) - 1)] = _
              rw [show (j : Int) - 1 = ((j - 1 : Nat) : Int) by omega]
            · refine ⟨_, rfl, _, rfl, b, c, _, rfl, W4, fun i H5 W5 ib0 ib1 => ?_⟩
              refine shiftEnd s4 W5 ht1 ok1.nm fun r G' H' sG WG hr' => ?_
              obtain ⟨p1, p2, p3, p4, p5, p6, p7⟩ := plus_ok t1 i
              exact q _ r G' H' sG WG hr' ⟨p5 ok1.wf, p6 ok1.nm, p7 zs ok1.ov, by have := ok1.dp; omega, by have := ok1.pt; omega, by rw [p3]; exact ok1.lk, by rw [p4]; have := ok1.ch; omega⟩ (bd_mono (by omega) (bd_plus (N := 10 ^ 41) (by omega) bd1 (by omega) (by omega)))
          · exact iF (decide_eq_false (fun h => h4 (V.int.inj h))) ⟨rfl, rfl⟩
        · exact iF (decide_eq_false (by omega)) (iF rfl ⟨rfl, rfl⟩)
      rintro σ H1' ⟨rfl, rfl⟩
      refine ⟨_, rfl, _, _, rfl, rfl, _, rfl, ?_⟩
      by_cases hl : 0 < l
      · -- a look
        refine iT (decide_eq_true (by omega)) ?_
        refine ⟨_, rfl, _, rfl, _, rfl, nl, _, rfl, .inl (SqL.of (W1.gh _ _ hnl)), b, c, _, ((zs.map V.str).length : Int), rfl, W1, by rw [List.length_map]; omega, by rw [List.length_map]; omega, fun i H2 W2 i0 i1 => ?_⟩
        rw [List.length_map] at i1
        obtain ⟨z, hz, hat⟩ := strs_at i0 i1
        refine ⟨nl, _, i, .str z, rfl, rfl, SqL.of (W2.gh _ _ hnl), hat, ?_⟩
        refine ⟨sz (by show 4 ≤ 100000; decide), fun wl hwl => ?_⟩
        obtain ⟨wb, wc⟩ := W2.nb hwl
        have gwl := W2.gh.free hwl
        have W3 : Wd b c (upd G wl (.lst (ways.map V.str))) (upd H2 wl (.lst (ways.map V.str))) := (W2.mut gwl wb wc).keep upd_same wb wc
        refine ⟨_, rfl, b, c, _, 4, rfl, W3, by decide, by decide, fun i2 H4 W4 j0 j1 => ?_⟩
        obtain ⟨wy, hwy, hat2⟩ := ways_at j0 j1
        refine ⟨wl, ways.map V.str, i2, .str wy, rfl, rfl, SqL.of (W4.gh _ _ upd_same), hat2, ?_⟩
        have W5 : Wd b c G H4 := W4.weak (same_upd gwl)
        refine ⟨_, rfl, b, c, _, rfl, W5, fun lim H5 hlim hlb W6 => ?_⟩
        refine ⟨_, rfl, _, rfl, _, rfl, _, rfl, _, rfl, _, rfl, _, _, rfl, rfl, _, rfl, b, c, nl, G, zs, l - 1, j, ?_, W6, hnl, hz0, hz1, hg, by omega, by omega, fun t1 a1 G7 H7 s7 W7 ht1 ok1 bd1 => ?_⟩
        · show [V.ref b, V.ref nl, V.int ((l : Int) - 1), V.int (j : Int)] = _
          rw [show (l : Int) - 1 = ((l - 1 : Nat) : Int) by omega]
        · refine ⟨sz (by show 5 ≤ 100000; decide), fun r hr' => ?_⟩
          have s8 := same_upd (o := .tup [.str "look", .str z, .str wy, oV lim, .ref a1]) hr'
          have W8 := W7.sm s8
          have g8 := W7.gh.trans s8
          have ht8 : TrAt (upd H7 r (.tup [.str "look", .str z, .str wy, oV lim, .ref a1])) (.look z t1 wy lim) r := ⟨a1, upd_same, ht1.same g8⟩
          exact q (.look z t1 wy lim) r _ _ (s7.trans W8.allS) W8.all (ht8.mn W8.lsts) ⟨⟨hg z hz, hwy, hlim, ok1.wf⟩, ok1.nm, ⟨hz, ok1.ov⟩, by simp only [Tm.depth]; have := ok1.dp; omega, by simp only [Tm.parts]; have := ok1.pt; omega, by simp only [Tm.looks]; rw [ok1.lk]; omega, by simp only [Tm.choices]; have := ok1.ch; omega⟩ ⟨limB_mono (by omega) hlb, bd1⟩
      · refine iF (decide_eq_false (by omega)) ?_
        have hl0 : l = 0 := by omega
        subst hl0
        refine ⟨_, rfl, kd, 2, rfl, rfl, (by show (2 : Int) ≠ 0; decide), rfl, _, rfl, ite2 (fun _ => ?_) (fun _ => ?_)⟩
        · refine ⟨sz (by show 1 ≤ 100000; decide), fun r hr' => ?_⟩
          have s8 := same_upd (o := .tup [.str "now"]) hr'
          have W8 := W1.sm s8
          have ht8 : TrAt (upd H1 r (.tup [.str "now"])) .now r := upd_same
          exact q .now r _ _ W8.allS W8.all (ht8.mn W8.lsts) ⟨trivial, trivial, trivial, by simp only [Tm.depth]; omega, by simp only [Tm.parts]; omega, rfl, by simp only [Tm.choices]; omega⟩ trivial
        · refine ⟨sz (by show 1 ≤ 100000; decide), fun r hr' => ?_⟩
          have s8 := same_upd (o := .tup [.str "now"]) hr'
          have W8 := W1.sm s8
          have ht8 : TrAt (upd H1 r (.tup [.str "now"])) .now r := upd_same
          refine ⟨_, rfl, b, c, _, rfl, W8.all, fun i H9 W9 ib0 ib1 => ?_⟩
          refine shiftEnd W8.allS W9 (ht8.mn W8.lsts) trivial fun r' G' H' sG WG hr'' => ?_
          obtain ⟨p1, p2, p3, p4, p5, p6, p7⟩ := plus_ok .now i
          simp only [Tm.depth, Tm.parts, Tm.looks, Tm.choices] at p1 p2 p3 p4
          exact q _ r' G' H' sG WG hr'' ⟨p5 trivial, p6 trivial, p7 zs trivial, by omega, by omega, p3, by omega⟩ (bd_mono (B := 0 + 10 ^ 41) (by omega) (bd_plus (B := 0) (N := 10 ^ 41) (t := .now) (by omega) trivial (by omega) (by omega)))
end
end Pl

namespace Pl
open PySem L2
local macro_rules | `(tactic| infer_instance) => `(tactic| first
  | with_reducible assumption
  | with_reducible exact Same.refl _
  | exact Wd.gh (by with_reducible assumption)
  | exact sm2 (by with_reducible assumption) (by infer_instance)
  | exact sm2 (same_upd (by with_reducible assumption)) (by infer_instance)
  | exact sm2 (Wd.gh (by with_reducible assumption)) (by infer_instance))
local macro_rules | `(tactic| trivial) => `(tactic| first
  | with_reducible assumption
  | with_reducible exact upd_same
  | exact at_same (by with_reducible assumption) (by trivial)
  | exact at_same (same_upd (by with_reducible assumption)) (by trivial)
  | exact at_same (Wd.gh (by with_reducible assumption)) (by trivial))
local macro_rules | `(tactic| ac_rfl) => `(tactic| first
  | exact Ty.int _
  | exact Ty.str _
  | exact Ty.non
  | exact Ty.bl _
  | exact Ty.tup (by trivial)
  | exact Ty.lst (by trivial))
local macro_rules | `(tactic| contradiction) => `(tactic| first
  | exact rfl
  | exact decide_eq_true (by first | assumption | omega)
  | exact decide_eq_false (by first | assumption | omega)
  | exact dI_t (by first | assumption | omega)
  | exact dI_f (by first | assumption | omega)
  | exact dS_t (by first | assumption | decide)
  | exact dS_f (by first | assumption | decide)
  | exact nI_t (by first | assumption | omega)
  | exact nI_f (by first | assumption | omega)
  | exact nS_t (by first | assumption | decide)
  | exact nS_f (by first | assumption | decide)
  | assumption
  | exact q_none_int | exact q_none_bool | exact q_none_tuple | exact q_none_list | exact q_none_str | exact q_bool_int | exact q_bool_bool | exact q_bool_tuple | exact q_bool_list | exact q_bool_str | exact q_int_int | exact q_int_bool | exact q_int_tuple | exact q_int_list | exact q_int_str | exact q_str_int | exact q_str_bool | exact q_str_tuple | exact q_str_list | exact q_str_str | exact q_list_int | exact q_list_bool | exact q_list_tuple | exact q_list_list | exact q_list_str | exact q_tuple_int | exact q_tuple_bool | exact q_tuple_tuple | exact q_tuple_list | exact q_tuple_str
  | exact nb_t (by contradiction)
  | exact nb_f (by contradiction))
local macro_rules | `(tactic| and_intros) => `(tactic| repeat (first
  | refine ⟨_, rfl, ?_⟩
  | refine ⟨_, _, rfl, rfl, ?_⟩
  | refine ⟨rfl, ?_⟩
  | refine ⟨_, _, _, _, rfl, rfl, SqT.of (by trivial), at_ix (by decide) rfl, ?_⟩
  | refine ⟨_, _, _, _, rfl, rfl, SqL.of (by trivial), at_ix (by decide) rfl, ?_⟩
  | refine ⟨_, _, rfl, Or.inl (SqL.of (by trivial)), ?_⟩
  | refine ⟨_, _, rfl, Or.inr (SqT.of (by trivial)), ?_⟩
  | refine ⟨_, _, _, _, _, rfl, (by trivial), (by trivial), (by trivial), rfl, ?_⟩
  | refine ⟨_, _, _, _, _, rfl, ClsV.ty _, Ty.x (by ac_rfl), isI_tuple (by ac_rfl), ?_⟩
  | refine ⟨_, _, _, _, _, rfl, ClsV.ty _, Ty.x (by ac_rfl), isI_list (by ac_rfl), ?_⟩
  | refine ⟨_, _, _, _, _, rfl, ClsV.ty _, Ty.x (by ac_rfl), isI_int (by ac_rfl), ?_⟩
  | refine ⟨_, _, _, _, _, rfl, ClsV.ty _, Ty.x (by ac_rfl), isI_bool (by ac_rfl), ?_⟩
  | refine ⟨_, _, _, _, _, rfl, ClsV.ty _, Ty.x (by ac_rfl), isI_str (by ac_rfl), ?_⟩
  | refine ⟨sz (Nat.le_of_ble_eq_true rfl), ?_⟩
  | refine ⟨Or.inl ⟨rfl, _, SqL.of (by trivial)⟩, ?_⟩
  | refine ⟨_, _, rfl, SqT.of (by trivial), rfl, _, _, rfl, _, _, rfl, _, _, rfl, _, _, rfl, rfl, ?_⟩
  | refine ⟨_, _, rfl, SqT.of (by trivial), rfl, _, _, rfl, _, _, rfl, _, _, rfl, rfl, ?_⟩
  | refine ⟨_, _, rfl, SqT.of (by trivial), rfl, _, _, rfl, _, _, rfl, rfl, ?_⟩
  | refine ⟨_, _, _, _, rfl, (by with_reducible assumption : Wd _ _ _ _), (by first | decide | omega), (by first | decide | omega), ?_⟩
  | refine ⟨_, _, _, rfl, (by with_reducible assumption : Wd _ _ _ _), ?_⟩
  | refine iT (by contradiction) ?_
  | refine iF (by contradiction) ?_))
-- USE RD
theorem sl_app (x y : Str) : (x ++ y).length = x.length + y.length := by
  show (x ++ y).cps.size = x.cps.size + y.cps.size
  rw [Str.cps_append, Array.size_append]
def nS (v : Int) : Str := Str.ofString (toString v)
theorem nS_len {v : Int} (h0 : 0 ≤ v) (h : v < 10 ^ 60) : (nS v).length ≤ 60 := PyProof.Rows.toString_length_le h0 (by decide) h
theorem sA {x y : Str} {n m : Nat} (hx : x.length ≤ n) (hy : y.length ≤ m) (h : n + m ≤ 1000000) : x.length + y.length ≤ sizeLine := Nat.le_trans (Nat.add_le_add hx hy) (Nat.le_trans h (by decide))
theorem lA {x y : Str} {n m : Nat} (hx : x.length ≤ n) (hy : y.length ≤ m) : (x ++ y).length ≤ n + m := by rw [sl_app]; omega
def sgS (n : Int) : Str := if n < 0 then " - " else " + "
def abI (n : Int) : Int := if n < 0 then -n else n
def farS : Option Int → Str
  | none => ""
  | some x => " within " ++ nS x
def preS (wy : Str) : Str := if wy = "at" ∨ wy = "before" then "last " else "next "
/-- the written term -/
def wr : Tm → Str
  | .now => "now"
  | .shift m n => ((("(" ++ wr m) ++ sgS n) ++ nS (abI n)) ++ ")"
  | .look s m wy lim => (((((preS wy ++ s) ++ farS lim) ++ " ") ++ wy) ++ " ") ++ wr m
  | .either a b => ((("(" ++ wr a) ++ " or ") ++ wr b) ++ ")"
  | .later a b => ((("later(" ++ wr a) ++ ", ") ++ wr b) ++ ")"
  | .earlier a b => ((("earlier(" ++ wr a) ++ ", ") ++ wr b) ++ ")"
theorem sg_len (n : Int) : (sgS n).length ≤ 3 := by unfold sgS; split <;> decide
theorem pre_len (wy : Str) : (preS wy).length ≤ 5 := by unfold preS; split <;> decide
theorem way_len {wy : Str} (h : wy ∈ ways) : wy.length ≤ 6 := by
  simp only [ways, List.mem_cons, List.not_mem_nil, or_false] at h
  rcases h with rfl | rfl | rfl | rfl <;> decide
abbrev BB : Int := 10 ^ 60 - 1
theorem ab_len {n : Int} (h : -BB ≤ n ∧ n ≤ BB) : (nS (abI n)).length ≤ 60 := nS_len (by unfold abI; split <;> omega) (by obtain ⟨h1, h2⟩ := h; unfold abI; unfold BB at h1 h2; split <;> omega)
theorem far_len {lim : Option Int} (h : limB' BB lim) (h0 : limOk lim) : (farS lim).length ≤ 68 := by
  cases lim with
  | none => decide
  | some x => exact lA (show (" within " : Str).length ≤ 8 by decide) (nS_len h0 (by have : x ≤ BB := h; unfold BB at this; omega))
theorem wr_len : ∀ t : Tm, t.wf → t.bd BB → (wr t).length ≤ 100 * t.parts
  | .now, _, _ => by decide
  | .shift m n, h, hb => by
    have ih := wr_len m h hb.2
    have := lA (lA (lA (lA (show ("(" : Str).length ≤ 1 by decide) ih) (sg_len n)) (ab_len hb.1)) (show (")" : Str).length ≤ 1 by decide)
    simp only [wr, Tm.parts]
    omega
  | .look s m wy lim, h, hb => by
    have ih := wr_len m h.2.2.2 hb.2
    have := lA (lA (lA (lA (lA (lA (pre_len wy) h.1.2.1) (far_len hb.1 h.2.2.1)) (show (" " : Str).length ≤ 1 by decide)) (way_len h.2.1)) (show (" " : Str).length ≤ 1 by decide)) ih
    simp only [wr, Tm.parts]
    omega
  | .either a b, h, hb => by
    have := lA (lA (lA (lA (show ("(" : Str).length ≤ 1 by decide) (wr_len a h.1 hb.1)) (show (" or " : Str).length ≤ 4 by decide)) (wr_len b h.2 hb.2)) (show (")" : Str).length ≤ 1 by decide)
    simp only [wr, Tm.parts]
    omega
  | .later a b, h, hb => by
    have := lA (lA (lA (lA (show ("later(" : Str).length ≤ 6 by decide) (wr_len a h.1 hb.1)) (show (", " : Str).length ≤ 2 by decide)) (wr_len b h.2 hb.2)) (show (")" : Str).length ≤ 1 by decide)
    simp only [wr, Tm.parts]
    omega
  | .earlier a b, h, hb => by
    have := lA (lA (lA (lA (show ("earlier(" : Str).length ≤ 8 by decide) (wr_len a h.1 hb.1)) (show (", " : Str).length ≤ 2 by decide)) (wr_len b h.2 hb.2)) (show (")" : Str).length ≤ 1 by decide)
    simp only [wr, Tm.parts]
    omega
section
variable {P : Program} {w : World} {K : PySem.W.Frag} {mg : Str → Option Value} {base : Heap}
def spWr (n : Nat) : Sp := fun vs H Q _ => ∃ (t : Tm) (a : Addr), vs = [.ref a] ∧ TrAt H t a ∧ t.depth ≤ n ∧ t.wf ∧ t.bd BB ∧ t.parts ≤ 1000 ∧ Q (.str (wr t)) H
theorem log_BB {n : Int} (h : -BB ≤ n ∧ n ≤ BB) : (abI n).natAbs.log2 < 1920 := by
  have h1 : (abI n).natAbs < 10 ^ 60 := by obtain ⟨h1, h2⟩ := h; unfold abI; unfold BB at h1 h2; split <;> omega
  have h2 : (abI n).natAbs < 2 ^ 1000 := Nat.lt_trans h1 (by decide)
  have := PySem.Flt.log2_lt_of (by decide) h2
  omega
theorem ok_law_written (T : Txt P K mg) {k : Nat} : ∀ n, FnOk P w K mg base CX0 (k + 1 + n) T.law_written.f T.law_written.fd ["_law_tree_here"] (spWr n)
  | 0 => T.law_written.F.ok (k := k) sc_law_written (fun vs H Q E h => by obtain ⟨t, _, _, _, h, _⟩ := h; have := depth_pos t; omega) (fun _ _ _ _ _ _ _ _ _ h => by obtain ⟨t, _, _, _, h, _⟩ := h; have := depth_pos t; omega)
  | n + 1 => by
    have G_law_written : FnOk P w K mg base CX0 (k + 1 + n) T.law_written.f T.law_written.fd ["_law_tree_here"] (spWr n) := ok_law_written T n
    refine T.law_written.F.ok (k := k + 1 + n) sc_law_written (fun vs H Q E h => ?_) (fun cdv A outer s H vs Q E hr h => ?_)
    · obtain ⟨t, a, rfl, _⟩ := h
      rfl
    · obtain ⟨t, a, rfl, ht, hd, hw, hb, hp, q⟩ := h
      refine ⟨_, (pss_cons (ps_if (pt_cmpR op_eq (pe_ix ix_tup (pv 0) pe_int (fun _ _ => rfl)) pe_str (nomark _)) (pss_one (ps_ret pe_str)) pss_nil)
  (pss_cons (ps_if (pt_cmpR op_eq (pe_ix ix_tup (pv 0) pe_int (fun _ _ => rfl)) pe_str (nomark _)) (pss_cons (ps_set (i := 3) sc_law_written.nd rfl (.inl rfl) (pe_ifExp (pt_cmpR op_ge (pe_ix ix_tup (pv 0) pe_int (fun _ _ => rfl)) pe_int (nomark _)) pe_str pe_str))
  (pss_one (ps_ret (pe_op op_add_str (pe_op op_add_str (pe_op op_add_str (pe_op op_add_str pe_str (pe_call G_law_written (hr.mono (by omega)) (by rfl) T.law_written.g T.law_written.F.kp T.law_written.b .nil pass0 (pa_cons (pe_ix ix_tup (pv 0) pe_int (fun _ _ => rfl)) pa_nil))) (pv 3)) (pe_callTy call_str_int (by rfl) T.n_str (by decide +kernel) (pa_cons (pe_callB call_abs (by rfl) T.n_abs (by decide +kernel) (pa_cons (pe_ix ix_tup (pv 0) pe_int (fun _ _ => rfl)) pa_nil)) pa_nil))) pe_str)))) pss_nil)
  (pss_cons (ps_if (pt_cmpR op_eq (pe_ix ix_tup (pv 0) pe_int (fun _ _ => rfl)) pe_str (nomark _)) (pss_cons (ps_set (i := 4) sc_law_written.nd rfl (.inl rfl) pe_str)
  (Evl.pss_cut (ps_if (PW.pt (pw_or (pt_cmpR op_eq (pe_ix ix_tup (pv 0) pe_int (fun _ _ => rfl)) pe_str (nomark _)) (pw_or1 (pt_cmpR op_eq (pe_ix ix_tup (pv 0) pe_int (fun _ _ => rfl)) pe_str (nomark _))))) (pss_one (ps_set (i := 4) sc_law_written.nd rfl (.inl rfl) pe_str)) pss_nil)
  (Evl.pss_cut (ps_set (i := 5) sc_law_written.nd rfl (.inl rfl) (pe_ifExp (pt_cmpR op_isN (pe_ix ix_tup (pv 0) pe_int (fun _ _ => rfl)) pe_non (nomark _)) pe_str (pe_op op_add_str pe_str (pe_callTy call_str_int (by rfl) T.n_str (by decide +kernel) (pa_cons (pe_ix ix_tup (pv 0) pe_int (fun _ _ => rfl)) pa_nil)))))
  (pss_cons (ps_set (i := 4) sc_law_written.nd rfl (.inl rfl) (pe_op op_add_str (pe_op op_add_str (pe_op op_add_str (pv 4) (pe_ix ix_tup (pv 0) pe_int (fun _ _ => rfl))) (pv 5)) pe_str))
  (pss_one (ps_ret (pe_op op_add_str (pe_op op_add_str (pe_op op_add_str (pv 4) (pe_ix ix_tup (pv 0) pe_int (fun _ _ => rfl))) pe_str) (pe_call G_law_written (hr.mono (by omega)) (by rfl) T.law_written.g T.law_written.F.kp T.law_written.b .nil pass0 (pa_cons (pe_ix ix_tup (pv 0) pe_int (fun _ _ => rfl)) pa_nil))))))))) pss_nil)
  (pss_cons (ps_set (i := 1) sc_law_written.nd rfl (.inl rfl) (pe_call G_law_written (hr.mono (by omega)) (by rfl) T.law_written.g T.law_written.F.kp T.law_written.b .nil pass0 (pa_cons (pe_ix ix_tup (pv 0) pe_int (fun _ _ => rfl)) pa_nil)))
  (pss_cons (ps_set (i := 2) sc_law_written.nd rfl (.inl rfl) (pe_call G_law_written (hr.mono (by omega)) (by rfl) T.law_written.g T.law_written.F.kp T.law_written.b .nil pass0 (pa_cons (pe_ix ix_tup (pv 0) pe_int (fun _ _ => rfl)) pa_nil)))
  (pss_cons (ps_if (pt_cmpR op_eq (pe_ix ix_tup (pv 0) pe_int (fun _ _ => rfl)) pe_str (nomark _)) (pss_one (ps_ret (pe_op op_add_str (pe_op op_add_str (pe_op op_add_str (pe_op op_add_str pe_str (pv 1)) pe_str) (pv 2)) pe_str))) pss_nil)
  (pss_one (ps_ret (pe_op op_add_str (pe_op op_add_str (pe_op op_add_str (pe_op op_add_str (pe_op op_add_str (pe_ix ix_tup (pv 0) pe_int (fun _ _ => rfl)) pe_str) (pv 1)) pe_str) (pv 2)) pe_str))))))))), ?_⟩
      have wl := fun (u : Tm) (h1 : u.wf) (h2 : u.bd BB) => wr_len u h1 h2
      cases t with
      | now =>
        have ha : H a = _ := ht
        and_intros
        exact q
      | shift m i =>
        obtain ⟨b, ha, hm⟩ := id ht
        simp only [Tm.depth] at hd
        simp only [Tm.parts] at hp
        have w1 := wl m hw hb.2
        have w4 := ab_len hb.1
        have a1 := lA (show ("(" : Str).length ≤ 1 by decide) w1
        have a2 := lA a1 (sg_len i)
        have a3 := lA a2 w4
        have c1 := sA (show ("(" : Str).length ≤ 1 by decide) w1 (by omega)
        have c2 := sA a1 (sg_len i) (by omega)
        have c3 := sA a2 w4 (by omega)
        have c4 := sA a3 (show (")" : Str).length ≤ 1 by decide) (by omega)
        have hlog := log_BB hb.1
        and_intros
        by_cases h0 : 0 ≤ i
        · have es : sgS i = " + " := by unfold sgS; rw [if_neg (by omega)]
          simp only [wr] at q
          rw [es] at q c2 c3 c4
          refine iT (decide_eq_true h0) ?_
          and_intros
          refine ⟨m, b, rfl, hm, by omega, hw, hb.2, by omega, ?_⟩
          and_intros
          refine ⟨c1, ?_⟩
          and_intros
          refine ⟨c2, ?_⟩
          and_intros
          refine ⟨hlog, ?_⟩
          and_intros
          refine ⟨c3, ?_⟩
          and_intros
          exact ⟨c4, q⟩
        · have es : sgS i = " - " := by unfold sgS; rw [if_pos (by omega)]
          simp only [wr] at q
          rw [es] at q c2 c3 c4
          refine iF (decide_eq_false h0) ?_
          and_intros
          refine ⟨m, b, rfl, hm, by omega, hw, hb.2, by omega, ?_⟩
          and_intros
          refine ⟨c1, ?_⟩
          and_intros
          refine ⟨c2, ?_⟩
          and_intros
          refine ⟨hlog, ?_⟩
          and_intros
          refine ⟨c3, ?_⟩
          and_intros
          exact ⟨c4, q⟩
      | look z m wy lim =>
        obtain ⟨b, ha, hm⟩ := id ht
        simp only [Tm.depth] at hd
        simp only [Tm.parts] at hp
        have w1 := wl m hw.2.2.2 hb.2
        have a1 := lA (pre_len wy) hw.1.2.1
        have a2 := lA a1 (far_len hb.1 hw.2.2.1)
        have a3 := lA a2 (show (" " : Str).length ≤ 1 by decide)
        have a4 := lA a3 (way_len hw.2.1)
        have a5 := lA a4 (show (" " : Str).length ≤ 1 by decide)
        have c1 := sA (pre_len wy) hw.1.2.1 (by omega)
        have c2 := sA a1 (far_len hb.1 hw.2.2.1) (by omega)
        have c3 := sA a2 (show (" " : Str).length ≤ 1 by decide) (by omega)
        have c4 := sA a3 (way_len hw.2.1) (by omega)
        have c5 := sA a4 (show (" " : Str).length ≤ 1 by decide) (by omega)
        have c6 := sA a5 w1 (by omega)
        simp only [wr] at q
        and_intros
        refine ⟨fun σ H' => σ = [some (.ref a), none, none, none, some (.str (preS wy)), none] ∧ H' = H, ?_, ?_⟩
        · have hwy := hw.2.1
          simp only [ways, List.mem_cons, List.not_mem_nil, or_false] at hwy
          clear c1 c2 c3 c4 c5 c6 a1 a2 a3 a4 a5 q
          rcases hwy with rfl | rfl | rfl | rfl
          · rw [show preS "at" = "last " by decide]
            and_intros
            all_goals (first | rfl | exact ⟨rfl, rfl⟩)
          · rw [show preS "before" = "last " by decide]
            and_intros
            all_goals (first | rfl | exact ⟨rfl, rfl⟩)
          · rw [show preS "since" = "next " by decide]
            and_intros
            all_goals (first | rfl | exact ⟨rfl, rfl⟩)
          · rw [show preS "after" = "next " by decide]
            and_intros
            all_goals (first | rfl | exact ⟨rfl, rfl⟩)
        rintro σ H' ⟨rfl, rfl⟩
        refine ⟨fun σ H2 => σ = [some (.ref a), none, none, none, some (.str (preS wy)), some (.str (farS lim))] ∧ H2 = H', ?_, ?_⟩
        · clear c1 c2 c3 c4 c5 c6 a1 a2 a3 a4 a5 q
          cases lim with
          | none =>
            and_intros
            all_goals (first | rfl | exact ⟨rfl, rfl⟩)
          | some x =>
            have hx0 : 0 ≤ x := hw.2.2.1
            have hx1 : x ≤ BB := hb.1
            have e0 : abI x = x := by unfold abI; rw [if_neg (by omega)]
            have hlog := log_BB (n := x) ⟨by unfold BB; omega, hx1⟩
            rw [e0] at hlog
            have c0 := sA (show (" within " : Str).length ≤ 8 by decide) (nS_len hx0 (by unfold BB at hx1; omega)) (by omega)
            and_intros
            refine ⟨hlog, ?_⟩
            and_intros
            refine ⟨c0, ?_⟩
            all_goals (first | rfl | exact ⟨rfl, rfl⟩)
        rintro σ H2 ⟨rfl, rfl⟩
        and_intros
        refine ⟨c1, ?_⟩
        and_intros
        refine ⟨c2, ?_⟩
        and_intros
        refine ⟨c3, ?_⟩
        and_intros
        refine ⟨c4, ?_⟩
        and_intros
        refine ⟨c5, ?_⟩
        and_intros
        refine ⟨m, b, rfl, hm, by omega, hw.2.2.2, hb.2, by omega, ?_⟩
        and_intros
        exact ⟨c6, q⟩
      | either x y =>
        obtain ⟨b, e, ha, hx, hy⟩ := id ht
        simp only [Tm.depth] at hd
        simp only [Tm.parts] at hp
        have w1 := wl x hw.1 hb.1
        have w2 := wl y hw.2 hb.2
        have a1 := lA (show ("(" : Str).length ≤ 1 by decide) w1
        have a2 := lA a1 (show (" or " : Str).length ≤ 4 by decide)
        have a3 := lA a2 w2
        have c1 := sA (show ("(" : Str).length ≤ 1 by decide) w1 (by omega)
        have c2 := sA a1 (show (" or " : Str).length ≤ 4 by decide) (by omega)
        have c3 := sA a2 w2 (by omega)
        have c4 := sA a3 (show (")" : Str).length ≤ 1 by decide) (by omega)
        simp only [wr] at q
        and_intros
        refine ⟨x, b, rfl, hx, by omega, hw.1, hb.1, by omega, ?_⟩
        and_intros
        refine ⟨y, e, rfl, hy, by omega, hw.2, hb.2, by omega, ?_⟩
        and_intros
        refine ⟨c1, ?_⟩
        and_intros
        refine ⟨c2, ?_⟩
        and_intros
        refine ⟨c3, ?_⟩
        and_intros
        exact ⟨c4, q⟩
      | later x y =>
        obtain ⟨b, e, ha, hx, hy⟩ := id ht
        simp only [Tm.depth] at hd
        simp only [Tm.parts] at hp
        have w1 := wl x hw.1 hb.1
        have w2 := wl y hw.2 hb.2
        have a1 := lA (show ("later(" : Str).length ≤ 6 by decide) w1
        have a2 := lA a1 (show (", " : Str).length ≤ 2 by decide)
        have a3 := lA a2 w2
        have c1 := sA (show ("later(" : Str).length ≤ 6 by decide) w1 (by omega)
        have c2 := sA a1 (show (", " : Str).length ≤ 2 by decide) (by omega)
        have c3 := sA a2 w2 (by omega)
        have c4 := sA a3 (show (")" : Str).length ≤ 1 by decide) (by omega)
        simp only [wr] at q
        and_intros
        refine ⟨x, b, rfl, hx, by omega, hw.1, hb.1, by omega, ?_⟩
        and_intros
        refine ⟨y, e, rfl, hy, by omega, hw.2, hb.2, by omega, ?_⟩
        and_intros
        rw [show ("later" : Str) ++ "(" = "later(" by decide]
        and_intros
        refine ⟨c1, ?_⟩
        and_intros
        refine ⟨c2, ?_⟩
        and_intros
        refine ⟨c3, ?_⟩
        and_intros
        exact ⟨c4, q⟩
      | earlier x y =>
        obtain ⟨b, e, ha, hx, hy⟩ := id ht
        simp only [Tm.depth] at hd
        simp only [Tm.parts] at hp
        have w1 := wl x hw.1 hb.1
        have w2 := wl y hw.2 hb.2
        have a1 := lA (show ("earlier(" : Str).length ≤ 8 by decide) w1
        have a2 := lA a1 (show (", " : Str).length ≤ 2 by decide)
        have a3 := lA a2 w2
        have c1 := sA (show ("earlier(" : Str).length ≤ 8 by decide) w1 (by omega)
        have c2 := sA a1 (show (", " : Str).length ≤ 2 by decide) (by omega)
        have c3 := sA a2 w2 (by omega)
        have c4 := sA a3 (show (")" : Str).length ≤ 1 by decide) (by omega)
        simp only [wr] at q
        and_intros
        refine ⟨x, b, rfl, hx, by omega, hw.1, hb.1, by omega, ?_⟩
        and_intros
        refine ⟨y, e, rfl, hy, by omega, hw.2, hb.2, by omega, ?_⟩
        and_intros
        rw [show ("earlier" : Str) ++ "(" = "earlier(" by decide]
        and_intros
        refine ⟨c1, ?_⟩
        and_intros
        refine ⟨c2, ?_⟩
        and_intros
        refine ⟨c3, ?_⟩
        and_intros
        exact ⟨c4, q⟩
end
end Pl

namespace Pl
open PySem L2
local macro_rules | `(tactic| infer_instance) => `(tactic| first
  | with_reducible assumption
  | with_reducible exact Same.refl _
  | exact Wd.gh (by with_reducible assumption)
  | exact sm2 (by with_reducible assumption) (by infer_instance)
  | exact sm2 (same_upd (by with_reducible assumption)) (by infer_instance)
  | exact sm2 (Wd.gh (by with_reducible assumption)) (by infer_instance))
local macro_rules | `(tactic| trivial) => `(tactic| first
  | with_reducible assumption
  | with_reducible exact upd_same
  | exact at_same (by with_reducible assumption) (by trivial)
  | exact at_same (same_upd (by with_reducible assumption)) (by trivial)
  | exact at_same (Wd.gh (by with_reducible assumption)) (by trivial))
local macro_rules | `(tactic| ac_rfl) => `(tactic| first
  | exact Ty.int _
  | exact Ty.str _
  | exact Ty.non
  | exact Ty.bl _
  | exact Ty.tup (by trivial)
  | exact Ty.lst (by trivial))
local macro_rules | `(tactic| contradiction) => `(tactic| first
  | exact rfl
  | exact decide_eq_true (by first | assumption | omega)
  | exact decide_eq_false (by first | assumption | omega)
  | exact dI_t (by first | assumption | omega)
  | exact dI_f (by first | assumption | omega)
  | exact dS_t (by first | assumption | decide)
  | exact dS_f (by first | assumption | decide)
  | exact nI_t (by first | assumption | omega)
  | exact nI_f (by first | assumption | omega)
  | exact nS_t (by first | assumption | decide)
  | exact nS_f (by first | assumption | decide)
  | assumption
  | exact q_none_int | exact q_none_bool | exact q_none_tuple | exact q_none_list | exact q_none_str | exact q_bool_int | exact q_bool_bool | exact q_bool_tuple | exact q_bool_list | exact q_bool_str | exact q_int_int | exact q_int_bool | exact q_int_tuple | exact q_int_list | exact q_int_str | exact q_str_int | exact q_str_bool | exact q_str_tuple | exact q_str_list | exact q_str_str | exact q_list_int | exact q_list_bool | exact q_list_tuple | exact q_list_list | exact q_list_str | exact q_tuple_int | exact q_tuple_bool | exact q_tuple_tuple | exact q_tuple_list | exact q_tuple_str
  | exact nb_t (by contradiction)
  | exact nb_f (by contradiction))
local macro_rules | `(tactic| and_intros) => `(tactic| repeat (first
  | refine ⟨_, rfl, ?_⟩
  | refine ⟨_, _, rfl, rfl, ?_⟩
  | refine ⟨rfl, ?_⟩
  | refine ⟨_, _, _, _, rfl, rfl, SqT.of (by trivial), at_ix (by decide) rfl, ?_⟩
  | refine ⟨_, _, _, _, rfl, rfl, SqL.of (by trivial), at_ix (by decide) rfl, ?_⟩
  | refine ⟨_, _, rfl, Or.inl (SqL.of (by trivial)), ?_⟩
  | refine ⟨_, _, rfl, Or.inr (SqT.of (by trivial)), ?_⟩
  | refine ⟨_, _, _, _, _, rfl, (by trivial), (by trivial), (by trivial), rfl, ?_⟩
  | refine ⟨_, _, _, _, _, rfl, ClsV.ty _, Ty.x (by ac_rfl), isI_tuple (by ac_rfl), ?_⟩
  | refine ⟨_, _, _, _, _, rfl, ClsV.ty _, Ty.x (by ac_rfl), isI_list (by ac_rfl), ?_⟩
  | refine ⟨_, _, _, _, _, rfl, ClsV.ty _, Ty.x (by ac_rfl), isI_int (by ac_rfl), ?_⟩
  | refine ⟨_, _, _, _, _, rfl, ClsV.ty _, Ty.x (by ac_rfl), isI_bool (by ac_rfl), ?_⟩
  | refine ⟨_, _, _, _, _, rfl, ClsV.ty _, Ty.x (by ac_rfl), isI_str (by ac_rfl), ?_⟩
  | refine ⟨sz (Nat.le_of_ble_eq_true rfl), ?_⟩
  | refine ⟨Or.inl ⟨rfl, _, SqL.of (by trivial)⟩, ?_⟩
  | refine ⟨_, _, rfl, SqT.of (by trivial), rfl, _, _, rfl, _, _, rfl, _, _, rfl, _, _, rfl, rfl, ?_⟩
  | refine ⟨_, _, rfl, SqT.of (by trivial), rfl, _, _, rfl, _, _, rfl, _, _, rfl, rfl, ?_⟩
  | refine ⟨_, _, rfl, SqT.of (by trivial), rfl, _, _, rfl, _, _, rfl, rfl, ?_⟩
  | refine ⟨_, _, _, _, rfl, (by with_reducible assumption : Wd _ _ _ _), (by first | decide | omega), (by first | decide | omega), ?_⟩
  | refine ⟨_, _, _, rfl, (by with_reducible assumption : Wd _ _ _ _), ?_⟩
  | refine iT (by contradiction) ?_
  | refine iF (by contradiction) ?_))
-- USE RD
section
variable {P : Program} {w : World} {K : PySem.W.Frag} {mg : Str → Option Value} {base : Heap}
def spNumS : Sp := fun vs H Q _ => ∃ i : Int, vs = [.int i] ∧ 0 ≤ i ∧ i ≤ BB ∧ Q (.str (nS i)) H
theorem ok_spelled_number (T : Txt P K mg) {k : Nat} : FnOk P w K mg base CX0 (k + 1) T.spelled_number.f T.spelled_number.fd ["number"] spNumS := by
  refine T.spelled_number.F.ok (k := k) sc_spelled_number (fun vs H Q E h => ?_) (fun cdv A outer s H vs Q E hr h => ?_)
  · obtain ⟨i, rfl, _⟩ := h
    rfl
  · obtain ⟨i, rfl, h0, h1, q⟩ := h
    refine ⟨_, (pss_cons (ps_if (pt_cmpR op_ge (pv 0) (pe_glob (v := .int 1000000000000000000000000000000000000000000000000000000000000) (by rfl) T.k_LARGEST ⟨_, rfl⟩) (nomark _)) (pss_one ps_never) pss_nil)
  (pss_one (ps_ret (pe_callTy call_str_int (by rfl) T.n_str (by decide +kernel) (pa_cons (pv 0) pa_nil))))), ?_⟩
    have hlog := log_BB (n := i) ⟨by unfold BB; omega, h1⟩
    rw [show abI i = i by unfold abI; rw [if_neg (by omega)]] at hlog
    have hd : decide ((10 ^ 60 : Int) ≤ i) = false := decide_eq_false (by unfold BB at h1; omega)
    and_intros
    exact ⟨hlog, q⟩
def spSp (T : Txt P K mg) (n : Nat) : Sp := fun vs H Q _ => ∃ (t : Tm) (a : Addr), vs = [.ref a] ∧ TmAt T.ca H t a ∧ t.depth ≤ n ∧ t.wf ∧ t.bd BB ∧ t.parts ≤ 1000 ∧ Q (.str (wr t)) H
def spSpL (T : Txt P K mg) (n : Nat) : Sp := fun vs H Q _ => ∃ (z : Str) (m : Tm) (wy : Str) (lim : Option Int) (a : Addr), vs = [.ref a] ∧ TmAt T.ca H (.look z m wy lim) a ∧ m.depth ≤ n ∧ (Tm.look z m wy lim).wf ∧ (Tm.look z m wy lim).bd BB ∧ m.parts ≤ 1000 ∧ Q (.str (wr (.look z m wy lim))) H
theorem ok_spelled_look (T : Txt P K mg) {k n : Nat} (G_spelled_part : FnOk P w K mg base CX0 (k + 1) T.spelled_part.f T.spelled_part.fd ["term"] (spSp T n)) : FnOk P w K mg base CX0 (k + 2) T.spelled_look.f T.spelled_look.fd ["term"] (spSpL T n) := by
  have G_spelled_number : FnOk P w K mg base CX0 (k + 1) T.spelled_number.f T.spelled_number.fd ["number"] spNumS := ok_spelled_number T
  refine T.spelled_look.F.ok (k := k + 1) sc_spelled_look (fun vs H Q E h => ?_) (fun cdv A outer s H vs Q E hr h => ?_)
  · obtain ⟨z, m, wy, lim, a, rfl, _⟩ := h
    rfl
  · obtain ⟨z, m, wy, lim, a, rfl, ht, hd, hw, hb, hp, q⟩ := h
    refine ⟨_, (pss_cons (ps_set (i := 1) sc_spelled_look.nd rfl (.inl rfl) pe_str)
  (Evl.pss_cut (ps_if (PW.pt (pw_or (pt_cmpR op_eq (pe_fld (pv 0) rfl) pe_str (nomark _)) (pw_or1 (pt_cmpR op_eq (pe_fld (pv 0) rfl) pe_str (nomark _))))) (pss_one (ps_set (i := 1) sc_spelled_look.nd rfl (.inl rfl) pe_str)) pss_nil)
  (pss_cons (ps_set (i := 2) sc_spelled_look.nd rfl (.inl rfl) pe_str)
  (Evl.pss_cut (ps_if (pt_cmpR op_notN (pe_fld (pv 0) rfl) pe_non (nomark _)) (pss_one (ps_set (i := 2) sc_spelled_look.nd rfl (.inl rfl) (pe_op op_add_str pe_str (pe_call G_spelled_number (hr.mono (by omega)) (by rfl) T.spelled_number.g T.spelled_number.F.kp T.spelled_number.b .nil pass0 (pa_cons (pe_fld (pv 0) rfl) pa_nil))))) pss_nil)
  (pss_one (ps_ret (pe_op op_add_str (pe_op op_add_str (pe_op op_add_str (pe_op op_add_str (pe_op op_add_str (pe_op op_add_str (pe_op op_add_str (pv 1) pe_str) (pe_fld (pv 0) rfl)) (pv 2)) pe_str) (pe_fld (pv 0) rfl)) pe_str) (pe_call G_spelled_part (hr.mono (by omega)) (by rfl) T.spelled_part.g T.spelled_part.F.kp T.spelled_part.b .nil pass0 (pa_cons (pe_fld (pv 0) rfl) pa_nil))))))))), ?_⟩
    obtain ⟨dx, b, ha, hm⟩ := id ht
    have w1 := wr_len m hw.2.2.2 hb.2
    have a1 := lA (pre_len wy) hw.1.2.1
    have a2 := lA a1 (far_len hb.1 hw.2.2.1)
    have a3 := lA a2 (show (" " : Str).length ≤ 1 by decide)
    have a4 := lA a3 (way_len hw.2.1)
    have a5 := lA a4 (show (" " : Str).length ≤ 1 by decide)
    have c1 := sA (pre_len wy) hw.1.2.1 (by omega)
    have c2 := sA a1 (far_len hb.1 hw.2.2.1) (by omega)
    have c3 := sA a2 (show (" " : Str).length ≤ 1 by decide) (by omega)
    have c4 := sA a3 (way_len hw.2.1) (by omega)
    have c5 := sA a4 (show (" " : Str).length ≤ 1 by decide) (by omega)
    have c6 := sA a5 w1 (by omega)
    simp only [wr] at q
    have fl : ∀ {f : Str} {v : V}, True := trivial
    and_intros
    refine ⟨fun σ H' => (∃ wd : Str, σ = [some (.ref a), some (.str wd), none] ∧ wd.length ≤ 4 ∧ wd ++ " " = preS wy) ∧ H' = H, ?_, ?_⟩
    · have hwy := hw.2.1
      simp only [ways, List.mem_cons, List.not_mem_nil, or_false] at hwy
      clear c1 c2 c3 c4 c5 c6 a1 a2 a3 a4 a5 q
      rcases hwy with rfl | rfl | rfl | rfl
      · and_intros
        refine ⟨a, _, dx, _, _, rfl, ha, T.o_Look.cl, T.n_Look_way, rfl, ?_⟩
        and_intros
        all_goals (first | exact ⟨⟨"last", rfl, by decide, by decide⟩, rfl⟩ | exact ⟨"last", rfl, by decide, by decide⟩ | rfl)
      · and_intros
        refine ⟨a, _, dx, _, _, rfl, ha, T.o_Look.cl, T.n_Look_way, rfl, ?_⟩
        and_intros
        refine ⟨a, _, dx, _, _, rfl, ha, T.o_Look.cl, T.n_Look_way, rfl, ?_⟩
        and_intros
        all_goals (first | exact ⟨⟨"last", rfl, by decide, by decide⟩, rfl⟩ | exact ⟨"last", rfl, by decide, by decide⟩ | rfl)
      · and_intros
        refine ⟨a, _, dx, _, _, rfl, ha, T.o_Look.cl, T.n_Look_way, rfl, ?_⟩
        and_intros
        refine ⟨a, _, dx, _, _, rfl, ha, T.o_Look.cl, T.n_Look_way, rfl, ?_⟩
        and_intros
        all_goals (first | exact ⟨⟨"next", rfl, by decide, by decide⟩, rfl⟩ | exact ⟨"next", rfl, by decide, by decide⟩ | rfl)
      · and_intros
        refine ⟨a, _, dx, _, _, rfl, ha, T.o_Look.cl, T.n_Look_way, rfl, ?_⟩
        and_intros
        refine ⟨a, _, dx, _, _, rfl, ha, T.o_Look.cl, T.n_Look_way, rfl, ?_⟩
        and_intros
        all_goals (first | exact ⟨⟨"next", rfl, by decide, by decide⟩, rfl⟩ | exact ⟨"next", rfl, by decide, by decide⟩ | rfl)
    rintro σ H' ⟨⟨wd, rfl, wdl, wde⟩, rfl⟩
    and_intros
    refine ⟨fun σ H2 => σ = [some (.ref a), some (.str wd), some (.str (farS lim))] ∧ H2 = H', ?_, ?_⟩
    · clear c1 c2 c3 c4 c5 c6 a1 a2 a3 a4 a5 q
      cases lim with
      | none =>
        and_intros
        refine ⟨a, _, dx, _, _, rfl, ha, T.o_Look.cl, T.n_Look_within, rfl, ?_⟩
        and_intros
        all_goals (first | exact ⟨rfl, rfl⟩ | rfl)
      | some x =>
        have hx0 : 0 ≤ x := hw.2.2.1
        have hx1 : x ≤ BB := hb.1
        have c0 := sA (show (" within " : Str).length ≤ 8 by decide) (nS_len hx0 (by unfold BB at hx1; omega)) (by omega)
        and_intros
        refine ⟨a, _, dx, _, _, rfl, ha, T.o_Look.cl, T.n_Look_within, rfl, ?_⟩
        and_intros
        refine ⟨a, _, dx, _, _, rfl, ha, T.o_Look.cl, T.n_Look_within, rfl, ?_⟩
        and_intros
        refine ⟨hx0, hx1, ?_⟩
        and_intros
        refine ⟨c0, ?_⟩
        exact ⟨rfl, rfl⟩
    rintro σ H2 ⟨rfl, rfl⟩
    have c0 := sA wdl (show (" " : Str).length ≤ 1 by decide) (by omega)
    and_intros
    refine ⟨c0, ?_⟩
    rw [wde]
    and_intros
    refine ⟨a, _, dx, _, _, rfl, ha, T.o_Look.cl, T.n_Look_stream, rfl, ?_⟩
    and_intros
    refine ⟨c1, ?_⟩
    and_intros
    refine ⟨c2, ?_⟩
    and_intros
    refine ⟨c3, ?_⟩
    and_intros
    refine ⟨a, _, dx, _, _, rfl, ha, T.o_Look.cl, T.n_Look_way, rfl, ?_⟩
    and_intros
    refine ⟨c4, ?_⟩
    and_intros
    refine ⟨c5, ?_⟩
    and_intros
    refine ⟨a, _, dx, _, _, rfl, ha, T.o_Look.cl, T.n_Look_moment, rfl, ?_⟩
    and_intros
    refine ⟨m, b, rfl, hm, hd, hw.2.2.2, hb.2, hp, ?_⟩
    and_intros
    exact ⟨c6, q⟩
theorem ok_spelled_part (T : Txt P K mg) {k : Nat} : ∀ n, FnOk P w K mg base CX0 (k + 1 + 2 * n) T.spelled_part.f T.spelled_part.fd ["term"] (spSp T n)
  | 0 => T.spelled_part.F.ok (k := k) sc_spelled_part (fun vs H Q E h => by obtain ⟨t, _, _, _, h, _⟩ := h; have := depth_pos t; omega) (fun _ _ _ _ _ _ _ _ _ h => by obtain ⟨t, _, _, _, h, _⟩ := h; have := depth_pos t; omega)
  | n + 1 => by
    have G_spelled_part : FnOk P w K mg base CX0 (k + 2 * n + 1) T.spelled_part.f T.spelled_part.fd ["term"] (spSp T n) := by
      have := ok_spelled_part T (k := k) n
      rwa [show k + 1 + 2 * n = k + 2 * n + 1 by omega] at this
    have G_spelled_look : FnOk P w K mg base CX0 (k + 2 * n + 2) T.spelled_look.f T.spelled_look.fd ["term"] (spSpL T n) := ok_spelled_look T G_spelled_part
    have G_spelled_number : FnOk P w K mg base CX0 (k + 2 * n + 1) T.spelled_number.f T.spelled_number.fd ["number"] spNumS := ok_spelled_number T
    rw [show k + 1 + 2 * (n + 1) = k + 2 * n + 2 + 1 by omega]
    refine T.spelled_part.F.ok (k := k + 2 * n + 2) sc_spelled_part (fun vs H Q E h => ?_) (fun cdv A outer s H vs Q E hr h => ?_)
    · obtain ⟨t, a, rfl, _⟩ := h
      rfl
    · obtain ⟨t, a, rfl, ht, hd, hw, hb, hp, q⟩ := h
      refine ⟨_, (pss_cons (ps_if (pt_val (pe_callB call_isi (by rfl) T.n_isinstance (by decide +kernel) (pa_cons (pv 0) (pa_cons (pe_glob (v := .ref T.c_Now) (by rfl) T.g_Now rfl) pa_nil)))) (pss_one (ps_ret pe_str)) pss_nil)
  (pss_cons (ps_if (pt_val (pe_callB call_isi (by rfl) T.n_isinstance (by decide +kernel) (pa_cons (pv 0) (pa_cons (pe_glob (v := .ref T.c_Look) (by rfl) T.g_Look rfl) pa_nil)))) (pss_one (ps_ret (pe_call G_spelled_look (hr.mono (by omega)) (by rfl) T.spelled_look.g T.spelled_look.F.kp T.spelled_look.b .nil pass0 (pa_cons (pv 0) pa_nil)))) pss_nil)
  (pss_cons (ps_if (pt_val (pe_callB call_isi (by rfl) T.n_isinstance (by decide +kernel) (pa_cons (pv 0) (pa_cons (pe_glob (v := .ref T.c_Shift) (by rfl) T.g_Shift rfl) pa_nil)))) (pss_cons (ps_set (i := 3) sc_spelled_part.nd rfl (.inl rfl) pe_str)
  (pss_cons (ps_if (pt_cmpR op_lt (pe_fld (pv 0) rfl) pe_int (nomark _)) (pss_one (ps_set (i := 3) sc_spelled_part.nd rfl (.inl rfl) pe_str)) pss_nil)
  (pss_one (ps_ret (pe_op op_add_str (pe_op op_add_str (pe_op op_add_str (pe_op op_add_str pe_str (pe_call G_spelled_part (hr.mono (by omega)) (by rfl) T.spelled_part.g T.spelled_part.F.kp T.spelled_part.b .nil pass0 (pa_cons (pe_fld (pv 0) rfl) pa_nil))) (pv 3)) (pe_call G_spelled_number (hr.mono (by omega)) (by rfl) T.spelled_number.g T.spelled_number.F.kp T.spelled_number.b .nil pass0 (pa_cons (pe_callB call_abs (by rfl) T.n_abs (by decide +kernel) (pa_cons (pe_fld (pv 0) rfl) pa_nil)) pa_nil))) pe_str))))) pss_nil)
  (pss_cons (ps_set (i := 1) sc_spelled_part.nd rfl (.inl rfl) (pe_call G_spelled_part (hr.mono (by omega)) (by rfl) T.spelled_part.g T.spelled_part.F.kp T.spelled_part.b .nil pass0 (pa_cons (pe_fld (pv 0) rfl) pa_nil)))
  (pss_cons (ps_set (i := 2) sc_spelled_part.nd rfl (.inl rfl) (pe_call G_spelled_part (hr.mono (by omega)) (by rfl) T.spelled_part.g T.spelled_part.F.kp T.spelled_part.b .nil pass0 (pa_cons (pe_fld (pv 0) rfl) pa_nil)))
  (pss_cons (ps_if (pt_val (pe_callB call_isi (by rfl) T.n_isinstance (by decide +kernel) (pa_cons (pv 0) (pa_cons (pe_glob (v := .ref T.c_Either) (by rfl) T.g_Either rfl) pa_nil)))) (pss_one (ps_ret (pe_op op_add_str (pe_op op_add_str (pe_op op_add_str (pe_op op_add_str pe_str (pv 1)) pe_str) (pv 2)) pe_str))) pss_nil)
  (pss_cons (ps_if (pt_val (pe_callB call_isi (by rfl) T.n_isinstance (by decide +kernel) (pa_cons (pv 0) (pa_cons (pe_glob (v := .ref T.c_Later) (by rfl) T.g_Later rfl) pa_nil)))) (pss_one (ps_ret (pe_op op_add_str (pe_op op_add_str (pe_op op_add_str (pe_op op_add_str pe_str (pv 1)) pe_str) (pv 2)) pe_str))) pss_nil)
  (pss_one (ps_ret (pe_op op_add_str (pe_op op_add_str (pe_op op_add_str (pe_op op_add_str pe_str (pv 1)) pe_str) (pv 2)) pe_str)))))))))), ?_⟩
      cases t with
      | now =>
        and_intros
        refine ⟨_, _, _, _, _, rfl, .own _, ht.ty, T.k1_Now_Now, ?_⟩
        and_intros
        exact q
      | look z m wy lim =>
        simp only [Tm.depth] at hd
        simp only [Tm.parts] at hp
        and_intros
        refine ⟨_, _, _, _, _, rfl, .own _, ht.ty, T.k1_Look_Now, ?_⟩
        and_intros
        refine ⟨_, _, _, _, _, rfl, .own _, ht.ty, T.k1_Look_Look, ?_⟩
        and_intros
        exact ⟨z, m, wy, lim, a, rfl, ht, by omega, hw, hb, by omega, q⟩
      | shift m i =>
        obtain ⟨dx, b, ha, hm⟩ := id ht
        simp only [Tm.depth] at hd
        simp only [Tm.parts] at hp
        have w1 := wr_len m hw hb.2
        have w4 := ab_len hb.1
        have a1 := lA (show ("(" : Str).length ≤ 1 by decide) w1
        have a2 := lA a1 (sg_len i)
        have a3 := lA a2 w4
        have c1 := sA (show ("(" : Str).length ≤ 1 by decide) w1 (by omega)
        have c2 := sA a1 (sg_len i) (by omega)
        have c3 := sA a2 w4 (by omega)
        have c4 := sA a3 (show (")" : Str).length ≤ 1 by decide) (by omega)
        have hab : 0 ≤ abI i := by unfold abI; split <;> omega
        have hab2 : abI i ≤ BB := by obtain ⟨h1, h2⟩ := hb.1; unfold abI; split <;> omega
        and_intros
        refine ⟨_, _, _, _, _, rfl, .own _, ht.ty, T.k1_Shift_Now, ?_⟩
        and_intros
        refine ⟨_, _, _, _, _, rfl, .own _, ht.ty, T.k1_Shift_Look, ?_⟩
        and_intros
        refine ⟨_, _, _, _, _, rfl, .own _, ht.ty, T.k1_Shift_Shift, ?_⟩
        and_intros
        refine ⟨a, _, dx, _, _, rfl, ha, T.o_Shift.cl, T.n_Shift_amount, rfl, ?_⟩
        and_intros
        by_cases h0 : i < 0
        · have es : sgS i = " - " := by unfold sgS; rw [if_pos h0]
          simp only [wr] at q
          rw [es] at q c2 c3 c4
          refine iT (decide_eq_true h0) ?_
          and_intros
          refine ⟨a, _, dx, _, _, rfl, ha, T.o_Shift.cl, T.n_Shift_moment, rfl, ?_⟩
          and_intros
          refine ⟨m, b, rfl, hm, by omega, hw, hb.2, by omega, ?_⟩
          and_intros
          refine ⟨c1, ?_⟩
          and_intros
          refine ⟨c2, ?_⟩
          and_intros
          refine ⟨a, _, dx, _, _, rfl, ha, T.o_Shift.cl, T.n_Shift_amount, rfl, ?_⟩
          and_intros
          refine ⟨hab, hab2, ?_⟩
          and_intros
          refine ⟨c3, ?_⟩
          and_intros
          exact ⟨c4, q⟩
        · have es : sgS i = " + " := by unfold sgS; rw [if_neg h0]
          simp only [wr] at q
          rw [es] at q c2 c3 c4
          refine iF (decide_eq_false h0) ?_
          and_intros
          refine ⟨a, _, dx, _, _, rfl, ha, T.o_Shift.cl, T.n_Shift_moment, rfl, ?_⟩
          and_intros
          refine ⟨m, b, rfl, hm, by omega, hw, hb.2, by omega, ?_⟩
          and_intros
          refine ⟨c1, ?_⟩
          and_intros
          refine ⟨c2, ?_⟩
          and_intros
          refine ⟨a, _, dx, _, _, rfl, ha, T.o_Shift.cl, T.n_Shift_amount, rfl, ?_⟩
          and_intros
          refine ⟨hab, hab2, ?_⟩
          and_intros
          refine ⟨c3, ?_⟩
          and_intros
          exact ⟨c4, q⟩
      | either x y =>
        obtain ⟨dx, b, e, ha, hx, hy⟩ := id ht
        simp only [Tm.depth] at hd
        simp only [Tm.parts] at hp
        have w1 := wr_len x hw.1 hb.1
        have w2 := wr_len y hw.2 hb.2
        have a1 := lA (show ("(" : Str).length ≤ 1 by decide) w1
        have a2 := lA a1 (show (" or " : Str).length ≤ 4 by decide)
        have a3 := lA a2 w2
        have c1 := sA (show ("(" : Str).length ≤ 1 by decide) w1 (by omega)
        have c2 := sA a1 (show (" or " : Str).length ≤ 4 by decide) (by omega)
        have c3 := sA a2 w2 (by omega)
        have c4 := sA a3 (show (")" : Str).length ≤ 1 by decide) (by omega)
        simp only [wr] at q
        and_intros
        refine ⟨_, _, _, _, _, rfl, .own _, ht.ty, T.k1_Either_Now, ?_⟩
        and_intros
        refine ⟨_, _, _, _, _, rfl, .own _, ht.ty, T.k1_Either_Look, ?_⟩
        and_intros
        refine ⟨_, _, _, _, _, rfl, .own _, ht.ty, T.k1_Either_Shift, ?_⟩
        and_intros
        refine ⟨a, _, dx, _, _, rfl, ha, T.o_Either.cl, T.n_Either_first, rfl, ?_⟩
        and_intros
        refine ⟨x, b, rfl, hx, by omega, hw.1, hb.1, by omega, ?_⟩
        and_intros
        refine ⟨a, _, dx, _, _, rfl, ha, T.o_Either.cl, T.n_Either_second, rfl, ?_⟩
        and_intros
        refine ⟨y, e, rfl, hy, by omega, hw.2, hb.2, by omega, ?_⟩
        and_intros
        refine ⟨_, _, _, _, _, rfl, .own _, ht.ty, T.k1_Either_Either, ?_⟩
        and_intros
        refine ⟨c1, ?_⟩
        and_intros
        refine ⟨c2, ?_⟩
        and_intros
        refine ⟨c3, ?_⟩
        and_intros
        exact ⟨c4, q⟩
      | later x y =>
        obtain ⟨dx, b, e, ha, hx, hy⟩ := id ht
        simp only [Tm.depth] at hd
        simp only [Tm.parts] at hp
        have w1 := wr_len x hw.1 hb.1
        have w2 := wr_len y hw.2 hb.2
        have a1 := lA (show ("later(" : Str).length ≤ 6 by decide) w1
        have a2 := lA a1 (show (", " : Str).length ≤ 2 by decide)
        have a3 := lA a2 w2
        have c1 := sA (show ("later(" : Str).length ≤ 6 by decide) w1 (by omega)
        have c2 := sA a1 (show (", " : Str).length ≤ 2 by decide) (by omega)
        have c3 := sA a2 w2 (by omega)
        have c4 := sA a3 (show (")" : Str).length ≤ 1 by decide) (by omega)
        simp only [wr] at q
        and_intros
        refine ⟨_, _, _, _, _, rfl, .own _, ht.ty, T.k1_Later_Now, ?_⟩
        and_intros
        refine ⟨_, _, _, _, _, rfl, .own _, ht.ty, T.k1_Later_Look, ?_⟩
        and_intros
        refine ⟨_, _, _, _, _, rfl, .own _, ht.ty, T.k1_Later_Shift, ?_⟩
        and_intros
        refine ⟨a, _, dx, _, _, rfl, ha, T.o_Later.cl, T.n_Later_first, rfl, ?_⟩
        and_intros
        refine ⟨x, b, rfl, hx, by omega, hw.1, hb.1, by omega, ?_⟩
        and_intros
        refine ⟨a, _, dx, _, _, rfl, ha, T.o_Later.cl, T.n_Later_second, rfl, ?_⟩
        and_intros
        refine ⟨y, e, rfl, hy, by omega, hw.2, hb.2, by omega, ?_⟩
        and_intros
        refine ⟨_, _, _, _, _, rfl, .own _, ht.ty, T.k1_Later_Either, ?_⟩
        and_intros
        refine ⟨_, _, _, _, _, rfl, .own _, ht.ty, T.k1_Later_Later, ?_⟩
        and_intros
        refine ⟨c1, ?_⟩
        and_intros
        refine ⟨c2, ?_⟩
        and_intros
        refine ⟨c3, ?_⟩
        and_intros
        exact ⟨c4, q⟩
      | earlier x y =>
        obtain ⟨dx, b, e, ha, hx, hy⟩ := id ht
        simp only [Tm.depth] at hd
        simp only [Tm.parts] at hp
        have w1 := wr_len x hw.1 hb.1
        have w2 := wr_len y hw.2 hb.2
        have a1 := lA (show ("earlier(" : Str).length ≤ 8 by decide) w1
        have a2 := lA a1 (show (", " : Str).length ≤ 2 by decide)
        have a3 := lA a2 w2
        have c1 := sA (show ("earlier(" : Str).length ≤ 8 by decide) w1 (by omega)
        have c2 := sA a1 (show (", " : Str).length ≤ 2 by decide) (by omega)
        have c3 := sA a2 w2 (by omega)
        have c4 := sA a3 (show (")" : Str).length ≤ 1 by decide) (by omega)
        simp only [wr] at q
        and_intros
        refine ⟨_, _, _, _, _, rfl, .own _, ht.ty, T.k1_Earlier_Now, ?_⟩
        and_intros
        refine ⟨_, _, _, _, _, rfl, .own _, ht.ty, T.k1_Earlier_Look, ?_⟩
        and_intros
        refine ⟨_, _, _, _, _, rfl, .own _, ht.ty, T.k1_Earlier_Shift, ?_⟩
        and_intros
        refine ⟨a, _, dx, _, _, rfl, ha, T.o_Earlier.cl, T.n_Earlier_first, rfl, ?_⟩
        and_intros
        refine ⟨x, b, rfl, hx, by omega, hw.1, hb.1, by omega, ?_⟩
        and_intros
        refine ⟨a, _, dx, _, _, rfl, ha, T.o_Earlier.cl, T.n_Earlier_second, rfl, ?_⟩
        and_intros
        refine ⟨y, e, rfl, hy, by omega, hw.2, hb.2, by omega, ?_⟩
        and_intros
        refine ⟨_, _, _, _, _, rfl, .own _, ht.ty, T.k1_Earlier_Either, ?_⟩
        and_intros
        refine ⟨_, _, _, _, _, rfl, .own _, ht.ty, T.k1_Earlier_Later, ?_⟩
        and_intros
        refine ⟨c1, ?_⟩
        and_intros
        refine ⟨c2, ?_⟩
        and_intros
        refine ⟨c3, ?_⟩
        and_intros
        exact ⟨c4, q⟩
theorem ok_spelled (T : Txt P K mg) {k : Nat} (n : Nat) : FnOk P w K mg base CX0 (k + 2 + 2 * n) T.spelled.f T.spelled.fd ["term"] (spSp T n) := by
  have G_check_term : FnOk P w K mg base CX0 (k + 1) T.check_term.f T.check_term.fd ["value"] (spCkTerm T) := ok_check_term T
  have G_spelled_part : FnOk P w K mg base CX0 (k + 1 + 2 * n) T.spelled_part.f T.spelled_part.fd ["term"] (spSp T n) := ok_spelled_part T n
  rw [show k + 2 + 2 * n = k + 1 + 2 * n + 1 by omega]
  refine T.spelled.F.ok (k := k + 1 + 2 * n) sc_spelled (fun vs H Q E h => ?_) (fun cdv A outer s H vs Q E hr h => ?_)
  · obtain ⟨t, a, rfl, _⟩ := h
    rfl
  · obtain ⟨t, a, rfl, ht, hd, hw, hb, hp, q⟩ := h
    refine ⟨_, (pss_cons (ps_expr (pe_call G_check_term (hr.mono (by omega)) (by rfl) T.check_term.g T.check_term.F.kp T.check_term.b .nil pass0 (pa_cons (pv 0) pa_nil)))
  (pss_one (ps_ret (pe_call G_spelled_part (hr.mono (by omega)) (by rfl) T.spelled_part.g T.spelled_part.F.kp T.spelled_part.b .nil pass0 (pa_cons (pv 0) pa_nil))))), ?_⟩
    and_intros
    refine ⟨t, a, rfl, ht, ?_⟩
    and_intros
    exact ⟨t, a, rfl, ht, hd, hw, hb, hp, q⟩
end
end Pl

namespace Pl
open PySem L2
local macro_rules | `(tactic| infer_instance) => `(tactic| first
  | with_reducible assumption
  | with_reducible exact Same.refl _
  | exact Wd.gh (by with_reducible assumption)
  | exact sm2 (by with_reducible assumption) (by infer_instance)
  | exact sm2 (same_upd (by with_reducible assumption)) (by infer_instance)
  | exact sm2 (Wd.gh (by with_reducible assumption)) (by infer_instance))
local macro_rules | `(tactic| trivial) => `(tactic| first
  | with_reducible assumption
  | with_reducible exact upd_same
  | exact at_same (by with_reducible assumption) (by trivial)
  | exact at_same (same_upd (by with_reducible assumption)) (by trivial)
  | exact at_same (Wd.gh (by with_reducible assumption)) (by trivial))
local macro_rules | `(tactic| ac_rfl) => `(tactic| first
  | exact Ty.int _
  | exact Ty.str _
  | exact Ty.non
  | exact Ty.bl _
  | exact Ty.tup (by trivial)
  | exact Ty.lst (by trivial))
local macro_rules | `(tactic| contradiction) => `(tactic| first
  | exact rfl
  | exact decide_eq_true (by first | assumption | omega)
  | exact decide_eq_false (by first | assumption | omega)
  | exact dI_t (by first | assumption | omega)
  | exact dI_f (by first | assumption | omega)
  | exact dS_t (by first | assumption | decide)
  | exact dS_f (by first | assumption | decide)
  | exact nI_t (by first | assumption | omega)
  | exact nI_f (by first | assumption | omega)
  | exact nS_t (by first | assumption | decide)
  | exact nS_f (by first | assumption | decide)
  | assumption
  | exact q_none_int | exact q_none_bool | exact q_none_tuple | exact q_none_list | exact q_none_str | exact q_bool_int | exact q_bool_bool | exact q_bool_tuple | exact q_bool_list | exact q_bool_str | exact q_int_int | exact q_int_bool | exact q_int_tuple | exact q_int_list | exact q_int_str | exact q_str_int | exact q_str_bool | exact q_str_tuple | exact q_str_list | exact q_str_str | exact q_list_int | exact q_list_bool | exact q_list_tuple | exact q_list_list | exact q_list_str | exact q_tuple_int | exact q_tuple_bool | exact q_tuple_tuple | exact q_tuple_list | exact q_tuple_str
  | exact nb_t (by contradiction)
  | exact nb_f (by contradiction))
local macro_rules | `(tactic| and_intros) => `(tactic| repeat (first
  | refine ⟨_, rfl, ?_⟩
  | refine ⟨_, _, rfl, rfl, ?_⟩
  | refine ⟨rfl, ?_⟩
  | refine ⟨_, _, _, _, rfl, rfl, SqT.of (by trivial), at_ix (by decide) rfl, ?_⟩
  | refine ⟨_, _, _, _, rfl, rfl, SqL.of (by trivial), at_ix (by decide) rfl, ?_⟩
  | refine ⟨_, _, rfl, Or.inl (SqL.of (by trivial)), ?_⟩
  | refine ⟨_, _, rfl, Or.inr (SqT.of (by trivial)), ?_⟩
  | refine ⟨_, _, _, _, _, rfl, (by trivial), (by trivial), (by trivial), rfl, ?_⟩
  | refine ⟨_, _, _, _, _, rfl, ClsV.ty _, Ty.x (by ac_rfl), isI_tuple (by ac_rfl), ?_⟩
  | refine ⟨_, _, _, _, _, rfl, ClsV.ty _, Ty.x (by ac_rfl), isI_list (by ac_rfl), ?_⟩
  | refine ⟨_, _, _, _, _, rfl, ClsV.ty _, Ty.x (by ac_rfl), isI_int (by ac_rfl), ?_⟩
  | refine ⟨_, _, _, _, _, rfl, ClsV.ty _, Ty.x (by ac_rfl), isI_bool (by ac_rfl), ?_⟩
  | refine ⟨_, _, _, _, _, rfl, ClsV.ty _, Ty.x (by ac_rfl), isI_str (by ac_rfl), ?_⟩
  | refine ⟨sz (Nat.le_of_ble_eq_true rfl), ?_⟩
  | refine ⟨Or.inl ⟨rfl, _, SqL.of (by trivial)⟩, ?_⟩
  | refine ⟨_, _, rfl, SqT.of (by trivial), rfl, _, _, rfl, _, _, rfl, _, _, rfl, _, _, rfl, rfl, ?_⟩
  | refine ⟨_, _, rfl, SqT.of (by trivial), rfl, _, _, rfl, _, _, rfl, _, _, rfl, rfl, ?_⟩
  | refine ⟨_, _, rfl, SqT.of (by trivial), rfl, _, _, rfl, _, _, rfl, rfl, ?_⟩
  | refine ⟨_, _, _, _, rfl, (by with_reducible assumption : Wd _ _ _ _), (by first | decide | omega), (by first | decide | omega), ?_⟩
  | refine ⟨_, _, _, rfl, (by with_reducible assumption : Wd _ _ _ _), ?_⟩
  | refine iT (by contradiction) ?_
  | refine iF (by contradiction) ?_))
-- USE RD
section
variable {P : Program} {w : World} {K : PySem.W.Frag} {mg : Str → Option Value} {base : Heap}
theorem ok_spelled_bad (T : Txt P K mg) {k : Nat} (n : Nat) : FnOk P w K mg base (L2.CX P w) (k + 4 + 2 * n) T.spelled.f T.spelled.fd ["term"] (spTermBad T) := by
  have G_check_term : FnOk P w K mg base (L2.CX P w) (k + 3) T.check_term.f T.check_term.fd ["value"] (spTermBad T) := ok_check_term_bad T
  have G_spelled_part : FnOk P w K mg base CX0 (k + 1 + 2 * n) T.spelled_part.f T.spelled_part.fd ["term"] (spSp T n) := ok_spelled_part T n
  rw [show k + 4 + 2 * n = k + 3 + 2 * n + 1 by omega]
  refine T.spelled.F.okX (k := k + 3 + 2 * n) sc_spelled (fun vs H Q E h => ?_) (fun cdv A outer s H vs Q E hr h => ?_)
  · obtain ⟨v, t, rfl, _⟩ := h
    rfl
  · obtain ⟨v, t, rfl, ty, q⟩ := h
    exact ⟨_, (pss_cons (ps_expr (pe_call G_check_term (hr.mono (by omega)) (by rfl) T.check_term.g T.check_term.F.kp T.check_term.b .nil (passes_call (takes_of rfl rfl rfl rfl) (fun _ _ _ _ h => h)) (pa_cons (pv 0) pa_nil)))
  (pss_one (ps_ret (pe_call G_spelled_part (hr.mono (by omega)) (by rfl) T.spelled_part.g T.spelled_part.F.kp T.spelled_part.b .nil pass0 (pa_cons (pv 0) pa_nil))))), ⟨v, rfl, v, t, rfl, ty, q⟩⟩
end
end Pl

namespace Pl
open PySem L2
local macro_rules | `(tactic| infer_instance) => `(tactic| first
  | with_reducible assumption
  | with_reducible exact Same.refl _
  | exact Wd.gh (by with_reducible assumption)
  | exact sm2 (by with_reducible assumption) (by infer_instance)
  | exact sm2 (same_upd (by with_reducible assumption)) (by infer_instance)
  | exact sm2 (Wd.gh (by with_reducible assumption)) (by infer_instance))
local macro_rules | `(tactic| trivial) => `(tactic| first
  | with_reducible assumption
  | with_reducible exact upd_same
  | exact at_same (by with_reducible assumption) (by trivial)
  | exact at_same (same_upd (by with_reducible assumption)) (by trivial)
  | exact at_same (Wd.gh (by with_reducible assumption)) (by trivial))
local macro_rules | `(tactic| ac_rfl) => `(tactic| first
  | exact Ty.int _
  | exact Ty.str _
  | exact Ty.non
  | exact Ty.bl _
  | exact Ty.tup (by trivial)
  | exact Ty.lst (by trivial))
local macro_rules | `(tactic| contradiction) => `(tactic| first
  | exact rfl
  | exact decide_eq_true (by first | assumption | omega)
  | exact decide_eq_false (by first | assumption | omega)
  | exact dI_t (by first | assumption | omega)
  | exact dI_f (by first | assumption | omega)
  | exact dS_t (by first | assumption | decide)
  | exact dS_f (by first | assumption | decide)
  | exact nI_t (by first | assumption | omega)
  | exact nI_f (by first | assumption | omega)
  | exact nS_t (by first | assumption | decide)
  | exact nS_f (by first | assumption | decide)
  | assumption
  | exact q_none_int | exact q_none_bool | exact q_none_tuple | exact q_none_list | exact q_none_str | exact q_bool_int | exact q_bool_bool | exact q_bool_tuple | exact q_bool_list | exact q_bool_str | exact q_int_int | exact q_int_bool | exact q_int_tuple | exact q_int_list | exact q_int_str | exact q_str_int | exact q_str_bool | exact q_str_tuple | exact q_str_list | exact q_str_str | exact q_list_int | exact q_list_bool | exact q_list_tuple | exact q_list_list | exact q_list_str | exact q_tuple_int | exact q_tuple_bool | exact q_tuple_tuple | exact q_tuple_list | exact q_tuple_str
  | exact nb_t (by contradiction)
  | exact nb_f (by contradiction))
local macro_rules | `(tactic| and_intros) => `(tactic| repeat (first
  | refine ⟨_, rfl, ?_⟩
  | refine ⟨_, _, rfl, rfl, ?_⟩
  | refine ⟨rfl, ?_⟩
  | refine ⟨_, _, _, _, rfl, rfl, SqT.of (by trivial), at_ix (by decide) rfl, ?_⟩
  | refine ⟨_, _, _, _, rfl, rfl, SqL.of (by trivial), at_ix (by decide) rfl, ?_⟩
  | refine ⟨_, _, rfl, Or.inl (SqL.of (by trivial)), ?_⟩
  | refine ⟨_, _, rfl, Or.inr (SqT.of (by trivial)), ?_⟩
  | refine ⟨_, _, _, _, _, rfl, (by trivial), (by trivial), (by trivial), rfl, ?_⟩
  | refine ⟨_, _, _, _, _, rfl, ClsV.ty _, Ty.x (by ac_rfl), isI_tuple (by ac_rfl), ?_⟩
  | refine ⟨_, _, _, _, _, rfl, ClsV.ty _, Ty.x (by ac_rfl), isI_list (by ac_rfl), ?_⟩
  | refine ⟨_, _, _, _, _, rfl, ClsV.ty _, Ty.x (by ac_rfl), isI_int (by ac_rfl), ?_⟩
  | refine ⟨_, _, _, _, _, rfl, ClsV.ty _, Ty.x (by ac_rfl), isI_bool (by ac_rfl), ?_⟩
  | refine ⟨_, _, _, _, _, rfl, ClsV.ty _, Ty.x (by ac_rfl), isI_str (by ac_rfl), ?_⟩
  | refine ⟨sz (Nat.le_of_ble_eq_true rfl), ?_⟩
  | refine ⟨Or.inl ⟨rfl, _, SqL.of (by trivial)⟩, ?_⟩
  | refine ⟨_, _, rfl, SqT.of (by trivial), rfl, _, _, rfl, _, _, rfl, _, _, rfl, _, _, rfl, rfl, ?_⟩
  | refine ⟨_, _, rfl, SqT.of (by trivial), rfl, _, _, rfl, _, _, rfl, _, _, rfl, rfl, ?_⟩
  | refine ⟨_, _, rfl, SqT.of (by trivial), rfl, _, _, rfl, _, _, rfl, rfl, ?_⟩
  | refine ⟨_, _, _, _, rfl, (by with_reducible assumption : Wd _ _ _ _), (by first | decide | omega), (by first | decide | omega), ?_⟩
  | refine ⟨_, _, _, rfl, (by with_reducible assumption : Wd _ _ _ _), ?_⟩
  | refine iT (by contradiction) ?_
  | refine iF (by contradiction) ?_))
-- USE RD
/-- the children of a tree stand at places -/
def KidsTr (H : Hp) : List Tm → List Addr → Prop
  | [], [] => True
  | t :: ts, a :: as => TrAt H t a ∧ KidsTr H ts as
  | _, _ => False
theorem KidsTr.same {H H' : Hp} (s : Same H H') : ∀ {ts : List Tm} {as : List Addr}, KidsTr H ts as → KidsTr H' ts as
  | [], [], _ => True.intro
  | _ :: _, _ :: _, ⟨h1, h2⟩ => ⟨h1.same s, KidsTr.same s h2⟩
theorem KidsTr.len {H : Hp} : ∀ {ts : List Tm} {as : List Addr}, KidsTr H ts as → as.length = ts.length
  | [], [], _ => rfl
  | _ :: _, _ :: _, ⟨_, h2⟩ => congrArg Nat.succ h2.len
theorem KidsTr.at {H : Hp} : ∀ {ts : List Tm} {as : List Addr}, KidsTr H ts as → ∀ (i : Nat) (t : Tm), ts[i]? = some t → ∃ a, as[i]? = some a ∧ TrAt H t a
  | _ :: _, a :: _, ⟨h1, _⟩, 0, t, e => by cases e; exact ⟨a, rfl, h1⟩
  | _ :: _, _ :: _, ⟨_, h2⟩, i + 1, t, e => KidsTr.at h2 i t e
  | [], [], _, _, _, e => by simp at e
theorem kid_depth {t k : Tm} (h : k ∈ t.kids) : k.depth < t.depth := by
  cases t <;> simp only [Tm.kids, List.mem_cons, List.not_mem_nil, or_false] at h <;> simp only [Tm.depth]
  · rw [h]; omega
  · rw [h]; omega
  all_goals (rcases h with rfl | rfl <;> omega)
section
variable {P : Program} {w : World} {K : PySem.W.Frag} {mg : Str → Option Value} {base : Heap}
/-- _law_children -/
def spKidsL : Sp := fun vs H Q _ => ∃ (t : Tm) (a : Addr), vs = [.ref a] ∧ TrAt H t a ∧ ∀ r H' as, Same H H' → H r = none → H' r = some (.lst (as.map V.ref)) → KidsTr H' t.kids as → Q (.ref r) H'
theorem ok_law_children (T : Txt P K mg) {k : Nat} : FnOk P w K mg base CX0 (k + 1) T.law_children.f T.law_children.fd ["_law_tree_here"] spKidsL := by
  refine T.law_children.F.ok (k := k) sc_law_children (fun vs H Q E h => ?_) (fun cdv A outer s H vs Q E hr h => ?_)
  · obtain ⟨t, a, rfl, _⟩ := h
    rfl
  · obtain ⟨t, a, rfl, ht, q⟩ := h
    refine ⟨_, (pss_cons (ps_if (pt_cmpR op_eq (pe_ix ix_tup (pv 0) pe_int (fun _ _ => rfl)) pe_str (nomark _)) (pss_one (ps_ret (pe_lst pa_nil))) pss_nil)
  (pss_cons (ps_if (pt_cmpR op_eq (pe_ix ix_tup (pv 0) pe_int (fun _ _ => rfl)) pe_str (nomark _)) (pss_one (ps_ret (pe_lst (pa_cons (pe_ix ix_tup (pv 0) pe_int (fun _ _ => rfl)) pa_nil)))) pss_nil)
  (pss_cons (ps_if (pt_cmpR op_eq (pe_ix ix_tup (pv 0) pe_int (fun _ _ => rfl)) pe_str (nomark _)) (pss_one (ps_ret (pe_lst (pa_cons (pe_ix ix_tup (pv 0) pe_int (fun _ _ => rfl)) pa_nil)))) pss_nil)
  (pss_one (ps_ret (pe_lst (pa_cons (pe_ix ix_tup (pv 0) pe_int (fun _ _ => rfl)) (pa_cons (pe_ix ix_tup (pv 0) pe_int (fun _ _ => rfl)) pa_nil)))))))), ?_⟩
    cases t with
    | now =>
      have ha : H a = some (.tup [.str "now"]) := ht
      and_intros
      exact fun p hp => q p _ [] (same_upd hp) hp upd_same True.intro
    | shift m i =>
      obtain ⟨b, ha, hm⟩ := ht
      and_intros
      exact fun p hp => q p _ [b] (same_upd hp) hp upd_same ⟨hm.same (same_upd hp), True.intro⟩
    | look z m wy lim =>
      obtain ⟨b, ha, hm⟩ := ht
      and_intros
      exact fun p hp => q p _ [b] (same_upd hp) hp upd_same ⟨hm.same (same_upd hp), True.intro⟩
    | either x y =>
      obtain ⟨b, d, ha, h1, h2⟩ := ht
      and_intros
      exact fun p hp => q p _ [b, d] (same_upd hp) hp upd_same ⟨h1.same (same_upd hp), h2.same (same_upd hp), True.intro⟩
    | later x y =>
      obtain ⟨b, d, ha, h1, h2⟩ := ht
      and_intros
      exact fun p hp => q p _ [b, d] (same_upd hp) hp upd_same ⟨h1.same (same_upd hp), h2.same (same_upd hp), True.intro⟩
    | earlier x y =>
      obtain ⟨b, d, ha, h1, h2⟩ := ht
      and_intros
      exact fun p hp => q p _ [b, d] (same_upd hp) hp upd_same ⟨h1.same (same_upd hp), h2.same (same_upd hp), True.intro⟩
end
end Pl

namespace Pl
open PySem L2
local macro_rules | `(tactic| infer_instance) => `(tactic| first
  | with_reducible assumption
  | with_reducible exact Same.refl _
  | exact Wd.gh (by with_reducible assumption)
  | exact sm2 (by with_reducible assumption) (by infer_instance)
  | exact sm2 (same_upd (by with_reducible assumption)) (by infer_instance)
  | exact sm2 (Wd.gh (by with_reducible assumption)) (by infer_instance))
local macro_rules | `(tactic| trivial) => `(tactic| first
  | with_reducible assumption
  | with_reducible exact upd_same
  | exact at_same (by with_reducible assumption) (by trivial)
  | exact at_same (same_upd (by with_reducible assumption)) (by trivial)
  | exact at_same (Wd.gh (by with_reducible assumption)) (by trivial))
local macro_rules | `(tactic| ac_rfl) => `(tactic| first
  | exact Ty.int _
  | exact Ty.str _
  | exact Ty.non
  | exact Ty.bl _
  | exact Ty.tup (by trivial)
  | exact Ty.lst (by trivial))
local macro_rules | `(tactic| contradiction) => `(tactic| first
  | exact rfl
  | exact decide_eq_true (by first | assumption | omega)
  | exact decide_eq_false (by first | assumption | omega)
  | exact dI_t (by first | assumption | omega)
  | exact dI_f (by first | assumption | omega)
  | exact dS_t (by first | assumption | decide)
  | exact dS_f (by first | assumption | decide)
  | exact nI_t (by first | assumption | omega)
  | exact nI_f (by first | assumption | omega)
  | exact nS_t (by first | assumption | decide)
  | exact nS_f (by first | assumption | decide)
  | assumption
  | exact q_none_int | exact q_none_bool | exact q_none_tuple | exact q_none_list | exact q_none_str | exact q_bool_int | exact q_bool_bool | exact q_bool_tuple | exact q_bool_list | exact q_bool_str | exact q_int_int | exact q_int_bool | exact q_int_tuple | exact q_int_list | exact q_int_str | exact q_str_int | exact q_str_bool | exact q_str_tuple | exact q_str_list | exact q_str_str | exact q_list_int | exact q_list_bool | exact q_list_tuple | exact q_list_list | exact q_list_str | exact q_tuple_int | exact q_tuple_bool | exact q_tuple_tuple | exact q_tuple_list | exact q_tuple_str
  | exact nb_t (by contradiction)
  | exact nb_f (by contradiction))
local macro_rules | `(tactic| and_intros) => `(tactic| repeat (first
  | refine ⟨_, rfl, ?_⟩
  | refine ⟨_, _, rfl, rfl, ?_⟩
  | refine ⟨rfl, ?_⟩
  | refine ⟨_, _, _, _, rfl, rfl, SqT.of (by trivial), at_ix (by decide) rfl, ?_⟩
  | refine ⟨_, _, _, _, rfl, rfl, SqL.of (by trivial), at_ix (by decide) rfl, ?_⟩
  | refine ⟨_, _, rfl, Or.inl (SqL.of (by trivial)), ?_⟩
  | refine ⟨_, _, rfl, Or.inr (SqT.of (by trivial)), ?_⟩
  | refine ⟨_, _, _, _, _, rfl, (by trivial), (by trivial), (by trivial), rfl, ?_⟩
  | refine ⟨_, _, _, _, _, rfl, ClsV.ty _, Ty.x (by ac_rfl), isI_tuple (by ac_rfl), ?_⟩
  | refine ⟨_, _, _, _, _, rfl, ClsV.ty _, Ty.x (by ac_rfl), isI_list (by ac_rfl), ?_⟩
  | refine ⟨_, _, _, _, _, rfl, ClsV.ty _, Ty.x (by ac_rfl), isI_int (by ac_rfl), ?_⟩
  | refine ⟨_, _, _, _, _, rfl, ClsV.ty _, Ty.x (by ac_rfl), isI_bool (by ac_rfl), ?_⟩
  | refine ⟨_, _, _, _, _, rfl, ClsV.ty _, Ty.x (by ac_rfl), isI_str (by ac_rfl), ?_⟩
  | refine ⟨sz (Nat.le_of_ble_eq_true rfl), ?_⟩
  | refine ⟨Or.inl ⟨rfl, _, SqL.of (by trivial)⟩, ?_⟩
  | refine ⟨_, _, rfl, SqT.of (by trivial), rfl, _, _, rfl, _, _, rfl, _, _, rfl, _, _, rfl, rfl, ?_⟩
  | refine ⟨_, _, rfl, SqT.of (by trivial), rfl, _, _, rfl, _, _, rfl, _, _, rfl, rfl, ?_⟩
  | refine ⟨_, _, rfl, SqT.of (by trivial), rfl, _, _, rfl, _, _, rfl, rfl, ?_⟩
  | refine ⟨_, _, _, _, rfl, (by with_reducible assumption : Wd _ _ _ _), (by first | decide | omega), (by first | decide | omega), ?_⟩
  | refine ⟨_, _, _, rfl, (by with_reducible assumption : Wd _ _ _ _), ?_⟩
  | refine iT (by contradiction) ?_
  | refine iF (by contradiction) ?_))
-- USE RD
/-! ### paths -/
def Tm.paths : Tm → List (List Nat)
  | .now => [[]]
  | .shift m _ => [] :: m.paths.map (0 :: ·)
  | .look _ m _ _ => [] :: m.paths.map (0 :: ·)
  | .either a b => [] :: (a.paths.map (0 :: ·) ++ b.paths.map (1 :: ·))
  | .later a b => [] :: (a.paths.map (0 :: ·) ++ b.paths.map (1 :: ·))
  | .earlier a b => [] :: (a.paths.map (0 :: ·) ++ b.paths.map (1 :: ·))
/-- the paths by way of the children from the i-th on -/
def kidPaths : Nat → List Tm → List (List Nat)
  | _, [] => []
  | i, t :: ts => t.paths.map (i :: ·) ++ kidPaths (i + 1) ts
theorem Tm.paths_kids (t : Tm) : t.paths = [] :: kidPaths 0 t.kids := by
  cases t <;> simp [Tm.paths, Tm.kids, kidPaths]
theorem kidPaths_take {t : Tm} {i : Nat} {k : Tm} (h : t.kids[i]? = some k) : kidPaths 0 (t.kids.take (i + 1)) = kidPaths 0 (t.kids.take i) ++ k.paths.map (i :: ·) := by
  have key : ∀ (l : List Tm) (j i : Nat) (k : Tm), l[i]? = some k → kidPaths j (l.take (i + 1)) = kidPaths j (l.take i) ++ k.paths.map ((j + i) :: ·) := by
    intro l
    induction l with
    | nil => intro j i k h; simp at h
    | cons x l ih =>
      intro j i k h
      cases i with
      | zero => cases h; simp [kidPaths]
      | succ i =>
        have := ih (j + 1) i k h
        simp only [List.take_succ_cons, kidPaths, this, List.append_assoc]
        rw [show j + 1 + i = j + (i + 1) by omega]
  have := key t.kids 0 i k h
  rw [Nat.zero_add] at this
  exact this
theorem paths_len (t : Tm) : t.paths.length = t.parts := by
  induction t with
  | now => rfl
  | shift m n ih => simp [Tm.paths, Tm.parts, ih]; omega
  | look s m wy lim ih => simp [Tm.paths, Tm.parts, ih]; omega
  | either a b i1 i2 => simp [Tm.paths, Tm.parts, i1, i2]; omega
  | later a b i1 i2 => simp [Tm.paths, Tm.parts, i1, i2]; omega
  | earlier a b i1 i2 => simp [Tm.paths, Tm.parts, i1, i2]; omega
/-- the part at a path -/
def Tm.at : Tm → List Nat → Option Tm
  | t, [] => some t
  | t, i :: p => match t.kids[i]? with
    | none => none
    | some k => k.at p
theorem at_snoc : ∀ (t : Tm) (p : List Nat) (i : Nat), t.at (p ++ [i]) = match t.at p with
    | none => none
    | some u => u.kids[i]?
  | t, [], i => by
    simp only [List.nil_append, Tm.at]
    cases t.kids[i]? <;> rfl
  | t, j :: p, i => by
    simp only [List.cons_append, Tm.at]
    cases t.kids[j]? with
    | none => rfl
    | some k => exact at_snoc k p i
theorem paths_at : ∀ {t : Tm} {p : List Nat}, p ∈ t.paths → ∃ u, t.at p = some u ∧ u.depth ≤ t.depth ∧ p.length < t.depth := by
  intro t
  induction t with
  | now => intro p h; simp [Tm.paths] at h; subst h; exact ⟨_, rfl, Nat.le_refl _, by simp [Tm.depth]⟩
  | shift m n ih =>
    intro p h
    simp only [Tm.paths, List.mem_cons, List.mem_map] at h
    rcases h with rfl | ⟨p, h, rfl⟩
    · exact ⟨_, rfl, Nat.le_refl _, by simp [Tm.depth]; omega⟩
    · obtain ⟨u, h1, h2, h3⟩ := ih h
      exact ⟨u, by simp [Tm.at, Tm.kids, h1], by simp only [Tm.depth]; omega, by simp only [Tm.depth, List.length_cons]; omega⟩
  | look s m wy lim ih =>
    intro p h
    simp only [Tm.paths, List.mem_cons, List.mem_map] at h
    rcases h with rfl | ⟨p, h, rfl⟩
    · exact ⟨_, rfl, Nat.le_refl _, by simp [Tm.depth]; omega⟩
    · obtain ⟨u, h1, h2, h3⟩ := ih h
      exact ⟨u, by simp [Tm.at, Tm.kids, h1], by simp only [Tm.depth]; omega, by simp only [Tm.depth, List.length_cons]; omega⟩
  | either a b i1 i2 =>
    intro p h
    simp only [Tm.paths, List.mem_cons, List.mem_append, List.mem_map] at h
    rcases h with rfl | ⟨p, h, rfl⟩ | ⟨p, h, rfl⟩
    · exact ⟨_, rfl, Nat.le_refl _, by simp [Tm.depth]; omega⟩
    · obtain ⟨u, h1, h2, h3⟩ := i1 h
      exact ⟨u, by simp [Tm.at, Tm.kids, h1], by simp only [Tm.depth]; omega, by simp only [Tm.depth, List.length_cons]; omega⟩
    · obtain ⟨u, h1, h2, h3⟩ := i2 h
      exact ⟨u, by simp [Tm.at, Tm.kids, h1], by simp only [Tm.depth]; omega, by simp only [Tm.depth, List.length_cons]; omega⟩
  | later a b i1 i2 =>
    intro p h
    simp only [Tm.paths, List.mem_cons, List.mem_append, List.mem_map] at h
    rcases h with rfl | ⟨p, h, rfl⟩ | ⟨p, h, rfl⟩
    · exact ⟨_, rfl, Nat.le_refl _, by simp [Tm.depth]; omega⟩
    · obtain ⟨u, h1, h2, h3⟩ := i1 h
      exact ⟨u, by simp [Tm.at, Tm.kids, h1], by simp only [Tm.depth]; omega, by simp only [Tm.depth, List.length_cons]; omega⟩
    · obtain ⟨u, h1, h2, h3⟩ := i2 h
      exact ⟨u, by simp [Tm.at, Tm.kids, h1], by simp only [Tm.depth]; omega, by simp only [Tm.depth, List.length_cons]; omega⟩
  | earlier a b i1 i2 =>
    intro p h
    simp only [Tm.paths, List.mem_cons, List.mem_append, List.mem_map] at h
    rcases h with rfl | ⟨p, h, rfl⟩ | ⟨p, h, rfl⟩
    · exact ⟨_, rfl, Nat.le_refl _, by simp [Tm.depth]; omega⟩
    · obtain ⟨u, h1, h2, h3⟩ := i1 h
      exact ⟨u, by simp [Tm.at, Tm.kids, h1], by simp only [Tm.depth]; omega, by simp only [Tm.depth, List.length_cons]; omega⟩
    · obtain ⟨u, h1, h2, h3⟩ := i2 h
      exact ⟨u, by simp [Tm.at, Tm.kids, h1], by simp only [Tm.depth]; omega, by simp only [Tm.depth, List.length_cons]; omega⟩
theorem depth_parts (t : Tm) : t.depth ≤ t.parts := by
  induction t with
  | now => exact Nat.le_refl _
  | _ => simp only [Tm.depth, Tm.parts]; omega
def pV (p : List Nat) : List V := p.map fun i => .int (i : Nat)
/-- paths as the heap has them -/
def PthAt (H : Hp) (vs : List V) (ps : List (List Nat)) : Prop := vs.length = ps.length ∧ ∀ (i : Nat) p, ps[i]? = some p → ∃ t, vs[i]? = some (.ref t) ∧ H t = some (.tup (pV p))
theorem PthAt.same {H H' : Hp} {vs : List V} {ps : List (List Nat)} (s : Same H H') (h : PthAt H vs ps) : PthAt H' vs ps := ⟨h.1, fun i p e => by
  obtain ⟨t, e1, e2⟩ := h.2 i p e
  exact ⟨t, e1, s _ _ e2⟩⟩
theorem PthAt.put {H : Hp} {vs xs : List V} {ps : List (List Nat)} {D : Addr} {o : HO} (hD : H D = some (.lst xs)) (h : PthAt H vs ps) : PthAt (upd H D o) vs ps := ⟨h.1, fun i p e => by
  obtain ⟨t, e1, e2⟩ := h.2 i p e
  refine ⟨t, e1, ?_⟩
  rw [upd_ne (fun z => by rw [z, hD] at e2; cases e2)]
  exact e2⟩
theorem PthAt.snoc {H : Hp} {vs : List V} {ps : List (List Nat)} {t : Addr} {p : List Nat} (h : PthAt H vs ps) (ht : H t = some (.tup (pV p))) : PthAt H (vs ++ [.ref t]) (ps ++ [p]) := by
  refine ⟨by rw [List.length_append, List.length_append, h.1]; rfl, fun i q e => ?_⟩
  rw [List.getElem?_append] at e ⊢
  by_cases hl : i < ps.length
  · rw [if_pos hl] at e
    rw [if_pos (by rw [h.1]; exact hl)]
    exact h.2 i q e
  · rw [if_neg hl] at e
    rw [if_neg (by rw [h.1]; exact hl), h.1]
    cases hk : i - ps.length with
    | zero => rw [hk] at e; cases e; exact ⟨t, rfl, ht⟩
    | succ j => rw [hk] at e; simp at e
section
variable {P : Program} {w : World} {K : PySem.W.Frag} {mg : Str → Option Value} {base : Heap}
theorem kp_le (t : Tm) (i : Nat) : (kidPaths 0 (t.kids.take i)).length ≤ t.parts := by
  have h1 := paths_len t
  rw [Tm.paths_kids] at h1
  have key : ∀ (l : List Tm) (j i : Nat), (kidPaths j (l.take i)).length ≤ (kidPaths j l).length := by
    intro l
    induction l with
    | nil => intro j i; simp [kidPaths]
    | cons x l ih =>
      intro j i
      cases i with
      | zero => simp [kidPaths]
      | succ i =>
        simp only [List.take_succ_cons, kidPaths, List.length_append]
        have := ih (j + 1) i
        omega
  have := key t.kids 0 i
  simp only [List.length_cons] at h1
  omega
/-- _law_paths -/
def spPathsL (n : Nat) : Sp := fun vs H Q _ => ∃ (t : Tm) (a : Addr), vs = [.ref a] ∧ TrAt H t a ∧ t.depth ≤ n ∧ t.parts ≤ 1000 ∧ ∀ r H' us, Same H H' → H r = none → H' r = some (.lst us) → PthAt H' us t.paths → Q (.ref r) H'
theorem ok_law_paths (T : Txt P K mg) {k : Nat} : ∀ n, FnOk P w K mg base CX0 (k + 2 + n) T.law_paths.f T.law_paths.fd ["_law_tree_here"] (spPathsL n)
  | 0 => T.law_paths.F.ok (k := k + 1) sc_law_paths (fun vs H Q E h => by obtain ⟨t, _, _, _, h, _⟩ := h; have := depth_pos t; omega) (fun _ _ _ _ _ _ _ _ _ h => by obtain ⟨t, _, _, _, h, _⟩ := h; have := depth_pos t; omega)
  | n + 1 => by
    have G_law_paths : FnOk P w K mg base CX0 (k + 2 + n) T.law_paths.f T.law_paths.fd ["_law_tree_here"] (spPathsL n) := ok_law_paths T n
    have G_law_children : FnOk P w K mg base CX0 (k + 1) T.law_children.f T.law_children.fd ["_law_tree_here"] spKidsL := ok_law_children T
    refine T.law_paths.F.ok (k := k + 2 + n) sc_law_paths (fun vs H Q E h => ?_) (fun cdv A outer s H vs Q E hr h => ?_)
    · obtain ⟨t, a, rfl, _⟩ := h
      rfl
    · obtain ⟨t, a, rfl, ht, hd, hpt, q⟩ := h
      refine ⟨_, (pss_cons (ps_set (i := 1) sc_law_paths.nd rfl (.inl rfl) (pe_lst (pa_cons (pe_tup pa_nil) pa_nil)))
  (pss_cons (ps_set (i := 2) sc_law_paths.nd rfl (.inl rfl) (pe_call G_law_children (hr.mono (by omega)) (by rfl) T.law_children.g T.law_children.F.kp T.law_children.b .nil pass0 (pa_cons (pv 0) pa_nil)))
  (pss_cons (ps_for PassesOwn.never rfl (pi_range1 (by rfl) T.n_range (pa_cons (pe_callB call_len_seq (by rfl) T.n_len PySem.boot_len (pa_cons (pv 2) pa_nil)) pa_nil)) (pg_name (i := 3) sc_law_paths.nd rfl (.inl rfl))
   (pss_one (ps_for PassesOwn.never rfl (pi_list (pe_call G_law_paths (hr.mono (by omega)) (by rfl) T.law_paths.g T.law_paths.F.kp T.law_paths.b .nil pass0 (pa_cons (pe_ix ix_list (pv 2) (pv 3) (fun _ _ => rfl)) pa_nil))) (pg_name (i := 4) sc_law_paths.nd rfl (.inl rfl))
   (pss_one (ps_expr (pe_bm PySem.F.plainAttrs_list PySem.F.slot_list_append PySem.F.type_list_append mt_append (pv 1) (pa_cons (pe_op op_catA (pe_tup (pa_cons (pv 3) pa_nil)) (pv 4)) pa_nil)))))))
  (pss_one (ps_ret (pv 1)))))), ?_⟩
      refine ⟨sz (Nat.le_of_ble_eq_true rfl), fun e0 he0 => ?_⟩
      have s0 := same_upd (o := .tup []) he0
      refine ⟨sz (Nat.le_of_ble_eq_true rfl), fun l hl => ?_⟩
      have hlH : H l = none := s0.free hl
      have s1 := s0.trans (same_upd (o := .lst [.ref e0]) hl)
      refine ⟨_, rfl, t, a, rfl, ht.same s1, fun r H2 as s2 hr0 hr2 hk => ?_⟩
      have hlen := hk.len
      have hl2 : H2 l = some (.lst [.ref e0]) := s2 _ _ upd_same
      have he2 : H2 e0 = some (.tup []) := s2 _ _ (by rw [upd_ne (fun z => by rw [← z, upd_same] at hl; cases hl)]; exact upd_same)
      have hrl : r ≠ l := fun z => by rw [z, upd_same] at hr0; cases hr0
      have hk2 := kids2 t
      refine ⟨_, rfl, _, _, rfl, .inl (SqL.of hr2), _, rfl, by omega, by rw [List.length_map]; omega, ?_⟩
      refine for_range (lo := 0) (n := ((as.map V.ref).length : Int).toNat) (fun i σ H' => ∃ (us : List V) (y3 y4 : Option V), σ = [some (.ref a), some (.ref l), some (.ref r), y3, y4] ∧ (∀ b o, b ≠ l → H2 b = some o → H' b = some o) ∧ H' l = some (.lst us) ∧ PthAt H' us ([] :: kidPaths 0 (t.kids.take i)))
        ⟨[.ref e0], none, none, rfl, fun _ _ _ h => h, hl2, rfl, fun i p e => ?_⟩ (fun i σ H3 hi pp => ?_) (fun σ H3 pp => ?_)
      · cases i with
        | zero => cases e; exact ⟨e0, rfl, he2⟩
        | succ i => simp [kidPaths] at e
      · obtain ⟨us, y3, y4, rfl, hb3, hl3, hp3⟩ := pp
        have hi' : i < t.kids.length := by
          have : i < ((as.map V.ref).length : Int).toNat := hi
          rw [List.length_map] at this
          omega
        obtain ⟨b, hb, hkt⟩ := hk.at i _ (List.getElem?_eq_getElem hi')
        have hkt3 : ∀ {u : Tm} {d : Addr}, TrAt H2 u d → TrAt H3 u d := fun {u} => by
          have key : ∀ {x : Addr} {xs : List V}, H2 x = some (.tup xs) → H3 x = some (.tup xs) := fun {x xs} h => hb3 x _ (fun z => by rw [z, hl2] at h; cases h) h
          induction u with
          | now => intro d h; exact key h
          | shift m n ih => intro d ⟨x, h, h1⟩; exact ⟨x, key h, ih h1⟩
          | look s m wy lim ih => intro d ⟨x, h, h1⟩; exact ⟨x, key h, ih h1⟩
          | either x y i1 i2 => intro d ⟨x, y, h, h1, h2⟩; exact ⟨x, y, key h, i1 h1, i2 h2⟩
          | later x y i1 i2 => intro d ⟨x, y, h, h1, h2⟩; exact ⟨x, y, key h, i1 h1, i2 h2⟩
          | earlier x y i1 i2 => intro d ⟨x, y, h, h1, h2⟩; exact ⟨x, y, key h, i1 h1, i2 h2⟩
        have hat : atI (as.map V.ref) (0 + (i : Nat)) = some (.ref b) := by
          rw [Int.zero_add]
          exact atI_nat (by rw [List.getElem?_map, hb]; rfl)
        have hdk := kid_depth (List.getElem_mem hi')
        have hpk : (t.kids[i]).parts ≤ t.parts := by
          have h1 := kp_le t (i + 1)
          rw [kidPaths_take (List.getElem?_eq_getElem hi'), List.length_append, List.length_map, paths_len] at h1
          omega
        refine ⟨_, rfl, _, rfl, _, _, _, _, rfl, rfl, SqL.of (hb3 _ _ hrl hr2), hat, t.kids[i], b, rfl, hkt3 hkt, by omega, by omega, fun r2 H4 us4 s4 hr40 hr4 hp4 => ?_⟩
        have hl4 := s4 _ _ hl3
        have hr2l : r2 ≠ l := fun z => by rw [z, hl3] at hr40; cases hr40
        refine ⟨r2, rfl, ⟨_, SqL.of hr4⟩, ?_⟩
        refine for_list (K := K) (a := r2) (xs := us4) (fun j σ H' => ∃ (us : List V) (y4 : Option V), σ = [some (.ref a), some (.ref l), some (.ref r), some (.int (0 + (i : Nat))), y4] ∧ (∀ b o, b ≠ l → H4 b = some o → H' b = some o) ∧ H' l = some (.lst us) ∧ PthAt H' us (([] :: kidPaths 0 (t.kids.take i)) ++ ((t.kids[i]).paths.map (i :: ·)).take j))
          ⟨us, _, rfl, fun _ _ _ h => h, hl4, by rw [List.take_zero, List.append_nil]; exact hp3.same s4⟩ (fun j σ H5 _ pp => ?_) (fun j x σ H5 hx pp => ?_) (fun σ H5 pp => ?_)
        · obtain ⟨us5, y4, _, hb5, _⟩ := pp
          exact SqL.of (hb5 _ _ hr2l hr4)
        · obtain ⟨us5, y4, rfl, hb5, hl5, hp5⟩ := pp
          have hj : j < (t.kids[i]).paths.length := by rw [← hp4.1]; exact (List.getElem?_eq_some_iff.mp hx).1
          obtain ⟨pt, e1, e2⟩ := hp4.2 j _ (List.getElem?_eq_getElem hj)
          rw [hx] at e1
          cases e1
          have hpt5 : H5 pt = some (.tup (pV (t.kids[i]).paths[j])) := hb5 _ _ (fun z => by rw [z, hl4] at e2; cases e2) e2
          have htk : ((t.kids[i]).paths.map (i :: ·)).take (j + 1) = ((t.kids[i]).paths.map (i :: ·)).take j ++ [i :: (t.kids[i]).paths[j]] := by
            rw [List.take_add_one, List.getElem?_map, List.getElem?_eq_getElem hj]
            rfl
          have hu5 : us5.length < 100000 := by
            have h1 := hp5.1
            rw [List.length_append, List.length_cons, List.length_take, List.length_map] at h1
            have h2 := kp_le t i
            have h3 := paths_len (t.kids[i])
            omega
          -- one more path
          have fin : ∀ (tr : Addr) (H6 : Hp), Same H5 H6 → H6 tr = some (.tup (pV (i :: (t.kids[i]).paths[j]))) → ∃ (us : List V) (y4 : Option V), ([some (.ref a), some (.ref l), some (.ref r), some (.int (0 + (i : Nat))), some (.ref pt)] : St) = [some (.ref a), some (.ref l), some (.ref r), some (.int (0 + (i : Nat))), y4] ∧ (∀ b o, b ≠ l → H4 b = some o → upd H6 l (.lst (us5 ++ [.ref tr])) b = some o) ∧ upd H6 l (.lst (us5 ++ [.ref tr])) l = some (.lst us) ∧ PthAt (upd H6 l (.lst (us5 ++ [.ref tr]))) us (([] :: kidPaths 0 (t.kids.take i)) ++ ((t.kids[i]).paths.map (i :: ·)).take (j + 1)) := fun tr H6 s6 htr => by
            refine ⟨us5 ++ [.ref tr], _, rfl, fun b o nb h => by rw [upd_ne nb]; exact s6 _ _ (hb5 b o nb h), upd_same, ?_⟩
            rw [htk, ← List.append_assoc]
            exact PthAt.put (s6 _ _ hl5) ((hp5.same s6).snoc htr)
          refine ⟨_, rfl, .inl ⟨rfl, _, SqL.of hl5⟩, _, rfl, sz (Nat.le_of_ble_eq_true rfl), fun p1 hp1 => ?_⟩
          have s6 := same_upd (o := .tup [.int (0 + (i : Nat))]) hp1
          have e0i : (0 : Int) + ((i : Nat) : Int) = ((i : Nat) : Int) := Int.zero_add _
          have hpl : (pV (t.kids[i]).paths[j]).length ≤ 1000 := by
            obtain ⟨_, _, _, h3⟩ := paths_at (List.getElem_mem hj)
            have h4 := depth_parts (t.kids[i])
            unfold pV
            rw [List.length_map]
            omega
          refine ⟨_, rfl, p1, pt, _, _, rfl, rfl, SqT.of upd_same, SqT.of (s6 _ _ hpt5), sz ?_, ?_, ?_, ?_⟩
          · simp only [List.length_cons, List.length_nil]
            omega
          · exact fun z => nomatch z
          · intro _ hy
            refine ⟨l, us5, _, rfl, rfl, s6 _ _ hl5, szl hu5, fin p1 _ s6 ?_⟩
            have hpe : (t.kids[i]).paths[j] = [] := List.map_eq_nil_iff.mp hy
            rw [upd_same, hpe, e0i]
            rfl
          · intro _ hy p2 hp2
            have s7 := s6.trans (same_upd (o := .tup ([V.int (0 + (i : Nat))] ++ pV (t.kids[i]).paths[j])) hp2)
            refine ⟨l, us5, _, rfl, rfl, s7 _ _ hl5, szl hu5, fin p2 _ s7 ?_⟩
            rw [upd_same, e0i]
            rfl
        · obtain ⟨us5, y4, rfl, hb5, hl5, hp5⟩ := pp
          refine ⟨us5, _, _, rfl, fun b o nb h => hb5 b o nb (s4 _ _ (hb3 b o nb h)), hl5, ?_⟩
          rw [hp4.1, ← List.length_map (f := (i :: ·)), List.take_length] at hp5
          rw [kidPaths_take (List.getElem?_eq_getElem hi')]
          exact hp5
      · obtain ⟨us, y3, y4, rfl, hb3, hl3, hp3⟩ := pp
        have e : (((as.map V.ref).length : Int)).toNat = t.kids.length := by rw [List.length_map]; omega
        rw [e, List.take_of_length_le (Nat.le_refl _), ← Tm.paths_kids] at hp3
        refine ⟨_, rfl, q l H3 us (fun b o h => ?_) hlH hl3 hp3⟩
        exact hb3 b o (fun z => by rw [z, hlH] at h; cases h) (s2 _ _ (s1 _ _ h))
end
end Pl

namespace Pl
open PySem L2
local macro_rules | `(tactic| infer_instance) => `(tactic| first
  | with_reducible assumption
  | with_reducible exact Same.refl _
  | exact Wd.gh (by with_reducible assumption)
  | exact sm2 (by with_reducible assumption) (by infer_instance)
  | exact sm2 (same_upd (by with_reducible assumption)) (by infer_instance)
  | exact sm2 (Wd.gh (by with_reducible assumption)) (by infer_instance))
local macro_rules | `(tactic| trivial) => `(tactic| first
  | with_reducible assumption
  | with_reducible exact upd_same
  | exact at_same (by with_reducible assumption) (by trivial)
  | exact at_same (same_upd (by with_reducible assumption)) (by trivial)
  | exact at_same (Wd.gh (by with_reducible assumption)) (by trivial))
local macro_rules | `(tactic| ac_rfl) => `(tactic| first
  | exact Ty.int _
  | exact Ty.str _
  | exact Ty.non
  | exact Ty.bl _
  | exact Ty.tup (by trivial)
  | exact Ty.lst (by trivial))
local macro_rules | `(tactic| contradiction) => `(tactic| first
  | exact rfl
  | exact decide_eq_true (by first | assumption | omega)
  | exact decide_eq_false (by first | assumption | omega)
  | exact dI_t (by first | assumption | omega)
  | exact dI_f (by first | assumption | omega)
  | exact dS_t (by first | assumption | decide)
  | exact dS_f (by first | assumption | decide)
  | exact nI_t (by first | assumption | omega)
  | exact nI_f (by first | assumption | omega)
  | exact nS_t (by first | assumption | decide)
  | exact nS_f (by first | assumption | decide)
  | assumption
  | exact q_none_int | exact q_none_bool | exact q_none_tuple | exact q_none_list | exact q_none_str | exact q_bool_int | exact q_bool_bool | exact q_bool_tuple | exact q_bool_list | exact q_bool_str | exact q_int_int | exact q_int_bool | exact q_int_tuple | exact q_int_list | exact q_int_str | exact q_str_int | exact q_str_bool | exact q_str_tuple | exact q_str_list | exact q_str_str | exact q_list_int | exact q_list_bool | exact q_list_tuple | exact q_list_list | exact q_list_str | exact q_tuple_int | exact q_tuple_bool | exact q_tuple_tuple | exact q_tuple_list | exact q_tuple_str
  | exact nb_t (by contradiction)
  | exact nb_f (by contradiction))
local macro_rules | `(tactic| and_intros) => `(tactic| repeat (first
  | refine ⟨_, rfl, ?_⟩
  | refine ⟨_, _, rfl, rfl, ?_⟩
  | refine ⟨rfl, ?_⟩
  | refine ⟨_, _, _, _, rfl, rfl, SqT.of (by trivial), at_ix (by decide) rfl, ?_⟩
  | refine ⟨_, _, _, _, rfl, rfl, SqL.of (by trivial), at_ix (by decide) rfl, ?_⟩
  | refine ⟨_, _, rfl, Or.inl (SqL.of (by trivial)), ?_⟩
  | refine ⟨_, _, rfl, Or.inr (SqT.of (by trivial)), ?_⟩
  | refine ⟨_, _, _, _, _, rfl, (by trivial), (by trivial), (by trivial), rfl, ?_⟩
  | refine ⟨_, _, _, _, _, rfl, ClsV.ty _, Ty.x (by ac_rfl), isI_tuple (by ac_rfl), ?_⟩
  | refine ⟨_, _, _, _, _, rfl, ClsV.ty _, Ty.x (by ac_rfl), isI_list (by ac_rfl), ?_⟩
  | refine ⟨_, _, _, _, _, rfl, ClsV.ty _, Ty.x (by ac_rfl), isI_int (by ac_rfl), ?_⟩
  | refine ⟨_, _, _, _, _, rfl, ClsV.ty _, Ty.x (by ac_rfl), isI_bool (by ac_rfl), ?_⟩
  | refine ⟨_, _, _, _, _, rfl, ClsV.ty _, Ty.x (by ac_rfl), isI_str (by ac_rfl), ?_⟩
  | refine ⟨sz (Nat.le_of_ble_eq_true rfl), ?_⟩
  | refine ⟨Or.inl ⟨rfl, _, SqL.of (by trivial)⟩, ?_⟩
  | refine ⟨_, _, rfl, SqT.of (by trivial), rfl, _, _, rfl, _, _, rfl, _, _, rfl, _, _, rfl, rfl, ?_⟩
  | refine ⟨_, _, rfl, SqT.of (by trivial), rfl, _, _, rfl, _, _, rfl, _, _, rfl, rfl, ?_⟩
  | refine ⟨_, _, rfl, SqT.of (by trivial), rfl, _, _, rfl, _, _, rfl, rfl, ?_⟩
  | refine ⟨_, _, _, _, rfl, (by with_reducible assumption : Wd _ _ _ _), (by first | decide | omega), (by first | decide | omega), ?_⟩
  | refine ⟨_, _, _, rfl, (by with_reducible assumption : Wd _ _ _ _), ?_⟩
  | refine iT (by contradiction) ?_
  | refine iF (by contradiction) ?_))
-- USE RD
theorem at_none : ∀ (t : Tm) (p r : List Nat), t.at p = none → t.at (p ++ r) = none
  | t, [], r, h => nomatch h
  | t, i :: p, r, h => by
    simp only [List.cons_append, Tm.at] at h ⊢
    cases e : t.kids[i]? with
    | none => rfl
    | some k =>
      rw [e] at h
      exact at_none k p r h
theorem at_step {t u v : Tm} {p : List Nat} {i : Nat} (hi : i < p.length) (hu : t.at p = some u) (hv : t.at (p.take i) = some v) : ∃ c, t.at (p.take (i + 1)) = some c ∧ v.kids[p[i]]? = some c := by
  have e1 : p.take (i + 1) = p.take i ++ [p[i]] := by rw [List.take_add_one, List.getElem?_eq_getElem hi]; rfl
  have e2 := at_snoc t (p.take i) p[i]
  rw [← e1, hv] at e2
  cases hc : v.kids[p[i]]? with
  | some c => exact ⟨c, by rw [e2]; exact hc, rfl⟩
  | none =>
    exfalso
    have e4 : t.at (p.take (i + 1)) = none := by rw [e2]; exact hc
    have e5 : p = p.take (i + 1) ++ p.drop (i + 1) := (List.take_append_drop _ _).symm
    have e6 := at_none t (p.take (i + 1)) (p.drop (i + 1)) e4
    rw [← e5, hu] at e6
    cases e6
section
variable {P : Program} {w : World} {K : PySem.W.Frag} {mg : Str → Option Value} {base : Heap}
/-- _law_part -/
def spPartL (K : PySem.W.Frag) : Sp := fun vs H Q _ => ∃ (t u : Tm) (a pa : Addr) (p : List Nat), vs = [.ref a, .ref pa] ∧ TrAt H t a ∧ H pa = some (.tup (pV p)) ∧ t.at p = some u ∧ ∀ r H', Same H H' → TrAt H' u r → Q (.ref r) H'
theorem ok_law_part (T : Txt P K mg) {k : Nat} : FnOk P w K mg base CX0 (k + 2) T.law_part.f T.law_part.fd ["_law_tree_here", "_law_path"] (spPartL K) := by
  have G_law_children : FnOk P w K mg base CX0 (k + 1) T.law_children.f T.law_children.fd ["_law_tree_here"] spKidsL := ok_law_children T
  refine T.law_part.F.ok (k := k + 1) sc_law_part (fun vs H Q E h => ?_) (fun cdv A outer s H vs Q E hr h => ?_)
  · obtain ⟨t, u, a, pa, p, rfl, _⟩ := h
    rfl
  · obtain ⟨t, u, a, pa, p, rfl, ht, hp, hu, q⟩ := h
    refine ⟨_, (pss_cons (ps_for PassesOwn.never rfl (pi_tup (pv 1)) (pg_name (i := 2) sc_law_part.nd rfl (.inl rfl))
   (pss_one (ps_set (i := 0) sc_law_part.nd rfl (.inl rfl) (pe_ix ix_list (pe_call G_law_children (hr.mono (by omega)) (by rfl) T.law_children.g T.law_children.F.kp T.law_children.b .nil pass0 (pa_cons (pv 0) pa_nil)) (pv 2) (fun _ _ => rfl)))))
  (pss_one (ps_ret (pv 0)))), ?_⟩
    refine ⟨_, rfl, pa, rfl, ⟨_, SqT.of hp⟩, ?_⟩
    refine for_tup (K := K) (a := pa) (xs := pV p) (fun i σ H' => Same H H' ∧ ∃ (v : Tm) (b : Addr) (y : Option V), σ = [some (.ref b), some (.ref pa), y] ∧ t.at (p.take i) = some v ∧ TrAt H' v b) ⟨Same.refl _, t, a, none, rfl, rfl, ht⟩ (fun i σ H' _ pp => SqT.of (pp.1 _ _ hp)) (fun i x σ H' hx pp => ?_) (fun σ H' pp => ?_)
    · obtain ⟨s1, v, b, y, rfl, hv, hb⟩ := pp
      have hi : i < p.length := by
        have := (List.getElem?_eq_some_iff.mp hx).1
        unfold pV at this
        rw [List.length_map] at this
        exact this
      obtain rfl : x = .int (p[i] : Nat) := by
        unfold pV at hx
        rw [List.getElem?_map, List.getElem?_eq_getElem hi] at hx
        exact (Option.some.inj hx).symm
      refine ⟨_, rfl, v, b, rfl, hb, fun r H2 as s2 _ hr2 hk => ?_⟩
      obtain ⟨c, hc1, hc2⟩ := at_step hi hu hv
      obtain ⟨d, hd, hdt⟩ := hk.at _ _ hc2
      refine ⟨_, rfl, r, _, _, .ref d, rfl, rfl, SqL.of hr2, atI_nat (by rw [List.getElem?_map, hd]; rfl), s1.trans s2, c, d, _, rfl, hc1, hdt⟩
    · obtain ⟨s1, v, b, y, rfl, hv, hb⟩ := pp
      have e : (pV p).length = p.length := by unfold pV; rw [List.length_map]
      rw [e, List.take_length, hu] at hv
      cases hv
      exact ⟨_, rfl, q b H' s1 hb⟩
/-! ### the program's own children -/
def Txt.kidF (T : Txt P K mg) : Kd → Addr
  | .now => T.Term_children.f
  | .shift => T.Shift_children.f
  | .look => T.Look_children.f
  | .either => T.Pair_children.f
  | .later => T.Pair_children.f
  | .earlier => T.Pair_children.f
theorem Txt.kidM (T : Txt P K mg) (t : Tm) : Meth K (t.cls T.ca) "children" (T.kidF t.kind) := by
  cases t
  · exact T.m_Now_children
  · exact T.m_Shift_children
  · exact T.m_Look_children
  · exact T.m_Either_children
  · exact T.m_Later_children
  · exact T.m_Earlier_children
def spKids (T : Txt P K mg) (kd : Kd) : Sp := fun vs H Q _ => ∃ (t : Tm) (a : Addr), vs = [.ref a] ∧ t.kind = kd ∧ TmAt T.ca H t a ∧ ∀ r H' as, Same H H' → H r = none → H' r = some (.lst (as.map V.ref)) → KidsAt T.ca H' t.kids as → Q (.ref r) H'
theorem ok_children (T : Txt P K mg) {k : Nat} (kd : Kd) : FnR P w K mg base CX0 (k + 1) (T.kidF kd) (spKids T kd) := by
  cases kd with
  | now =>
    refine toR (T.Term_children.F.ok (k := k) sc_Term_children (fun vs H Q E h => ?_) (fun cdv A outer s H vs Q E hr h => ?_)) T.Term_children.b
    · obtain ⟨t, a, rfl, _⟩ := h
      rfl
    · obtain ⟨t, a, rfl, hk, ht, q⟩ := h
      cases t with
      | now =>
        refine ⟨_, (pss_one (ps_ret (pe_lst pa_nil))), ?_⟩
        exact ⟨sz (Nat.le_of_ble_eq_true rfl), fun p hp => q p _ [] (same_upd hp) hp upd_same True.intro⟩
      | _ => cases hk
  | shift =>
    refine toR (T.Shift_children.F.ok (k := k) sc_Shift_children (fun vs H Q E h => ?_) (fun cdv A outer s H vs Q E hr h => ?_)) T.Shift_children.b
    · obtain ⟨t, a, rfl, _⟩ := h
      rfl
    · obtain ⟨t, a, rfl, hk, ht, q⟩ := h
      cases t with
      | shift m i =>
        obtain ⟨dx, b, ha, hm⟩ := ht
        refine ⟨_, (pss_one (ps_ret (pe_lst (pa_cons (pe_fld (pv 0) rfl) pa_nil)))), ?_⟩
        exact ⟨_, rfl, a, _, dx, _, _, rfl, ha, T.o_Shift.cl, T.n_Shift_moment, rfl, sz (Nat.le_of_ble_eq_true rfl), fun p hp => q p _ [b] (same_upd hp) hp upd_same ⟨hm.same (same_upd hp), True.intro⟩⟩
      | _ => cases hk
  | look =>
    refine toR (T.Look_children.F.ok (k := k) sc_Look_children (fun vs H Q E h => ?_) (fun cdv A outer s H vs Q E hr h => ?_)) T.Look_children.b
    · obtain ⟨t, a, rfl, _⟩ := h
      rfl
    · obtain ⟨t, a, rfl, hk, ht, q⟩ := h
      cases t with
      | look z m wy lim =>
        obtain ⟨dx, b, ha, hm⟩ := ht
        refine ⟨_, (pss_one (ps_ret (pe_lst (pa_cons (pe_fld (pv 0) rfl) pa_nil)))), ?_⟩
        exact ⟨_, rfl, a, _, dx, _, _, rfl, ha, T.o_Look.cl, T.n_Look_moment, rfl, sz (Nat.le_of_ble_eq_true rfl), fun p hp => q p _ [b] (same_upd hp) hp upd_same ⟨hm.same (same_upd hp), True.intro⟩⟩
      | _ => cases hk
  | either =>
    refine toR (T.Pair_children.F.ok (k := k) sc_Pair_children (fun vs H Q E h => ?_) (fun cdv A outer s H vs Q E hr h => ?_)) T.Pair_children.b
    · obtain ⟨t, a, rfl, _⟩ := h
      rfl
    · obtain ⟨t, a, rfl, hk, ht, q⟩ := h
      cases t with
      | either x y =>
        obtain ⟨dx, b, d, ha, h1, h2⟩ := ht
        refine ⟨_, (pss_one (ps_ret (pe_lst (pa_cons (pe_fld (pv 0) rfl) (pa_cons (pe_fld (pv 0) rfl) pa_nil))))), ?_⟩
        exact ⟨_, rfl, a, _, dx, _, _, rfl, ha, T.o_Either.cl, T.n_Either_first, rfl, _, rfl, a, _, dx, _, _, rfl, ha, T.o_Either.cl, T.n_Either_second, rfl, sz (Nat.le_of_ble_eq_true rfl), fun p hp => q p _ [b, d] (same_upd hp) hp upd_same ⟨h1.same (same_upd hp), h2.same (same_upd hp), True.intro⟩⟩
      | _ => cases hk
  | later =>
    refine toR (T.Pair_children.F.ok (k := k) sc_Pair_children (fun vs H Q E h => ?_) (fun cdv A outer s H vs Q E hr h => ?_)) T.Pair_children.b
    · obtain ⟨t, a, rfl, _⟩ := h
      rfl
    · obtain ⟨t, a, rfl, hk, ht, q⟩ := h
      cases t with
      | later x y =>
        obtain ⟨dx, b, d, ha, h1, h2⟩ := ht
        refine ⟨_, (pss_one (ps_ret (pe_lst (pa_cons (pe_fld (pv 0) rfl) (pa_cons (pe_fld (pv 0) rfl) pa_nil))))), ?_⟩
        exact ⟨_, rfl, a, _, dx, _, _, rfl, ha, T.o_Later.cl, T.n_Later_first, rfl, _, rfl, a, _, dx, _, _, rfl, ha, T.o_Later.cl, T.n_Later_second, rfl, sz (Nat.le_of_ble_eq_true rfl), fun p hp => q p _ [b, d] (same_upd hp) hp upd_same ⟨h1.same (same_upd hp), h2.same (same_upd hp), True.intro⟩⟩
      | _ => cases hk
  | earlier =>
    refine toR (T.Pair_children.F.ok (k := k) sc_Pair_children (fun vs H Q E h => ?_) (fun cdv A outer s H vs Q E hr h => ?_)) T.Pair_children.b
    · obtain ⟨t, a, rfl, _⟩ := h
      rfl
    · obtain ⟨t, a, rfl, hk, ht, q⟩ := h
      cases t with
      | earlier x y =>
        obtain ⟨dx, b, d, ha, h1, h2⟩ := ht
        refine ⟨_, (pss_one (ps_ret (pe_lst (pa_cons (pe_fld (pv 0) rfl) (pa_cons (pe_fld (pv 0) rfl) pa_nil))))), ?_⟩
        exact ⟨_, rfl, a, _, dx, _, _, rfl, ha, T.o_Earlier.cl, T.n_Earlier_first, rfl, _, rfl, a, _, dx, _, _, rfl, ha, T.o_Earlier.cl, T.n_Earlier_second, rfl, sz (Nat.le_of_ble_eq_true rfl), fun p hp => q p _ [b, d] (same_upd hp) hp upd_same ⟨h1.same (same_upd hp), h2.same (same_upd hp), True.intro⟩⟩
      | _ => cases hk
theorem KidsAt.get {c : CA} {H : Hp} : ∀ {ts : List Tm} {as : List Addr}, KidsAt c H ts as → ∀ (i : Nat) (t : Tm), ts[i]? = some t → ∃ a, as[i]? = some a ∧ TmAt c H t a
  | _ :: _, a :: _, ⟨h1, _⟩, 0, t, e => by cases e; exact ⟨a, rfl, h1⟩
  | _ :: _, _ :: _, ⟨_, h2⟩, i + 1, t, e => KidsAt.get h2 i t e
  | [], [], _, _, _, e => by simp at e
/-- term.part_at(path) -/
def spPartAt (T : Txt P K mg) : Sp := fun vs H Q _ => ∃ (t u : Tm) (a pa : Addr) (p : List Nat), vs = [.ref a, .ref pa] ∧ TmAt T.ca H t a ∧ H pa = some (.tup (pV p)) ∧ t.at p = some u ∧ ∀ r H', Same H H' → TmAt T.ca H' u r → Q (.ref r) H'
theorem ok_part_at (T : Txt P K mg) {k : Nat} : FnR P w K mg base CX0 (k + 2) T.Term_part_at.f (spPartAt T) := by
  have G_is_integer : FnOk P w K mg base CX0 (k + 1) T.is_integer.f T.is_integer.fd ["value"] spIsInteger := ok_is_integer T
  have G_children : ∀ kd, FnR P w K mg base CX0 (k + 1) (T.kidF kd) (spKids T kd) := fun kd => ok_children T kd
  refine toR (T.Term_part_at.F.ok (k := k + 1) sc_Term_part_at (fun vs H Q E h => ?_) (fun cdv A outer s H vs Q E hr h => ?_)) T.Term_part_at.b
  · obtain ⟨t, u, a, pa, p, rfl, _⟩ := h
    rfl
  · obtain ⟨t, u, a, pa, p, rfl, ht, hp, hu, q⟩ := h
    refine ⟨_, (pss_cons (ps_if (pt_not (pt_val (pe_callB call_isi (by rfl) T.n_isinstance (by decide +kernel) (pa_cons (pv 1) (pa_cons (pe_bltn (v := .ty "tuple") (by rfl) T.n_tuple (by decide +kernel) rfl) pa_nil))))) (pss_one ps_never) pss_nil)
  (pss_cons (ps_set (i := 2) sc_Term_part_at.nd rfl (.inl rfl) (pv 0))
  (pss_cons (ps_for PassesOwn.never rfl (pi_tup (pv 1)) (pg_name (i := 3) sc_Term_part_at.nd rfl (.inl rfl))
   (pss_cons (ps_set (i := 4) sc_Term_part_at.nd rfl (.inl rfl) (pe_methV0 (pv 2) G_children (hr.mono (by omega)) pass0))
  (pss_cons (ps_if (PW.pt (pw_or (pt_not (pt_val (pe_call G_is_integer (hr.mono (by omega)) (by rfl) T.is_integer.g T.is_integer.F.kp T.is_integer.b .nil pass0 (pa_cons (pv 3) pa_nil)))) (pw_or1 (pt_not (pt_chain op_le op_lt pe_int (pv 3) (pe_callB call_len_seq (by rfl) T.n_len PySem.boot_len (pa_cons (pv 4) pa_nil))))))) (pss_one ps_never) pss_nil)
  (pss_one (ps_set (i := 2) sc_Term_part_at.nd rfl (.inl rfl) (pe_ix ix_list (pv 4) (pv 3) (fun _ _ => rfl)))))))
  (pss_one (ps_ret (pv 2)))))), ?_⟩
    have ty := Ty.tup hp
    refine ⟨_, rfl, _, _, _, _, _, rfl, .ty "tuple", ty.x, isI_tuple ty, _, rfl, iF (nb_f q_tuple_tuple) ?_⟩
    refine ⟨_, rfl, _, rfl, pa, rfl, ⟨_, SqT.of hp⟩, ?_⟩
    refine for_tup (K := K) (a := pa) (xs := pV p) (fun i σ H' => Same H H' ∧ ∃ (v : Tm) (b : Addr) (y z : Option V), σ = [some (.ref a), some (.ref pa), some (.ref b), y, z] ∧ t.at (p.take i) = some v ∧ TmAt T.ca H' v b) ⟨Same.refl _, t, a, none, none, rfl, rfl, ht⟩ (fun i σ H' _ pp => SqT.of (pp.1 _ _ hp)) (fun i x σ H' hx pp => ?_) (fun σ H' pp => ?_)
    · obtain ⟨s1, v, b, y, z, rfl, hv, hb⟩ := pp
      have hi : i < p.length := by
        have := (List.getElem?_eq_some_iff.mp hx).1
        unfold pV at this
        rw [List.length_map] at this
        exact this
      obtain rfl : x = .int (p[i] : Nat) := by
        unfold pV at hx
        rw [List.getElem?_map, List.getElem?_eq_getElem hi] at hx
        exact (Option.some.inj hx).symm
      obtain ⟨dx, fs, ho, _, _, _, _, hch, _⟩ := hb.ins
      refine ⟨_, rfl, b, _, dx, fs, v.kind, rfl, ho, hch, (T.kc v).o.cl, T.kidM v, v, b, rfl, rfl, hb, fun r H2 as s2 _ hr2 hk => ?_⟩
      obtain ⟨c, hc1, hc2⟩ := at_step hi hu hv
      obtain ⟨d, hd, hdt⟩ := hk.get _ _ hc2
      have hlt : p[i] < as.length := (List.getElem?_eq_some_iff.mp hd).1
      refine ⟨_, rfl, _, _, rfl, .int _, _, rfl, iF rfl ?_⟩
      refine ⟨_, rfl, _, _, rfl, rfl, _, rfl, iT (decide_eq_true (by omega)) ⟨_, rfl, _, _, rfl, .inl (SqL.of hr2), _, _, rfl, rfl, _, rfl, iF (nb_f (decide_eq_true (by rw [List.length_map]; omega))) ?_⟩⟩
      exact ⟨_, rfl, _, rfl, r, _, _, .ref d, rfl, rfl, SqL.of hr2, atI_nat (by rw [List.getElem?_map, hd]; rfl), s1.trans s2, c, d, _, _, rfl, hc1, hdt⟩
    · obtain ⟨s1, v, b, y, z, rfl, hv, hb⟩ := pp
      have e : (pV p).length = p.length := by unfold pV; rw [List.length_map]
      rw [e, List.take_length, hu] at hv
      cases hv
      exact ⟨_, rfl, q b H' s1 hb⟩
end
end Pl

namespace Pl
open PySem L2
section
variable {P : Program} {w : World} {K : PySem.W.Frag} {mg : Str → Option Value} {base : Heap}
theorem Txt.addB (T : Txt P K mg) (t : Tm) : BinI K (t.cls T.ca) T.Term_add.f .Add := by
  cases t
  · exact T.b_Now_Add
  · exact T.b_Shift_Add
  · exact T.b_Look_Add
  · exact T.b_Either_Add
  · exact T.b_Later_Add
  · exact T.b_Earlier_Add
/-- _law_term -/
def spTermL (T : Txt P K mg) (n : Nat) : Sp := fun vs H Q _ => ∃ (t : Tm) (a : Addr), vs = [.ref a] ∧ TrAt H t a ∧ t.depth ≤ n ∧ t.wf ∧ t.norm ∧ t.fits ∧ ∀ r H', Same H H' → TmAt T.ca H' t r → Q (.ref r) H'
theorem plus_shift {m : Tm} {n : Int} (h0 : n ≠ 0) (h : m.isShift = false) : m.plus n = .shift m n := by
  cases m with
  | shift => cases h
  | _ => simp only [Tm.plus]; rw [if_neg h0]
theorem word_ne {t : Tm} {z : Str} (h : t.word ≠ z) : decide (V.str t.word = V.str z) = false := by
  rw [dstr]
  exact decide_eq_false h
theorem ok_law_term (T : Txt P K mg) {k : Nat} : ∀ n, FnOk P w K mg base CX0 (k + 7 + n) T.law_term.f T.law_term.fd ["_law_tree_here"] (spTermL T n)
  | 0 => T.law_term.F.ok (k := k + 6) sc_law_term (fun vs H Q E h => by obtain ⟨t, _, _, _, h, _⟩ := h; have := depth_pos t; omega) (fun _ _ _ _ _ _ _ _ _ h => by obtain ⟨t, _, _, _, h, _⟩ := h; have := depth_pos t; omega)
  | n + 1 => by
    have G_law_term : FnOk P w K mg base CX0 (k + 7 + n) T.law_term.f T.law_term.fd ["_law_tree_here"] (spTermL T n) := ok_law_term T n
    have G_add : FnR P w K mg base CX0 (k + 5) T.Term_add.f (spTAdd T 1) := ok_term_add T
    have G_or : FnR P w K mg base CX0 (k + 4) T.Term_or.f (spJoin T .either) := ok_term_or T
    have G_later : ∀ _ : Unit, FnR P w K mg base CX0 (k + 4) T.Term_later.f (spJoin T .later) := fun _ => ok_term_later T
    have G_earlier : ∀ _ : Unit, FnR P w K mg base CX0 (k + 4) T.Term_earlier.f (spJoin T .earlier) := fun _ => ok_term_earlier T
    have G_Now_init : FnR P w K mg base CX0 (k + 2) T.Now_init.f (spNowInit T) := ok_now_init T
    obtain ⟨fdL, G_Look_init, B_Look_init⟩ := ok_look_init (P := P) (w := w) (base := base) T (k := k)
    refine T.law_term.F.ok (k := k + 7 + n) sc_law_term (fun vs H Q E h => ?_) (fun cdv A outer s H vs Q E hr h => ?_)
    · obtain ⟨t, a, rfl, _⟩ := h
      rfl
    · obtain ⟨t, a, rfl, ht, hd, hw, hn, hf, q⟩ := h
      refine ⟨_, (pss_cons (ps_if (pt_cmpR op_eq (pe_ix ix_tup (pv 0) pe_int (fun _ _ => rfl)) pe_str (nomark _)) (pss_one (ps_ret (pe_makeR0 T.mk_Now G_Now_init (hr.mono (by omega)) (by rfl) T.g_Now pass0))) pss_nil)
  (pss_cons (ps_if (pt_cmpR op_eq (pe_ix ix_tup (pv 0) pe_int (fun _ _ => rfl)) pe_str (nomark _)) (pss_one (ps_ret (pe_op (op_binI G_add (hr.mono (by omega)) pass0) (pe_call G_law_term (hr.mono (by omega)) (by rfl) T.law_term.g T.law_term.F.kp T.law_term.b .nil pass0 (pa_cons (pe_ix ix_tup (pv 0) pe_int (fun _ _ => rfl)) pa_nil)) (pe_ix ix_tup (pv 0) pe_int (fun _ _ => rfl))))) pss_nil)
  (pss_cons (ps_if (pt_cmpR op_eq (pe_ix ix_tup (pv 0) pe_int (fun _ _ => rfl)) pe_str (nomark _)) (pss_one (ps_ret (pe_makeK (n := 3) T.mk_Look G_Look_init (hr.mono (by omega)) (by rfl) T.g_Look B_Look_init pass0 (pa_cons (pe_ix ix_tup (pv 0) pe_int (fun _ _ => rfl)) (pa_cons (pe_call G_law_term (hr.mono (by omega)) (by rfl) T.law_term.g T.law_term.F.kp T.law_term.b .nil pass0 (pa_cons (pe_ix ix_tup (pv 0) pe_int (fun _ _ => rfl)) pa_nil)) (pa_cons (pe_ix ix_tup (pv 0) pe_int (fun _ _ => rfl)) pa_nil))) (pk_cons (pe_ix ix_tup (pv 0) pe_int (fun _ _ => rfl)) pk_nil)))) pss_nil)
  (pss_cons (ps_set (i := 1) sc_law_term.nd rfl (.inl rfl) (pe_call G_law_term (hr.mono (by omega)) (by rfl) T.law_term.g T.law_term.F.kp T.law_term.b .nil pass0 (pa_cons (pe_ix ix_tup (pv 0) pe_int (fun _ _ => rfl)) pa_nil)))
  (pss_cons (ps_set (i := 2) sc_law_term.nd rfl (.inl rfl) (pe_call G_law_term (hr.mono (by omega)) (by rfl) T.law_term.g T.law_term.F.kp T.law_term.b .nil pass0 (pa_cons (pe_ix ix_tup (pv 0) pe_int (fun _ _ => rfl)) pa_nil)))
  (pss_cons (ps_if (pt_cmpR op_eq (pe_ix ix_tup (pv 0) pe_int (fun _ _ => rfl)) pe_str (nomark _)) (pss_one (ps_ret (pe_op (op_binO G_or (hr.mono (by omega)) pass0) (pv 1) (pv 2)))) pss_nil)
  (pss_cons (ps_if (pt_cmpR op_eq (pe_ix ix_tup (pv 0) pe_int (fun _ _ => rfl)) pe_str (nomark _)) (pss_one (ps_ret (pe_methV (pv 1) G_later (hr.mono (by omega)) pass0 (pa_cons (pv 2) pa_nil)))) pss_nil)
  (pss_one (ps_ret (pe_methV (pv 1) G_earlier (hr.mono (by omega)) pass0 (pa_cons (pv 2) pa_nil))))))))))), ?_⟩
      obtain ⟨xs, ho⟩ := ht.obj
      refine ⟨_, rfl, a, _, 0, .str t.word, rfl, rfl, SqT.of ho, at_ix (by decide) rfl, rfl, _, rfl, ?_⟩
      obtain ⟨f1, f2, f3⟩ := hf
      cases t with
      | now =>
        refine iT rfl fun x dx hx hdx _ => ?_
        exact ⟨H, x, dx, rfl, mk_same hx hdx, hx, upd_same, fun H' s' h' => ⟨rfl, q x H' s' h'⟩⟩
      | shift m i =>
        obtain ⟨b, ha, hm⟩ := ht
        simp only [Tm.depth] at hd f1
        simp only [Tm.parts] at f2
        simp only [Tm.looks] at f3
        refine iF (word_ne (by simp only [Tm.word]; decide)) ⟨_, rfl, a, _, 0, _, rfl, rfl, SqT.of ho, at_ix (by decide) rfl, rfl, _, rfl, iT rfl ?_⟩
        refine ⟨_, rfl, a, _, 2, .ref b, rfl, rfl, SqT.of ha, at_ix (by decide) rfl, m, b, rfl, hm, by omega, hw, hn.2.2, ⟨by omega, by omega, by omega⟩, fun r H1 s1 h1 => ?_⟩
        refine ⟨_, rfl, a, _, 1, .int i, rfl, rfl, SqT.of (s1 _ _ ha), at_ix (by decide) rfl, ?_⟩
        obtain ⟨dx, fs, hr0, _⟩ := h1.obj
        refine ⟨r, _, dx, fs, i, rfl, rfl, hr0, T.addB m, m, r, i, rfl, h1, ?_, fun r2 H2 s2 h2 => ?_⟩
        · rw [Int.one_mul, plus_shift hn.1 hn.2.1]
          exact ⟨by simp only [Tm.depth]; omega, by simp only [Tm.parts]; omega, by simp only [Tm.looks]; omega⟩
        · rw [Int.one_mul, plus_shift hn.1 hn.2.1] at h2
          exact q r2 H2 (s1.trans s2) h2
      | look z m wy lim =>
        obtain ⟨b, ha, hm⟩ := ht
        have hfit : (Tm.look z m wy lim).fits := ⟨f1, f2, f3⟩
        simp only [Tm.depth] at hd f1
        simp only [Tm.parts] at f2
        simp only [Tm.looks] at f3
        refine iF (word_ne (by simp only [Tm.word]; decide)) ⟨_, rfl, a, _, 0, _, rfl, rfl, SqT.of ho, at_ix (by decide) rfl, rfl, _, rfl, iF (word_ne (by simp only [Tm.word]; decide)) ?_⟩
        refine ⟨_, rfl, a, _, 0, _, rfl, rfl, SqT.of ho, at_ix (by decide) rfl, rfl, _, rfl, iT rfl ?_⟩
        refine ⟨_, rfl, a, _, 1, .str z, rfl, rfl, SqT.of ha, at_ix (by decide) rfl, ?_⟩
        refine ⟨_, rfl, a, _, 4, .ref b, rfl, rfl, SqT.of ha, at_ix (by decide) rfl, m, b, rfl, hm, by omega, hw.2.2.2, hn, ⟨by omega, by omega, by omega⟩, fun r H1 s1 h1 => ?_⟩
        refine ⟨_, rfl, a, _, 2, .str wy, rfl, rfl, SqT.of (s1 _ _ ha), at_ix (by decide) rfl, ?_⟩
        refine ⟨_, rfl, a, _, 3, oV lim, rfl, rfl, SqT.of (s1 _ _ ha), at_ix (by decide) rfl, rfl, rfl, fun x dx hx hdx _ => ?_⟩
        exact ⟨H1, m, z, wy, lim, x, r, dx, rfl, mk_same hx hdx, hx, h1, hw.1, hw.2.1, hw.2.2.1, hfit, upd_same, fun H' s' h' => ⟨rfl, q x H' (s1.trans s') h'⟩⟩
      | either t1 t2 =>
        obtain ⟨b, d, ha, h1, h2⟩ := ht
        have hfit : (Tm.either t1 t2).fits := ⟨f1, f2, f3⟩
        simp only [Tm.depth] at hd f1
        simp only [Tm.parts] at f2
        simp only [Tm.looks] at f3
        refine iF (word_ne (by simp only [Tm.word]; decide)) ⟨_, rfl, a, _, 0, _, rfl, rfl, SqT.of ho, at_ix (by decide) rfl, rfl, _, rfl, iF (word_ne (by simp only [Tm.word]; decide)) ?_⟩
        refine ⟨_, rfl, a, _, 0, _, rfl, rfl, SqT.of ho, at_ix (by decide) rfl, rfl, _, rfl, iF (word_ne (by simp only [Tm.word]; decide)) ?_⟩
        refine ⟨_, rfl, a, _, 1, .ref b, rfl, rfl, SqT.of ha, at_ix (by decide) rfl, t1, b, rfl, h1, by omega, hw.1, hn.1, ⟨by omega, by omega, by omega⟩, fun r1 H1 s1 g1 => ?_⟩
        refine ⟨_, rfl, a, _, 2, .ref d, rfl, rfl, SqT.of (s1 _ _ ha), at_ix (by decide) rfl, t2, d, rfl, h2.same s1, by omega, hw.2, hn.2, ⟨by omega, by omega, by omega⟩, fun r2 H2 s2 g2 => ?_⟩
        have s12 := s1.trans s2
        refine ⟨_, rfl, a, _, 0, _, rfl, rfl, SqT.of (s12 _ _ ho), at_ix (by decide) rfl, rfl, _, rfl, iT rfl ?_⟩
        obtain ⟨dx1, fs1, hr1, _⟩ := (g1.same s2).obj
        obtain ⟨dx2, fs2, hr2, _⟩ := g2.obj
        exact ⟨_, rfl, _, rfl, r1, _, dx1, fs1, r2, _, dx2, fs2, rfl, rfl, hr1, hr2, T.bc t1, T.bc t2, T.sb t1 t2, t1, t2, r1, r2, rfl, g1.same s2, g2, hfit, fun r H3 s3 g3 => q r H3 (s12.trans s3) g3⟩
      | later t1 t2 =>
        obtain ⟨b, d, ha, h1, h2⟩ := ht
        have hfit : (Tm.later t1 t2).fits := ⟨f1, f2, f3⟩
        simp only [Tm.depth] at hd f1
        simp only [Tm.parts] at f2
        simp only [Tm.looks] at f3
        refine iF (word_ne (by simp only [Tm.word]; decide)) ⟨_, rfl, a, _, 0, _, rfl, rfl, SqT.of ho, at_ix (by decide) rfl, rfl, _, rfl, iF (word_ne (by simp only [Tm.word]; decide)) ?_⟩
        refine ⟨_, rfl, a, _, 0, _, rfl, rfl, SqT.of ho, at_ix (by decide) rfl, rfl, _, rfl, iF (word_ne (by simp only [Tm.word]; decide)) ?_⟩
        refine ⟨_, rfl, a, _, 1, .ref b, rfl, rfl, SqT.of ha, at_ix (by decide) rfl, t1, b, rfl, h1, by omega, hw.1, hn.1, ⟨by omega, by omega, by omega⟩, fun r1 H1 s1 g1 => ?_⟩
        refine ⟨_, rfl, a, _, 2, .ref d, rfl, rfl, SqT.of (s1 _ _ ha), at_ix (by decide) rfl, t2, d, rfl, h2.same s1, by omega, hw.2, hn.2, ⟨by omega, by omega, by omega⟩, fun r2 H2 s2 g2 => ?_⟩
        have s12 := s1.trans s2
        refine ⟨_, rfl, a, _, 0, _, rfl, rfl, SqT.of (s12 _ _ ho), at_ix (by decide) rfl, rfl, _, rfl, iF (word_ne (by simp only [Tm.word]; decide)) ?_⟩
        refine ⟨_, rfl, a, _, 0, _, rfl, rfl, SqT.of (s12 _ _ ho), at_ix (by decide) rfl, rfl, _, rfl, iT rfl ?_⟩
        obtain ⟨dx1, fs1, hr1, l1, _⟩ := (g1.same s2).ins
        exact ⟨_, rfl, r1, _, dx1, fs1, (), rfl, hr1, l1, (T.kc t1).o.cl, T.laterM t1, _, rfl, t1, t2, r1, r2, rfl, g1.same s2, g2, hfit, fun r H3 s3 g3 => q r H3 (s12.trans s3) g3⟩
      | earlier t1 t2 =>
        obtain ⟨b, d, ha, h1, h2⟩ := ht
        have hfit : (Tm.earlier t1 t2).fits := ⟨f1, f2, f3⟩
        simp only [Tm.depth] at hd f1
        simp only [Tm.parts] at f2
        simp only [Tm.looks] at f3
        refine iF (word_ne (by simp only [Tm.word]; decide)) ⟨_, rfl, a, _, 0, _, rfl, rfl, SqT.of ho, at_ix (by decide) rfl, rfl, _, rfl, iF (word_ne (by simp only [Tm.word]; decide)) ?_⟩
        refine ⟨_, rfl, a, _, 0, _, rfl, rfl, SqT.of ho, at_ix (by decide) rfl, rfl, _, rfl, iF (word_ne (by simp only [Tm.word]; decide)) ?_⟩
        refine ⟨_, rfl, a, _, 1, .ref b, rfl, rfl, SqT.of ha, at_ix (by decide) rfl, t1, b, rfl, h1, by omega, hw.1, hn.1, ⟨by omega, by omega, by omega⟩, fun r1 H1 s1 g1 => ?_⟩
        refine ⟨_, rfl, a, _, 2, .ref d, rfl, rfl, SqT.of (s1 _ _ ha), at_ix (by decide) rfl, t2, d, rfl, h2.same s1, by omega, hw.2, hn.2, ⟨by omega, by omega, by omega⟩, fun r2 H2 s2 g2 => ?_⟩
        have s12 := s1.trans s2
        refine ⟨_, rfl, a, _, 0, _, rfl, rfl, SqT.of (s12 _ _ ho), at_ix (by decide) rfl, rfl, _, rfl, iF (word_ne (by simp only [Tm.word]; decide)) ?_⟩
        refine ⟨_, rfl, a, _, 0, _, rfl, rfl, SqT.of (s12 _ _ ho), at_ix (by decide) rfl, rfl, _, rfl, iF (word_ne (by simp only [Tm.word]; decide)) ?_⟩
        obtain ⟨dx1, fs1, hr1, _, l1, _⟩ := (g1.same s2).ins
        exact ⟨_, rfl, r1, _, dx1, fs1, (), rfl, hr1, l1, (T.kc t1).o.cl, T.earlierM t1, _, rfl, t1, t2, r1, r2, rfl, g1.same s2, g2, hfit, fun r H3 s3 g3 => q r H3 (s12.trans s3) g3⟩
end
end Pl

namespace Pl
open PySem L2
section
variable {P : Program} {w : World} {K : PySem.W.Frag} {mg : Str → Option Value} {base : Heap}
theorem tB1 : tyB "NoneType" "tuple" = false := by unfold tyB; rw [kb_none_tuple]; rfl
theorem tB2 : tyB "bool" "tuple" = false := by unfold tyB; rw [kb_bool_tuple]; rfl
theorem tB3 : tyB "int" "tuple" = false := by unfold tyB; rw [kb_int_tuple]; rfl
theorem tB4 : tyB "str" "tuple" = false := by unfold tyB; rw [kb_str_tuple]; rfl
theorem tB5 : tyB "list" "tuple" = false := by unfold tyB; rw [kb_list_tuple]; rfl
theorem tB6 : tyB "tuple" "tuple" = true := by unfold tyB; rw [kb_tuple_tuple]; rfl
theorem lB1 : tyB "NoneType" "list" = false := by unfold tyB; rw [kb_none_list]; rfl
theorem lB2 : tyB "bool" "list" = false := by unfold tyB; rw [kb_bool_list]; rfl
theorem lB3 : tyB "int" "list" = false := by unfold tyB; rw [kb_int_list]; rfl
theorem lB4 : tyB "str" "list" = false := by unfold tyB; rw [kb_str_list]; rfl
theorem lB5 : tyB "list" "list" = true := by unfold tyB; rw [kb_list_list]; rfl
theorem lB6 : tyB "tuple" "list" = false := by unfold tyB; rw [kb_tuple_list]; rfl
theorem bB2 : tyB "bool" "bool" = true := by unfold tyB; rw [kb_bool_bool]; rfl
theorem bB3 : tyB "int" "bool" = false := by unfold tyB; rw [kb_int_bool]; rfl
theorem bB4 : tyB "str" "bool" = false := by unfold tyB; rw [kb_str_bool]; rfl
theorem iB3 : tyB "int" "int" = true := by unfold tyB; rw [kb_int_int]; rfl
theorem iB4 : tyB "str" "int" = false := by unfold tyB; rw [kb_str_int]; rfl
theorem sB4 : tyB "str" "str" = true := by unfold tyB; rw [kb_str_str]; rfl
/-- a value that is no object, with its type -/
inductive Sc : V → String → Prop
  | non : Sc .non "NoneType"
  | bl (b : Bool) : Sc (.bl b) "bool"
  | int (i : Int) : Sc (.int i) "int"
  | str (x : Str) : Sc (.str x) "str"
theorem Sc.ty {v : V} {t : String} (h : Sc v t) (H : Hp) : Ty H v t := by
  cases h
  · exact .non
  · exact .bl _
  · exact .int _
  · exact .str _
/-- two values hold equal data, to a depth -/
def Eqd (H : Hp) : Nat → V → V → Prop
  | 0, v, u => v = u ∧ ∃ t, Sc v t
  | n + 1, v, u => (v = u ∧ ∃ t, Sc v t) ∨ ∃ a b xs ys, v = .ref a ∧ u = .ref b ∧ ((H a = some (.lst xs) ∧ H b = some (.lst ys)) ∨ (H a = some (.tup xs) ∧ H b = some (.tup ys))) ∧ xs.length = ys.length ∧ xs.length ≤ 1000000 ∧
      ∀ (i : Nat) x y, xs[i]? = some x → ys[i]? = some y → Eqd H n x y
theorem Eqd.sc {H : Hp} {v : V} {t : String} (h : Sc v t) : ∀ n, Eqd H n v v
  | 0 => ⟨rfl, t, h⟩
  | _ + 1 => .inl ⟨rfl, t, h⟩
theorem Eqd.same {H H' : Hp} (s : Same H H') : ∀ {n : Nat} {v u : V}, Eqd H n v u → Eqd H' n v u
  | 0, _, _, h => h
  | n + 1, _, _, h => by
    rcases h with h | ⟨a, b, xs, ys, e1, e2, e3, e4, e5, e6⟩
    · exact .inl h
    · refine .inr ⟨a, b, xs, ys, e1, e2, ?_, e4, e5, fun i x y hx hy => Eqd.same s (e6 i x y hx hy)⟩
      rcases e3 with ⟨g1, g2⟩ | ⟨g1, g2⟩
      · exact .inl ⟨s _ _ g1, s _ _ g2⟩
      · exact .inr ⟨s _ _ g1, s _ _ g2⟩
def spEqual : Nat → Sp
  | 0 => fun _ _ _ _ => False
  | n + 1 => fun vs H Q _ => ∃ (v u : V), vs = [v, u] ∧ Eqd H n v u ∧ Q (.bl true) H
theorem ok_law_equal (T : Txt P K mg) {k : Nat} : ∀ n, FnOk P w K mg base CX0 (k + n + 1) T.law_equal.f T.law_equal.fd ["_law_one", "_law_other"] (spEqual n)
  | 0 => T.law_equal.F.ok sc_law_equal (fun _ _ _ _ h => h.elim) (fun _ _ _ _ _ _ _ _ _ h => h.elim)
  | n + 1 => by
    have G_law_equal : FnOk P w K mg base CX0 (k + n + 1) T.law_equal.f T.law_equal.fd ["_law_one", "_law_other"] (spEqual n) := ok_law_equal T n
    refine T.law_equal.F.ok sc_law_equal (fun vs H Q E h => ?_) (fun cdv A outer s H vs Q E hr h => ?_)
    · obtain ⟨v, u, rfl, _⟩ := h
      rfl
    · obtain ⟨v, u, rfl, h, q⟩ := h
      refine ⟨_, (pss_cons (ps_set (i := 2) sc_law_equal.nd rfl (.inl rfl) (pe_and (pe_callB call_isi (by rfl) T.n_isinstance (by decide +kernel) (pa_cons (pv 0) (pa_cons (pe_bltn (v := .ty "tuple") (by rfl) T.n_tuple (by decide +kernel) rfl) pa_nil))) (pe_one (pe_callB call_isi (by rfl) T.n_isinstance (by decide +kernel) (pa_cons (pv 1) (pa_cons (pe_bltn (v := .ty "tuple") (by rfl) T.n_tuple (by decide +kernel) rfl) pa_nil))))))
  (pss_cons (ps_if (PW.pt (pw_or (pt_val (pv 2)) (pw_or1 (PW.pt (pw_and (pt_val (pe_callB call_isi (by rfl) T.n_isinstance (by decide +kernel) (pa_cons (pv 0) (pa_cons (pe_bltn (v := .ty "list") (by rfl) T.n_list (by decide +kernel) rfl) pa_nil)))) (pw_and1 (pt_val (pe_callB call_isi (by rfl) T.n_isinstance (by decide +kernel) (pa_cons (pv 1) (pa_cons (pe_bltn (v := .ty "list") (by rfl) T.n_list (by decide +kernel) rfl) pa_nil)))))))))) (pss_cons (ps_if (pt_cmpR op_ne (pe_callB call_len_seq (by rfl) T.n_len PySem.boot_len (pa_cons (pv 0) pa_nil)) (pe_callB call_len_seq (by rfl) T.n_len PySem.boot_len (pa_cons (pv 1) pa_nil)) (nomark _)) (pss_one (ps_ret pe_bl)) pss_nil)
  (pss_cons (ps_for PassesOwn.never rfl (pi_range1 (by rfl) T.n_range (pa_cons (pe_callB call_len_seq (by rfl) T.n_len PySem.boot_len (pa_cons (pv 0) pa_nil)) pa_nil)) (pg_name (i := 3) sc_law_equal.nd rfl (.inl rfl))
   (pss_one (ps_if (pt_not (pt_val (pe_call G_law_equal (hr.mono (by omega)) (by rfl) T.law_equal.g T.law_equal.F.kp T.law_equal.b .nil pass0 (pa_cons (pe_ix ix_seq (pv 0) (pv 3) (fun _ _ => rfl)) (pa_cons (pe_ix ix_seq (pv 1) (pv 3) (fun _ _ => rfl)) pa_nil))))) (pss_one (ps_ret pe_bl)) pss_nil)))
  (pss_one (ps_ret pe_bl)))) pss_nil)
  (pss_cons (ps_if (PW.pt (pw_or (pt_cmpR op_isN (pv 0) pe_non (nomark _)) (pw_or1 (pt_cmpR op_isN (pv 1) pe_non (nomark _))))) (pss_one (ps_ret (pe_and (pe_cmpR op_isN (pv 0) pe_non (nomark _)) (pe_one (pe_cmpR op_isN (pv 1) pe_non (nomark _)))))) pss_nil)
  (pss_cons (ps_if (PW.pt (pw_or (pt_val (pe_callB call_isi (by rfl) T.n_isinstance (by decide +kernel) (pa_cons (pv 0) (pa_cons (pe_bltn (v := .ty "bool") (by rfl) T.n_bool (by decide +kernel) rfl) pa_nil)))) (pw_or1 (pt_val (pe_callB call_isi (by rfl) T.n_isinstance (by decide +kernel) (pa_cons (pv 1) (pa_cons (pe_bltn (v := .ty "bool") (by rfl) T.n_bool (by decide +kernel) rfl) pa_nil))))))) (pss_one (ps_ret (pe_and (pe_callB call_isi (by rfl) T.n_isinstance (by decide +kernel) (pa_cons (pv 0) (pa_cons (pe_bltn (v := .ty "bool") (by rfl) T.n_bool (by decide +kernel) rfl) pa_nil))) (pe_and (pe_callB call_isi (by rfl) T.n_isinstance (by decide +kernel) (pa_cons (pv 1) (pa_cons (pe_bltn (v := .ty "bool") (by rfl) T.n_bool (by decide +kernel) rfl) pa_nil))) (pe_one (pe_cmpR op_eq (pv 0) (pv 1) (nomark _))))))) pss_nil)
  (pss_cons (ps_if (PW.pt (pw_or (PW.pt (pw_and (pt_val (pe_callB call_isi (by rfl) T.n_isinstance (by decide +kernel) (pa_cons (pv 0) (pa_cons (pe_bltn (v := .ty "int") (by rfl) T.n_int (by decide +kernel) rfl) pa_nil)))) (pw_and1 (pt_val (pe_callB call_isi (by rfl) T.n_isinstance (by decide +kernel) (pa_cons (pv 1) (pa_cons (pe_bltn (v := .ty "int") (by rfl) T.n_int (by decide +kernel) rfl) pa_nil))))))) (pw_or1 (PW.pt (pw_and (pt_val (pe_callB call_isi (by rfl) T.n_isinstance (by decide +kernel) (pa_cons (pv 0) (pa_cons (pe_bltn (v := .ty "str") (by rfl) T.n_str (by decide +kernel) rfl) pa_nil)))) (pw_and1 (pt_val (pe_callB call_isi (by rfl) T.n_isinstance (by decide +kernel) (pa_cons (pv 1) (pa_cons (pe_bltn (v := .ty "str") (by rfl) T.n_str (by decide +kernel) rfl) pa_nil)))))))))) (pss_one (ps_ret (pe_cmpR op_eq (pv 0) (pv 1) (nomark _)))) pss_nil)
  (pss_one (ps_ret pe_bl))))))), ?_⟩
      have sc : (v = u ∧ ∃ t, Sc v t) ∨ ∃ m a b xs ys, n = m + 1 ∧ v = .ref a ∧ u = .ref b ∧ ((H a = some (.lst xs) ∧ H b = some (.lst ys)) ∨ (H a = some (.tup xs) ∧ H b = some (.tup ys))) ∧ xs.length = ys.length ∧ xs.length ≤ 1000000 ∧ ∀ (i : Nat) x y, xs[i]? = some x → ys[i]? = some y → Eqd H m x y := by
        cases n with
        | zero => exact .inl h
        | succ m =>
          rcases h with h | ⟨a, b, xs, ys, h⟩
          · exact .inl h
          · exact .inr ⟨m, a, b, xs, ys, rfl, h⟩
      rcases sc with ⟨rfl, t, ht⟩ | ⟨m, a, b, xs, ys, rfl, rfl, rfl, hh, hl, hz, hx⟩
      · have ty := ht.ty H
        cases ht with
        | non =>
          refine ⟨_, rfl, _, _, _, _, _, rfl, .ty "tuple", ty.x, isI_tuple ty, _, rfl, iF tB1 ?_⟩
          refine ⟨_, rfl, _, rfl, iF rfl ⟨_, rfl, _, _, _, _, _, rfl, .ty "list", ty.x, isI_list ty, _, rfl, iF lB1 (iF rfl ?_)⟩⟩
          refine ⟨_, rfl, rfl, _, rfl, iT rfl (iT rfl ?_)⟩
          exact ⟨_, rfl, rfl, _, rfl, iT rfl ⟨_, rfl, rfl, q⟩⟩
        | bl x =>
          refine ⟨_, rfl, _, _, _, _, _, rfl, .ty "tuple", ty.x, isI_tuple ty, _, rfl, iF tB2 ?_⟩
          refine ⟨_, rfl, _, rfl, iF rfl ⟨_, rfl, _, _, _, _, _, rfl, .ty "list", ty.x, isI_list ty, _, rfl, iF lB2 (iF rfl ?_)⟩⟩
          refine ⟨_, rfl, rfl, _, rfl, iF rfl ⟨_, rfl, rfl, _, rfl, iF rfl ?_⟩⟩
          refine ⟨_, rfl, _, _, _, _, _, rfl, .ty "bool", ty.x, isI_bool ty, _, rfl, iT bB2 (iT rfl ?_)⟩
          refine ⟨_, rfl, _, _, _, _, _, rfl, .ty "bool", ty.x, isI_bool ty, _, rfl, iT bB2 ⟨_, rfl, _, _, _, _, _, rfl, .ty "bool", ty.x, isI_bool ty, _, rfl, iT bB2 ⟨_, rfl, _, rfl, rfl, ?_⟩⟩⟩
          rw [decide_eq_true rfl]
          exact q
        | int x =>
          refine ⟨_, rfl, _, _, _, _, _, rfl, .ty "tuple", ty.x, isI_tuple ty, _, rfl, iF tB3 ?_⟩
          refine ⟨_, rfl, _, rfl, iF rfl ⟨_, rfl, _, _, _, _, _, rfl, .ty "list", ty.x, isI_list ty, _, rfl, iF lB3 (iF rfl ?_)⟩⟩
          refine ⟨_, rfl, rfl, _, rfl, iF rfl ⟨_, rfl, rfl, _, rfl, iF rfl ?_⟩⟩
          refine ⟨_, rfl, _, _, _, _, _, rfl, .ty "bool", ty.x, isI_bool ty, _, rfl, iF bB3 ⟨_, rfl, _, _, _, _, _, rfl, .ty "bool", ty.x, isI_bool ty, _, rfl, iF bB3 ?_⟩⟩
          refine ⟨_, rfl, _, _, _, _, _, rfl, .ty "int", ty.x, isI_int ty, _, rfl, iT iB3 ⟨_, rfl, _, _, _, _, _, rfl, .ty "int", ty.x, isI_int ty, _, rfl, iT iB3 (iT iB3 ?_)⟩⟩
          refine ⟨_, rfl, _, rfl, rfl, ?_⟩
          rw [decide_eq_true rfl]
          exact q
        | str x =>
          refine ⟨_, rfl, _, _, _, _, _, rfl, .ty "tuple", ty.x, isI_tuple ty, _, rfl, iF tB4 ?_⟩
          refine ⟨_, rfl, _, rfl, iF rfl ⟨_, rfl, _, _, _, _, _, rfl, .ty "list", ty.x, isI_list ty, _, rfl, iF lB4 (iF rfl ?_)⟩⟩
          refine ⟨_, rfl, rfl, _, rfl, iF rfl ⟨_, rfl, rfl, _, rfl, iF rfl ?_⟩⟩
          refine ⟨_, rfl, _, _, _, _, _, rfl, .ty "bool", ty.x, isI_bool ty, _, rfl, iF bB4 ⟨_, rfl, _, _, _, _, _, rfl, .ty "bool", ty.x, isI_bool ty, _, rfl, iF bB4 ?_⟩⟩
          refine ⟨_, rfl, _, _, _, _, _, rfl, .ty "int", ty.x, isI_int ty, _, rfl, iF iB4 (iF rfl ⟨_, rfl, _, _, _, _, _, rfl, .ty "str", ty.x, isI_str ty, _, rfl, iT sB4 ⟨_, rfl, _, _, _, _, _, rfl, .ty "str", ty.x, isI_str ty, _, rfl, iT sB4 ?_⟩⟩)⟩
          refine ⟨_, rfl, _, rfl, rfl, ?_⟩
          rw [decide_eq_true rfl]
          exact q
      · rcases hh with ⟨h1, h2⟩ | ⟨h1, h2⟩
        · have ty : Ty H (.ref a) "list" := .lst h1
          have ty' : Ty H (.ref b) "list" := .lst h2
          refine ⟨_, rfl, _, _, _, _, _, rfl, .ty "tuple", ty.x, isI_tuple ty, _, rfl, iF tB5 ?_⟩
          refine ⟨_, rfl, _, rfl, iF rfl ⟨_, rfl, _, _, _, _, _, rfl, .ty "list", ty.x, isI_list ty, _, rfl, iT lB5 ⟨_, rfl, _, _, _, _, _, rfl, .ty "list", ty'.x, isI_list ty', _, rfl, iT lB5 ?_⟩⟩⟩
          refine ⟨_, rfl, a, _, rfl, .inl (SqL.of h1), _, rfl, b, _, rfl, .inl (SqL.of h2), rfl, _, rfl, iF (by rw [hl]; simp) ?_⟩
          refine ⟨_, rfl, a, _, rfl, .inl (SqL.of h1), _, rfl, by omega, by omega, ?_⟩
          refine for_range (lo := 0) (n := ((xs.length : Int)).toNat) (fun t σ H' => H' = H ∧ ∃ y, σ = [some (.ref a), some (.ref b), some (.bl false), y]) ⟨rfl, none, rfl⟩ (fun t σ H' ht p => ?_) (fun σ H' p => ?_)
          · obtain ⟨rfl, y, rfl⟩ := p
            have ht : t < xs.length := ht
            have e0 : (0 : Int) + (t : Nat) = (t : Nat) := by omega
            have g1 : atI xs (0 + (t : Nat)) = some xs[t] := by rw [e0]; exact atI_nat (List.getElem?_eq_getElem ht)
            have g2 : atI ys (0 + (t : Nat)) = some (ys[t]'(by omega)) := by rw [e0]; exact atI_nat (List.getElem?_eq_getElem (by omega))
            refine ⟨_, rfl, _, rfl, .inl ⟨a, _, _, _, rfl, rfl, SqL.of h1, g1, _, rfl, _, rfl, .inl ⟨b, _, _, _, rfl, rfl, SqL.of h2, g2, _, _, rfl, hx t _ _ (List.getElem?_eq_getElem ht) (List.getElem?_eq_getElem (by omega)), ?_⟩⟩⟩
            exact ⟨_, rfl, iF rfl ⟨rfl, _, rfl⟩⟩
          · obtain ⟨rfl, y, rfl⟩ := p
            exact q
        · have ty : Ty H (.ref a) "tuple" := .tup h1
          have ty' : Ty H (.ref b) "tuple" := .tup h2
          refine ⟨_, rfl, _, _, _, _, _, rfl, .ty "tuple", ty.x, isI_tuple ty, _, rfl, iT tB6 ⟨_, rfl, _, _, _, _, _, rfl, .ty "tuple", ty'.x, isI_tuple ty', ?_⟩⟩
          refine ⟨_, rfl, _, rfl, iT tB6 (iT rfl ?_)⟩
          refine ⟨_, rfl, a, _, rfl, .inr (SqT.of h1), _, rfl, b, _, rfl, .inr (SqT.of h2), rfl, _, rfl, iF (by rw [hl]; simp) ?_⟩
          refine ⟨_, rfl, a, _, rfl, .inr (SqT.of h1), _, rfl, by omega, by omega, ?_⟩
          refine for_range (lo := 0) (n := ((xs.length : Int)).toNat) (fun t σ H' => H' = H ∧ ∃ y, σ = [some (.ref a), some (.ref b), some (.bl (tyB "tuple" "tuple")), y]) ⟨rfl, none, rfl⟩ (fun t σ H' ht p => ?_) (fun σ H' p => ?_)
          · obtain ⟨rfl, y, rfl⟩ := p
            have ht : t < xs.length := ht
            have e0 : (0 : Int) + (t : Nat) = (t : Nat) := by omega
            have g1 : atI xs (0 + (t : Nat)) = some xs[t] := by rw [e0]; exact atI_nat (List.getElem?_eq_getElem ht)
            have g2 : atI ys (0 + (t : Nat)) = some (ys[t]'(by omega)) := by rw [e0]; exact atI_nat (List.getElem?_eq_getElem (by omega))
            refine ⟨_, rfl, _, rfl, .inr (.inl ⟨a, _, _, _, rfl, rfl, SqT.of h1, g1, _, rfl, _, rfl, .inr (.inl ⟨b, _, _, _, rfl, rfl, SqT.of h2, g2, _, _, rfl, hx t _ _ (List.getElem?_eq_getElem ht) (List.getElem?_eq_getElem (by omega)), ?_⟩)⟩)⟩
            exact ⟨_, rfl, iF rfl ⟨rfl, _, rfl⟩⟩
          · obtain ⟨rfl, y, rfl⟩ := p
            exact q
end
end Pl

namespace Pl
open PySem L2
local macro_rules | `(tactic| infer_instance) => `(tactic| first
  | with_reducible assumption
  | with_reducible exact Same.refl _
  | exact Wd.gh (by with_reducible assumption)
  | exact sm2 (by with_reducible assumption) (by infer_instance)
  | exact sm2 (same_upd (by with_reducible assumption)) (by infer_instance)
  | exact sm2 (Wd.gh (by with_reducible assumption)) (by infer_instance))
local macro_rules | `(tactic| trivial) => `(tactic| first
  | with_reducible assumption
  | with_reducible exact upd_same
  | exact at_same (by with_reducible assumption) (by trivial)
  | exact at_same (same_upd (by with_reducible assumption)) (by trivial)
  | exact at_same (Wd.gh (by with_reducible assumption)) (by trivial))
local macro_rules | `(tactic| ac_rfl) => `(tactic| first
  | exact Ty.int _
  | exact Ty.str _
  | exact Ty.non
  | exact Ty.bl _
  | exact Ty.tup (by trivial)
  | exact Ty.lst (by trivial))
local macro_rules | `(tactic| contradiction) => `(tactic| first
  | exact rfl
  | exact decide_eq_true (by first | assumption | omega)
  | exact decide_eq_false (by first | assumption | omega)
  | exact dI_t (by first | assumption | omega)
  | exact dI_f (by first | assumption | omega)
  | exact dS_t (by first | assumption | decide)
  | exact dS_f (by first | assumption | decide)
  | exact nI_t (by first | assumption | omega)
  | exact nI_f (by first | assumption | omega)
  | exact nS_t (by first | assumption | decide)
  | exact nS_f (by first | assumption | decide)
  | assumption
  | exact q_none_int | exact q_none_bool | exact q_none_tuple | exact q_none_list | exact q_none_str | exact q_bool_int | exact q_bool_bool | exact q_bool_tuple | exact q_bool_list | exact q_bool_str | exact q_int_int | exact q_int_bool | exact q_int_tuple | exact q_int_list | exact q_int_str | exact q_str_int | exact q_str_bool | exact q_str_tuple | exact q_str_list | exact q_str_str | exact q_list_int | exact q_list_bool | exact q_list_tuple | exact q_list_list | exact q_list_str | exact q_tuple_int | exact q_tuple_bool | exact q_tuple_tuple | exact q_tuple_list | exact q_tuple_str
  | exact nb_t (by contradiction)
  | exact nb_f (by contradiction))
local macro_rules | `(tactic| and_intros) => `(tactic| repeat (first
  | refine ⟨_, rfl, ?_⟩
  | refine ⟨_, _, rfl, rfl, ?_⟩
  | refine ⟨rfl, ?_⟩
  | refine ⟨_, _, _, _, rfl, rfl, SqT.of (by trivial), at_ix (by decide) rfl, ?_⟩
  | refine ⟨_, _, _, _, rfl, rfl, SqL.of (by trivial), at_ix (by decide) rfl, ?_⟩
  | refine ⟨_, _, rfl, Or.inl (SqL.of (by trivial)), ?_⟩
  | refine ⟨_, _, rfl, Or.inr (SqT.of (by trivial)), ?_⟩
  | refine ⟨_, _, _, _, _, rfl, (by trivial), (by trivial), (by trivial), rfl, ?_⟩
  | refine ⟨_, _, _, _, _, rfl, ClsV.ty _, Ty.x (by ac_rfl), isI_tuple (by ac_rfl), ?_⟩
  | refine ⟨_, _, _, _, _, rfl, ClsV.ty _, Ty.x (by ac_rfl), isI_list (by ac_rfl), ?_⟩
  | refine ⟨_, _, _, _, _, rfl, ClsV.ty _, Ty.x (by ac_rfl), isI_int (by ac_rfl), ?_⟩
  | refine ⟨_, _, _, _, _, rfl, ClsV.ty _, Ty.x (by ac_rfl), isI_bool (by ac_rfl), ?_⟩
  | refine ⟨_, _, _, _, _, rfl, ClsV.ty _, Ty.x (by ac_rfl), isI_str (by ac_rfl), ?_⟩
  | refine ⟨sz (Nat.le_of_ble_eq_true rfl), ?_⟩
  | refine ⟨Or.inl ⟨rfl, _, SqL.of (by trivial)⟩, ?_⟩
  | refine ⟨_, _, rfl, SqT.of (by trivial), rfl, _, _, rfl, _, _, rfl, _, _, rfl, _, _, rfl, rfl, ?_⟩
  | refine ⟨_, _, rfl, SqT.of (by trivial), rfl, _, _, rfl, _, _, rfl, _, _, rfl, rfl, ?_⟩
  | refine ⟨_, _, rfl, SqT.of (by trivial), rfl, _, _, rfl, _, _, rfl, rfl, ?_⟩
  | refine ⟨_, _, _, _, rfl, (by with_reducible assumption : Wd _ _ _ _), (by first | decide | omega), (by first | decide | omega), ?_⟩
  | refine ⟨_, _, _, rfl, (by with_reducible assumption : Wd _ _ _ _), ?_⟩
  | refine iT (by contradiction) ?_
  | refine iF (by contradiction) ?_))
-- USE RD
open LamX
def spLaw (K : PySem.W.Frag) (Pt : Addr) : Sp := fun vs H Q _ => ∃ (a : Addr) (ns : List Int), vs = [.ref a] ∧ H Pt = some (.tbl #[]) ∧ SqL K H a (ns.map V.int) ∧ ns.length ≤ 63 ∧ ∀ H', Q (.bl true) H'
theorem TrAt.nt {H : Hp} : ∀ {t : Tm} {a : Addr}, TrAt H t a → TrAt (Pl.nt H) t a := by
  have key : ∀ {a : Addr} {xs : List V}, H a = some (.tup xs) → Pl.nt H a = some (.tup xs) := fun {a xs} h => nt_at h (fun _ z => nomatch z)
  intro t
  induction t with
  | now => intro a h; exact key h
  | shift m n ih => intro a ⟨b, h, h1⟩; exact ⟨b, key h, ih h1⟩
  | look s m wy lim ih => intro a ⟨b, h, h1⟩; exact ⟨b, key h, ih h1⟩
  | either x y i1 i2 => intro a ⟨b, d, h, h1, h2⟩; exact ⟨b, d, key h, i1 h1, i2 h2⟩
  | later x y i1 i2 => intro a ⟨b, d, h, h1, h2⟩; exact ⟨b, d, key h, i1 h1, i2 h2⟩
  | earlier x y i1 i2 => intro a ⟨b, d, h, h1, h2⟩; exact ⟨b, d, key h, i1 h1, i2 h2⟩
theorem kid_ok {t k : Tm} (h : k ∈ t.kids) : (t.wf → k.wf) ∧ (∀ B, t.bd B → k.bd B) ∧ k.parts ≤ t.parts ∧ k.depth ≤ t.depth := by
  cases t <;> simp only [Tm.kids, List.mem_cons, List.not_mem_nil, or_false] at h
  · subst h; exact ⟨fun h => h, fun B h => h.2, by simp only [Tm.parts]; omega, by simp only [Tm.depth]; omega⟩
  · subst h; exact ⟨fun h => h.2.2.2, fun B h => h.2, by simp only [Tm.parts]; omega, by simp only [Tm.depth]; omega⟩
  all_goals (rcases h with rfl | rfl)
  · exact ⟨fun h => h.1, fun B h => h.1, by simp only [Tm.parts]; omega, by simp only [Tm.depth]; omega⟩
  · exact ⟨fun h => h.2, fun B h => h.2, by simp only [Tm.parts]; omega, by simp only [Tm.depth]; omega⟩
  · exact ⟨fun h => h.1, fun B h => h.1, by simp only [Tm.parts]; omega, by simp only [Tm.depth]; omega⟩
  · exact ⟨fun h => h.2, fun B h => h.2, by simp only [Tm.parts]; omega, by simp only [Tm.depth]; omega⟩
  · exact ⟨fun h => h.1, fun B h => h.1, by simp only [Tm.parts]; omega, by simp only [Tm.depth]; omega⟩
  · exact ⟨fun h => h.2, fun B h => h.2, by simp only [Tm.parts]; omega, by simp only [Tm.depth]; omega⟩
theorem at_ok : ∀ {p : List Nat} {t u : Tm}, t.at p = some u → (t.wf → u.wf) ∧ (∀ B, t.bd B → u.bd B) ∧ u.parts ≤ t.parts ∧ u.depth ≤ t.depth
  | [], t, u, e => by cases e; exact ⟨id, fun _ h => h, Nat.le_refl _, Nat.le_refl _⟩
  | i :: p, t, u, e => by
    simp only [Tm.at] at e
    cases hk : t.kids[i]? with
    | none => rw [hk] at e; cases e
    | some k =>
      rw [hk] at e
      obtain ⟨a1, a2, a3, a4⟩ := kid_ok (List.mem_of_getElem? hk)
      obtain ⟨b1, b2, b3, b4⟩ := at_ok e
      exact ⟨fun h => b1 (a1 h), fun B h => b2 B (a2 B h), by omega, by omega⟩
/-- a thing that is no term, as it stands in the heap -/
def Thg (H : Hp) (v : V) : Prop := (∃ t, Ty H v t) ∧ ((∃ t, Sc v t) ∨ ∃ a xs, v = .ref a ∧ (H a = some (.lst xs) ∨ H a = some (.tup xs)) ∧ xs.length ≤ 1000 ∧ ∀ x ∈ xs, ∃ t, Sc x t)
theorem Thg.same {H H' : Hp} {v : V} (s : Same H H') (h : Thg H v) : Thg H' v := ⟨let ⟨t, ht⟩ := h.1; ⟨t, ht.same s⟩, h.2.imp id fun ⟨a, xs, h1, h2, h3⟩ => ⟨a, xs, h1, h2.imp (s _ _) (s _ _), h3⟩⟩
theorem Thg.nt {H : Hp} {v : V} (h : Thg H v) : Thg (Pl.nt H) v := ⟨let ⟨t, ht⟩ := h.1; ⟨t, Ty.nt ht⟩, h.2.imp id fun ⟨a, xs, h1, h2, h3⟩ => ⟨a, xs, h1, h2.imp (fun h => nt_at h fun _ z => nomatch z) (fun h => nt_at h fun _ z => nomatch z), h3⟩⟩
theorem Thg.eqd {H : Hp} {v : V} (h : Thg H v) : Eqd H 1 v v := by
  rcases h.2 with ⟨t, ht⟩ | ⟨a, xs, rfl, h2, h3, h4⟩
  · exact Eqd.sc ht 1
  · refine .inr ⟨a, a, xs, xs, rfl, rfl, h2.imp (fun h => ⟨h, h⟩) (fun h => ⟨h, h⟩), rfl, by omega, fun i x y hx hy => ?_⟩
    rw [hx] at hy
    cases hy
    obtain ⟨t, ht⟩ := h4 x (List.mem_of_getElem? hx)
    exact Eqd.sc ht 0
theorem pair_eqd {H : Hp} {a b : Addr} {z : Str} {v : V} (ha : H a = some (.tup [.str z, v])) (hb : H b = some (.tup [.str z, v])) (hv : Thg H v) : Eqd H 2 (.ref a) (.ref b) := by
  refine .inr ⟨a, b, _, _, rfl, rfl, .inr ⟨ha, hb⟩, rfl, Nat.le_of_ble_eq_true rfl, fun i x y hx hy => ?_⟩
  rw [hx] at hy
  cases hy
  match i, hx with
  | 0, hx => cases hx; exact Eqd.sc (.str z) 1
  | 1, hx => cases hx; exact hv.eqd
abbrev qL : Str := (PyProof.Rows.envOfC "law" (defScope s_law) 0 0 (.ref 0)).qual ++ "<lambda>"
section
variable {P : Program} {w : World} {K : PySem.W.Frag} {mg : Str → Option Value} {base : Heap}
theorem Txt.paM (T : Txt P K mg) (t : Tm) : Meth K (t.cls T.ca) "part_at" T.Term_part_at.f := by
  cases t
  · exact T.m_Now_part_at
  · exact T.m_Shift_part_at
  · exact T.m_Look_part_at
  · exact T.m_Either_part_at
  · exact T.m_Later_part_at
  · exact T.m_Earlier_part_at
theorem ok_law (T : Txt P K mg) (TB : TabB base mg T.lc_law.c T.lc_law.P) : FnOk P w K mg base CX0 40 T.law.f T.law.fd ["_law_script"] (spLaw K T.lc_law.P) := by
  have G_law_open : FnOk P w K mg base CX0 (17 + 1) T.law_open.f T.law_open.fd ["_law_script"] (spOpen K) := ok_law_open T
  have G_law_pick : FnOk P w K mg base CX0 (17 + 1) T.law_pick.f T.law_pick.fd ["_law_box", "_law_many"] spPick := ok_law_pick T
  have G_law_names : FnOk P w K mg base CX0 (16 + 2) T.law_names.f T.law_names.fd ["_law_box", "_law_many"] spNames := ok_law_names T
  have G_law_tree : FnOk P w K mg base CX0 (6 + 4 + 9) T.law_tree.f T.law_tree.fd ["_law_box", "_law_names_here", "_law_looks", "_law_joins"] (spTreeB 9) := ok_law_treeB T 9
  have G_law_term : FnOk P w K mg base CX0 (2 + 7 + 12) T.law_term.f T.law_term.fd ["_law_tree_here"] (spTermL T 12) := ok_law_term T 12
  have G_law_paths : FnOk P w K mg base CX0 (2 + 2 + 12) T.law_paths.f T.law_paths.fd ["_law_tree_here"] (spPathsL 12) := ok_law_paths T 12
  have G_law_part : FnOk P w K mg base CX0 (2 + 2) T.law_part.f T.law_part.fd ["_law_tree_here", "_law_path"] (spPartL K) := ok_law_part T
  have G_law_written : FnOk P w K mg base CX0 (2 + 1 + 12) T.law_written.f T.law_written.fd ["_law_tree_here"] (spWr 12) := ok_law_written T 12
  have G_spelled : FnOk P w K mg base CX0 (2 + 2 + 2 * 12) T.spelled.f T.spelled.fd ["term"] (spSp T 12) := ok_spelled T 12
  have GX_spelled : FnOk P w K mg base (L2.CX P w) (0 + 4 + 2 * 0) T.spelled.f T.spelled.fd ["term"] (spTermBad T) := ok_spelled_bad T 0
  have G_law_equal : FnOk P w K mg base CX0 (15 + 3 + 1) T.law_equal.f T.law_equal.fd ["_law_one", "_law_other"] (spEqual 3) := ok_law_equal T 3
  have G_part_at : ∀ _ : Unit, FnR P w K mg base CX0 (2 + 2) T.Term_part_at.f (spPartAt T) := fun _ => ok_part_at T
  refine T.lc_law.F.ok (k := 39) sc_law (fun vs H Q E h => ?_) (fun A outer s H vs Q E hr h => ?_)
  · obtain ⟨a, ns, rfl, _⟩ := h
    rfl
  · obtain ⟨sa, sns, rfl, hP, hS, hl, q⟩ := h
    refine ⟨_, (pss_cons (ps_set (i := 1) sc_law.nd rfl (.inl rfl) (pe_call G_law_open (hr.mono (by omega)) (by rfl) T.law_open.g T.law_open.F.kp T.law_open.b .nil pass0 (pa_cons (pv 0) pa_nil)))
  (pss_cons (ps_set (i := 2) sc_law.nd rfl (.inl rfl) (pe_call G_law_names (hr.mono (by omega)) (by rfl) T.law_names.g T.law_names.F.kp T.law_names.b .nil pass0 (pa_cons (pv 1) (pa_cons (pe_op op_add pe_int (pe_call G_law_pick (hr.mono (by omega)) (by rfl) T.law_pick.g T.law_pick.F.kp T.law_pick.b .nil pass0 (pa_cons (pv 1) (pa_cons pe_int pa_nil)))) pa_nil))))
  (pss_cons (ps_set (i := 3) sc_law.nd rfl (.inl rfl) (pe_call G_law_tree (hr.mono (by omega)) (by rfl) T.law_tree.g T.law_tree.F.kp T.law_tree.b .nil pass0 (pa_cons (pv 1) (pa_cons (pv 2) (pa_cons (pe_call G_law_pick (hr.mono (by omega)) (by rfl) T.law_pick.g T.law_pick.F.kp T.law_pick.b .nil pass0 (pa_cons (pv 1) (pa_cons pe_int pa_nil))) (pa_cons (pe_call G_law_pick (hr.mono (by omega)) (by rfl) T.law_pick.g T.law_pick.F.kp T.law_pick.b .nil pass0 (pa_cons (pv 1) (pa_cons pe_int pa_nil))) pa_nil))))))
  (pss_cons (ps_set (i := 4) sc_law.nd rfl (.inl rfl) (pe_call G_spelled (hr.mono (by omega)) (by rfl) T.spelled.g T.spelled.F.kp T.spelled.b .nil pass0 (pa_cons (pe_call G_law_term (hr.mono (by omega)) (by rfl) T.law_term.g T.law_term.F.kp T.law_term.b .nil pass0 (pa_cons (pv 3) pa_nil)) pa_nil)))
  (pss_cons (ps_if (PW.pt (pw_or (pt_not (pt_val (pe_callB call_isi (by rfl) T.n_isinstance (by decide +kernel) (pa_cons (pv 4) (pa_cons (pe_bltn (v := .ty "str") (by rfl) T.n_str (by decide +kernel) rfl) pa_nil))))) (pw_or1 (pt_cmpR op_ne (pv 4) (pe_call G_law_written (hr.mono (by omega)) (by rfl) T.law_written.g T.law_written.F.kp T.law_written.b .nil pass0 (pa_cons (pv 3) pa_nil)) (nomark _))))) (pss_one (ps_ret pe_bl)) pss_nil)
  (pss_cons (ps_for PassesOwn.never rfl (pi_list (pe_call G_law_paths (hr.mono (by omega)) (by rfl) T.law_paths.g T.law_paths.F.kp T.law_paths.b .nil pass0 (pa_cons (pv 3) pa_nil))) (pg_name (i := 5) sc_law.nd rfl (.inl rfl))
   (pss_one (ps_if (pt_cmpR op_ne (pe_call G_spelled (hr.mono (by omega)) (by rfl) T.spelled.g T.spelled.F.kp T.spelled.b .nil pass0 (pa_cons (pe_methV (pe_call G_law_term (hr.mono (by omega)) (by rfl) T.law_term.g T.law_term.F.kp T.law_term.b .nil pass0 (pa_cons (pv 3) pa_nil)) G_part_at (hr.mono (by omega)) pass0 (pa_cons (pv 5) pa_nil)) pa_nil)) (pe_call G_law_written (hr.mono (by omega)) (by rfl) T.law_written.g T.law_written.F.kp T.law_written.b .nil pass0 (pa_cons (pe_call G_law_part (hr.mono (by omega)) (by rfl) T.law_part.g T.law_part.F.kp T.law_part.b .nil pass0 (pa_cons (pv 3) (pa_cons (pv 5) pa_nil))) pa_nil)) (nomark _)) (pss_one (ps_ret pe_bl)) pss_nil)))
  (pss_cons (ps_for PassesOwn.never rfl (pi_list (pe_lst (pa_cons pe_non (pa_cons pe_int (pa_cons pe_str (pa_cons (pe_tup (pa_cons pe_str pa_nil)) (pa_cons pe_bl (pa_cons (pe_lst pa_nil) (pa_cons (pv 4) pa_nil))))))))) (pg_name (i := 6) sc_law.nd rfl (.inr rfl))
   (pss_one (ps_if (pt_not (pt_val (pe_call G_law_equal (hr.mono (by omega)) (by rfl) T.law_equal.g T.law_equal.F.kp T.law_equal.b .nil pass0 (pa_cons (pe_lam (k := 20) T.law_refusal.F T.law_refusal.b T.law_refusal.g sc_law_refusal (fun cdg => by exact gives_law_refusal T rfl rfl cdg) TB rfl (hr.mono (by omega)) rfl (fun A outer s H E f c' hr => (pe_call GX_spelled (hr.mono (by omega)) (by rfl) T.spelled.g T.spelled.F.kp T.spelled.b .nil (passes_call (takes_of rfl rfl rfl rfl) (fun _ _ _ _ h => h)) (pa_cons (pv 6) pa_nil))) (lamS_by (sc := defScope s_law) (by decide +kernel))) (pa_cons (pe_tup (pa_cons pe_str (pa_cons (pv 6) pa_nil))) pa_nil))))) (pss_one (ps_ret pe_bl)) pss_nil)))
  (pss_one (ps_ret (pe_cmpR op_eq (pe_call G_spelled (hr.mono (by omega)) (by rfl) T.spelled.g T.spelled.F.kp T.spelled.b .nil pass0 (pa_cons (pe_call G_law_term (hr.mono (by omega)) (by rfl) T.law_term.g T.law_term.F.kp T.law_term.b .nil pass0 (pa_cons (pv 3) pa_nil)) pa_nil)) (pv 4) (nomark _))))))))))), ?_⟩
    refine ⟨_, rfl, sa, sns, rfl, hS, hl, fun b c H1 hb hc s1 bx => ?_⟩
    obtain ⟨G1, W1, gP⟩ := Wd.beginT hP hb hc s1 bx
    clear hP hb hc s1 bx
    refine ⟨_, rfl, _, rfl, b, c, _, 3, rfl, W1, by decide, by decide, fun i H2 W2 i0 i1 => ⟨1, i, rfl, rfl, ?_⟩⟩
    have ei : (1 : Int) + i = ((1 + i.toNat : Nat) : Int) := by omega
    refine ⟨b, c, _, 1 + i.toNat, by show [V.ref b, V.int (1 + i)] = _; rw [ei], W2, by omega, fun nl zs H3 gnl nb nc W3 nd hz hg => ?_⟩
    refine ⟨_, rfl, _, rfl, _, rfl, b, c, _, 5, rfl, W3, by decide, by decide, fun lk H4 W4 l0 l1 => ?_⟩
    refine ⟨_, rfl, b, c, _, 5, rfl, W4, by decide, by decide, fun jn H5 W5 j0 j1 => ?_⟩
    have el : lk = ((lk.toNat : Nat) : Int) := by omega
    have ej : jn = ((jn.toNat : Nat) : Int) := by omega
    refine ⟨b, c, nl, _, zs, lk.toNat, jn.toNat, by show [V.ref b, V.ref nl, V.int lk, V.int jn] = _; rw [← el, ← ej], W5, upd_same, by omega, by omega, hg, by omega, by decide, fun t ta G6 H6 s6 W6 ht okt hbd => ?_⟩
    have gP6 : G6 T.lc_law.P = some (.tbl #[]) := s6 _ _ ((same_upd gnl) _ _ gP)
    have td := okt.dp
    have tp := okt.pt
    have tl := okt.lk
    have tfit : t.fits := ⟨by omega, by omega, by omega⟩
    have hbb : t.bd BB := bd_mono (by unfold BB; omega) hbd
    have hP6 := W6.gh _ _ gP6
    have ht6 := ht.same W6.gh
    clear W1 W2 W3 W4 W5 W6 ht gP gP6 s6 hbd
    refine ⟨_, rfl, t, ta, rfl, ht6, by omega, okt.wf, okt.nm, tfit, fun tr H7 s7 htr => ?_⟩
    refine ⟨t, tr, rfl, htr, by omega, okt.wf, hbb, by omega, ?_⟩
    have ht7 := ht6.same s7
    have tyS : Ty H7 (.str (wr t)) "str" := .str _
    refine ⟨_, rfl, _, _, _, _, _, rfl, .ty "str", tyS.x, isI_str tyS, _, rfl, iF (nb_f q_str_str) ?_⟩
    refine ⟨_, rfl, _, rfl, t, ta, rfl, ht7, by omega, okt.wf, hbb, by omega, ?_⟩
    refine ⟨rfl, _, rfl, iF (by simp) ?_⟩
    refine ⟨_, rfl, t, ta, rfl, ht7, by omega, by omega, fun r8 H8 us s8 _ hr8 hp8 => ?_⟩
    refine ⟨r8, rfl, ⟨_, SqL.of hr8⟩, ?_⟩
    have ht8 := ht7.same s8
    refine for_list (K := K) (a := r8) (xs := us) (fun i σ H' => Same H8 H' ∧ ∃ y5 y6 : Option V, σ = [some (.ref sa), some (.ref b), some (.ref nl), some (.ref ta), some (.str (wr t)), y5, y6]) ⟨Same.refl _, _, _, rfl⟩ (fun i σ H' _ pp => SqL.of (pp.1 _ _ hr8)) (fun i x σ H12 hx pp => ?_) (fun σ H12 pp => ?_)
    · obtain ⟨s12, y5, y6, rfl⟩ := pp
      have hi : i < t.paths.length := by rw [← hp8.1]; exact (List.getElem?_eq_some_iff.mp hx).1
      obtain ⟨pt, e1, e2⟩ := hp8.2 i _ (List.getElem?_eq_getElem hi)
      rw [hx] at e1
      cases e1
      obtain ⟨u, hu, _, _⟩ := paths_at (List.getElem_mem hi)
      obtain ⟨k1, k2, k3, k4⟩ := at_ok hu
      refine ⟨_, rfl, t, ta, rfl, ht8.same s12, by omega, okt.wf, okt.nm, tfit, fun tr2 H13 s13 hm13 => ?_⟩
      obtain ⟨dz, gs, hoz, _, _, _, _, _, hpa, _⟩ := hm13.ins
      refine ⟨tr2, _, dz, gs, (), rfl, hoz, hpa, (T.kc t).o.cl, T.paM t, _, rfl, t, u, tr2, pt, _, rfl, hm13, s13 _ _ (s12 _ _ e2), hu, fun r13 H14 s14 hu13 => ?_⟩
      refine ⟨u, r13, rfl, hu13, by omega, k1 okt.wf, k2 _ hbb, by omega, ?_⟩
      refine ⟨_, rfl, _, rfl, t, u, ta, pt, _, rfl, ht8.same ((s12.trans s13).trans s14), s14 _ _ (s13 _ _ (s12 _ _ e2)), hu, fun r14 H15 s15 hu14 => ?_⟩
      refine ⟨u, r14, rfl, hu14, by omega, k1 okt.wf, k2 _ hbb, by omega, ?_⟩
      refine ⟨rfl, _, rfl, iF (by simp) ?_⟩
      exact ⟨((((s12.trans s13).trans s14).trans s15)), _, _, rfl⟩
    · obtain ⟨s12, y5, y6, rfl⟩ := pp
      have ht12 := ht8.same s12
      have hP12 := s12 _ _ (s8 _ _ (s7 _ _ hP6))
      clear ht8 ht7 ht6 s8 s12 s7 hP6 hr8 hp8 htr tyS hS
      and_intros
      intro p1 hp1
      generalize elk : upd _ p1 _ = K1
      obtain ⟨t1, r1⟩ := nw1 elk hp1
      clear elk
      and_intros
      intro p2 hp2
      generalize elk : upd _ p2 _ = K2
      obtain ⟨t2, r2⟩ := nw1 elk hp2
      clear elk
      and_intros
      intro p3 hp3
      generalize elk : upd _ p3 _ = K3
      obtain ⟨t3, r3⟩ := nw1 elk hp3
      clear elk
      have hT : ∀ v ∈ [V.non, .int 0, .str "now", .ref p1, .bl true, .ref p2, .str (wr t)], Thg K3 v := fun v hv => by
        simp only [List.mem_cons, List.not_mem_nil, or_false] at hv
        rcases hv with rfl | rfl | rfl | rfl | rfl | rfl | rfl
        · exact ⟨⟨_, .non⟩, .inl ⟨_, .non⟩⟩
        · exact ⟨⟨_, .int _⟩, .inl ⟨_, .int _⟩⟩
        · exact ⟨⟨_, .str _⟩, .inl ⟨_, .str _⟩⟩
        · exact ⟨⟨_, .tup (t3 _ _ (t2 _ _ r1))⟩, .inr ⟨p1, _, rfl, .inr (t3 _ _ (t2 _ _ r1)), Nat.le_of_ble_eq_true rfl, fun x hx => by cases List.mem_singleton.mp hx; exact ⟨_, .str _⟩⟩⟩
        · exact ⟨⟨_, .bl _⟩, .inl ⟨_, .bl _⟩⟩
        · exact ⟨⟨_, .lst (t3 _ _ r2)⟩, .inr ⟨p2, _, rfl, .inl (t3 _ _ r2), Nat.zero_le _, fun x hx => nomatch hx⟩⟩
        · exact ⟨⟨_, .str _⟩, .inl ⟨_, .str _⟩⟩
      have ht3 := ((ht12.same t1).same t2).same t3
      have hP3 := t3 _ _ (t2 _ _ (t1 _ _ hP12))
      have tb0 : Tabs [(T.lc_law.P, qL)] K3 := fun x hx => by rw [List.mem_singleton.mp hx]; exact TabS.nil hP3
      have htN := ht3.nt
      have hTN : ∀ v ∈ [V.non, .int 0, .str "now", .ref p1, .bl true, .ref p2, .str (wr t)], Thg (nt K3) v := fun v hv => (hT v hv).nt
      have r3N : nt K3 p3 = some (.lst [V.non, .int 0, .str "now", .ref p1, .bl true, .ref p2, .str (wr t)]) := nt_at r3 fun _ z => nomatch z
      have gn0 : Same (nt K3) K3 := nt_le
      have hNT : ∀ y o, nt K3 y = some o → ∀ ps, o ≠ .tbl ps := fun y o e => (nt_sub e).2
      generalize nt K3 = Gn at htN hTN r3N gn0 hNT
      clear ht3 hP3 hT t1 t2 t3 r1 r2 ht12 hP12 hp1 hp2 hp3
      refine ⟨p3, rfl, ⟨_, SqL.of r3⟩, ?_⟩
      refine for_list (K := K) (a := p3) (xs := [V.non, .int 0, .str "now", .ref p1, .bl true, .ref p2, .str (wr t)]) (fun i σ H' => Same Gn H' ∧ Tabs [(T.lc_law.P, qL)] H' ∧ ∃ y6 : Option V, σ = [some (.ref sa), some (.ref b), some (.ref nl), some (.ref ta), some (.str (wr t)), y5, y6]) ⟨gn0, tb0, _, rfl⟩ (fun i σ H' _ pp => SqL.of (pp.1 _ _ r3N)) (fun i v σ H20 hx pp => ?_) (fun σ H20 pp => ?_)
      · obtain ⟨g20, tb, z6, rfl⟩ := pp
        have hv := hTN v (List.mem_of_getElem? hx)
        refine ⟨tb, fun HL eN tb1 p0 hp0 Q' hQ' => ?_⟩
        have gL : Same Gn HL := fun y o e => eN _ _ (g20 _ _ e) (hNT _ _ e)
        generalize elk : upd _ p0 _ = H0k
        obtain ⟨s0, q0⟩ := nw1 elk hp0
        clear elk
        have gk := gL.trans s0
        obtain ⟨tt, hty⟩ := (hv.same gk).1
        refine ⟨_, rfl, v, tt, rfl, hty, fun H2 d9 s2 hd9 => ⟨_, List.mem_singleton.mpr rfl, rfl, d9, _, _, rfl, upd_same, rfl, fun p9 hp9 => ?_⟩⟩
        generalize elk : upd (upd H2 d9 _) p9 _ = H3
        have hr3 : H3 p9 = some (.tup [.str "BadTerm", v]) := by rw [← elk, upd_same]
        have s3 : Same H2 H3 := by rw [← elk]; exact (same_upd hd9).trans (same_upd hp9)
        clear elk
        have sk := (s0.trans s2).trans s3
        and_intros
        intro p10 hp10
        generalize elk : upd _ p10 _ = H4
        obtain ⟨s4, q4⟩ := nw1 elk hp10
        clear elk
        refine ⟨_, _, rfl, pair_eqd (s4 _ _ hr3) q4 (hv.same ((gL.trans sk).trans s4)), _, rfl, iF rfl ?_⟩
        exact ⟨(gL.trans sk).trans s4, (tb1.ext sk).ext s4, _, rfl⟩
      · obtain ⟨g20, tb, z6, rfl⟩ := pp
        refine ⟨_, rfl, t, ta, rfl, htN.same g20, by omega, okt.wf, okt.nm, tfit, fun tr2 H13 s13 hm13 => ?_⟩
        refine ⟨t, tr2, rfl, hm13, by omega, okt.wf, hbb, by omega, ?_⟩
        and_intros
        show Q (V.bl (decide (V.str (wr t) = V.str (wr t)))) H13
        rw [show decide (V.str (wr t) = V.str (wr t)) = true from decide_eq_true rfl]
        exact q _
end
end Pl
open PySem PySem.W PySem.Calls PyProof.Rows in
set_option maxRecDepth 100000 in
set_option maxHeartbeats 0 in
theorem PySem.Challenge.cw_pastlooks_k25_written_terms_holds : PySem.Challenge.rw_pastlooks_k25_written_terms.Holds := by
  w_on; o_law
  refine HandSHeadRun.head_any (r := OpenLaw.row PySem.Challenge.rw_pastlooks_k25_written_terms) (q := view (OpenLaw.row PySem.Challenge.rw_pastlooks_k25_written_terms).prog [76]) (H := Pl.hk) (ob := Pl.ob) (M := 60000) (loose := Pl.loose) (d := HandSHeadRun.topDef (OpenLaw.row PySem.Challenge.rw_pastlooks_k25_written_terms).prog 76) (kwd := []) Pl.ob_eq
    (by kernel_rfl) (fun s => by kernel_rfl) Pl.run (by kernel_rfl) (by kernel_rfl) (by kernel_rfl) (by rfl) (by first | assumption | decide +kernel) (by decide +kernel) ⟨rfl, rfl, rfl, rfl, rfl, by decide +kernel⟩ ?hw ?hc
  case hw => w_witness2
  case hc =>
    refine LamX.walk_ofTsE (l := PySem.Challenge.rw_pastlooks_k25_written_terms) (n := 63) (k := 40) (x := "_law_script") (CX := fun _ => L2.CX0) rfl (by decide) (by kernel_rfl) ⟨rfl, by decide, by decide⟩ ?F (fun _ _ _ _ _ z => z)
    intro w mg fa h Y G hmg0
    obtain ⟨K, K2, KX, KX2, c⟩ := Y
    have hmg : mg ("law" : PySem.Str) = some (.ref fa) := by
      have e : (HandSHeadRun.topDef (OpenLaw.row PySem.Challenge.rw_pastlooks_k25_written_terms).prog 76).name = ("law" : PySem.Str) := by kernel_rfl
      rw [← e]
      exact hmg0
    obtain ⟨T, rfl, hb⟩ := Pl.facts KX G hmg c
    have ft_law := c.t (a := (("law", none) : Str × Option Str)) (by simp [Pl.tabs])
    rw [← T.lc_law.ec, ← T.lc_law.eP] at ft_law
    refine ⟨K, KX, T.law.fd, [(T.lc_law.c, T.lc_law.P)], Pl.spLaw K T.lc_law.P, ?_, ?_, ?_, hb, fun H a ns hl _ hT hS => ⟨a, ns, rfl, hT (T.lc_law.c, T.lc_law.P) (by simp), hS, hl, fun _ => rfl⟩, fun base _ _ TB => Pl.ok_law T (TB (T.lc_law.c, T.lc_law.P) (by simp))⟩
    · intro p hp
      simp only [List.mem_cons, List.not_mem_nil, or_false] at hp
      rcases hp with rfl
      · exact Pl.tbB_ok KX2 ft_law.2.2
    · intro p hp
      simp only [List.mem_cons, List.not_mem_nil, or_false] at hp
      rcases hp with rfl
      · exact ft_law.2.1
    · intro p hp
      simp only [List.mem_cons, List.not_mem_nil, or_false] at hp
      rcases hp with rfl
      · exact Pl.cdB_ok KX ft_law.1
