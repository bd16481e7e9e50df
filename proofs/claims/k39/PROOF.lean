import PyProof.Rows.All
import Wide.All
import OpenK.AllK
import Wide.FinOn
import KE.OsRunLaw
import KE.RegKSuper
import KE.RegKIsAll
import HandS.ForMost
import HandS.IsInst
import HandS.TryMany
import HandS.ExcField
import HandS.ExcInit
import HandS.WordsExc
import HandS.Lambda
import HandS.EndTab
import HandS.HeadWalk
import HandS.Nested
import HandS.ClsMeth
import HandS.Star
import KE.KSuper
import HandS.SlotsOwn
import KE.KOpsOwn
import HandS.MakeKwOnly
import KE.KStateDown
import HandS.Head0
import HandS.Head1
import HandS.Head2
import HandS.HeadEnd
import HandS.HeadHook1
import HandS.HeadHook2
import HandS.Defaults
import HandS.Evl
import KE.SortData
import HandS.Deep
import HandS.Style
import PySem.Challenge.RW_pastlooks_k39_wrong_facts
set_option Elab.async false
set_option linter.all false
set_option maxRecDepth 100000
set_option maxHeartbeats 4000000
set_option Elab.async false
set_option linter.all false
set_option maxRecDepth 100000
set_option maxHeartbeats 4000000
namespace Pl
open PySem L2
/-! ### heaps -/
theorem same_upd {H : Hp} {p : Addr} {o : HO} (h : H p = none) : Same H (upd H p o) := fun b x e => by
  rw [upd_ne (ne_of_none e h)]
  exact e
theorem same_mut {G H : Hp} {p : Addr} {o : HO} (s : Same G H) (h : G p = none) : Same G (upd H p o) := fun b x e => by
  rw [upd_ne (ne_of_none e h)]
  exact s b x e
theorem same_both {G H : Hp} {p : Addr} {o : HO} (s : Same G H) : Same (upd G p o) (upd H p o) := fun b x e => by
  unfold upd at *
  split
  · rename_i h
    rw [if_pos h] at e
    exact e
  · rename_i h
    rw [if_neg h] at e
    exact s b x e
theorem Same.rd {H H' : Hp} {a : Addr} {u : HO} (s : Same H H') (h : Rd H a u) : Rd H' a u := by
  rcases h with h | ⟨o, h⟩
  · exact .inl (s _ _ h)
  · exact .inr ⟨o, s _ _ h⟩
theorem Same.tup {K : PySem.W.Frag} {H H' : Hp} {a : Addr} {xs : List V} (s : Same H H') (h : SqT K H a xs) : SqT K H' a xs := by
  rcases h with (h | ⟨o, h⟩) | h
  · exact .inl (.inl (s _ _ h))
  · exact .inl (.inr ⟨o, s _ _ h⟩)
  · exact .inr h
theorem at_ix {xs : List V} {j : Int} {v : V} (h0 : 0 ≤ j) (h : xs[j.toNat]? = some v) : atI xs j = some v := by
  have e : j = ((j.toNat : Nat) : Int) := by omega
  rw [e]
  exact atI_nat h
theorem at_ix2 {α : Type} {xs : List α} {j : Int} {v : α} (h0 : 0 ≤ j) (h : xs[j.toNat]? = some v) : atI xs j = some v := by
  have e : j = ((j.toNat : Nat) : Int) := by omega
  rw [e]
  exact atI_nat h
theorem ix_in {n : Nat} {j : Int} (h0 : 0 ≤ j) (h1 : j < n) : ixN n j = some j.toNat := by
  unfold ixN
  rw [if_pos h0, if_pos h1]
theorem at_ints {cs : List Int} {j : Int} (h0 : 0 ≤ j) (h1 : j < cs.length) : ∃ x, atI (cs.map V.int) j = some (.int x) := by
  have h : j.toNat < cs.length := by omega
  exact ⟨cs[j.toNat], at_ix h0 (by rw [List.getElem?_map, List.getElem?_eq_getElem h]; rfl)⟩
theorem fm0 {a b : Int} (h : 0 < b) : 0 ≤ a.fmod b := by
  rw [Int.fmod_eq_emod_of_nonneg _ (Int.le_of_lt h)]
  exact Int.emod_nonneg _ (by omega)
theorem fm1 {a b : Int} (h : 0 < b) : a.fmod b < b := by
  rw [Int.fmod_eq_emod_of_nonneg _ (Int.le_of_lt h)]
  exact Int.emod_lt_of_pos _ h
theorem sz {n : Nat} (h : n ≤ 100000) : n ≤ sizeLine := Nat.le_trans h (by decide)
theorem szl {n : Nat} (h : n < 100000) : n < sizeLine := Nat.lt_of_lt_of_le h (by decide)
/-! ### the box from which a law draws -/
def BoxAt (b c : Addr) (H : Hp) : Prop := b ≠ c ∧ ∃ (cs : List Int) (k : Int), H b = some (.lst [.ref c, .int k]) ∧ H c = some (.lst (cs.map V.int)) ∧ 0 < cs.length ∧ cs.length ≤ 64
/-- G: what stays -/
structure Wd (b c : Addr) (G H : Hp) : Prop where
  box : BoxAt b c H
  gh : Same G H
  gb : G b = none
  gc : G c = none
/-- nothing that stood is changed; G is what is known and stays -/
structure Gr (G H G' H' : Hp) : Prop where
  gg : Same G G'
  gh : Same G' H'
  hh : Same H H'
  nw : ∀ a o, G' a = some o → G a = some o ∨ H a = none
theorem Gr.refl {G H : Hp} (s : Same G H) : Gr G H G H := ⟨Same.refl _, s, Same.refl _, fun _ _ h => .inl h⟩
theorem Gr.trans {G H G1 H1 G2 H2 : Hp} (a : Gr G H G1 H1) (b : Gr G1 H1 G2 H2) : Gr G H G2 H2 :=
  ⟨a.gg.trans b.gg, b.gh, a.hh.trans b.hh, fun x o h => by
    rcases b.nw x o h with h | h
    · exact a.nw x o h
    · exact .inr (a.hh.free h)⟩
theorem Gr.new {G H : Hp} {p : Addr} {o : HO} (s : Same G H) (h : H p = none) : Gr G H (upd G p o) (upd H p o) :=
  ⟨same_upd (s.free h), same_both s, same_upd h, fun a x e => by
    by_cases q : a = p
    · rw [q]; exact .inr h
    · rw [upd_ne q] at e; exact .inl e⟩
/-- a new thing that is not to be known -/
theorem Gr.drop {G H : Hp} {p : Addr} {o : HO} (s : Same G H) (h : H p = none) : Gr G H G (upd H p o) :=
  ⟨Same.refl _, same_mut s (s.free h), same_upd h, fun _ _ e => .inl e⟩
theorem Gr.none {G H G' H' : Hp} (g : Gr G H G' H') {a : Addr} {o : HO} (h : G a = none) (ha : H a = some o) : G' a = none := by
  cases e : G' a with
  | none => rfl
  | some u =>
    rcases g.nw a u e with q | q
    · rw [h] at q; cases q
    · rw [ha] at q; cases q
theorem BoxAt.same {b c : Addr} {H H' : Hp} (x : BoxAt b c H) (s : Same H H') : BoxAt b c H' := by
  obtain ⟨n, cs, k, h1, h2, h3⟩ := x
  exact ⟨n, cs, k, s _ _ h1, s _ _ h2, h3⟩
theorem BoxAt.b {b c : Addr} {H : Hp} (x : BoxAt b c H) : ∃ o, H b = some o := by
  obtain ⟨n, cs, k, h1, h2, h3⟩ := x
  exact ⟨_, h1⟩
theorem BoxAt.c {b c : Addr} {H : Hp} (x : BoxAt b c H) : ∃ o, H c = some o := by
  obtain ⟨n, cs, k, h1, h2, h3⟩ := x
  exact ⟨_, h2⟩
theorem Wd.gr {b c : Addr} {G H G' H' : Hp} (x : Wd b c G H) (g : Gr G H G' H') : Wd b c G' H' := by
  obtain ⟨_, h1⟩ := x.box.b
  obtain ⟨_, h2⟩ := x.box.c
  exact ⟨x.box.same g.hh, g.gh, g.none x.gb h1, g.none x.gc h2⟩
theorem Wd.gr0 {b c : Addr} {G H : Hp} (x : Wd b c G H) : Gr G H G H := Gr.refl x.gh
/-- a list that is not frozen may be written -/
theorem Wd.mut {b c p : Addr} {G H : Hp} {o : HO} (x : Wd b c G H) (h : G p = none) (hb : p ≠ b) (hc : p ≠ c) : Wd b c G (upd H p o) := by
  obtain ⟨n, cs, k, h1, h2, h3⟩ := x.box
  exact ⟨⟨n, cs, k, by rw [upd_ne (Ne.symm hb)]; exact h1, by rw [upd_ne (Ne.symm hc)]; exact h2, h3⟩, same_mut x.gh h, x.gb, x.gc⟩
/-! ### isinstance of built-in classes -/
theorem kb_int_int : kitB "int" "int" = some true := by decide +kernel
theorem kb_int_bool : kitB "int" "bool" = some false := by decide +kernel
theorem kb_int_tuple : kitB "int" "tuple" = some false := by decide +kernel
theorem kb_int_list : kitB "int" "list" = some false := by decide +kernel
theorem kb_int_str : kitB "int" "str" = some false := by decide +kernel
theorem kb_bool_int : kitB "bool" "int" = some true := by decide +kernel
theorem kb_bool_bool : kitB "bool" "bool" = some true := by decide +kernel
theorem kb_bool_tuple : kitB "bool" "tuple" = some false := by decide +kernel
theorem kb_bool_list : kitB "bool" "list" = some false := by decide +kernel
theorem kb_bool_str : kitB "bool" "str" = some false := by decide +kernel
theorem kb_tuple_int : kitB "tuple" "int" = some false := by decide +kernel
theorem kb_tuple_bool : kitB "tuple" "bool" = some false := by decide +kernel
theorem kb_tuple_tuple : kitB "tuple" "tuple" = some true := by decide +kernel
theorem kb_tuple_list : kitB "tuple" "list" = some false := by decide +kernel
theorem kb_tuple_str : kitB "tuple" "str" = some false := by decide +kernel
theorem kb_list_int : kitB "list" "int" = some false := by decide +kernel
theorem kb_list_bool : kitB "list" "bool" = some false := by decide +kernel
theorem kb_list_tuple : kitB "list" "tuple" = some false := by decide +kernel
theorem kb_list_list : kitB "list" "list" = some true := by decide +kernel
theorem kb_list_str : kitB "list" "str" = some false := by decide +kernel
theorem kb_str_int : kitB "str" "int" = some false := by decide +kernel
theorem kb_str_bool : kitB "str" "bool" = some false := by decide +kernel
theorem kb_str_tuple : kitB "str" "tuple" = some false := by decide +kernel
theorem kb_str_list : kitB "str" "list" = some false := by decide +kernel
theorem kb_str_str : kitB "str" "str" = some true := by decide +kernel
theorem kb_none_int : kitB "NoneType" "int" = some false := by decide +kernel
theorem kb_none_bool : kitB "NoneType" "bool" = some false := by decide +kernel
theorem kb_none_tuple : kitB "NoneType" "tuple" = some false := by decide +kernel
theorem kb_none_list : kitB "NoneType" "list" = some false := by decide +kernel
theorem kb_none_str : kitB "NoneType" "str" = some false := by decide +kernel
/-- the kinds of values that a law handles, by a built-in type's name -/
inductive Ty (H : Hp) : V → String → Prop
  | non : Ty H .non "NoneType"
  | bl (b : Bool) : Ty H (.bl b) "bool"
  | int (i : Int) : Ty H (.int i) "int"
  | str (x : Str) : Ty H (.str x) "str"
  | lst {a : Addr} {xs : List V} (h : H a = some (.lst xs)) : Ty H (.ref a) "list"
  | tup {a : Addr} {xs : List V} (h : H a = some (.tup xs)) : Ty H (.ref a) "tuple"
theorem Ty.x {K : PySem.W.Frag} {H : Hp} {v : V} {n : String} (t : Ty H v n) : TyX K H v (.type n) := by
  cases t with
  | non => exact .base .non
  | bl b => exact .base (.bl b)
  | int i => exact .base (.int i)
  | str x => exact .base (.str x)
  | lst h => exact .base (.lst h)
  | tup h => exact .base (.tup h)
theorem Ty.same {H H' : Hp} {v : V} {n : String} (s : Same H H') (t : Ty H v n) : Ty H' v n := by
  cases t with
  | non => exact .non
  | bl b => exact .bl b
  | int i => exact .int i
  | str x => exact .str x
  | lst h => exact .lst (s _ _ h)
  | tup h => exact .tup (s _ _ h)
/-- isinstance(x, n) of such a value -/
def tyB (t n : String) : Bool := (kitB t n).getD false
theorem Ty.kit {H : Hp} {v : V} {t : String} (h : Ty H v t) {n : String} (hn : n = "int" ∨ n = "bool" ∨ n = "tuple" ∨ n = "list" ∨ n = "str") : kitB t n = some (tyB t n) := by
  unfold tyB
  rcases hn with rfl | rfl | rfl | rfl | rfl <;> cases h <;> first
    | (rw [kb_int_int]; rfl) | (rw [kb_int_bool]; rfl) | (rw [kb_int_tuple]; rfl) | (rw [kb_int_list]; rfl) | (rw [kb_int_str]; rfl)
    | (rw [kb_bool_int]; rfl) | (rw [kb_bool_bool]; rfl) | (rw [kb_bool_tuple]; rfl) | (rw [kb_bool_list]; rfl) | (rw [kb_bool_str]; rfl)
    | (rw [kb_tuple_int]; rfl) | (rw [kb_tuple_bool]; rfl) | (rw [kb_tuple_tuple]; rfl) | (rw [kb_tuple_list]; rfl) | (rw [kb_tuple_str]; rfl)
    | (rw [kb_list_int]; rfl) | (rw [kb_list_bool]; rfl) | (rw [kb_list_tuple]; rfl) | (rw [kb_list_list]; rfl) | (rw [kb_list_str]; rfl)
    | (rw [kb_str_int]; rfl) | (rw [kb_str_bool]; rfl) | (rw [kb_str_tuple]; rfl) | (rw [kb_str_list]; rfl) | (rw [kb_str_str]; rfl)
    | (rw [kb_none_int]; rfl) | (rw [kb_none_bool]; rfl) | (rw [kb_none_tuple]; rfl) | (rw [kb_none_list]; rfl) | (rw [kb_none_str]; rfl)
theorem isI_int {K : PySem.W.Frag} {H : Hp} {v : V} {t : String} (h : Ty H v t) : PySem.W.kitOne K (.type t) (.type "int") = some (tyB t "int") := kit_ty (h.kit (.inl rfl))
theorem isI_bool {K : PySem.W.Frag} {H : Hp} {v : V} {t : String} (h : Ty H v t) : PySem.W.kitOne K (.type t) (.type "bool") = some (tyB t "bool") := kit_ty (h.kit (.inr (.inl rfl)))
theorem isI_tuple {K : PySem.W.Frag} {H : Hp} {v : V} {t : String} (h : Ty H v t) : PySem.W.kitOne K (.type t) (.type "tuple") = some (tyB t "tuple") := kit_ty (h.kit (.inr (.inr (.inl rfl))))
theorem isI_list {K : PySem.W.Frag} {H : Hp} {v : V} {t : String} (h : Ty H v t) : PySem.W.kitOne K (.type t) (.type "list") = some (tyB t "list") := kit_ty (h.kit (.inr (.inr (.inr (.inl rfl)))))
theorem isI_str {K : PySem.W.Frag} {H : Hp} {v : V} {t : String} (h : Ty H v t) : PySem.W.kitOne K (.type t) (.type "str") = some (tyB t "str") := kit_ty (h.kit (.inr (.inr (.inr (.inr rfl)))))
def isInt : V → Bool
  | .int _ => true
  | _ => false
theorem isInt_of {H : Hp} {v : V} {t : String} (h : Ty H v t) : (tyB t "int" && !tyB t "bool") = isInt v := by
  unfold tyB
  cases h
  · rw [kb_none_int]; rfl
  · rw [kb_bool_int, kb_bool_bool]; rfl
  · rw [kb_int_int, kb_int_bool]; rfl
  · rw [kb_str_int]; rfl
  · rw [kb_list_int]; rfl
  · rw [kb_tuple_int]; rfl
end Pl

set_option Elab.async false
set_option linter.all false
set_option maxRecDepth 100000
set_option maxHeartbeats 4000000
/-! several except clauses, each with or without a name -/
namespace Pl
open PySem PySem.Spec PyProof.Rows L2
abbrev Cls3 : Type := Value × Option Nat × (Addr → Value → Option Addr → TS)
/-- the ends behind a clause with a name: its slot is emptied -/
def endsAs (i : Nat) (D : Ends) : Ends := { nx := fun σ' H' => D.nx (σ'.set i none) H', rt := D.rt, bk := fun σ' H' => D.bk (σ'.set i none) H', ct := fun σ' H' => D.ct (σ'.set i none) H' }
/-- what the clauses wish of an exception of the body, one after the other -/
def wMix (K : PySem.W.Frag) (Wout : WX) (D : Ends) : List Cls3 → WX
  | [] => Wout
  | (c, none, ts) :: r => fun cls d σ H => ∃ b, PySem.W.exmOne K cls c = some b ∧ (b = true → ∀ a, H a = none → ts a cls d D σ H) ∧ (b = false → wMix K Wout D r cls d σ H)
  | (c, some i, ts) :: r => fun cls d σ H => ∃ b, PySem.W.exmOne K cls c = some b ∧ (b = true → ∀ a, H a = none → ts a cls d (endsAs i D) (σ.set i (some (.ref a))) H) ∧ (b = false → wMix K Wout D r cls d σ H)
/-- .. where all slots are there -/
def wMixL (n : Nat) (K : PySem.W.Frag) (Wout : WX) (D : Ends) (l : List Cls3) : WX := fun cls d σ H => σ.length = n → wMix K Wout D l cls d σ H
inductive HdsMx (X : Cx) : List ExceptHandler → List Cls3 → Prop
  | nil : HdsMx X [] []
  | cons {x : Str} {c : Value} {ts : Addr → Value → Option Addr → TS} {b₀ : Stmt} {suite : List Stmt} {np pos' : Pos} {hds : List ExceptHandler} {l : List Cls3} (hc : Names X x c)
      (hsu : ∀ (a : Addr) (oe : Obj) (cls : Value) (d : Option Addr) (pn : List (Addr × Obj)), Zc cls d oe → (∃ vs, oe.data = .fields vs) → PSs (X.suite a ((a, oe) :: pn)) (b₀ :: suite) (ts a cls d)) (r : HdsMx X hds l) :
      HdsMx X (.ExceptHandler (some (.Name x np)) none (b₀ :: suite) pos' :: hds) ((c, none, ts) :: l)
  | consAs {x n : Str} {i : Nat} {c : Value} {ts : Addr → Value → Option Addr → TS} {b₀ : Stmt} {suite : List Stmt} {np pos' : Pos} {hds : List ExceptHandler} {l : List Cls3} (hi : X.N[i]? = some n) (hln : X.env.kindOf n = some .local) (hc : Names X x c)
      (hsu : ∀ (a : Addr) (oe : Obj) (cls : Value) (d : Option Addr) (pn : List (Addr × Obj)), Zc cls d oe → (∃ vs, oe.data = .fields vs) → PSs (X.suite a ((a, oe) :: pn)) (b₀ :: suite) (ts a cls d)) (r : HdsMx X hds l) :
      HdsMx X (.ExceptHandler (some (.Name x np)) (some n) (b₀ :: suite) pos' :: hds) ((c, some i, ts) :: l)
section
variable {X : Cx} {body : List Stmt} {h₀ : ExceptHandler} {hds : List ExceptHandler} {l : List Cls3} {pos : Pos} {tb : WX → TS} {Wout : WX}
theorem ps_try_mix (hs : X.stack = X.env :: X.outer) (hf : X.env.frame = some X.env.locals) (hN : X.N.Nodup) (tk : Takes X Wout)
    (hb : ∀ (W : WX) (pn : List (Addr × Obj)) (xe : Value → Shared → Prop), Takes (X.tr pn xe) W → PassesOwn (model X.prog X.w) X.A X.env xe → PSs (X.tr pn xe) body (tb W))
    (hh : HdsMx X (h₀ :: hds) l) : PS X (.Try body (h₀ :: hds) [] [] pos) (fun D σ H => tb (wMixL X.N.length X.K Wout D l) D σ H) := by
  refine ⟨fun pins s σ H D I h => ?_⟩
  have ok := I.ok
  have hfr : X.A.frames = some (X.env :: X.outer) := by rw [ok.frames, hs]
  refine wpAny_Try_except ?_
  refine wpAny_mono ((hb (wMixL X.N.length X.K Wout D l) (X.pn ++ pins) (fun e s₁ => wpAny (model X.prog X.w) X.A (noteFrame e X.env) (fun _ s₂ => wpAny (model X.prog X.w) X.A (setFlight e none) (fun _ s₃ =>
    wpAny (model X.prog X.w) X.A (handleBy e X.env (h₀ :: hds)) (SP X pins D) X.xe s₃) X.xe s₂) X.xe s₁) (fun u s' xx => ?_) PassesOwn.looking).run [] s σ H D (I.toTry _) h) (fun f s1 hsp => ?_) (fun e s1 he => he)
  · -- the catch
    obtain ⟨a, B, sI, pins', σ', H', cls, d, rfl, J', nb, up, sky, na, os, ag, w⟩ := xx
    have J : Inv X pins σ' H' sI := J'.ofTry ok
    have sky' : Sky B (X.env :: X.outer) a (Zc cls d) X.env.locals s'.heap := by rw [← hs]; exact sky
    show wpAny (model X.prog X.w) X.A (noteFrame (.ref a) X.env) _ _ _
    refine Sky.land Zc.steady hfr hf sky' fun h3 fl3 up3 => ?_
    have J3 : Inv X pins σ' H' { s' with heap := h3 } := J.landed nb fl3.1 (up.trans up3) os ag
    obtain ⟨oe3, vs3, he3, hz3, hd3⟩ := fl3.there
    have notFr : ∀ {h : Heap} {o : Obj} {vs : Array Value}, h.FunFrames B (X.env :: X.outer) → h.get? a = some o → o.data = .fields vs → a ∉ frs (X.env :: X.outer) := fun {h o vs} ff e dd hm => by
      obtain ⟨_, o', e', hnf⟩ := ff.mem hm
      rw [e] at e'; cases e'
      exact hnf _ dd
    have nfr := notFr fl3.2.2.1 he3 hd3
    have nL : a ≠ X.env.locals := fun z => nfr (List.mem_filterMap.mpr ⟨X.env, List.mem_cons_self, by rw [hf, z]⟩)
    have nF : a ∉ X.fs := fun hm => by
      obtain ⟨e, he, q⟩ := List.mem_filterMap.mp hm
      exact nfr (List.mem_filterMap.mpr ⟨e, List.mem_cons_of_mem _ he, q⟩)
    have S3 := J3.suite he3 hd3 na nL nF
    have LT : PySem.W.Looks (model X.prog X.w) h3 (typeOf (.ref a)) cls := fun A Q E s k q => wpAny_typeOf_ref (k _ _ he3) (by rw [hz3.1]; exact q)
    have test : ∀ {x : Str} {c : Value} {np : Pos} (hc : Names X x c) {Q : Value → Shared → Prop} {E : Value → Shared → Prop}, Q c { s' with heap := h3 } → wpAny (model X.prog X.w) (X.A.mark (some (.ref a))) (eval (.Name x np) X.env) Q E { s' with heap := h3 } := fun {x c np} hc {Q E} q => by
      obtain ⟨hg, hdbg, hm | ⟨hm, hv, hnn⟩⟩ := hc
      · exact ld_glob (X := X.suite a ((a, oe3) :: (X.pn ++ pins))) S3 hg hm q hdbg
      · exact ld_blt (X := X.suite a ((a, oe3) :: (X.pn ++ pins))) S3 hg hm hv q hnn hdbg
    have go : ∀ {hds' : List ExceptHandler} {l' : List Cls3}, HdsMx X hds' l' → wMix X.K Wout D l' cls d σ' H' →
        wpAny (model X.prog X.w) X.A (handleBy (.ref a) X.env hds') (SP X pins D) X.xe { s' with heap := h3 } := by
      intro hds' l' hk
      induction hk with
      | nil =>
        intro w
        refine wpAny_handleBy_nil ?_
        obtain ⟨k1, k2, k3, oe, vs, T, oT, ts', he, hz, hd, h1, hr⟩ := id fl3
        unfold PySem.passOn
        refine wpAny_bind (wpAny_field he hd h1 ?_)
        rw [if_neg (show ¬ ((Value.ref T == Value.none) = true) from by simp)]
        have fin : wpAny (model X.prog X.w) X.A (setFlight (.ref a) X.env.frame) (fun _ s4 => wpAny (model X.prog X.w) X.A (throw (.ref a) : Sem Flow) (SP X pins D) X.xe s4) X.xe { s' with heap := h3 } := by
          rw [hf]
          refine HandSPX.setFlight_upZ fl3 fun h4 hh4 up4 => wpAny_throw (tk _ _ ?_)
          exact ⟨a, B, sI, pins, σ', H', cls, d, rfl, J, nb, (up.trans up3).trans up4, .inr (.inr (by rw [hs]; exact hh4)), na, os, ag, w⟩
        first
          | exact wpAny_bind (wpAny_pure (wpAny_bind fin))
          | exact wpAny_bind fin
      | @cons x c ts b₀ suite np pos' hds2 l2 hc hsu r ih =>
        intro w
        obtain ⟨b, hb1, hyes, hno⟩ := w
        refine wpAny_handleBy_cons (codeAny_handlers_test ?_) (by intro q; cases q)
        have LM := PySem.W.exm_one (M := model X.prog X.w) (J3.kIn) LT hb1
        refine test hc (LM.here ?_)
        cases b with
        | true =>
          refine codeAny_handlers_suite ?_
          refine HandSPX.lands_againZ fl3 fun h4 fl4 up4 => ?_
          have J4 : Inv X pins σ' H' { s' with heap := h4 } := J.landed nb fl4.1 ((up.trans up3).trans up4) os ag
          obtain ⟨oe4, vs4, he4, hz4, hd4⟩ := fl4.there
          have S4 := J4.suite he4 hd4 na nL nF
          refine wpAny_mono ((hsu a oe4 cls d (X.pn ++ pins) hz4 ⟨_, hd4⟩).run [] _ _ H' _ S4 (hyes rfl a na)) (fun f s6 hsp => ?_) (fun _ _ z => False.elim z)
          cases f with
          | next =>
            obtain ⟨σ6, H6, S6, q6⟩ := hsp
            exact ⟨_, _, S6.unsuite ok, q6⟩
          | brk =>
            obtain ⟨σ6, H6, S6, q6⟩ := hsp
            exact ⟨_, _, S6.unsuite ok, q6⟩
          | cont =>
            obtain ⟨σ6, H6, S6, q6⟩ := hsp
            exact ⟨_, _, S6.unsuite ok, q6⟩
          | ret u =>
            obtain ⟨v6, σ6, H6, S6, r6, q6⟩ := hsp
            exact ⟨_, _, _, S6.unsuite ok, r6, q6⟩
        | false =>
          show wpAny _ X.A (handleBy (.ref a) X.env hds2) _ _ _
          exact ih (hno rfl)
      | @consAs x n i c ts b₀ suite np pos' hds2 l2 hi hln hc hsu r ih =>
        intro w
        obtain ⟨b, hb1, hyes, hno⟩ := w
        have hloc : Loc X.env.scope n := .inl hln
        refine wpAny_handleBy_cons (codeAny_handlers_test ?_) (by intro q; cases q)
        have LM := PySem.W.exm_one (M := model X.prog X.w) (J3.kIn) LT hb1
        refine test hc (LM.here ?_)
        cases b with
        | true =>
          refine codeAny_handlers_suite_as ?_
          refine HandSPX.lands_againZ fl3 fun h4 fl4 up4 => ?_
          have J4 : Inv X pins σ' H' { s' with heap := h4 } := J.landed nb fl4.1 ((up.trans up3).trans up4) os ag
          obtain ⟨oe4, vs4, he4, hz4, hd4⟩ := fl4.there
          have S4 := J4.suite he4 hd4 na nL nF
          refine store_ok (X := X.suite a ((a, oe4) :: (X.pn ++ pins))) (v := .ref a) S4 hN hi hloc rfl (fun s5 S5 => ?_) (.inr hln)
          refine wpAny_mono ((hsu a oe4 cls d (X.pn ++ pins) hz4 ⟨_, hd4⟩).run [] s5 _ H' _ S5 (hyes rfl a na)) (fun f s6 hsp => ?_) (fun _ _ z => False.elim z)
          have end_ : ∀ {σ6 : L2.St} {H6 : Hp} {Q : Shared → Prop}, Inv (X.suite a ((a, oe4) :: (X.pn ++ pins))) [] σ6 H6 s6 → (∀ s7, Inv X pins (σ6.set i none) H6 s7 → Q s7) →
              wpAny (model X.prog X.w) X.A (do bindName X.env n .none; unbindBehindTheSuite X.env n pos') (fun _ s7 => Q s7) X.xe s6 := fun {σ6 H6 Q} S6 hq => gone_ok (S6.unsuite ok) hN hi hln hq
          cases f with
          | next =>
            obtain ⟨σ6, H6, S6, q6⟩ := hsp
            exact end_ S6 fun s7 J7 => ⟨_, _, J7, q6⟩
          | brk =>
            obtain ⟨σ6, H6, S6, q6⟩ := hsp
            exact end_ S6 fun s7 J7 => ⟨_, _, J7, q6⟩
          | cont =>
            obtain ⟨σ6, H6, S6, q6⟩ := hsp
            exact end_ S6 fun s7 J7 => ⟨_, _, J7, q6⟩
          | ret u =>
            obtain ⟨v6, σ6, H6, S6, r6, q6⟩ := hsp
            exact end_ S6 fun s7 J7 => ⟨_, _, _, J7, r6, q6⟩
        | false =>
          show wpAny _ X.A (handleBy (.ref a) X.env hds2) _ _ _
          exact ih (hno rfl)
    exact go hh (w J.len)
  · cases f with
    | next =>
      obtain ⟨σ', H', J', q⟩ := hsp
      exact wpAny_execs_nil ⟨σ', H', J'.ofTry ok, q⟩
    | brk =>
      obtain ⟨σ', H', J', q⟩ := hsp
      exact ⟨σ', H', J'.ofTry ok, q⟩
    | cont =>
      obtain ⟨σ', H', J', q⟩ := hsp
      exact ⟨σ', H', J'.ofTry ok, q⟩
    | ret u =>
      obtain ⟨v, σ', H', J', r, q⟩ := hsp
      exact ⟨v, σ', H', J'.ofTry ok, r, q⟩
end
/-! ### an own error with one field -/
/-- def __init__(self, y): self.f = y -/
def spExI (K : PySem.W.Frag) (f : Str) : Sp := fun vs H Q _ => ∃ (a C : Addr) (y : V), vs = [.ref a, y] ∧ OexC K C ∧ H a = some (exo a C none) ∧ PySem.W.findIn K (.ref C) f = some none ∧ ∀ dx, H dx = none → dx ≠ a → Q .non (upd (upd H dx (exd dx [(f, y)])) a (exo a C (some dx)))
theorem exI_made {K : PySem.W.Frag} {C : Addr} {f : Str} {y : V} {H : Hp} {Q : XK} (T : OexC K C) (hno : PySem.W.findIn K (.ref C) f = some none) (h : ∀ d, H d = none → Q (.ref C) (some d) (upd H d (.xd [(f, y)]))) :
    [y].length ≤ 1000 ∧ ∀ a, H a = none → spExI K f (.ref a :: ([y] ++ [])) (upd H a (exo a C none)) (fun v H2 => v = .non ∧ ∃ (d : Addr) (fs : List (Str × V)), H2 a = some (exo a C (some d)) ∧ H2 d = some (exd d fs) ∧ H d = none ∧ Q (.ref C) (some d) (upd (del H2 a) d (.xd fs))) (fun _ _ _ => False) := by
  refine ⟨Nat.le_of_ble_eq_true rfl, fun a ha => ⟨a, C, y, rfl, T, upd_same, hno, fun dx hdx hne => ⟨rfl, dx, [(f, y)], upd_same, by rw [upd_ne hne, upd_same], ?_, ?_⟩⟩⟩
  · rw [upd_ne hne] at hdx; exact hdx
  · have hd : H dx = none := by rw [upd_ne hne] at hdx; exact hdx
    have e : upd (del (upd (upd (upd H a (exo a C none)) dx (exd dx [(f, y)])) a (exo a C (some dx))) a) dx (.xd [(f, y)]) = upd H dx (.xd [(f, y)]) := by
      funext b
      by_cases hb : b = dx
      · subst hb; rw [upd_same, upd_same]
      · rw [upd_ne hb, upd_ne hb]
        by_cases hba : b = a
        · subst hba; rw [del_same, ha]
        · rw [del_ne hba, upd_ne hba, upd_ne hb, upd_ne hba]
    rw [e]
    exact h dx hd
end Pl

set_option Elab.async false
set_option linter.all false
set_option maxRecDepth 100000
set_option maxHeartbeats 4000000
/-! Methods of own classes whose last statement is super().__init__(..). -/
namespace Pl
open PySem PySem.Spec PyProof.Rows L2 NdefX ClX
/-- what the written part has of a def that closes over its class D, and of the def g of the class behind D -/
structure SupK (P : Program) (K : PySem.W.Frag) (F : NF) (cc D g : Addr) (name : Str) : Prop where
  cl : F.cl = ([("__class__", cc)] : List (Str × Addr))
  cell : ∃ ccl ccd ccs, K.lookup cc = some ⟨ccl, ccd, .cell (some (.ref D)), ccs⟩
  cls : ∃ cd, PySem.W.clsIn K D = some cd
  code : ∃ ccl cdd vs ccs file tf, K.lookup F.c = some ⟨ccl, cdd, .fields vs, ccs⟩ ∧ vs[2]? = some (.str file tf) ∧ ((P.main.file : Str) == file) = true
  nsup : PySem.W.nsIn K mainGlobals "super" = some none
  any : PySem.W.nsIn K cStatics "thirdparty.any" = some none
  ty : PySem.W.typeIn K (.ref g) = some (.type "function")
  fi : PySem.W.fnIn K g = true
  top : (P.main.scope.names.lookup ("super" : Str)).isSome = false
  ks : F.scope.names.lookup ("super" : Str) = some .globalImplicit
  kc : F.scope.names.lookup ("__class__" : Str) = some .free
  at_ : (name == ("__class__" : Str)) = false
/-- .. and of the class C of the object -/
structure SupC (K : PySem.W.Frag) (C D g : Addr) (name : Str) : Prop where
  mro : PySem.W.mroIn K C (.ref D) = some true
  sup : PySem.W.ks_superIn K C D name = some (some (.ref g))
abbrev superE (name : Str) (es : List Expr) (p0 p1 apos pos : Pos) : Expr := .Call (.Attribute (.Call (.Name "super" p0) [] [] p1) name apos) es [] pos
theorem load_of {X : Cx} {i : Nat} {x : Str} {pins : List (Addr × Obj)} {σ : L2.St} {H : Hp} {s : Shared} {v : V} {E : Value → Shared → Prop} {Q : Value → Shared → Prop} (I : Inv X pins σ H s) (hN : X.N[i]? = some x) (hv : Vis X.env.scope x) (e : σ[i]? = some (some v)) (hcd : (x == ("__classdict__" : Str)) = false) (h : ∀ u, RelV v u → Q u s) :
    wpAny (model X.prog X.w) X.A (loadName X.env x) Q E s := by
  obtain ⟨m, hn, hl⟩ := I.loc
  obtain ⟨u, r, l⟩ := hl i x v hN e hv
  rcases l with ⟨k, hm⟩ | ⟨k, c, hc, hu⟩
  · exact wpAny_loadName_local I.ok.kind k hn hm (h u r)
  · rcases k with k | k
    · exact wpAny_loadName_cell I.ok.kind k hc hu (h u r)
    · exact wpAny_loadName_free I.ok.kind k hc hu (h u r) hcd
section
variable {X : Cx} {F : NF} {f cc D g x C dx L : Addr} {name : Str} {fd : FuncData} {ar : Arg} {oc : Value} {od : Option Addr} {osl : Array (Option Value)} {pins : List (Addr × Obj)} {σ : L2.St} {H : Hp} {s : Shared} {fs : List (Str × V)} {j : Nat} {body : List Stmt} {p0 p1 apos pos : Pos} {whole : Sem Value}
/-- super(): the record so -/
theorem super_base {Q : Value → Shared → Prop} {E : Value → Shared → Prop} (S : SupK X.prog X.K F cc D g name) (hE : X.env = PySem.W.envX F.qual F.scope L f (.ref F.c) F.cl) (hf : X.K.lookup f = some ⟨oc, od, .func fd, osl⟩) (hp : (fd.params.posonlyargs ++ fd.params.args).head? = some ar)
    (hms : X.mg "super" = none) (I : Inv X pins σ H s) (i0 : X.N[0]? = some ar.arg) (hv0 : F.scope.names.lookup ar.arg = some .local) (h0c : (ar.arg == ("__classdict__" : Str)) = false) (ic : X.N[j]? = some "__class__") (hj : σ[j]? = some (some (.ref D))) (hx : σ[0]? = some (some (.ref x))) (ho : H x = some (.ins C dx fs)) (sc : SupC X.K C D g name)
    (h : ∀ h', h'.get? s.heap.objs.size = some (PySem.W.ks_superObj D x C) → (∀ y o, s.heap.get? y = some o → h'.get? y = some o) → Q (.ref s.heap.objs.size) { s with heap := h' }) :
    _root_.PySem.wpAt (model X.prog X.w) X.A (.func body X.env) (attributeBase (.Call (.Name "super" p0) [] [] p1) name X.env whole) Q E s := by
  obtain ⟨ccl, cdd, vs, ccs, file, tf, hc1, hc2, hc3⟩ := S.code
  obtain ⟨cdD, hD⟩ := S.cls
  have KI := I.kIn
  have ksx : X.env.scope = F.scope := by rw [hE]
  have k1 : X.env.kindOf "super" = some .globalImplicit := by rw [hE]; exact S.ks
  have k2 : X.env.kindOf "__class__" = some .free := by rw [hE]; exact S.kc
  have k3 : X.env.func = some f := by rw [hE]
  have k4 : X.env.code = .ref F.c := by rw [hE]
  obtain ⟨oD, hD1, hD2⟩ : ∃ oD, s.heap.get? D = some oD ∧ oD.data = .cls cdD := by
    unfold PySem.W.clsIn at hD
    split at hD
    · rename_i c d cd' sl ho
      cases hD
      exact ⟨_, KI _ _ ho, rfl⟩
    · cases hD
  obtain ⟨mA, O, _⟩ := ins_get I.hok ho
  obtain ⟨odx, J, _⟩ := O.look
  refine ks_wpAt_super_base (env := X.env) k1 k2 S.at_ k3 (KI _ _ hf) rfl hp k4 (KI _ _ hc1) rfl hc2 hc3 S.top ?_
  obtain ⟨mb, h1, h2⟩ := I.mod.blt
  refine PySem.W.ks_loadName_global I.ok.kind k1 (Calls.loadGlobal_builtin (by rw [I.ok.glob]; exact I.mod.glob.keeps I.bk) hms (by rw [I.ok.blt]; exact h1.keeps I.bk) ((h2 "super" (by decide)).trans (by decide +kernel)) ⟨rfl, ?_⟩)
  refine load_of I ic (by rw [ksx]; exact .inr (.inr S.kc)) hj (by decide) fun u r => ?_
  obtain rfl : u = Value.ref D := r
  refine load_of I i0 (by rw [ksx]; exact .inl hv0) hx h0c fun u r => ?_
  obtain rfl : u = Value.ref x := r
  obtain ⟨hh, gg, dd, t, os⟩ := s
  refine ks_wpAny_isType_cls hD1 hD2 ⟨rfl, ?_⟩
  refine ks_wpAny_call_super hD1 hD2 J.at_ J.cls (fun c e => ?_) (PySem.W.looks_mroIn KI sc.mro) (fun h' e k => h h' e k)
  have := J.no
  unfold PySem.W.notCls at this
  rw [e] at this
  exact Bool.noConfusion this
/-- super().name(e, ..) -/
theorem super_run {CX : CXT} {k : Nat} {sp : Sp} {E : XK} {Q : VK} {e : Expr} {es : List Expr} {t : TA} {pl : Sem Bool} (S : SupK X.prog X.K F cc D g name) (hE : X.env = PySem.W.envX F.qual F.scope L f (.ref F.c) F.cl) (hf : X.K.lookup f = some ⟨oc, od, .func fd, osl⟩) (hp : (fd.params.posonlyargs ++ fd.params.args).head? = some ar)
    (hms : X.mg "super" = none) (I : Inv X pins σ H s) (i0 : X.N[0]? = some ar.arg) (hv0 : F.scope.names.lookup ar.arg = some .local) (h0c : (ar.arg == ("__classdict__" : Str)) = false) (ic : X.N[j]? = some ("__class__" : Str)) (hj : σ[j]? = some (some (.ref D))) (hx : σ[0]? = some (some (.ref x))) (ho : H x = some (.ins C dx fs)) (sc : SupC X.K C D g name)
    (G : FnR X.prog X.w X.K X.mg X.base CX k g sp) (hr : Room k X.A) (hxp : Passes CX X E) (ha : PA X (e :: es) t) (h : t σ H fun vs H1 => sp (.ref x :: vs) H1 Q E)
    (hst : starEach (e :: es) X.env = (false, eval e X.env) :: starEach es X.env) (hpl : (backTo pos (starEach es X.env)).any (·.1) = false)
    (ht : eval (superE name (e :: es) p0 p1 apos pos) X.env = (do
      let ov ← attributeBase (.Call (.Name "super" p0) [] [] p1) name X.env (eval (.Call (.Name "super" p0) [] [] p1) X.env)
      standAt apos.atName
      let (f, first) ← holding [ov] (getMethod ov name pl)
      callWith pos f first (backTo pos (starEach (e :: es) X.env)) [])) :
    _root_.PySem.wpAt (model X.prog X.w) X.A (.func body X.env) (eval (superE name (e :: es) p0 p1 apos pos) X.env) (EP X pins σ Q) X.xe s := by
  obtain ⟨hh, gg, dd, tt, os⟩ := s
  refine ks_wpAt_MethodCall (super_base S hE hf hp hms I i0 hv0 h0c ic hj hx ho sc fun h' e1 k1 => ?_) ht
  have I1 : Inv X pins σ H ⟨h', gg, dd, tt, os⟩ := I.kept (t' := tt) k1
  obtain ⟨mA, O, _⟩ := ins_get I1.hok ho
  obtain ⟨odx, J, _⟩ := O.look
  have hm := sc.sup
  have hm' := hm
  unfold PySem.W.ks_superIn at hm'
  obtain ⟨cd, hc⟩ : ∃ cd, PySem.W.clsIn X.K C = some cd := by
    cases hc : PySem.W.clsIn X.K C with
    | none => rw [hc] at hm'; cases hm'
    | some cd => exact ⟨cd, rfl⟩
  rw [hc] at hm'
  obtain ⟨of, hof, hofc⟩ : ∃ of, h'.get? g = some of ∧ of.cls = .type "function" := by
    have ht' : (X.K.lookup g).map (·.cls) = some (.type "function") := S.ty
    cases z : X.K.lookup g with
    | none => rw [z] at ht'; cases ht'
    | some of => rw [z] at ht'; exact ⟨of, I1.kIn _ _ z, Option.some.inj ht'⟩
  refine ks_wpAny_getMethod_super e1 (PySem.W.looks_opaque I1.kIn S.any) (l₀ := cd.mro) (fun A Q E s k q => wpAny_bind ((PySem.W.looks_clsIn I1.kIn hc) A _ E s k (wpAny_pure q))) rfl I1.kIn hm' hof hofc (PySem.W.ks_ne I1.kIn J hc) S.at_ ?_
  have I2 := met_new (g := g) (C := x) I1
  refine callwith_cm I2 (base_none I1 (Nat.le_refl _)) S.fi (thn (ha.run pos _ _ σ H _ I2 h) fun us s3 ⟨vs, H2, I3, rv, q2⟩ => ⟨⟨pin_at I3, I3.kIn⟩, run_cm G hr hxp I3 rv q2⟩) hst hpl
/-- super().name() -/
theorem super_run0 {CX : CXT} {k : Nat} {sp : Sp} {E : XK} {Q : VK} {pl : Sem Bool} (S : SupK X.prog X.K F cc D g name) (hE : X.env = PySem.W.envX F.qual F.scope L f (.ref F.c) F.cl) (hf : X.K.lookup f = some ⟨oc, od, .func fd, osl⟩) (hp : (fd.params.posonlyargs ++ fd.params.args).head? = some ar)
    (hms : X.mg "super" = none) (I : Inv X pins σ H s) (i0 : X.N[0]? = some ar.arg) (hv0 : F.scope.names.lookup ar.arg = some .local) (h0c : (ar.arg == ("__classdict__" : Str)) = false) (ic : X.N[j]? = some ("__class__" : Str)) (hj : σ[j]? = some (some (.ref D))) (hx : σ[0]? = some (some (.ref x))) (ho : H x = some (.ins C dx fs)) (sc : SupC X.K C D g name)
    (G : FnR X.prog X.w X.K X.mg X.base CX k g sp) (hr : Room k X.A) (hxp : Passes CX X E) (h : sp [.ref x] H Q E)
    (ht : eval (superE name [] p0 p1 apos pos) X.env = (do
      let ov ← attributeBase (.Call (.Name "super" p0) [] [] p1) name X.env (eval (.Call (.Name "super" p0) [] [] p1) X.env)
      standAt apos.atName
      let (f, first) ← holding [ov] (getMethod ov name pl)
      callWith pos f first (backTo pos (starEach [] X.env)) [])) :
    _root_.PySem.wpAt (model X.prog X.w) X.A (.func body X.env) (eval (superE name [] p0 p1 apos pos) X.env) (EP X pins σ Q) X.xe s := by
  obtain ⟨hh, gg, dd, tt, os⟩ := s
  refine ks_wpAt_MethodCall (super_base S hE hf hp hms I i0 hv0 h0c ic hj hx ho sc fun h' e1 k1 => ?_) ht
  have I1 : Inv X pins σ H ⟨h', gg, dd, tt, os⟩ := I.kept (t' := tt) k1
  obtain ⟨mA, O, _⟩ := ins_get I1.hok ho
  obtain ⟨odx, J, _⟩ := O.look
  have hm' := sc.sup
  unfold PySem.W.ks_superIn at hm'
  obtain ⟨cd, hc⟩ : ∃ cd, PySem.W.clsIn X.K C = some cd := by
    cases hc : PySem.W.clsIn X.K C with
    | none => rw [hc] at hm'; cases hm'
    | some cd => exact ⟨cd, rfl⟩
  rw [hc] at hm'
  obtain ⟨of, hof, hofc⟩ : ∃ of, h'.get? g = some of ∧ of.cls = .type "function" := by
    have ht' : (X.K.lookup g).map (·.cls) = some (.type "function") := S.ty
    cases z : X.K.lookup g with
    | none => rw [z] at ht'; cases ht'
    | some of => rw [z] at ht'; exact ⟨of, I1.kIn _ _ z, Option.some.inj ht'⟩
  refine ks_wpAny_getMethod_super e1 (PySem.W.looks_opaque I1.kIn S.any) (l₀ := cd.mro) (fun A Q E s k q => wpAny_bind ((PySem.W.looks_clsIn I1.kIn hc) A _ E s k (wpAny_pure q))) rfl I1.kIn hm' hof hofc (PySem.W.ks_ne I1.kIn J hc) S.at_ ?_
  have I2 := met_new (g := g) (C := x) I1
  exact PySem.W.callWith_M0 (first := []) ⟨pin_at I2, I2.kIn⟩ S.fi (run_cm G hr hxp I2 .nil h)
end
theorem execs_app {M : Model} {env : Env} {post : List Stmt} {Γ} {Q : Flow → Pos → Shared → Prop} {E : Value → Pos → Shared → Prop} : ∀ {pre : List Stmt} {p s}, Sem.wp M Γ (execs pre env) (fun f p s => match f with | .next => Sem.wp M Γ (execs post env) Q E p s | f => Q f p s) E p s → Sem.wp M Γ (execs (pre ++ post) env) Q E p s
  | [], p, s, h => by
    rw [execs_nil, Sem.wp_pure'] at h
    exact h
  | a :: pre, p, s, h => by
    rw [List.cons_append, execs_cons, Sem.wp_bind']
    rw [execs_cons, Sem.wp_bind'] at h
    refine Sem.wp_mono M Γ _ (fun f p' s' h' => ?_) (fun _ _ _ h' => h') _ _ h
    cases f
    case next => exact execs_app h'
    all_goals exact h'
section
variable {CX : CXT} {P : Program} {w : World} {K : PySem.W.Frag} {mg : Str → Option Value} {base : Heap} {k : Nat} {f cc D : Addr} {F : NF} {dV kV doc pm ct oc ccl : Value} {an od ccd : Option Addr} {osl ccs : Array (Option Value)} {N ps : List Str} {sp : Sp}
theorem cells_cc {h : Heap} {H : Hp} (hcc : h.get? cc = some ⟨ccl, ccd, .cell (some (.ref D)), ccs⟩) (hn : H cc = none) : CellsAt [(("__class__" : Str), cc)] [("__class__" : Str)] [some (.ref D)] h H := by
  refine ⟨rfl, fun y c e => ?_, fun x y c e1 e2 => ?_, fun i y e => ?_⟩
  · have : c = cc := by
      simp only [List.lookup] at e
      split at e
      · exact (Option.some.inj e).symm
      · cases e
    subst this
    exact ⟨hn, _, _, hcc, rfl⟩
  · have h1 : x = ("__class__" : Str) := by
      simp only [List.lookup] at e1
      split at e1
      · rename_i z; exact beq_iff_eq.mp z
      · cases e1
    have h2 : y = ("__class__" : Str) := by
      simp only [List.lookup] at e2
      split at e2
      · rename_i z; exact beq_iff_eq.mp z
      · cases e2
    rw [h1, h2]
  · match i with
    | 0 =>
      obtain rfl : ("__class__" : Str) = y := Option.some.inj e
      refine ⟨cc, by simp [List.lookup], fun v ev => ?_⟩
      obtain rfl : V.ref D = v := Option.some.inj (Option.some.inj ev)
      exact ⟨.ref D, rfl, _, hcc, rfl⟩
    | i + 1 => simp at e
/-- a def that closes over its class, its body pre ++ [last] where last is read at its place -/
theorem fnL_of {pre : List Stmt} {last : Stmt} (hcl : F.cl = [(("__class__" : Str), cc)]) (hbd : F.body = pre ++ [last])
    (lk : K.lookup f = some ⟨oc, od, .func (PySem.W.fnX F.name F.qual F.params F.body F.scope F.cl dV kV doc pm an (.ref F.c) ct), osl⟩) (hcd : PySem.W.codeIn K (.ref F.c) F.qual = true) (S : NScope N ps ["__class__"] F.scope) (hcc : K.lookup cc = some ⟨ccl, ccd, .cell (some (.ref D)), ccs⟩)
    (len : ∀ vs H Q E, sp vs H Q E → vs.length = ps.length)
    (hbody : ∀ (A : Around) (outer : List Env) (s : Shared) (H : Hp) (vs : List V) (Q : VK) (E : XK), Room k (A.deeper (envF F f s.heap.objs.size)) → sp vs H Q E →
      ∃ (t : TS) (LQ : L2.St → Hp → Prop), PSs (ncx CX P w K mg base N F f A outer s H E) pre t ∧ t { nx := LQ, rt := Q } (startF N vs [some (.ref D)]) H ∧
        ∀ σ' H' s', Inv (ncx CX P w K mg base N F f A outer s H E) [] σ' H' s' → LQ σ' H' →
          _root_.PySem.wpAt (model P w) (A.deeper (envF F f s.heap.objs.size)) (.func F.body (envF F f s.heap.objs.size)) (exec last (envF F f s.heap.objs.size)) (fun fl s2 => fl = .next ∧ ∃ σ2 H2, Inv (ncx CX P w K mg base N F f A outer s H E) [] σ2 H2 s2 ∧ Q .non H2)
            (ncx CX P w K mg base N F f A outer s H E).xe s') :
    FnOk P w K mg base CX (k + 1) f (PySem.W.fnX F.name F.qual F.params F.body F.scope F.cl dV kV doc pm an (.ref F.c) ct) ps sp := by
  refine ⟨len, fun A outer s H args us vs Q E hr e0 hb r hsp => ?_⟩
  have hl := len _ _ _ _ hsp
  have KX : K.In s.heap := e0.mod.kin.keeps fun b o e => (e0.bs b o e).1
  have lim : s.heap.NoLimit := e0.mod.nolimit.keeps fun b o e => (e0.bs b o e).1
  have hnc : H cc = none := (e0.bs _ _ (e0.mod.kin _ _ hcc)).2
  have C : CellsAt F.cl ["__class__"] [some (.ref D)] s.heap H := by
    rw [hcl]
    exact cells_cc (KX _ _ hcc) hnc
  refine ks_codeAny_call_defAt (body := F.body) (binds := ps.zip us) hr.depth (KX _ _ lk) rfl lim (PySem.W.codeRec_of KX hcd) rfl hb S.nocell (fun ⟨n, _⟩ hy => S.par n (List.of_mem_zip hy).1) (fun h₁ hns kp => ?_) S.co S.gen S.kind
  have I : Inv (ncx CX P w K mg base N F f A outer s H E) [] (startF N vs [some (.ref D)]) H { s with heap := h₁, toks := s.toks + (ps.zip us).length } := inv_startN S hr.hd e0 hl r C hns kp
  obtain ⟨t, LQ, ht, hq, hlast⟩ := hbody A outer s H vs Q E (hr.deeper _) hsp
  have fin : ∀ {σ' : L2.St} {H' : Hp} {v : V} {u : Value} {s' : Shared}, Inv (ncx CX P w K mg base N F f A outer s H E) [] σ' H' s' → L2.RelV v u → Q v H' → CE outer P w H s Q u s' :=
    fun {σ' H' v u s'} J rv q => ⟨v, H', J.os, J.bare, J.base, J.hok, rv, q⟩
  have h1 := ht.run [] _ (startF N vs [some (.ref D)]) H { nx := LQ, rt := Q } I hq
  show _root_.PySem.wpAt _ _ (.func F.body (envF F f s.heap.objs.size)) (execs F.body (envF F f s.heap.objs.size)) _ _ _
  intro Γ p hc hΓ
  have h2 := wpAt_of_wpAny (c := .func F.body (envF F f s.heap.objs.size)) h1 Γ p hc hΓ
  rw [show execs F.body (envF F f s.heap.objs.size) = execs (pre ++ [last]) (envF F f s.heap.objs.size) by rw [hbd]]
  refine execs_app (Sem.wp_mono _ Γ _ (fun fl p' s' hs => ?_) (fun e p' s' hs => ?_) _ _ h2)
  · cases fl with
    | next =>
      obtain ⟨σ', H', J, q⟩ := hs
      rw [execs_cons, Sem.wp_bind']
      refine Sem.wp_mono _ Γ _ (fun fl p' s' hs => ?_) (fun e p' s' hs => ?_) _ _ (hlast σ' H' s' J q Γ p' hc hΓ)
      · obtain ⟨rfl, σ2, H2, J2, q2⟩ := hs
        show Sem.wp _ _ (execs [] _) _ _ _ _
        rw [execs_nil, Sem.wp_pure']
        exact fin (v := V.non) (u := Value.none) J2 rfl q2
      · exact hs
    | ret u =>
      obtain ⟨v, σ', H', J, rv, q⟩ := hs
      exact fin J rv q
    | brk =>
      obtain ⟨_, _, _, q⟩ := hs
      exact False.elim q
    | cont =>
      obtain ⟨_, _, _, q⟩ := hs
      exact False.elim q
  · exact hs
/-- what stands ahead of super().name(..) -/
def SupQ (K : PySem.W.Frag) (D g : Addr) (name : Str) (j : Nat) (ta : TA) (spg : Sp) (Q : VK) (E : XK) : L2.St → Hp → Prop := fun σ H => ∃ x C dx fs, σ[0]? = some (some (.ref x)) ∧ σ[j]? = some (some (.ref D)) ∧ H x = some (.ins C dx fs) ∧ SupC K C D g name ∧ ta σ H fun vs H1 => spg (.ref x :: vs) H1 (fun _ H2 => Q .non H2) E
/-- THE RULE: a def of a class D whose body ends in super().name(e, ..) -/
theorem fnS_of {pre : List Stmt} {g : Addr} {name : Str} {e : Expr} {es : List Expr} {ar : Arg} {p0 p1 apos pos spos : Pos} {pl : Addr → Sem Bool} {spg : Sp} (SK : SupK P K F cc D g name) (hbd : F.body = pre ++ [.Expr (superE name (e :: es) p0 p1 apos pos) spos])
    (lk : K.lookup f = some ⟨oc, od, .func (PySem.W.fnX F.name F.qual F.params F.body F.scope F.cl dV kV doc pm an (.ref F.c) ct), osl⟩) (hcd : PySem.W.codeIn K (.ref F.c) F.qual = true) (S : NScope N ps ["__class__"] F.scope)
    (hp : (F.params.posonlyargs ++ F.params.args).head? = some ar) (i0 : N[0]? = some ar.arg) (hv0 : F.scope.names.lookup ar.arg = some .local) (h0c : (ar.arg == ("__classdict__" : Str)) = false) (ic : N[ps.length]? = some ("__class__" : Str)) (hms : mg "super" = none)
    (G : FnR P w K mg base CX k g spg) (hxp : ∀ A outer s H E, Passes CX (ncx CX P w K mg base N F f A outer s H E) E)
    (len : ∀ vs H Q E, sp vs H Q E → vs.length = ps.length)
    (hbody : ∀ (A : Around) (outer : List Env) (s : Shared) (H : Hp) (vs : List V) (Q : VK) (E : XK), Room k (A.deeper (envF F f s.heap.objs.size)) → sp vs H Q E →
      ∃ (t : TS) (ta : TA), PSs (ncx CX P w K mg base N F f A outer s H E) pre t ∧ PA (ncx CX P w K mg base N F f A outer s H E) (e :: es) ta ∧ t { nx := SupQ K D g name ps.length ta spg Q E, rt := Q } (startF N vs [some (.ref D)]) H)
    (hst : ∀ L, starEach (e :: es) (envF F f L) = (false, eval e (envF F f L)) :: starEach es (envF F f L) := by intro L; rfl) (hpl : ∀ L, (backTo pos (starEach es (envF F f L))).any (·.1) = false := by intro L; rfl)
    (ht : ∀ L, eval (superE name (e :: es) p0 p1 apos pos) (envF F f L) = (do
      let ov ← attributeBase (.Call (.Name "super" p0) [] [] p1) name (envF F f L) (eval (.Call (.Name "super" p0) [] [] p1) (envF F f L))
      standAt apos.atName
      let (fn, first) ← holding [ov] (getMethod ov name (pl L))
      callWith pos fn first (backTo pos (starEach (e :: es) (envF F f L))) []) := by intro L; rfl)
    (hi : ∀ L, interactive (envF F f L) = false := by intro L; rfl) (hs : ∀ L, swapsWith (superE name (e :: es) p0 p1 apos pos) none spos.line (envF F f L) = pure false := by intro L; rfl) :
    FnOk P w K mg base CX (k + 1) f (PySem.W.fnX F.name F.qual F.params F.body F.scope F.cl dV kV doc pm an (.ref F.c) ct) ps sp := by
  obtain ⟨ccl, ccd, ccs, hcc⟩ := SK.cell
  refine fnL_of SK.cl hbd lk hcd S hcc len fun A outer s H vs Q E hr hsp => ?_
  obtain ⟨t, ta, h1, h2, h3⟩ := hbody A outer s H vs Q E hr hsp
  refine ⟨t, SupQ K D g name ps.length ta spg Q E, h1, h3, fun σ' H' s' I q => ?_⟩
  obtain ⟨x, C, dx, fs, e0, ej, hx, sc, hq⟩ := q
  have z := super_run (X := ncx CX P w K mg base N F f A outer s H E) (body := F.body) (Q := fun _ H2 => Q .non H2) SK rfl lk hp hms I i0 hv0 h0c ic ej e0 hx sc G hr (hxp A outer s H E) h2 hq (hst _) (hpl _) (ht _)
  exact ks_wpAt_Expr_any (ks_wpAt_mono z (fun v s2 ⟨y, H2, I2, _, q2⟩ => ⟨rfl, σ', H2, I2, q2⟩) fun _ _ y => y) (hi _) (hs _)
/-- .. in super().name() -/
theorem fnS0_of {pre : List Stmt} {g : Addr} {name : Str} {ar : Arg} {p0 p1 apos pos spos : Pos} {pl : Addr → Sem Bool} {spg : Sp} (SK : SupK P K F cc D g name) (hbd : F.body = pre ++ [.Expr (superE name [] p0 p1 apos pos) spos])
    (lk : K.lookup f = some ⟨oc, od, .func (PySem.W.fnX F.name F.qual F.params F.body F.scope F.cl dV kV doc pm an (.ref F.c) ct), osl⟩) (hcd : PySem.W.codeIn K (.ref F.c) F.qual = true) (S : NScope N ps ["__class__"] F.scope)
    (hp : (F.params.posonlyargs ++ F.params.args).head? = some ar) (i0 : N[0]? = some ar.arg) (hv0 : F.scope.names.lookup ar.arg = some .local) (h0c : (ar.arg == ("__classdict__" : Str)) = false) (ic : N[ps.length]? = some ("__class__" : Str)) (hms : mg "super" = none)
    (G : FnR P w K mg base CX k g spg) (hxp : ∀ A outer s H E, Passes CX (ncx CX P w K mg base N F f A outer s H E) E)
    (len : ∀ vs H Q E, sp vs H Q E → vs.length = ps.length)
    (hbody : ∀ (A : Around) (outer : List Env) (s : Shared) (H : Hp) (vs : List V) (Q : VK) (E : XK), Room k (A.deeper (envF F f s.heap.objs.size)) → sp vs H Q E →
      ∃ (t : TS), PSs (ncx CX P w K mg base N F f A outer s H E) pre t ∧ t { nx := SupQ K D g name ps.length tNil spg Q E, rt := Q } (startF N vs [some (.ref D)]) H)
    (ht : ∀ L, eval (superE name [] p0 p1 apos pos) (envF F f L) = (do
      let ov ← attributeBase (.Call (.Name "super" p0) [] [] p1) name (envF F f L) (eval (.Call (.Name "super" p0) [] [] p1) (envF F f L))
      standAt apos.atName
      let (fn, first) ← holding [ov] (getMethod ov name (pl L))
      callWith pos fn first (backTo pos (starEach [] (envF F f L))) []) := by intro L; rfl)
    (hi : ∀ L, interactive (envF F f L) = false := by intro L; rfl) (hs : ∀ L, swapsWith (superE name [] p0 p1 apos pos) none spos.line (envF F f L) = pure false := by intro L; rfl) :
    FnOk P w K mg base CX (k + 1) f (PySem.W.fnX F.name F.qual F.params F.body F.scope F.cl dV kV doc pm an (.ref F.c) ct) ps sp := by
  obtain ⟨ccl, ccd, ccs, hcc⟩ := SK.cell
  refine fnL_of SK.cl hbd lk hcd S hcc len fun A outer s H vs Q E hr hsp => ?_
  obtain ⟨t, h1, h3⟩ := hbody A outer s H vs Q E hr hsp
  refine ⟨t, SupQ K D g name ps.length tNil spg Q E, h1, h3, fun σ' H' s' I q => ?_⟩
  obtain ⟨x, C, dx, fs, e0, ej, hx, sc, hq⟩ := q
  have z := super_run0 (X := ncx CX P w K mg base N F f A outer s H E) (body := F.body) (Q := fun _ H2 => Q .non H2) SK rfl lk hp hms I i0 hv0 h0c ic ej e0 hx sc G hr (hxp A outer s H E) hq (ht _)
  exact ks_wpAt_Expr_any (ks_wpAt_mono z (fun v s2 ⟨y, H2, I2, _, q2⟩ => ⟨rfl, σ', H2, I2, q2⟩) fun _ _ y => y) (hi _) (hs _)
end
end Pl

set_option Elab.async false
set_option linter.all false
set_option maxRecDepth 100000
set_option maxHeartbeats 4000000
/-! Operators and methods of own classes, the class not fixed. -/
namespace Pl
open PySem PySem.Spec PyProof.Rows L2
/-- o.m(..): o an instance of any class that finds m in one of the defs fl -/
def tMethV {ι : Type} (K : PySem.W.Frag) (fl : ι → Addr) (m : Str) (sp : ι → Sp) (E : XK) (ta : TE) (t : TA) : TE := fun σ H Q => ta σ H fun x H1 => ∃ a C dx fs i, x = .ref a ∧ H1 a = some (.ins C dx fs) ∧ fs.lookup m = none ∧ Cls K C ∧ Meth K C m (fl i) ∧ t σ H1 fun vs H2 => sp i (x :: vs) H2 Q E
section
variable {X : Cx} {CX : CXT} {k : Nat} {fl : List Addr} {sp : Sp} {E : XK} {m : Str} {p pos apos : Pos} {e o : Expr} {es : List Expr} {ta : TE} {t : TA}
theorem pe_methV {ι : Type} {fl : ι → Addr} {sp : ι → Sp} {pl : Sem Bool} (he : PE X o ta) (F : ∀ i, FnR X.prog X.w X.K X.mg X.base CX k (fl i) (sp i)) (hr : Room k X.A) (hx : Passes CX X E) (ha : PA X (e :: es) t)
    (hst : starEach (e :: es) X.env = (false, eval e X.env) :: starEach es X.env := by rfl) (hpl : (backTo pos (starEach es X.env)).any (·.1) = false := by rfl)
    (ht : eval (.Call (.Attribute o m apos) (e :: es) [] pos) X.env = (do
      let ov ← eval o X.env
      standAt apos.atName
      let (f, first) ← holding [ov] (getMethod ov m pl)
      callWith pos f first (backTo pos (starEach (e :: es) X.env)) (backToKw pos (keywordEach [] X.env))) := by rfl) :
    PE X (.Call (.Attribute o m apos) (e :: es) [] pos) (tMethV X.K fl m sp E ta t) := by
  refine ⟨fun pins s σ H Q I h => ?_⟩
  refine PySem.W.methodCall_KW (pl := pl) (thn (he.run pins s σ H _ I h) fun u s1 ⟨x, H1, I1, rx, a, C, dx, fs, i, ex, ea, l, c, hm, q⟩ => ?_) ht
  subst ex
  obtain rfl : u = Value.ref a := rx
  refine getmeth_ok I1 ea c hm l ?_
  refine PySem.W.callWith_K (first := [.ref a]) (h₀ := X.base) I.ok.mod.kin hm.kp (thn (ha.run pos pins s1 σ H1 _ I1 q) fun us s2 ⟨vs, H2, I2, r, q2⟩ => ⟨I2.kIn, ?_⟩) hst hpl
  exact wpAny_call (run_fnR (us := .ref a :: us) (vs := .ref a :: vs) (F i) hr hx I2 (.cons rfl r) q2)
theorem pe_methV0 {ι : Type} {fl : ι → Addr} {sp : ι → Sp} {pl : Sem Bool} (he : PE X o ta) (F : ∀ i, FnR X.prog X.w X.K X.mg X.base CX k (fl i) (sp i)) (hr : Room k X.A) (hx : Passes CX X E)
    (ht : eval (.Call (.Attribute o m apos) [] [] pos) X.env = (do
      let ov ← eval o X.env
      standAt apos.atName
      let (f, first) ← holding [ov] (getMethod ov m pl)
      callWith pos f first (backTo pos (starEach [] X.env)) (backToKw pos (keywordEach [] X.env))) := by rfl) :
    PE X (.Call (.Attribute o m apos) [] [] pos) (tMethV X.K fl m sp E ta tNil) := by
  refine ⟨fun pins s σ H Q I h => ?_⟩
  refine PySem.W.methodCall_KW (pl := pl) (thn (he.run pins s σ H _ I h) fun u s1 ⟨x, H1, I1, rx, a, C, dx, fs, i, ex, ea, l, c, hm, q⟩ => ?_) ht
  subst ex
  obtain rfl : u = Value.ref a := rx
  refine getmeth_ok I1 ea c hm l ?_
  exact PySem.W.callWith_K0 (first := [.ref a]) I1.kIn hm.kp (wpAny_call (run_fnR (us := [.ref a]) (vs := [.ref a]) (F i) hr hx I1 (.cons rfl .nil) q))
/-- what a class must have for an operator with a number to its right -/
structure BinI (K : PySem.W.Frag) (C f : Addr) (op : Operator) : Prop where
  first : PySem.W.selfFirst K C = true
  at_ : PySem.W.findIn K (.ref C) (PySem.dunder op.info.2) = some (some (.ref f))
  fn : PySem.W.isFn K (.ref f) = true
  r : PySem.W.findIn K (.ref C) (dunderR op.info.2) = some none
  i1 : (PySem.W.findIn K (.type "int") (PySem.dunder op.info.2)).isSome = true
  i2 : (PySem.W.findIn K (.type "int") (dunderR op.info.2)).isSome = true
  sub : PySem.W.subIn K (.type "int") (.ref C) = some false
theorem op_binI {op : Operator} {f : Addr} (F : FnR X.prog X.w X.K X.mg X.base CX k f sp) (hr : Room k X.A) (hx : Passes CX X E) :
    OpR X (binaryOp op) (fun x y H Q => ∃ a C dx fs i, x = .ref a ∧ y = .int i ∧ H a = some (.ins C dx fs) ∧ BinI X.K C f op ∧ sp [x, y] H Q E) := by
  intro pins s σ H x y v u Q I rx ry h
  obtain ⟨a, C, dx, fs, i, rfl, rfl, ha, B, q⟩ := h
  cases (show v = Value.ref a from rx)
  obtain ⟨t, eu⟩ := (show ∃ t, u = Value.int i t from ry)
  subst eu
  obtain ⟨mA, O, _⟩ := ins_get I.hok ha
  obtain ⟨odx, J, _⟩ := O.look
  obtain ⟨m, hF⟩ := I.fr
  obtain ⟨fo, h1⟩ := Option.isSome_iff_exists.mp B.i1
  obtain ⟨ro, h2⟩ := Option.isSome_iff_exists.mp B.i2
  refine PySem.W.ksp_binT (T := "int") hF I.ok.mod.kin J rfl B.first B.at_ B.fn B.r (.inl rfl) h1 h2 B.sub ?_
  refine wpAny_mono (wpAny_call (run_fnR (us := [.ref a, .int i t]) (vs := [.ref a, .int i]) F hr hx I (.cons rfl (.cons ⟨t, rfl⟩ .nil)) q)) (fun w s' z => ?_) fun _ _ x => x
  obtain ⟨z', H', I', rz, qz⟩ := z
  exact SlX.cmpback rz ⟨z', H', I', rz, qz⟩
/-- .. with an instance of the same class to its right -/
structure BinS (K : PySem.W.Frag) (C f : Addr) (op : Operator) : Prop where
  first : PySem.W.selfFirst K C = true
  at_ : PySem.W.findIn K (.ref C) (PySem.dunder op.info.2) = some (some (.ref f))
  fn : PySem.W.isFn K (.ref f) = true
theorem op_binS {op : Operator} {f : Addr} (F : FnR X.prog X.w X.K X.mg X.base CX k f sp) (hr : Room k X.A) (hx : Passes CX X E) :
    OpR X (binaryOp op) (fun x y H Q => ∃ a C dx fs b dy gs, x = .ref a ∧ y = .ref b ∧ H a = some (.ins C dx fs) ∧ H b = some (.ins C dy gs) ∧ BinS X.K C f op ∧ sp [x, y] H Q E) := by
  intro pins s σ H x y v u Q I rx ry h
  obtain ⟨a, C, dx, fs, b, dy, gs, rfl, rfl, ha, hb, B, q⟩ := h
  cases (show v = Value.ref a from rx)
  cases (show u = Value.ref b from ry)
  obtain ⟨mA, O, _⟩ := ins_get I.hok ha
  obtain ⟨odx, J, _⟩ := O.look
  obtain ⟨mB, O', _⟩ := ins_get I.hok hb
  obtain ⟨ody, J', _⟩ := O'.look
  obtain ⟨m, hF⟩ := I.fr
  refine PySem.W.binop_K hF I.ok.mod.kin J J'.type B.first B.at_ B.fn ?_
  refine wpAny_mono (wpAny_call (run_fnR (us := [.ref a, .ref b]) (vs := [.ref a, .ref b]) F hr hx I (.cons rfl (.cons rfl .nil)) q)) (fun w s' z => ?_) fun _ _ x => x
  obtain ⟨z', H', I', rz, qz⟩ := z
  exact SlX.cmpback rz ⟨z', H', I', rz, qz⟩
/-- .. of a comparison, an instance to its right -/
structure CmpO (K : PySem.W.Frag) (C f : Addr) (op : CmpOp) : Prop where
  at_ : PySem.W.findIn K (.ref C) (cmpInfo op).2.1 = some (some (.ref f))
  fn : PySem.W.isFn K (.ref f) = true
theorem op_cmpO {op : CmpOp} {f : Addr} (hop : ∀ a b, compareOp op a b = richCompare op a b) (F : FnR X.prog X.w X.K X.mg X.base CX k f sp) (hr : Room k X.A) (hx : Passes CX X E) :
    OpR X (compareOp op) (fun x y H Q => ∃ a C dx fs b C' dy gs, x = .ref a ∧ y = .ref b ∧ H a = some (.ins C dx fs) ∧ H b = some (.ins C' dy gs) ∧ CmpO X.K C f op ∧ PySem.W.notFirst X.K C (.ref C') = true ∧ sp [x, y] H Q E) := by
  intro pins s σ H x y v u Q I rx ry h
  obtain ⟨a, C, dx, fs, b, C', dy, gs, rfl, rfl, ha, hb, B, hn, q⟩ := h
  cases (show v = Value.ref a from rx)
  cases (show u = Value.ref b from ry)
  obtain ⟨mA, O, _⟩ := ins_get I.hok ha
  obtain ⟨odx, J, _⟩ := O.look
  obtain ⟨mB, O', _⟩ := ins_get I.hok hb
  obtain ⟨ody, J', _⟩ := O'.look
  obtain ⟨m, hF⟩ := I.fr
  rw [hop]
  refine PySem.W.cmp_K (op := op) (tb := .ref C') hr.units0 hF I.ok.mod.kin J J'.type hn B.at_ B.fn ?_
  refine wpAny_mono (wpAny_call (run_fnR (us := [.ref a, .ref b]) (vs := [.ref a, .ref b]) F hr hx I (.cons rfl (.cons rfl .nil)) q)) (fun w s' z => ?_) fun _ _ x => x
  obtain ⟨z', H', I', rz, qz⟩ := z
  exact SlX.cmpback rz ⟨z', H', I', rz, qz⟩
/-- f(e, ..), f an instance of any class whose __call__ is at g -/
def tCallV (X : Cx) (g : Addr) (sp : Sp) (E : XK) (tf : TE) (t : TA) : TE := fun σ H Q => tf σ H fun y H1 => ∃ a, y = V.ref a ∧ t σ H1 fun vs H2 => ∃ C dx fs, H2 a = some (.ins C dx fs) ∧ StX.CallO X.K C g ∧ sp (V.ref a :: vs) H2 Q E
theorem pe_callV {g : Addr} {fe : Expr} {tf : TE} (hf : PE X fe tf) (F : FnR X.prog X.w X.K X.mg X.base CX k g sp) (hr : Room k X.A) (hx : Passes CX X E) (ha : PA X (e :: es) t)
    (ht : eval (.Call fe (e :: es) [] pos) X.env = (do callWith pos (← eval fe X.env) [] (backTo pos (starEach (e :: es) X.env)) (backToKw pos (keywordEach [] X.env))) := by rfl)
    (he : starEach (e :: es) X.env = (false, eval e X.env) :: starEach es X.env := by rfl) (hpl : (backTo pos (starEach es X.env)).any (·.1) = false := by rfl) : PE X (.Call fe (e :: es) [] pos) (tCallV X g sp E tf t) := by
  refine ⟨fun pins s σ H Q I h => ?_⟩
  refine Call_ (thn (hf.run pins s σ H _ I h) fun u s1 ⟨y, H1, I1, ry, a, ey, q⟩ => ?_) ht
  subst ey
  obtain rfl : u = Value.ref a := ry
  refine StX.callO_with (thn (ha.run pos pins s1 σ H1 _ I1 q) fun us s2 ⟨vs, H2, I2, r, C, dx, fs, hi, c, q2⟩ => ?_) he hpl
  obtain ⟨ox, od, J, hd⟩ := StX.insC_at I2 (.inr ⟨dx, fs, hi⟩)
  exact ⟨⟨C, ox, od, J, hd⟩, StX.run_callO c F hr hx I2 (.inr ⟨dx, fs, hi⟩) r q2⟩
end
end Pl

set_option Elab.async false
set_option linter.all false
set_option maxRecDepth 100000
set_option maxHeartbeats 4000000
/-! What the text has of methods; defs that end in super().__init__(..), in short. -/
namespace Pl
open PySem PySem.Spec PyProof.Rows L2 NdefX ClX
theorem toR {P : Program} {w : World} {K : PySem.W.Frag} {mg : Str → Option Value} {base : Heap} {CX : CXT} {k : Nat} {f : Addr} {fd : FuncData} {ps : List Str} {sp : Sp} (F : FnOk P w K mg base CX k f fd ps sp) (b : Binds K fd ps []) : FnR P w K mg base CX k f sp := by
  intro A outer s H us vs Q E hr e0 r h
  have KX : K.In s.heap := e0.mod.kin.keeps fun b o e => (e0.bs b o e).1
  have hl : (us ++ []).length = ps.length := by rw [List.append_nil, ← r.length]; exact F.len _ _ _ _ h
  have hb := b s us KX hl
  rw [List.append_nil] at hb
  exact F.run A outer s H ⟨us, []⟩ us vs Q E hr e0 hb r h
/-- a method of the text -/
structure Md (K : PySem.W.Frag) (x qual : Str) (st : Stmt) (ps : List Str) where
  f : Addr
  fd : FuncData
  F : Fun K x qual st f fd
  b : Binds K fd ps []
/-- .. with a star parameter -/
structure MdF (K : PySem.W.Frag) (x qual : Str) (st : Stmt) where
  f : Addr
  fd : FuncData
  F : Fun K x qual st f fd
/-- .. with the default None for its last parameter -/
structure MdD (K : PySem.W.Frag) (x qual : Str) (st : Stmt) (ps : List Str) where
  f : Addr
  fd : FuncData
  ex : ∃ (oc : Value) (od : Option Addr) (dV kV doc pm : Value) (an : Option Addr) (cdv ct : Value) (osl : Array (Option Value)),
    fd = PySem.W.fnOf x qual (defArgs st) (defBody st) (defScope st) dV kV doc pm an cdv ct ∧ K.lookup f = some ⟨oc, od, .func fd, osl⟩ ∧ PySem.W.codeIn K cdv qual = true
  b : Binds K fd ps []
theorem MdD.ok {P : Program} {w : World} {K : PySem.W.Frag} {mg : Str → Option Value} {base : Heap} {CX : CXT} {x qual : Str} {st : Stmt} {N ps : List Str} {k : Nat} {sp : Sp} (M : MdD K x qual st ps) (S : FnScope N ps (defScope st)) (len : ∀ vs H Q E, sp vs H Q E → vs.length = ps.length)
    (hbody : ∀ (cdv : Value) (A : Around) (outer : List Env) (s : Shared) (H : Hp) (vs : List V) (Q : VK) (E : XK), Room k (A.deeper (envOfC qual (defScope st) s.heap.objs.size M.f cdv)) → sp vs H Q E →
      ∃ t, PSs (cxOf CX P w K mg base N qual (defScope st) M.f cdv A outer s H E) (defBody st) t ∧ t { nx := fun _ H' => Q .non H', rt := Q } (start N vs) H) : FnOk P w K mg base CX (k + 1) M.f M.fd ps sp := by
  obtain ⟨f, fd, ⟨oc, od, dV, kV, doc, pm, an, cdv, ct, osl, rfl, lk, hcd⟩, b⟩ := M
  exact fn_of lk hcd S len fun A outer s H vs Q E hr hsp => hbody cdv A outer s H vs Q E hr hsp
/-- .. that closes over its class at D and says super().__init__(..), which is found at g -/
structure MdS (P : Program) (K : PySem.W.Frag) (x qual : Str) (st : Stmt) (D g : Addr) where
  f : Addr
  cc : Addr
  c : Addr
  lk : ∃ (oc : Value) (od : Option Addr) (kV doc pm : Value) (an : Option Addr) (ct : Value) (osl : Array (Option Value)),
    K.lookup f = some ⟨oc, od, .func (PySem.W.fnX x qual (defArgs st) (defBody st) (defScope st) [(("__class__" : Str), cc)] .none kV doc pm an (.ref c) ct), osl⟩
  hcd : PySem.W.codeIn K (.ref c) qual = true
  kp : PySem.W.keepIn K (.ref f) = true
  sk : SupK P K ⟨x, qual, defArgs st, defBody st, defScope st, [(("__class__" : Str), cc)], c⟩ cc D g "__init__"
abbrev MdS.nf {P : Program} {K : PySem.W.Frag} {x qual : Str} {st : Stmt} {D g : Addr} (M : MdS P K x qual st D g) : NF := ⟨x, qual, defArgs st, defBody st, defScope st, [(("__class__" : Str), M.cc)], M.c⟩
section
variable {P : Program} {w : World} {K : PySem.W.Frag} {mg : Str → Option Value} {base : Heap} {k : Nat} {x qual : Str} {st : Stmt} {D g : Addr} {N ps : List Str} {sp spg : Sp}
theorem MdS.ok (M : MdS P K x qual st D g) {pre : List Stmt} {e : Expr} {es : List Expr} {ar : Arg} {p0 p1 apos pos spos : Pos} {pl : Addr → Sem Bool} (hbd : defBody st = pre ++ [.Expr (superE "__init__" (e :: es) p0 p1 apos pos) spos])
    (S : NScope N ps ["__class__"] (defScope st)) (hp : ((defArgs st).posonlyargs ++ (defArgs st).args).head? = some ar) (i0 : N[0]? = some ar.arg) (hv0 : (defScope st).names.lookup ar.arg = some .local) (h0c : (ar.arg == ("__classdict__" : Str)) = false) (ic : N[ps.length]? = some ("__class__" : Str)) (hms : mg "super" = none)
    (hb : ∀ (kV doc pm : Value) (an : Option Addr) (ct : Value) (cc c : Addr) (us : List Value), us.length = ps.length → bindArgs (PySem.W.fnX x qual (defArgs st) (defBody st) (defScope st) [(("__class__" : Str), cc)] .none kV doc pm an (.ref c) ct) ⟨us, []⟩ = pure (ps.zip us))
    (G : FnR P w K mg base CX0 k g spg) (len : ∀ vs H Q E, sp vs H Q E → vs.length = ps.length)
    (hbody : ∀ (A : Around) (outer : List Env) (s : Shared) (H : Hp) (vs : List V) (Q : VK) (E : XK), Room k (A.deeper (envF M.nf M.f s.heap.objs.size)) → sp vs H Q E →
      ∃ (t : TS) (ta : TA), PSs (ncx CX0 P w K mg base N M.nf M.f A outer s H E) pre t ∧ PA (ncx CX0 P w K mg base N M.nf M.f A outer s H E) (e :: es) ta ∧ t { nx := SupQ K D g "__init__" ps.length ta spg Q E, rt := Q } (startF N vs [some (.ref D)]) H)
    (hst : ∀ L, starEach (e :: es) (envF M.nf M.f L) = (false, eval e (envF M.nf M.f L)) :: starEach es (envF M.nf M.f L) := by intro L; rfl) (hpl : ∀ L, (backTo pos (starEach es (envF M.nf M.f L))).any (·.1) = false := by intro L; rfl)
    (ht : ∀ L, eval (superE "__init__" (e :: es) p0 p1 apos pos) (envF M.nf M.f L) = (do
      let ov ← attributeBase (.Call (.Name "super" p0) [] [] p1) "__init__" (envF M.nf M.f L) (eval (.Call (.Name "super" p0) [] [] p1) (envF M.nf M.f L))
      standAt apos.atName
      let (fn, first) ← holding [ov] (getMethod ov "__init__" (pl L))
      callWith pos fn first (backTo pos (starEach (e :: es) (envF M.nf M.f L))) []) := by intro L; rfl)
    (hi : ∀ L, interactive (envF M.nf M.f L) = false := by intro L; rfl) (hs : ∀ L, swapsWith (superE "__init__" (e :: es) p0 p1 apos pos) none spos.line (envF M.nf M.f L) = pure false := by intro L; rfl) :
    FnR P w K mg base CX0 (k + 1) M.f sp := by
  obtain ⟨oc, od, kV, doc, pm, an, ct, osl, lk⟩ := M.lk
  refine toR (fnS_of (F := M.nf) M.sk hbd lk M.hcd S hp i0 hv0 h0c ic hms G (fun A outer s H E => fun _ _ _ _ _ _ _ z => z.elim) len hbody hst hpl ht hi hs) (.all fun us hl => hb _ _ _ _ _ _ _ us hl)
theorem MdS.ok0 (M : MdS P K x qual st D g) {pre : List Stmt} {ar : Arg} {p0 p1 apos pos spos : Pos} {pl : Addr → Sem Bool} (hbd : defBody st = pre ++ [.Expr (superE "__init__" [] p0 p1 apos pos) spos])
    (S : NScope N ps ["__class__"] (defScope st)) (hp : ((defArgs st).posonlyargs ++ (defArgs st).args).head? = some ar) (i0 : N[0]? = some ar.arg) (hv0 : (defScope st).names.lookup ar.arg = some .local) (h0c : (ar.arg == ("__classdict__" : Str)) = false) (ic : N[ps.length]? = some ("__class__" : Str)) (hms : mg "super" = none)
    (hb : ∀ (kV doc pm : Value) (an : Option Addr) (ct : Value) (cc c : Addr) (us : List Value), us.length = ps.length → bindArgs (PySem.W.fnX x qual (defArgs st) (defBody st) (defScope st) [(("__class__" : Str), cc)] .none kV doc pm an (.ref c) ct) ⟨us, []⟩ = pure (ps.zip us))
    (G : FnR P w K mg base CX0 k g spg) (len : ∀ vs H Q E, sp vs H Q E → vs.length = ps.length)
    (hbody : ∀ (A : Around) (outer : List Env) (s : Shared) (H : Hp) (vs : List V) (Q : VK) (E : XK), Room k (A.deeper (envF M.nf M.f s.heap.objs.size)) → sp vs H Q E →
      ∃ (t : TS), PSs (ncx CX0 P w K mg base N M.nf M.f A outer s H E) pre t ∧ t { nx := SupQ K D g "__init__" ps.length tNil spg Q E, rt := Q } (startF N vs [some (.ref D)]) H)
    (ht : ∀ L, eval (superE "__init__" [] p0 p1 apos pos) (envF M.nf M.f L) = (do
      let ov ← attributeBase (.Call (.Name "super" p0) [] [] p1) "__init__" (envF M.nf M.f L) (eval (.Call (.Name "super" p0) [] [] p1) (envF M.nf M.f L))
      standAt apos.atName
      let (fn, first) ← holding [ov] (getMethod ov "__init__" (pl L))
      callWith pos fn first (backTo pos (starEach [] (envF M.nf M.f L))) []) := by intro L; rfl)
    (hi : ∀ L, interactive (envF M.nf M.f L) = false := by intro L; rfl) (hs : ∀ L, swapsWith (superE "__init__" [] p0 p1 apos pos) none spos.line (envF M.nf M.f L) = pure false := by intro L; rfl) :
    FnR P w K mg base CX0 (k + 1) M.f sp := by
  obtain ⟨oc, od, kV, doc, pm, an, ct, osl, lk⟩ := M.lk
  exact toR (fnS0_of (F := M.nf) M.sk hbd lk M.hcd S hp i0 hv0 h0c ic hms G (fun A outer s H E => fun _ _ _ _ _ _ _ z => z.elim) len hbody ht hi hs) (.all fun us hl => hb _ _ _ _ _ _ _ us hl)
end
/-- what isinstance wants of a class of instances -/
structure OCls (K : PySem.W.Frag) (C : Addr) : Prop where
  cl : Cls K C
  ca : PySem.W.findIn K (.ref C) "__class__" = some (some (.builtin "object.__class__"))
  cn : PySem.W.specialIn K (.builtin "object.__class__") "__get__" = some (some (.builtin "getset_descriptor.__get__"))
  ct : PySem.W.takesIn K (.builtin "object.__class__") = some true
  cm : PySem.W.mroIn K C (.type "object") = some true
theorem OCls.ty {K : PySem.W.Frag} {C a dx : Addr} {H : Hp} {fs : List (Str × V)} (c : OCls K C) (e : H a = some (.ins C dx fs)) : TyX K H (.ref a) (.ref C) := .base (.ins e c.cl c.ca c.cn c.ct c.cm)
end Pl

set_option Elab.async false
set_option linter.all false
set_option maxRecDepth 100000
set_option maxHeartbeats 4000000
/-! Two own classes around an operator; o[i] of an own class; a def with super().__init__(..) called with keywords. -/
namespace Pl
open PySem PySem.Spec PyProof.Rows L2 NdefX ClX
section
variable {X : Cx} {CX : CXT} {k : Nat} {sp : Sp} {E : XK} {pins : List (Addr × Obj)} {σ : L2.St} {H : Hp} {s : Shared}
theorem run_fnR1 {f : Addr} {Q : VK} {us : List Value} {vs : List V} (F : FnR X.prog X.w X.K X.mg X.base CX k f sp) (hr : Room (k + 1) X.A) (hx : Passes CX X E) (I : Inv X pins σ H s) (r : Vals vs us) (h : sp vs H Q E) :
    codeAny (model X.prog X.w) X.A.in1 (.call (.ref f) ⟨us, []⟩) (fun r s' => match r with | .ok (.ret v) => EP X pins σ Q v s' | .ok _ => False | .error e => X.xe e s') s := by
  refine codeAny_mono (F X.A.in1 X.stack s H us vs Q E hr.in1 I.env0.in1 r h) fun r s' hq => ?_
  cases r with
  | error e => exact hx pins σ H s e s' I hq
  | ok fl =>
    cases fl with
    | ret u => exact I.after hq
    | next => exact False.elim hq
    | brk => exact False.elim hq
    | cont => exact False.elim hq
/-- what a class must have for o[i] -/
structure GetO (K : PySem.W.Frag) (C f : Addr) : Prop where
  at_ : PySem.W.findIn K (.ref C) "__getitem__" = some (some (.ref f))
  fi : PySem.W.fnIn K f = true
  fn : PySem.W.isFn K (.ref f) = true
theorem sub_K2 {prog : Program} {w : World} {A : Around} {E : Value → Shared → Prop} {s : Shared} {K : PySem.W.Frag} {x C L f : Addr} {h₀ : Heap} {m : Str → Option Value} {ox : Obj} {od : Option Obj} {value slice : Expr} {i : Value} {Q : Value → Shared → Prop} (F : PyProof.Rows.Fr h₀ L s.heap m) (X₀ : K.In h₀) (I : PySem.W.InstAt s.heap x ox C od) (hs : PySem.W.findIn K (.ref C) "__getitem__" = some (some (.ref f))) (hf : PySem.W.fnIn K f = true) (hfn : PySem.W.isFn K (.ref f) = true)
    (h : wpAny (model prog w) A.in1 (call (.ref f) [.ref x, i]) Q E s)
    (hsl : subscripted slice true (.ref x) i = runValue (.builtin "lifetime.subscript" ⟨[.ref x, i], []⟩)) :
    wpAny (model prog w) A (subscriptTail value slice (.ref x) i) Q E s := PySem.W.sub_K F X₀ I hs hf hfn h hsl
def tGetO (X : Cx) (f : Addr) (sp : Sp) (E : XK) : R2 := fun x y H Q => ∃ a C dx fs, x = .ref a ∧ H a = some (.ins C dx fs) ∧ GetO X.K C f ∧ sp [x, y] H Q E
theorem pe_getO {f : Addr} {a b : Expr} {ta tb : TE} {pos : Pos} (F : FnR X.prog X.w X.K X.mg X.base CX k f sp) (hr : Room (k + 1) X.A) (hx : Passes CX X E) (ha : PE X a ta) (hb : PE X b tb)
    (hsl : ∀ x i, subscripted b true (.ref x) i = runValue (.builtin "lifetime.subscript" ⟨[.ref x, i], []⟩) := by intro x i; with_unfolding_all rfl) : PE X (.Subscript a b pos) (tOp (tGetO X f sp E) ta tb) := by
  refine ⟨fun pins s σ H Q I h => ?_⟩
  refine Subscript_ (binT ha hb I h fun v u s2 x y H2 I2 rx ry q => ?_)
  obtain ⟨p, C, dx, fs, rfl, hp, B, q⟩ := q
  cases (show v = Value.ref p from rx)
  obtain ⟨mA, O, _⟩ := ins_get I2.hok hp
  obtain ⟨odx, J, _⟩ := O.look
  obtain ⟨m, hF⟩ := I2.fr
  refine sub_K2 hF I2.ok.mod.kin J B.at_ B.fi B.fn ?_ (hsl _ _)
  exact wpAny_call (run_fnR1 (us := [.ref p, u]) (vs := [.ref p, y]) F hr hx I2 (.cons rfl (.cons ry .nil)) q)
/-- what two classes must have for an operator between their instances -/
structure BinC (K : PySem.W.Frag) (C f : Addr) (op : Operator) : Prop where
  first : PySem.W.selfFirst K C = true
  at_ : PySem.W.findIn K (.ref C) (PySem.dunder op.info.2) = some (some (.ref f))
  fn : PySem.W.isFn K (.ref f) = true
  r : PySem.W.findIn K (.ref C) (dunderR op.info.2) = some none
theorem ksp_binO {prog : Program} {w : World} {A : Around} {E : Value → Shared → Prop} {s : Shared} {K : PySem.W.Frag} {x y C C' L f g : Addr} {h₀ : Heap} {m : Str → Option Value} {ox oy : Obj} {od od' : Option Obj} {op : Operator} {Q : Value → Shared → Prop} (F : PyProof.Rows.Fr h₀ L s.heap m) (X₀ : K.In h₀) (I : PySem.W.InstAt s.heap x ox C od) (J : PySem.W.InstAt s.heap y oy C' od')
    (B : BinC K C f op) (B' : BinC K C' g op) (hsub : C = C' ∨ PySem.W.subIn K (.ref C') (.ref C) = some false)
    (h : wpAny (model prog w) A (call (.ref f) [.ref x, .ref y]) (PySem.W.CmpBack Q) E s) : wpAny (model prog w) A (binaryOp op (.ref x) (.ref y)) Q E s := by
  by_cases hCC : C = C'
  · subst hCC
    exact PySem.W.binop_K F X₀ I J.type B.first B.at_ B.fn h
  · have hsub := hsub.resolve_left hCC
    have X := X₀.keeps F.keep
    obtain ⟨cd, rest, hcd, hm⟩ := PySem.W.ksp_first B.first
    obtain ⟨cd', rest', hcd', hm'⟩ := PySem.W.ksp_first B'.first
    have hs := B.at_
    have hr := B.r
    have hs' := B'.at_
    have hr' := B'.r
    rcases hi : op.info with ⟨sym, nm'⟩
    rw [hi] at hs hr hs' hr'
    dsimp only at hs hr hs' hr'
    have one := PySem.W.ksp_try X I hs B.fn h
    obtain ⟨hh, gg, d, tt, os⟩ := s
    have L1 : PySem.W.Looks (model prog w) hh (typeOf (.ref x)) (.ref C) := I.type
    have L2 : PySem.W.Looks (model prog w) hh (typeOf (.ref y)) (.ref C') := J.type
    have L3 : PySem.W.Looks (model prog w) hh (fillsNumberSlot (.ref C) nm') true := PySem.W.fills_K X hcd hm hs
    have L4 : PySem.W.Looks (model prog w) hh (fillsNumberSlot (.ref C') nm') true := PySem.W.fills_K X hcd' hm' hs'
    have L5 : PySem.W.Looks (model prog w) hh (isSubtype (.ref C') (.ref C)) false := PySem.W.looks_subIn X hsub
    have L6 : PySem.W.Looks (model prog w) hh (numberSlotInPython (.ref C) nm') true := PySem.W.ksp_inPy X hs hr (.inl rfl)
    have L7 : PySem.W.Looks (model prog w) hh (numberSlotInPython (.ref C') nm') true := PySem.W.ksp_inPy X hs' hr' (.inl rfl)
    have hne : (Value.ref C == Value.ref C') = false := Bool.eq_false_iff.mpr fun q => by cases beq_iff_eq.mp q; exact hCC rfl
    simp only [binaryOp, hi]
    refine wpAny_holding (wpAny_bind ?_)
    unfold binaryOp1
    refine wpAny_bind (L1.at (wpAny_bind (L2.at (wpAny_bind (L3.at ?_)))))
    simp only [hne, Bool.false_eq_true, if_false]
    ksp_lk
    refine wpAny_mono one (fun r s' hr' => ?_) fun _ _ e => e
    obtain ⟨v, rfl, hq⟩ := hr'
    ksp_lk
    exact hq
theorem op_binO {op : Operator} {f : Addr} (F : FnR X.prog X.w X.K X.mg X.base CX k f sp) (hr : Room k X.A) (hx : Passes CX X E) :
    OpR X (binaryOp op) (fun x y H Q => ∃ a C dx fs b C' dy gs, x = .ref a ∧ y = .ref b ∧ H a = some (.ins C dx fs) ∧ H b = some (.ins C' dy gs) ∧ BinC X.K C f op ∧ BinC X.K C' f op ∧ (C = C' ∨ PySem.W.subIn X.K (.ref C') (.ref C) = some false) ∧ sp [x, y] H Q E) := by
  intro pins s σ H x y v u Q I rx ry h
  obtain ⟨a, C, dx, fs, b, C', dy, gs, rfl, rfl, ha, hb, B, B', hsub, q⟩ := h
  cases (show v = Value.ref a from rx)
  cases (show u = Value.ref b from ry)
  obtain ⟨mA, O, _⟩ := ins_get I.hok ha
  obtain ⟨odx, J, _⟩ := O.look
  obtain ⟨mB, O', _⟩ := ins_get I.hok hb
  obtain ⟨ody, J', _⟩ := O'.look
  obtain ⟨m, hF⟩ := I.fr
  refine ksp_binO hF I.ok.mod.kin J J' B B' hsub ?_
  refine wpAny_mono (wpAny_call (run_fnR (us := [.ref a, .ref b]) (vs := [.ref a, .ref b]) F hr hx I (.cons rfl (.cons rfl .nil)) q)) (fun w s' z => ?_) fun _ _ x => x
  obtain ⟨z', H', I', rz, qz⟩ := z
  exact SlX.cmpback rz ⟨z', H', I', rz, qz⟩
end
section
variable {P : Program} {w : World} {K : PySem.W.Frag} {mg : Str → Option Value} {base : Heap} {k : Nat} {x qual : Str} {st : Stmt} {D g : Addr} {N ps : List Str} {sp spg : Sp}
/-- a def with super().__init__(..) at its end whose last parameters are keywords -/
theorem MdS.okK (M : MdS P K x qual st D g) {pre : List Stmt} {e : Expr} {es : List Expr} {ar : Arg} {p0 p1 apos pos spos : Pos} {pl : Addr → Sem Bool} (n : Nat) (ks : List Str) (hbd : defBody st = pre ++ [.Expr (superE "__init__" (e :: es) p0 p1 apos pos) spos])
    (S : NScope N ps ["__class__"] (defScope st)) (hp : ((defArgs st).posonlyargs ++ (defArgs st).args).head? = some ar) (i0 : N[0]? = some ar.arg) (hv0 : (defScope st).names.lookup ar.arg = some .local) (h0c : (ar.arg == ("__classdict__" : Str)) = false) (ic : N[ps.length]? = some ("__class__" : Str)) (hms : mg "super" = none)
    (hb : ∀ (kV doc pm : Value) (an : Option Addr) (ct : Value) (cc c : Addr) (us ws : List Value), us.length = n → ws.length = ks.length → bindArgs (PySem.W.fnX x qual (defArgs st) (defBody st) (defScope st) [(("__class__" : Str), cc)] .none kV doc pm an (.ref c) ct) ⟨us, ks.zip ws⟩ = pure (ps.zip (us ++ ws)))
    (G : FnR P w K mg base CX0 k g spg) (len : ∀ vs H Q E, sp vs H Q E → vs.length = ps.length)
    (hbody : ∀ (A : Around) (outer : List Env) (s : Shared) (H : Hp) (vs : List V) (Q : VK) (E : XK), Room k (A.deeper (envF M.nf M.f s.heap.objs.size)) → sp vs H Q E →
      ∃ (t : TS) (ta : TA), PSs (ncx CX0 P w K mg base N M.nf M.f A outer s H E) pre t ∧ PA (ncx CX0 P w K mg base N M.nf M.f A outer s H E) (e :: es) ta ∧ t { nx := SupQ K D g "__init__" ps.length ta spg Q E, rt := Q } (startF N vs [some (.ref D)]) H)
    (hst : ∀ L, starEach (e :: es) (envF M.nf M.f L) = (false, eval e (envF M.nf M.f L)) :: starEach es (envF M.nf M.f L) := by intro L; rfl) (hpl : ∀ L, (backTo pos (starEach es (envF M.nf M.f L))).any (·.1) = false := by intro L; rfl)
    (ht : ∀ L, eval (superE "__init__" (e :: es) p0 p1 apos pos) (envF M.nf M.f L) = (do
      let ov ← attributeBase (.Call (.Name "super" p0) [] [] p1) "__init__" (envF M.nf M.f L) (eval (.Call (.Name "super" p0) [] [] p1) (envF M.nf M.f L))
      standAt apos.atName
      let (fn, first) ← holding [ov] (getMethod ov "__init__" (pl L))
      callWith pos fn first (backTo pos (starEach (e :: es) (envF M.nf M.f L))) []) := by intro L; rfl)
    (hi : ∀ L, interactive (envF M.nf M.f L) = false := by intro L; rfl) (hs : ∀ L, swapsWith (superE "__init__" (e :: es) p0 p1 apos pos) none spos.line (envF M.nf M.f L) = pure false := by intro L; rfl) :
    ∃ fd, FnOk P w K mg base CX0 (k + 1) M.f fd ps sp ∧ KBn K fd ps n ks (fun us ws => us ++ ws) (fun vs zs => vs ++ zs) := by
  obtain ⟨oc, od, kV, doc, pm, an, ct, osl, lk⟩ := M.lk
  refine ⟨_, fnS_of (F := M.nf) M.sk hbd lk M.hcd S hp i0 hv0 h0c ic hms G (fun A outer s H E => fun _ _ _ _ _ _ _ z => z.elim) len hbody hst hpl ht hi hs, ?_⟩
  exact ⟨fun s us ws _ l1 l2 => .of_eq (hb _ _ _ _ _ _ _ us ws l1 l2), fun r1 r2 => r1.append r2⟩
end
end Pl

set_option Elab.async false
set_option linter.all false
set_option maxRecDepth 100000
set_option maxHeartbeats 4000000
/-! What the top leaves, seen by a Hook of one's own: checks of the written part, and the defs as they stand. -/
namespace Pl
open PySem PySem.Spec PyProof.Rows L2 NdefX ClX
abbrev FnO : Type := Option (Str × Str × Arguments × FuncBody × Scope × Addr × List Str × Addr)
def fnOb (K : PySem.W.Frag) (p : Str × Option Str) : FnO := match K.lookup (He.fAd K p) with
  | some ⟨_, _, .func fd, _⟩ => some (fd.name, fd.qualname, fd.params, fd.body, fd.scope, fd.globals, fd.closure.map (·.1), fd.builtins)
  | _ => none
/-- one def: where it stands, its name, qualified name, its statement, what it closes over -/
structure ObD where
  at_ : Str × Option Str
  name : Str
  qual : Str
  st : Stmt
  cl : List Str := []
def ObD.val (d : ObD) : FnO := some (d.name, d.qual, defArgs d.st, .stmts (defBody d.st), defScope d.st, mainGlobals, d.cl, builtinsNs)
abbrev AlP : Type := Bool × List FnO
def obsP (cks : List (PySem.W.Frag → Bool)) (fn : List ObD) (K : PySem.W.Frag) : AlP := (cks.all fun f => f K, fn.map fun d => fnOb K d.at_)
def valP (fn : List ObD) : AlP := (true, fn.map ObD.val)
def SaysP (cks : List (PySem.W.Frag → Bool)) (fn : List ObD) (K : PySem.W.Frag) : Prop := obsP cks fn K = valP fn
def asP (g : Addr → Option Obj) : Nat → List Addr
  | 0 => [mainGlobals, cStatics]
  | n + 1 => He.growD g (asP g n)
def obsPG (n : List Addr) (cks : List (PySem.W.Frag → Bool)) (fn : List ObD) (g : Addr → Option Obj) : AlP := obsP cks fn (He.frG g n)
def hookP (n : List Addr) (cks : List (PySem.W.Frag → Bool)) (fn : List ObD) : PySem.W.Hook where
  α := AlP
  obs := fun s => obsPG n cks fn s.heap.get?
  val := fun _ => valP fn
  says := fun _ h => ∃ K : PySem.W.Frag, K.In h ∧ SaysP cks fn K
  of := fun _ _ e => ⟨_, He.frG_in, e⟩
  keeps := fun _ _ _ ⟨K, hK, c⟩ k => ⟨K, PySem.W.Frag.In.keeps hK k, c⟩
theorem obsPG_eq {n : List Addr} {cks : List (PySem.W.Frag → Bool)} {fn : List ObD} {g : Addr → Option Obj} {s : Shared} (h : ∀ a, g a = s.heap.get? a) : obsPG n cks fn g = (hookP n cks fn).obs s := by
  have e : g = s.heap.get? := funext h
  rw [e] <;> rfl
section
variable {cks : List (PySem.W.Frag → Bool)} {fn : List ObD} {K : PySem.W.Frag}
theorem SaysP.ck (c : SaysP cks fn K) (i : Nat) {f : PySem.W.Frag → Bool} (h : cks[i]? = some f) : f K = true := by
  have c1 : (cks.all fun f => f K) = true := congrArg (fun z : AlP => z.1) c
  exact List.all_eq_true.mp c1 f (List.mem_of_getElem? h)
theorem SaysP.de (c : SaysP cks fn K) (i : Nat) {d : ObD} (h : fn[i]? = some d) : fnOb K d.at_ = d.val := by
  have e : fn.map (fun d => fnOb K d.at_) = fn.map ObD.val := congrArg (fun z : AlP => z.2) c
  have e2 : (fn.map fun d => fnOb K d.at_)[i]? = (fn.map ObD.val)[i]? := by rw [e]
  rw [List.getElem?_map, List.getElem?_map, h] at e2
  exact Option.some.inj e2
/-- a plain def -/
def plB (at_ : Str × Option Str) (qual : Str) : PySem.W.Frag → Bool := fun K => PySem.W.keepIn K (.ref (He.fAd K at_)) && (match K.lookup (He.fAd K at_) with
  | some ⟨_, _, .func fd, _⟩ => PySem.W.codeIn K fd.code qual && (match fd.defaults with
    | .none => true
    | _ => false)
  | _ => false)
theorem ob_fun {d : ObD} (e : fnOb K d.at_ = d.val) (hc : d.cl = []) (c : plB d.at_ d.qual K = true) : ∃ fd, Fun K d.name d.qual d.st (He.fAd K d.at_) fd := by
  obtain ⟨kp, c2⟩ := He.ba c
  unfold fnOb at e
  cases q : K.lookup (He.fAd K d.at_) with
  | none => rw [q] at c2; cases c2
  | some o =>
    obtain ⟨oc, od, dt, osl⟩ := o
    rw [q] at c2 e
    cases dt with
    | func fd =>
      obtain ⟨n1, n2, n3, n4, n5, n6, n7, n8, n9, n10, n11, n12, n13, n14, n15⟩ := fd
      have e2 : (some (n1, n2, n3, n4, n5, n6, n7.map (·.1), n15) : FnO) = some (d.name, d.qual, defArgs d.st, .stmts (defBody d.st), defScope d.st, mainGlobals, d.cl, builtinsNs) := e
      simp only [Option.some.injEq, Prod.mk.injEq] at e2
      obtain ⟨h1, h2, h3, h4, h5, h6, h7, h8⟩ := e2
      rw [hc] at h7
      have h7' : n7 = [] := List.map_eq_nil_iff.mp h7
      subst h1 h2 h3 h4 h5 h6 h7' h8
      obtain ⟨k1, k2⟩ := He.ba (by exact c2)
      cases n8 with
      | none => exact ⟨_, fun_mk q k1 kp⟩
      | _ => cases k2
    | _ => cases c2
/-- a def with the default None for its last parameter -/
def dfB (at_ : Str × Option Str) (qual : Str) : PySem.W.Frag → Bool := fun K => PySem.W.keepIn K (.ref (He.fAd K at_)) && (match K.lookup (He.fAd K at_) with
  | some ⟨_, _, .func fd, _⟩ => PySem.W.codeIn K fd.code qual && (He.dflB K fd.defaults [.non] && He.kwdB K fd.kwdefaults [])
  | _ => false)
theorem ob_dfl {d : ObD} (e : fnOb K d.at_ = d.val) (hc : d.cl = []) (c : dfB d.at_ d.qual K = true) : ∃ fd, FunD K d.name d.qual (defArgs d.st) (defBody d.st) (defScope d.st) [.non] [] (He.fAd K d.at_) fd := by
  obtain ⟨kp, c2⟩ := He.ba c
  unfold fnOb at e
  cases q : K.lookup (He.fAd K d.at_) with
  | none => rw [q] at c2; cases c2
  | some o =>
    obtain ⟨oc, od, dt, osl⟩ := o
    rw [q] at c2 e
    cases dt with
    | func fd =>
      obtain ⟨n1, n2, n3, n4, n5, n6, n7, n8, n9, n10, n11, n12, n13, n14, n15⟩ := fd
      have e2 : (some (n1, n2, n3, n4, n5, n6, n7.map (·.1), n15) : FnO) = some (d.name, d.qual, defArgs d.st, .stmts (defBody d.st), defScope d.st, mainGlobals, d.cl, builtinsNs) := e
      simp only [Option.some.injEq, Prod.mk.injEq] at e2
      obtain ⟨h1, h2, h3, h4, h5, h6, h7, h8⟩ := e2
      rw [hc] at h7
      have h7' : n7 = [] := List.map_eq_nil_iff.mp h7
      subst h1 h2 h3 h4 h5 h6 h7' h8
      have c3 : (PySem.W.codeIn K n13 d.qual && (He.dflB K n8 [.non] && He.kwdB K n9 [])) = true := c2
      obtain ⟨k1, k2⟩ := He.ba c3
      obtain ⟨k3, k4⟩ := He.ba k2
      exact ⟨_, ⟨oc, od, n8, n9, n10, n11, n12, n13, n14, osl, rfl, q, k1, He.dflB_ok k3, He.kwdB_ok k4⟩, kp⟩
    | _ => cases c2
/-- a def that closes over its class D -/
def supB (at_ : Str × Option Str) (qual : Str) (D : Str) (file : Str) : PySem.W.Frag → Bool := fun K => PySem.W.keepIn K (.ref (He.fAd K at_)) && (match K.lookup (He.fAd K at_) with
  | some ⟨_, _, .func fd, _⟩ => (match fd.closure, fd.code, fd.defaults with
    | [(_, cc)], .ref c, .none => PySem.W.codeIn K (.ref c) qual && ((match K.lookup cc with
        | some ⟨_, _, .cell (some v), _⟩ => decide (v = .ref (He.ga K D))
        | _ => false) && (match K.lookup c with
        | some ⟨_, _, .fields vs, _⟩ => (match (vs[2]? : Option Value) with
          | some (.str z _) => decide (z = file)
          | _ => false)
        | _ => false))
    | _, _, _ => false)
  | _ => false)
theorem ob_sup {d : ObD} {D file : Str} (e : fnOb K d.at_ = d.val) (hc : d.cl = [("__class__" : Str)]) (c : supB d.at_ d.qual D file K = true) : ∃ cc c0 : Addr,
    (∃ (oc : Value) (od : Option Addr) (kV doc pm : Value) (an : Option Addr) (ct : Value) (osl : Array (Option Value)), K.lookup (He.fAd K d.at_) = some ⟨oc, od, .func (PySem.W.fnX d.name d.qual (defArgs d.st) (defBody d.st) (defScope d.st) [(("__class__" : Str), cc)] .none kV doc pm an (.ref c0) ct), osl⟩) ∧
    PySem.W.codeIn K (.ref c0) d.qual = true ∧ PySem.W.keepIn K (.ref (He.fAd K d.at_)) = true ∧ (∃ ccl ccd ccs, K.lookup cc = some ⟨ccl, ccd, .cell (some (.ref (He.ga K D))), ccs⟩) ∧
    ∃ ccl cdd vs ccs tf, K.lookup c0 = some ⟨ccl, cdd, .fields vs, ccs⟩ ∧ vs[2]? = some (.str file tf) := by
  obtain ⟨kp, c2⟩ := He.ba c
  unfold fnOb at e
  cases q : K.lookup (He.fAd K d.at_) with
  | none => rw [q] at c2; cases c2
  | some o =>
    obtain ⟨oc, od, dt, osl⟩ := o
    rw [q] at c2 e
    cases dt with
    | func fd =>
      obtain ⟨n1, n2, n3, n4, n5, n6, n7, n8, n9, n10, n11, n12, n13, n14, n15⟩ := fd
      have e2 : (some (n1, n2, n3, n4, n5, n6, n7.map (·.1), n15) : FnO) = some (d.name, d.qual, defArgs d.st, .stmts (defBody d.st), defScope d.st, mainGlobals, d.cl, builtinsNs) := e
      simp only [Option.some.injEq, Prod.mk.injEq] at e2
      obtain ⟨h1, h2, h3, h4, h5, h6, h7, h8⟩ := e2
      rw [hc] at h7
      subst h1 h2 h3 h4 h5 h6 h8
      match n7, h7, c2 with
      | [(y, cc)], h7, c2 =>
        have hy : y = ("__class__" : Str) := (List.cons.inj h7).1
        subst hy
        cases n13 with
        | ref c0 =>
          cases n8 with
          | none =>
            obtain ⟨k1, k2⟩ := He.ba (show (PySem.W.codeIn K (.ref c0) d.qual && ((match K.lookup cc with
                | some ⟨_, _, .cell (some v), _⟩ => decide (v = .ref (He.ga K D))
                | _ => false) && (match K.lookup c0 with
                | some ⟨_, _, .fields vs, _⟩ => (match (vs[2]? : Option Value) with
                  | some (.str z _) => decide (z = file)
                  | _ => false)
                | _ => false))) = true from c2)
            obtain ⟨k3, k4⟩ := He.ba k2
            refine ⟨cc, c0, ⟨oc, od, n9, n10, n11, n12, n14, osl, rfl⟩, k1, kp, ?_, ?_⟩
            · cases z : K.lookup cc with
              | none => rw [z] at k3; cases k3
              | some o =>
                obtain ⟨a1, a2, a3, a4⟩ := o
                rw [z] at k3
                cases a3 with
                | cell v =>
                  cases v with
                  | none => cases k3
                  | some v =>
                    have : v = .ref (He.ga K D) := of_decide_eq_true k3
                    subst this
                    exact ⟨_, _, _, rfl⟩
                | _ => cases k3
            · cases z : K.lookup c0 with
              | none => rw [z] at k4; cases k4
              | some o =>
                obtain ⟨a1, a2, a3, a4⟩ := o
                rw [z] at k4
                cases a3 with
                | fields vs =>
                  have k5 : (match (vs[2]? : Option Value) with | some (.str z _) => decide (z = file) | _ => false) = true := k4
                  cases y : vs[2]? with
                  | none => rw [y] at k5; cases k5
                  | some v =>
                    rw [y] at k5
                    cases v with
                    | str z t =>
                      have : z = file := of_decide_eq_true k5
                      subst this
                      exact ⟨_, _, _, _, t, rfl, y⟩
                    | _ => cases k5
                | _ => cases k4
          | _ => cases c2
        | _ => cases n8 <;> cases c2
      | [], h7, c2 => cases h7
      | _ :: _ :: _, h7, c2 => cases (List.cons.inj h7).2
    | _ => cases c2
theorem SaysP.ck2 {css : List (List (PySem.W.Frag → Bool))} (c : SaysP css.flatten fn K) (p i : Nat) {l : List (PySem.W.Frag → Bool)} {f : PySem.W.Frag → Bool} (h1 : css[p]? = some l) (h2 : l[i]? = some f) : f K = true := by
  have c1 : (css.flatten.all fun f => f K) = true := congrArg (fun z : AlP => z.1) c
  exact List.all_eq_true.mp c1 f (List.mem_flatten.mpr ⟨l, List.mem_of_getElem? h1, List.mem_of_getElem? h2⟩)
/-- the run's parts, joined -/
theorem run_join {σ β : Type} {o : Option σ} {lk : σ → Bool} {se : σ → β} {gd : β} {kf : σ → PySem.W.Frag} {css : List (List (PySem.W.Frag → Bool))} (h0 : o.map (fun s => (lk s, se s)) = some (true, gd)) (hf : o.map (fun s => fn.map fun d => fnOb (kf s) d.at_) = some (fn.map ObD.val))
    (hc : ∀ c ∈ css, o.map (fun s => c.all fun f => f (kf s)) = some true) : o.map (fun s => (lk s, se s, obsP css.flatten fn (kf s))) = some (true, gd, valP fn) := by
  cases o with
  | none => cases h0
  | some s =>
    have e0 := Option.some.inj h0
    have ef : (fn.map fun d => fnOb (kf s) d.at_) = fn.map ObD.val := Option.some.inj hf
    have ec : (css.flatten.all fun f => f (kf s)) = true := by
      refine List.all_eq_true.mpr fun f hm => ?_
      obtain ⟨l, h1, h2⟩ := List.mem_flatten.mp hm
      exact List.all_eq_true.mp (Option.some.inj (hc l h1)) f h2
    have e1 := congrArg Prod.fst e0
    have e2 := congrArg Prod.snd e0
    simp only at e1 e2
    show some (lk s, se s, obsP css.flatten fn (kf s)) = _
    unfold obsP valP
    rw [e1, e2, ef, ec]
/-! facts with a value -/
def eqB (a b : Option Bool) : Bool := decide (a = b)
theorem eqB_ok {a b : Option Bool} (h : eqB a b = true) : a = b := of_decide_eq_true h
end
end Pl

set_option Elab.async false
set_option linter.all false
set_option maxRecDepth 100000
set_option maxHeartbeats 4000000
/-! defs that hand a lambda to a def; what the top leaves of their tables -/
namespace Pl
open PySem PySem.Spec PyProof.Rows L2 NdefX ClX LamX
/-- a def whose code object stands at c -/
structure FunC (K : PySem.W.Frag) (x qual : Str) (st : Stmt) (f : Addr) (fd : FuncData) (c : Addr) : Prop where
  ex : ∃ (oc : Value) (od : Option Addr) (kV doc pm : Value) (an : Option Addr) (ct : Value) (osl : Array (Option Value)),
    fd = PySem.W.fnOf x qual (defArgs st) (defBody st) (defScope st) .none kV doc pm an (.ref c) ct ∧ K.lookup f = some ⟨oc, od, .func fd, osl⟩ ∧ PySem.W.codeIn K (.ref c) qual = true
section
variable {P : Program} {w : World} {K : PySem.W.Frag} {mg : Str → Option Value} {base : Heap}
theorem FunC.ok {x qual : Str} {st : Stmt} {f c : Addr} {fd : FuncData} {N ps : List Str} {k : Nat} {sp : Sp} (F : FunC K x qual st f fd c) (S : FnScope N ps (defScope st)) (len : ∀ vs H Q E, sp vs H Q E → vs.length = ps.length)
    (hbody : ∀ (A : Around) (outer : List Env) (s : Shared) (H : Hp) (vs : List V) (Q : VK) (E : XK), Room k (A.deeper (envOfC qual (defScope st) s.heap.objs.size f (.ref c))) → sp vs H Q E →
      ∃ t, PSs (cxOf CX0 P w K mg base N qual (defScope st) f (.ref c) A outer s H E).nox (defBody st) t ∧ t { nx := fun _ H' => Q .non H', rt := Q } (start N vs) H) : FnOk P w K mg base CX0 (k + 1) f fd ps sp := by
  obtain ⟨oc, od, kV, doc, pm, an, ct, osl, rfl, lk, hcd⟩ := F.ex
  refine fn_of lk hcd S len fun A outer s H vs Q E hr hsp => ?_
  obtain ⟨t, h, q⟩ := hbody A outer s H vs Q E hr hsp
  exact ⟨t, h.nox, q⟩
end
section
variable {X : Cx}
/-- x(lambda: body), x a plain def of the module -/
theorem pe_lam {T : List (Addr × Str)} {TT : (XK → Hp → VK → Prop) → Hp → VK → Prop} {x a : Str} {g c Pt : Addr} {k : Nat} {st : Stmt} {fd : FuncData} {Ng : List Str}
    {params : Arguments} {body : Expr} {scope : Scope} {t : XK → TE} {p lpos pos : Pos} (F : Fun X.K x x st g fd) (hb : L2.Binds X.K fd [a] []) (hm : X.mg x = some (.ref g)) (Sg : FnScope Ng [a] (defScope st))
    (hG : ∀ cdg, GivesTo X Ng x (defScope st) g cdg (defBody st) a (X.env.qual ++ "<lambda>") TT)
    (TB : TabB X.base X.mg c Pt) (hcode : X.env.code = .ref c) (hr : Room (k + 2) X.A) (hT : T = [(Pt, X.env.qual ++ "<lambda>")])
    (hbody : ∀ (A : Around) (outer : List Env) (s : Shared) (H : Hp) (E : XK) (f c' : Addr), Room k (A.deeper (lamEnv X scope s.heap.objs.size f c')) → PE (lamCx X A outer s H E scope f c') body (t E))
    (L : LamS X.env.scope scope) (hg : Gl X x := by rfl) (hNg : Ng[0]? = some a := by rfl) (hva : Vis (defScope st) a := by exact Or.inl rfl) (hdef : defaultsOf params X.env = ([], []) := by rfl)
    (hbind : ∀ (q : Str) (cl : List (Str × Addr)) (pm cv ctv : Value), bindArgs (PySem.W.kla_fn "<lambda>" q params body scope cl pm cv ctv) ⟨[], []⟩ = pure [] := by intros; rfl) (hdb : (x == ("__debug__" : Str)) = false := by decide)
    (hd : (a == ("__debug__" : Str)) = false := by decide) (hcd : (a == ("__classdict__" : Str)) = false := by decide) :
    PE X (.Call (.Name x p) [.Lambda params body scope lpos] [] pos) (tLam T TT t) := by
  obtain ⟨oc, od, kV, doc, pm, an, cdv, ct, osl, rfl, lk, hcg⟩ := F.ex
  subst hT
  exact pe_lamcall hg hm F.kp lk hcg hb Sg hNg hva (hG _) TB hcode (by simp) (fun p hp _ => by rw [List.mem_singleton.mp hp]) hr L hdef hbind hbody (hd := hd) (hcd := hcd) (hdb := hdb)
end
/-! ### what a def that catches all refusals makes of a call -/
/-- a refusal told: the class, the name, the field -/
abbrev Er : Type := Addr × Str × Option Str
def rfE (es : List Er) (Q : VK) : XK := fun cls d H' => ∃ e ∈ es, cls = .ref e.1 ∧ match e.2.2 with
  | none => ∀ p, H' p = none → Q (.ref p) (upd H' p (.tup [.str e.2.1]))
  | some f => ∃ dd fs v, d = some dd ∧ H' dd = some (.xd fs) ∧ fs.lookup f = some v ∧ ∀ p, H' p = none → Q (.ref p) (upd H' p (.tup [.str e.2.1, v]))
def TRef (es : List Er) : (XK → Hp → VK → Prop) → Hp → VK → Prop := fun tl H Q => ∀ p, H p = none → ∀ Q' : VK, (∀ v H', Q (.ref p) H' → Q' v H') → tl (rfE es Q) (upd H p (.tup [.str "nothing"])) Q'
/-! ### the top's tables -/
def cdA (K : PySem.W.Frag) (a : Str × Option Str) : Addr := match K.lookup (He.fAd K a) with
  | some ⟨_, _, .func fd, _⟩ => (match fd.code with
    | .ref c => c
    | _ => 0)
  | _ => 0
def cdP (K : PySem.W.Frag) (a : Str × Option Str) : Addr := match K.lookup (cdA K a) with
  | some ⟨_, _, .fields vs, _⟩ => (match (vs[11]? : Option Value) with
    | some (.ref P) => P
    | _ => 0)
  | _ => 0
def isStrO : Option Value → Bool
  | some (.str _ _) => true
  | _ => false
def isIntO : Option Value → Bool
  | some (.int _ _) => true
  | _ => false
def isBoolO : Option Value → Bool
  | some (.bool _) => true
  | _ => false
theorem isStrO_ok : ∀ {o : Option Value}, isStrO o = true → ∃ z t, o = some (.str z t)
  | some (.str z t), _ => ⟨z, t, rfl⟩
theorem isIntO_ok : ∀ {o : Option Value}, isIntO o = true → ∃ z t, o = some (.int z t)
  | some (.int z t), _ => ⟨z, t, rfl⟩
theorem isBoolO_ok : ∀ {o : Option Value}, isBoolO o = true → ∃ z, o = some (.bool z)
  | some (.bool z), _ => ⟨z, rfl⟩
/-- the code object is as the making of a lambda asks -/
def cdB (K : PySem.W.Frag) (c Pt : Addr) : Bool := match K.lookup c with
  | some ⟨.type t, _, .fields vs, _⟩ => decide (t = "code") && (decide (vs[11]? = some (.ref Pt)) && (isStrO vs[18]? && (isIntO vs[7]? && (isBoolO vs[9]? && (isIntO vs[10]? && !decide (c = Pt))))))
  | _ => false
theorem cdB_ok {K : PySem.W.Frag} {c Pt : Addr} {h : Heap} (X : K.In h) (e : cdB K c Pt = true) : PySem.W.CodeHd h c Pt := by
  unfold cdB at e
  cases q : K.lookup c with
  | none => rw [q] at e; cases e
  | some o =>
    obtain ⟨oc, od, dt, osl⟩ := o
    rw [q] at e
    cases oc with
    | type t =>
      cases dt with
      | fields vs =>
        obtain ⟨e1, e⟩ := Bool.and_eq_true_iff.mp (show (decide (t = "code") && (decide (vs[11]? = some (.ref Pt)) && (isStrO vs[18]? && (isIntO vs[7]? && (isBoolO vs[9]? && (isIntO vs[10]? && !decide (c = Pt))))))) = true from e)
        obtain ⟨e2, e⟩ := Bool.and_eq_true_iff.mp e
        obtain ⟨e3, e⟩ := Bool.and_eq_true_iff.mp e
        obtain ⟨e4, e⟩ := Bool.and_eq_true_iff.mp e
        obtain ⟨e5, e⟩ := Bool.and_eq_true_iff.mp e
        obtain ⟨e6, e7⟩ := Bool.and_eq_true_iff.mp e
        have e1' : t = "code" := of_decide_eq_true e1
        subst e1'
        have e2' : vs[11]? = some (.ref Pt) := of_decide_eq_true e2
        have gd : ∀ {i : Nat} {v : Value}, vs[i]? = some v → vs.getD i .none = v := fun {i v} h => by rw [Array.getD_eq_getD_getElem?, h]; rfl
        obtain ⟨file, tf, q3⟩ := isStrO_ok e3
        obtain ⟨flags, tg, q4⟩ := isIntO_ok e4
        obtain ⟨inF, q5⟩ := isBoolO_ok e5
        obtain ⟨text, tt, q6⟩ := isIntO_ok e6
        exact ⟨_, vs, file, tf, flags, tg, inF, text, tt, X _ _ q, rfl, rfl, e2', gd e2', gd q3, gd q4, gd q5, gd q6, by simpa using e7⟩
      | _ => cases e
    | _ => cases dt <;> cases e
def tbB (K2 : PySem.W.Frag) (Pt : Addr) : Bool := match K2.lookup Pt with
  | some ⟨.none, none, .fields vs, sl⟩ => vs.toList.isEmpty && sl.toList.isEmpty
  | _ => false
theorem tbB_ok {K2 : PySem.W.Frag} {Pt : Addr} {h : Heap} (X : K2.In h) (e : tbB K2 Pt = true) : h.get? Pt = some { cls := .none, data := .fields #[] } := by
  unfold tbB at e
  cases q : K2.lookup Pt with
  | none => rw [q] at e; cases e
  | some o =>
    obtain ⟨oc, od, dt, osl⟩ := o
    rw [q] at e
    cases oc with
    | none =>
      cases od with
      | none =>
        cases dt with
        | fields vs =>
          obtain ⟨e1, e2⟩ := Bool.and_eq_true_iff.mp (show (vs.toList.isEmpty && osl.toList.isEmpty) = true from e)
          obtain ⟨vs⟩ := vs
          obtain ⟨osl⟩ := osl
          cases vs with
          | nil =>
            cases osl with
            | nil => exact X _ _ q
            | cons => cases e2
          | cons => cases e1
        | _ => cases e
      | some _ => cases dt <;> cases e
    | _ => cases od <;> cases dt <;> cases e
def tabB1 (K K2 : PySem.W.Frag) (a : Str × Option Str) : Bool := cdB K (cdA K a) (cdP K a) && ((K.lookup (cdP K a)).isNone && tbB K2 (cdP K a))
abbrev AlT : Type := AlP × Bool
def SaysT (cks : List (PySem.W.Frag → Bool)) (fn : List ObD) (ts : List (Str × Option Str)) (K K2 : PySem.W.Frag) : Prop := (obsP cks fn K, ts.all (tabB1 K K2)) = (valP fn, true)
def hookT (n n2 : List Addr) (cks : List (PySem.W.Frag → Bool)) (fn : List ObD) (ts : List (Str × Option Str)) : PySem.W.Hook where
  α := AlT
  obs := fun s => (obsPG n cks fn s.heap.get?, ts.all (tabB1 (He.frG s.heap.get? n) (He.frG s.heap.get? n2)))
  val := fun _ => (valP fn, true)
  says := fun _ h => ∃ K K2 : PySem.W.Frag, K.In h ∧ K2.In h ∧ SaysT cks fn ts K K2
  of := fun _ _ e => ⟨_, _, He.frG_in, He.frG_in, e⟩
  keeps := fun _ _ _ ⟨K, K2, hK, hK2, c⟩ k => ⟨K, K2, PySem.W.Frag.In.keeps hK k, PySem.W.Frag.In.keeps hK2 k, c⟩
theorem obsTG_eq {n n2 : List Addr} {cks : List (PySem.W.Frag → Bool)} {fn : List ObD} {ts : List (Str × Option Str)} {g : Addr → Option Obj} {s : Shared} (h : ∀ a, g a = s.heap.get? a) : ((obsPG n cks fn g, ts.all (tabB1 (He.frG g n) (He.frG g n2))) : AlT) = (hookT n n2 cks fn ts).obs s := by
  have e : g = s.heap.get? := funext h
  rw [e] <;> rfl
section
variable {cks : List (PySem.W.Frag → Bool)} {fn : List ObD} {ts : List (Str × Option Str)} {K K2 : PySem.W.Frag}
theorem SaysT.p (c : SaysT cks fn ts K K2) : SaysP cks fn K := congrArg (fun z : AlT => z.1) c
theorem SaysT.t (c : SaysT cks fn ts K K2) {a : Str × Option Str} (h : a ∈ ts) : cdB K (cdA K a) (cdP K a) = true ∧ K.lookup (cdP K a) = none ∧ tbB K2 (cdP K a) = true := by
  have c1 : ts.all (tabB1 K K2) = true := congrArg (fun z : AlT => z.2) c
  obtain ⟨h1, h2⟩ := Bool.and_eq_true_iff.mp (List.all_eq_true.mp c1 a h)
  obtain ⟨h3, h4⟩ := Bool.and_eq_true_iff.mp h2
  exact ⟨h1, Option.isNone_iff_eq_none.mp h3, h4⟩
/-- a plain def whose code object is known -/
theorem ob_funC {d : ObD} (e : fnOb K d.at_ = d.val) (hc : d.cl = []) (c : plB d.at_ d.qual K = true) {Pt : Addr} (hb : cdB K (cdA K d.at_) Pt = true) : ∃ fd, Fun K d.name d.qual d.st (He.fAd K d.at_) fd ∧ FunC K d.name d.qual d.st (He.fAd K d.at_) fd (cdA K d.at_) := by
  obtain ⟨fd, F⟩ := ob_fun e hc c
  refine ⟨fd, F, ?_⟩
  obtain ⟨oc, od, kV, doc, pm, an, cdv, ct, osl, rfl, lk, hcd⟩ := F.ex
  have ec : cdv = .ref (cdA K d.at_) := by
    unfold cdA
    rw [lk]
    unfold PySem.W.codeIn at hcd
    cases cdv with
    | ref c => rfl
    | _ => cases hcd
  subst ec
  exact ⟨oc, od, kV, doc, pm, an, ct, osl, rfl, lk, hcd⟩
/-- the run's parts, joined -/
theorem run_joinT {σ β : Type} {o : Option σ} {lk : σ → Bool} {se : σ → β} {gd : β} {kf kf2 : σ → PySem.W.Frag} {css : List (List (PySem.W.Frag → Bool))} (h0 : o.map (fun s => (lk s, se s)) = some (true, gd)) (hf : o.map (fun s => fn.map fun d => fnOb (kf s) d.at_) = some (fn.map ObD.val))
    (hc : ∀ c ∈ css, o.map (fun s => c.all fun f => f (kf s)) = some true) (ht : o.map (fun s => ts.all (tabB1 (kf s) (kf2 s))) = some true) : o.map (fun s => (lk s, se s, ((obsP css.flatten fn (kf s), ts.all (tabB1 (kf s) (kf2 s))) : AlT))) = some (true, gd, (valP fn, true)) := by
  have r := run_join h0 hf hc
  cases o with
  | none => cases h0
  | some s =>
    have r' := Option.some.inj r
    have ht' : ts.all (tabB1 (kf s) (kf2 s)) = true := Option.some.inj ht
    have e1 := congrArg Prod.fst r'
    have e2 := congrArg (fun z => z.2.1) r'
    have e3 := congrArg (fun z => z.2.2) r'
    simp only at e1 e2 e3
    show some (lk s, se s, ((obsP css.flatten fn (kf s), ts.all (tabB1 (kf s) (kf2 s))) : AlT)) = _
    rw [e1, e2, e3, ht']
end
/-! ### an own error -/
def oexB (K : PySem.W.Frag) (C : Addr) : Bool := match K.lookup C with
  | some ⟨.type t, _, .cls cd, sl⟩ => decide (t = "type") && (match cd.mro, sl.toList with
    | .ref C' :: bm, [_, _, _, _, some (.builtin n), _] => decide (C' = C) && (decide (n = "ValueError.__new__") && (!cd.hasDel && (cd.hasDict && PySem.HandSPX.refsVE bm)))
    | _, _ => false)
  | _ => false
theorem oexB_ok {K : PySem.W.Frag} {C : Addr} (h : oexB K C = true) : ∃ nm q N bs bm sn sub ab col dd k0 k1 k2 k3 k5, K.lookup C = some (excClassObj nm q C N bs bm true sn sub ab col dd k0 k1 k2 k3 k5 "ValueError.__new__") ∧ PySem.HandSPX.refsVE bm = true := by
  unfold oexB at h
  cases q : K.lookup C with
  | none => rw [q] at h; cases h
  | some o =>
    obtain ⟨oc, od, dt, osl⟩ := o
    rw [q] at h
    cases oc with
    | type t =>
      cases dt with
      | cls cd =>
        obtain ⟨h1, h2⟩ := Bool.and_eq_true_iff.mp (show (decide (t = "type") && _) = true from h)
        have h1' : t = "type" := of_decide_eq_true h1
        subst h1'
        obtain ⟨nm, bs, mro, ns, qn, hd, sn, sub, ab, col, del⟩ := cd
        obtain ⟨sl⟩ := osl
        dsimp only at h2
        split at h2
        · rename_i C' bm k0 k1 k2 k3 n k5
          obtain ⟨g1, h2⟩ := Bool.and_eq_true_iff.mp h2
          obtain ⟨g2, h2⟩ := Bool.and_eq_true_iff.mp h2
          obtain ⟨g3, h2⟩ := Bool.and_eq_true_iff.mp h2
          obtain ⟨g4, g5⟩ := Bool.and_eq_true_iff.mp h2
          have g1' : C' = C := of_decide_eq_true g1
          have g2' : n = "ValueError.__new__" := of_decide_eq_true g2
          subst g1' g2'
          have g3' : del = false := by simpa using g3
          have g4' : hd = true := g4
          subst g3' g4'
          exact ⟨_, _, _, _, _, _, _, _, _, _, _, _, _, _, _, rfl, g5⟩
        · cases h2
      | _ => cases h
    | _ => cases dt <;> cases h
theorem fnOk_or {P : Program} {w : World} {K : PySem.W.Frag} {mg : Str → Option Value} {base : Heap} {CX : CXT} {k : Nat} {f : Addr} {fd : FuncData} {ps : List Str} {sp sp' : Sp} (F : FnOk P w K mg base CX k f fd ps sp) (F' : FnOk P w K mg base CX k f fd ps sp') :
    FnOk P w K mg base CX k f fd ps (fun vs H Q E => sp vs H Q E ∨ sp' vs H Q E) :=
  ⟨fun vs H Q E h => h.elim (F.len vs H Q E) (F'.len vs H Q E), fun A outer s H args us vs Q E hr e0 hb hv h => h.elim (fun h => F.run A outer s H args us vs Q E hr e0 hb hv h) (fun h => F'.run A outer s H args us vs Q E hr e0 hb hv h)⟩
theorem fnOk_lift {P : Program} {w : World} {K : PySem.W.Frag} {mg : Str → Option Value} {base : Heap} {k : Nat} {f : Addr} {fd : FuncData} {ps : List Str} {sp : Sp} (F : FnOk P w K mg base CX0 k f fd ps sp) : FnOk P w K mg base (L2.CX P w) k f fd ps sp :=
  ⟨F.len, fun A outer s H args us vs Q E hr e0 hb hv h => codeAny_mono (F.run A outer s H args us vs Q E hr e0 hb hv h) fun r s' hq => by
    cases r with
    | error e => exact False.elim hq
    | ok fl => cases fl <;> exact hq⟩
/-- all but the tables -/
def nt (H : Hp) : Hp := fun b => match H b with
  | some (.tbl _) => none
  | o => o
theorem nt_at {H : Hp} {a : Addr} {o : HO} (h : H a = some o) (n : ∀ ps, o ≠ .tbl ps) : nt H a = some o := by
  unfold nt
  rw [h]
  cases o <;> first | rfl | exact absurd rfl (n _)
theorem nt_sub {H : Hp} {a : Addr} {o : HO} (h : nt H a = some o) : H a = some o ∧ ∀ ps, o ≠ .tbl ps := by
  unfold nt at h
  cases e : H a with
  | none => rw [e] at h; cases h
  | some u =>
    rw [e] at h
    cases u <;> first | (cases h; exact ⟨rfl, fun ps z => nomatch z⟩) | cases h
theorem nt_same {H H1 : Hp} (e : ExtN H H1) : Same (nt H) H1 := fun b o h => e b o (nt_sub h).1 (nt_sub h).2
theorem nt_mono {H H1 : Hp} (s : Same H H1) : Same (nt H) (nt H1) := fun b o h => nt_at (s b o (nt_sub h).1) (nt_sub h).2
theorem nt_le {H : Hp} : Same (nt H) H := fun b o h => (nt_sub h).1
theorem Ty.nt {H : Hp} {v : V} {t : String} (h : Pl.Ty H v t) : Pl.Ty (Pl.nt H) v t := by
  cases h with
  | non => exact .non
  | bl b => exact .bl b
  | int i => exact .int i
  | str x => exact .str x
  | lst h => exact .lst (nt_at h fun _ z => nomatch z)
  | tup h => exact .tup (nt_at h fun _ z => nomatch z)
/-- the box stands, the table is empty -/
theorem Wd.beginT {b c Pt : Addr} {H H1 : Hp} (hP : H Pt = some (.tbl #[])) (hb : H b = none) (hc : H c = none) (s : Same H H1) (bx : BoxAt b c H1) : ∃ G, Wd b c G H1 ∧ G Pt = some (.tbl #[]) := by
  refine ⟨fun a => if a = Pt then some (.tbl #[]) else none, ⟨bx, fun y o e => ?_, if_neg fun z => ?_, if_neg fun z => ?_⟩, if_pos rfl⟩
  · by_cases hy : y = Pt
    · rw [if_pos hy] at e
      cases e
      rw [hy]
      exact s _ _ hP
    · rw [if_neg hy] at e
      cases e
  · rw [z, hP] at hb; cases hb
  · rw [z, hP] at hc; cases hc
structure ErrC (K : PySem.W.Frag) (C fI : Addr) (f : Str) : Prop where
  x : OexC K C
  i : PySem.W.findIn K (.ref C) "__init__" = some (some (.ref fI))
  t : PySem.W.typeIn K (.ref fI) = some (.type "function")
  no : PySem.W.findIn K (.ref C) f = some none
  xf : XfC K C
structure LamD (K : PySem.W.Frag) (a : Str × Option Str) (x qual : Str) (st : Stmt) (f : Addr) (fd : FuncData) where
  c : Addr
  P : Addr
  ec : c = cdA K a
  eP : P = cdP K a
  F : FunC K x qual st f fd c
/-- the statement that calls what was handed in -/
theorem pss_act {X : Cx} {f c' : Addr} {q a : Str} {tl : XK → Hp → VK → Prop} {p1 p2 pos : Pos} {W : WX}
    (act : ∀ (E : XK) (p1 p2 : Pos), (∀ cls d σ' H', E cls d H' → W cls d σ' H') → PE X (.Call (.Name a p1) [] [] p2) (fun σZ HZ Q => σZ[0]? = some (some (.ref f)) ∧ HZ c' = some (CodeO c' q) ∧ tl E HZ Q)) :
    PSs X [.Expr (.Call (.Name a p1) [] [] p2) pos] (fun D σ H => ∃ Ech : XK, (∀ cls d σ' H', Ech cls d H' → W cls d σ' H') ∧ σ[0]? = some (some (.ref f)) ∧ H c' = some (CodeO c' q) ∧ tl Ech H (fun _ H' => D.nx σ H')) := by
  refine ⟨fun pins s σ H D I h => ?_⟩
  obtain ⟨Ech, hW, h1, h2, h3⟩ := h
  exact (pss_one (ps_expr (act Ech p1 p2 hW))).run pins s σ H D I ⟨h1, h2, h3⟩
end Pl

namespace Pl
open PySem L2
def topS (i : Nat) : Stmt := PySem.Challenge.pw_pastlooks_k39_wrong_facts.main.body.getD i (.Pass ⟨0, 0, 0, 0⟩)
abbrev s_BadFact_init : Stmt := inClass (topS 10) 0
abbrev N_BadFact_init : List Str := ["self", "place"]
theorem sc_BadFact_init : FnScope N_BadFact_init ["self", "place"] (defScope s_BadFact_init) := ⟨rfl, rfl, rfl, by decide +kernel, rfl, by decide +kernel, by decide +kernel⟩
abbrev s_is_integer : Stmt := topS 20
abbrev N_is_integer : List Str := ["value"]
theorem sc_is_integer : FnScope N_is_integer ["value"] (defScope s_is_integer) := ⟨rfl, rfl, rfl, by decide +kernel, rfl, by decide +kernel, by decide +kernel⟩
abbrev s_is_fact : Stmt := topS 22
abbrev N_is_fact : List Str := ["count", "entry", "number"]
theorem sc_is_fact : FnScope N_is_fact ["count", "entry"] (defScope s_is_fact) := ⟨rfl, rfl, rfl, by decide +kernel, rfl, by decide +kernel, by decide +kernel⟩
abbrev s_check_facts : Stmt := topS 23
abbrev N_check_facts : List Str := ["count", "facts", "place", "entry"]
theorem sc_check_facts : FnScope N_check_facts ["count", "facts"] (defScope s_check_facts) := ⟨rfl, rfl, rfl, by decide +kernel, rfl, by decide +kernel, by decide +kernel⟩
abbrev s_relaxed : Stmt := topS 24
abbrev N_relaxed : List Str := ["facts", "values", "origins", "lowered", "place", "a", "b", "c"]
theorem sc_relaxed : FnScope N_relaxed ["facts", "values", "origins"] (defScope s_relaxed) := ⟨rfl, rfl, rfl, by decide +kernel, rfl, by decide +kernel, by decide +kernel⟩
abbrev s_ring_behind : Stmt := topS 25
abbrev N_ring_behind : List Str := ["count", "facts", "origins", "lowered", "start", "turn", "found", "place"]
theorem sc_ring_behind : FnScope N_ring_behind ["count", "facts", "origins", "lowered"] (defScope s_ring_behind) := ⟨rfl, rfl, rfl, by decide +kernel, rfl, by decide +kernel, by decide +kernel⟩
abbrev s_ring : Stmt := topS 26
abbrev N_ring : List Str := ["count", "facts", "values", "origins", "turn", "lowered"]
theorem sc_ring : FnScope N_ring ["count", "facts"] (defScope s_ring) := ⟨rfl, rfl, rfl, by decide +kernel, rfl, by decide +kernel, by decide +kernel⟩
abbrev s_solution : Stmt := topS 27
abbrev N_solution : List Str := ["count", "facts", "values", "origins", "turn"]
theorem sc_solution : FnScope N_solution ["count", "facts"] (defScope s_solution) := ⟨rfl, rfl, rfl, by decide +kernel, rfl, by decide +kernel, by decide +kernel⟩
abbrev s_bound : Stmt := topS 28
abbrev N_bound : List Str := ["count", "facts", "a", "b", "values", "origins"]
theorem sc_bound : FnScope N_bound ["count", "facts", "a", "b"] (defScope s_bound) := ⟨rfl, rfl, rfl, by decide +kernel, rfl, by decide +kernel, by decide +kernel⟩
abbrev s_law_open : Stmt := topS 30
abbrev N_law_open : List Str := ["_law_script", "_law_cells"]
theorem sc_law_open : FnScope N_law_open ["_law_script"] (defScope s_law_open) := ⟨rfl, rfl, rfl, by decide +kernel, rfl, by decide +kernel, by decide +kernel⟩
abbrev s_law_pick : Stmt := topS 31
abbrev N_law_pick : List Str := ["_law_box", "_law_many", "_law_cells", "_law_k", "_law_at", "_law_cell", "_law_number_here"]
theorem sc_law_pick : FnScope N_law_pick ["_law_box", "_law_many"] (defScope s_law_pick) := ⟨rfl, rfl, rfl, by decide +kernel, rfl, by decide +kernel, by decide +kernel⟩
abbrev s_law_number : Stmt := topS 32
abbrev N_law_number : List Str := ["_law_box", "_law_kind"]
theorem sc_law_number : FnScope N_law_number ["_law_box"] (defScope s_law_number) := ⟨rfl, rfl, rfl, by decide +kernel, rfl, by decide +kernel, by decide +kernel⟩
abbrev s_law_refusal : Stmt := topS 33
abbrev N_law_refusal : List Str := ["_law_deed", "_law_found", "e"]
theorem sc_law_refusal : FnScope N_law_refusal ["_law_deed"] (defScope s_law_refusal) := ⟨rfl, rfl, rfl, by decide +kernel, rfl, by decide +kernel, by decide +kernel⟩
abbrev s_law_equal : Stmt := topS 34
abbrev N_law_equal : List Str := ["_law_one", "_law_other", "_law_nested", "_law_k"]
theorem sc_law_equal : FnScope N_law_equal ["_law_one", "_law_other"] (defScope s_law_equal) := ⟨rfl, rfl, rfl, by decide +kernel, rfl, by decide +kernel, by decide +kernel⟩
abbrev s_law_facts : Stmt := topS 35
abbrev N_law_facts : List Str := ["_law_box", "_law_count", "_law_most", "_law_facts_here", "_law_k", "_law_a", "_law_b"]
theorem sc_law_facts : FnScope N_law_facts ["_law_box", "_law_count", "_law_most"] (defScope s_law_facts) := ⟨rfl, rfl, rfl, by decide +kernel, rfl, by decide +kernel, by decide +kernel⟩
abbrev s_law_wrong : Stmt := topS 36
abbrev N_law_wrong : List Str := ["_law_box", "_law_count", "_law_a", "_law_c", "_law_wrong_here"]
theorem sc_law_wrong : FnScope N_law_wrong ["_law_box", "_law_count"] (defScope s_law_wrong) := ⟨rfl, rfl, rfl, by decide +kernel, rfl, by decide +kernel, by decide +kernel⟩
abbrev s_law : Stmt := topS 37
abbrev N_law : List Str := ["_law_script", "_law_box", "_law_many", "_law_count", "_law_facts_here", "_law_places", "_law_k", "_law_due", "_law_a", "_law_b", "_law_at"]
theorem sc_law : FnScope N_law ["_law_script"] (defScope s_law) := ⟨rfl, rfl, rfl, by decide +kernel, rfl, by decide +kernel, by decide +kernel⟩
structure Df (K : PySem.W.Frag) (mg : Str → Option Value) (x : Str) (st : Stmt) (ps : List Str) where
  f : Addr
  fd : FuncData
  F : Fun K x x st f fd
  b : Binds K fd ps []
  g : mg x = some (.ref f)
structure Txt (P : Program) (K : PySem.W.Frag) (mg : Str → Option Value) where
  c_BadName : Addr
  g_BadName : mg "BadName" = some (.ref c_BadName)
  c_BadMoment : Addr
  g_BadMoment : mg "BadMoment" = some (.ref c_BadMoment)
  c_BadBound : Addr
  g_BadBound : mg "BadBound" = some (.ref c_BadBound)
  c_BadTerm : Addr
  g_BadTerm : mg "BadTerm" = some (.ref c_BadTerm)
  c_BadWay : Addr
  g_BadWay : mg "BadWay" = some (.ref c_BadWay)
  c_BadPath : Addr
  g_BadPath : mg "BadPath" = some (.ref c_BadPath)
  c_BadWorld : Addr
  g_BadWorld : mg "BadWorld" = some (.ref c_BadWorld)
  c_BadRows : Addr
  g_BadRows : mg "BadRows" = some (.ref c_BadRows)
  c_BadFact : Addr
  g_BadFact : mg "BadFact" = some (.ref c_BadFact)
  c_BadText : Addr
  g_BadText : mg "BadText" = some (.ref c_BadText)
  c_Unknown : Addr
  g_Unknown : mg "Unknown" = some (.ref c_Unknown)
  c_TooMany : Addr
  g_TooMany : mg "TooMany" = some (.ref c_TooMany)
  c_Unlike : Addr
  g_Unlike : mg "Unlike" = some (.ref c_Unlike)
  c_NotCovered : Addr
  g_NotCovered : mg "NotCovered" = some (.ref c_NotCovered)
  c_NotMost : Addr
  g_NotMost : mg "NotMost" = some (.ref c_NotMost)
  c_NotSettled : Addr
  g_NotSettled : mg "NotSettled" = some (.ref c_NotSettled)
  is_integer : Df K mg "is_integer" s_is_integer ["value"]
  is_fact : Df K mg "is_fact" s_is_fact ["count", "entry"]
  check_facts : Df K mg "check_facts" s_check_facts ["count", "facts"]
  relaxed : Df K mg "relaxed" s_relaxed ["facts", "values", "origins"]
  ring_behind : Df K mg "ring_behind" s_ring_behind ["count", "facts", "origins", "lowered"]
  ring : Df K mg "ring" s_ring ["count", "facts"]
  solution : Df K mg "solution" s_solution ["count", "facts"]
  bound : Df K mg "bound" s_bound ["count", "facts", "a", "b"]
  law_open : Df K mg "_law_open" s_law_open ["_law_script"]
  law_pick : Df K mg "_law_pick" s_law_pick ["_law_box", "_law_many"]
  law_number : Df K mg "_law_number" s_law_number ["_law_box"]
  law_refusal : Df K mg "_law_refusal" s_law_refusal ["_law_deed"]
  law_equal : Df K mg "_law_equal" s_law_equal ["_law_one", "_law_other"]
  law_facts : Df K mg "_law_facts" s_law_facts ["_law_box", "_law_count", "_law_most"]
  law_wrong : Df K mg "_law_wrong" s_law_wrong ["_law_box", "_law_count"]
  law : Df K mg "law" s_law ["_law_script"]
  BadFact_init : Md K "__init__" "BadFact.__init__" s_BadFact_init ["self", "place"]
  er_BadFact : ErrC K c_BadFact BadFact_init.f "place"
  em_BadFact_BadBound : PySem.W.exmOne K (.ref c_BadFact) (.ref c_BadBound) = some false
  em_BadFact_BadFact : PySem.W.exmOne K (.ref c_BadFact) (.ref c_BadFact) = some true
  em_BadFact_BadMoment : PySem.W.exmOne K (.ref c_BadFact) (.ref c_BadMoment) = some false
  em_BadFact_BadName : PySem.W.exmOne K (.ref c_BadFact) (.ref c_BadName) = some false
  em_BadFact_BadPath : PySem.W.exmOne K (.ref c_BadFact) (.ref c_BadPath) = some false
  em_BadFact_BadRows : PySem.W.exmOne K (.ref c_BadFact) (.ref c_BadRows) = some false
  em_BadFact_BadTerm : PySem.W.exmOne K (.ref c_BadFact) (.ref c_BadTerm) = some false
  em_BadFact_BadWay : PySem.W.exmOne K (.ref c_BadFact) (.ref c_BadWay) = some false
  em_BadFact_BadWorld : PySem.W.exmOne K (.ref c_BadFact) (.ref c_BadWorld) = some false
  lc_law : LamD K ("law", none) "law" "law" s_law law.f law.fd
  n_isinstance : mg "isinstance" = none
  n_bool : mg "bool" = none
  n_int : mg "int" = none
  n_all : mg "all" = none
  n_len : mg "len" = none
  n_tuple : mg "tuple" = none
  n_enumerate : mg "enumerate" = none
  n_range : mg "range" = none
  n_list : mg "list" = none
  n_str : mg "str" = none
  n_abs : mg "abs" = none
  n_min : mg "min" = none
-- BEGIN RUN
def loose : List Str := (["PastError", "BadName", "BadMoment", "BadBound", "BadTerm", "BadWay", "BadPath", "BadWorld", "BadRows", "BadFact", "BadText", "Unknown", "TooMany", "NoPaper", "Unlike", "NotCovered", "NotMost", "NotSettled", "is_integer", "is_fact", "check_facts", "relaxed", "ring_behind", "ring", "solution", "bound", "_law_open", "_law_pick", "_law_number", "_law_refusal"] : List Str) ++ (["_law_equal", "_law_facts", "_law_wrong"] : List Str)
def fns : List ObD := [⟨("is_integer", none), "is_integer", "is_integer", s_is_integer, []⟩,
  ⟨("is_fact", none), "is_fact", "is_fact", s_is_fact, []⟩,
  ⟨("check_facts", none), "check_facts", "check_facts", s_check_facts, []⟩,
  ⟨("relaxed", none), "relaxed", "relaxed", s_relaxed, []⟩,
  ⟨("ring_behind", none), "ring_behind", "ring_behind", s_ring_behind, []⟩,
  ⟨("ring", none), "ring", "ring", s_ring, []⟩,
  ⟨("solution", none), "solution", "solution", s_solution, []⟩,
  ⟨("bound", none), "bound", "bound", s_bound, []⟩,
  ⟨("_law_open", none), "_law_open", "_law_open", s_law_open, []⟩,
  ⟨("_law_pick", none), "_law_pick", "_law_pick", s_law_pick, []⟩,
  ⟨("_law_number", none), "_law_number", "_law_number", s_law_number, []⟩,
  ⟨("_law_refusal", none), "_law_refusal", "_law_refusal", s_law_refusal, []⟩,
  ⟨("_law_equal", none), "_law_equal", "_law_equal", s_law_equal, []⟩,
  ⟨("_law_facts", none), "_law_facts", "_law_facts", s_law_facts, []⟩,
  ⟨("_law_wrong", none), "_law_wrong", "_law_wrong", s_law_wrong, []⟩,
  ⟨("law", none), "law", "law", s_law, []⟩,
  ⟨("BadFact", some "__init__"), "__init__", "BadFact.__init__", s_BadFact_init, []⟩]
def cks0 : List (PySem.W.Frag → Bool) := [fun K => He.eqO (PySem.W.nsIn K mainGlobals "BadName") (some (some (.ref (He.ga K "BadName")))),
  fun K => He.eqO (PySem.W.nsIn K mainGlobals "BadMoment") (some (some (.ref (He.ga K "BadMoment")))),
  fun K => He.eqO (PySem.W.nsIn K mainGlobals "BadBound") (some (some (.ref (He.ga K "BadBound")))),
  fun K => He.eqO (PySem.W.nsIn K mainGlobals "BadTerm") (some (some (.ref (He.ga K "BadTerm")))),
  fun K => He.eqO (PySem.W.nsIn K mainGlobals "BadWay") (some (some (.ref (He.ga K "BadWay")))),
  fun K => He.eqO (PySem.W.nsIn K mainGlobals "BadPath") (some (some (.ref (He.ga K "BadPath")))),
  fun K => He.eqO (PySem.W.nsIn K mainGlobals "BadWorld") (some (some (.ref (He.ga K "BadWorld")))),
  fun K => He.eqO (PySem.W.nsIn K mainGlobals "BadRows") (some (some (.ref (He.ga K "BadRows")))),
  fun K => He.eqO (PySem.W.nsIn K mainGlobals "BadFact") (some (some (.ref (He.ga K "BadFact")))),
  fun K => He.eqO (PySem.W.nsIn K mainGlobals "BadText") (some (some (.ref (He.ga K "BadText")))),
  fun K => He.eqO (PySem.W.nsIn K mainGlobals "Unknown") (some (some (.ref (He.ga K "Unknown")))),
  fun K => He.eqO (PySem.W.nsIn K mainGlobals "TooMany") (some (some (.ref (He.ga K "TooMany")))),
  fun K => He.eqO (PySem.W.nsIn K mainGlobals "Unlike") (some (some (.ref (He.ga K "Unlike")))),
  fun K => He.eqO (PySem.W.nsIn K mainGlobals "NotCovered") (some (some (.ref (He.ga K "NotCovered")))),
  fun K => He.eqO (PySem.W.nsIn K mainGlobals "NotMost") (some (some (.ref (He.ga K "NotMost")))),
  fun K => He.eqO (PySem.W.nsIn K mainGlobals "NotSettled") (some (some (.ref (He.ga K "NotSettled")))),
  fun K => plB ("is_integer", none) "is_integer" K,
  fun K => He.eqO (PySem.W.nsIn K mainGlobals "is_integer") (some (some (.ref (He.ga K "is_integer")))),
  fun K => plB ("is_fact", none) "is_fact" K,
  fun K => He.eqO (PySem.W.nsIn K mainGlobals "is_fact") (some (some (.ref (He.ga K "is_fact")))),
  fun K => plB ("check_facts", none) "check_facts" K,
  fun K => He.eqO (PySem.W.nsIn K mainGlobals "check_facts") (some (some (.ref (He.ga K "check_facts")))),
  fun K => plB ("relaxed", none) "relaxed" K,
  fun K => He.eqO (PySem.W.nsIn K mainGlobals "relaxed") (some (some (.ref (He.ga K "relaxed")))),
  fun K => plB ("ring_behind", none) "ring_behind" K,
  fun K => He.eqO (PySem.W.nsIn K mainGlobals "ring_behind") (some (some (.ref (He.ga K "ring_behind")))),
  fun K => plB ("ring", none) "ring" K,
  fun K => He.eqO (PySem.W.nsIn K mainGlobals "ring") (some (some (.ref (He.ga K "ring")))),
  fun K => plB ("solution", none) "solution" K,
  fun K => He.eqO (PySem.W.nsIn K mainGlobals "solution") (some (some (.ref (He.ga K "solution")))),
  fun K => plB ("bound", none) "bound" K,
  fun K => He.eqO (PySem.W.nsIn K mainGlobals "bound") (some (some (.ref (He.ga K "bound")))),
  fun K => plB ("_law_open", none) "_law_open" K,
  fun K => He.eqO (PySem.W.nsIn K mainGlobals "_law_open") (some (some (.ref (He.ga K "_law_open")))),
  fun K => plB ("_law_pick", none) "_law_pick" K,
  fun K => He.eqO (PySem.W.nsIn K mainGlobals "_law_pick") (some (some (.ref (He.ga K "_law_pick")))),
  fun K => plB ("_law_number", none) "_law_number" K,
  fun K => He.eqO (PySem.W.nsIn K mainGlobals "_law_number") (some (some (.ref (He.ga K "_law_number")))),
  fun K => plB ("_law_refusal", none) "_law_refusal" K,
  fun K => He.eqO (PySem.W.nsIn K mainGlobals "_law_refusal") (some (some (.ref (He.ga K "_law_refusal")))),
  fun K => plB ("_law_equal", none) "_law_equal" K,
  fun K => He.eqO (PySem.W.nsIn K mainGlobals "_law_equal") (some (some (.ref (He.ga K "_law_equal")))),
  fun K => plB ("_law_facts", none) "_law_facts" K,
  fun K => He.eqO (PySem.W.nsIn K mainGlobals "_law_facts") (some (some (.ref (He.ga K "_law_facts")))),
  fun K => plB ("_law_wrong", none) "_law_wrong" K,
  fun K => He.eqO (PySem.W.nsIn K mainGlobals "_law_wrong") (some (some (.ref (He.ga K "_law_wrong")))),
  fun K => plB ("law", none) "law" K,
  fun K => He.eqO (PySem.W.nsIn K mainGlobals "law") (some (some (.ref (He.ga K "law")))),
  fun K => plB ("BadFact", some "__init__") "BadFact.__init__" K,
  fun K => oexB K (He.ga K "BadFact"),
  fun K => He.eqO (PySem.W.findIn K (.ref (He.ga K "BadFact")) "__setattr__") (some (some (.builtin "object.__setattr__"))),
  fun K => eqB (PySem.W.subIn K (.ref (He.ga K "BadFact")) (.type "BaseException")) (some true),
  fun K => decide (PySem.W.typeIn K (.ref (He.ga K "BadFact")) = some (.type "type")),
  fun K => PySem.W.keepIn K (.ref (He.ga K "BadFact")),
  fun K => He.eqO (PySem.W.findIn K (.ref (He.ga K "BadFact")) "__init__") (some (some (.ref (He.fAd K ("BadFact", some "__init__"))))),
  fun K => decide (PySem.W.typeIn K (.ref (He.fAd K ("BadFact", some "__init__"))) = some (.type "function")),
  fun K => He.eqO (PySem.W.findIn K (.ref (He.ga K "BadFact")) "place") (some none),
  fun K => xfB K (He.ga K "BadFact"),
  fun K => eqB (PySem.W.exmOne K (.ref (He.ga K "BadFact")) (.ref (He.ga K "BadBound"))) (some false),
  fun K => eqB (PySem.W.exmOne K (.ref (He.ga K "BadFact")) (.ref (He.ga K "BadFact"))) (some true)]
def cks1 : List (PySem.W.Frag → Bool) := [fun K => eqB (PySem.W.exmOne K (.ref (He.ga K "BadFact")) (.ref (He.ga K "BadMoment"))) (some false),
  fun K => eqB (PySem.W.exmOne K (.ref (He.ga K "BadFact")) (.ref (He.ga K "BadName"))) (some false),
  fun K => eqB (PySem.W.exmOne K (.ref (He.ga K "BadFact")) (.ref (He.ga K "BadPath"))) (some false),
  fun K => eqB (PySem.W.exmOne K (.ref (He.ga K "BadFact")) (.ref (He.ga K "BadRows"))) (some false),
  fun K => eqB (PySem.W.exmOne K (.ref (He.ga K "BadFact")) (.ref (He.ga K "BadTerm"))) (some false),
  fun K => eqB (PySem.W.exmOne K (.ref (He.ga K "BadFact")) (.ref (He.ga K "BadWay"))) (some false),
  fun K => eqB (PySem.W.exmOne K (.ref (He.ga K "BadFact")) (.ref (He.ga K "BadWorld"))) (some false),
  fun K => He.eqO (PySem.W.nsIn K mainGlobals "isinstance") (some none),
  fun K => He.eqO (PySem.W.nsIn K mainGlobals "bool") (some none),
  fun K => He.eqO (PySem.W.nsIn K mainGlobals "int") (some none),
  fun K => He.eqO (PySem.W.nsIn K mainGlobals "all") (some none),
  fun K => He.eqO (PySem.W.nsIn K mainGlobals "len") (some none),
  fun K => He.eqO (PySem.W.nsIn K mainGlobals "tuple") (some none),
  fun K => He.eqO (PySem.W.nsIn K mainGlobals "enumerate") (some none),
  fun K => He.eqO (PySem.W.nsIn K mainGlobals "range") (some none),
  fun K => He.eqO (PySem.W.nsIn K mainGlobals "list") (some none),
  fun K => He.eqO (PySem.W.nsIn K mainGlobals "str") (some none),
  fun K => He.eqO (PySem.W.nsIn K mainGlobals "abs") (some none),
  fun K => He.eqO (PySem.W.nsIn K mainGlobals "min") (some none)]
def css : List (List (PySem.W.Frag → Bool)) := [cks0, cks1]
abbrev Rw : PySem.W.OpenRow := PySem.W.OpenLaw.row PySem.Challenge.rw_pastlooks_k39_wrong_facts
def asL0 : List Addr := [3, 2, 6, 4, 24, 44, 63, 82, 101, 120, 139, 158, 177, 196, 215, 234, 246, 258, 270, 282, 294, 306, 315, 320, 327, 334, 341, 348, 355, 362, 369, 376, 383, 390, 397, 404, 411, 418, 0, 23, 43, 62, 81, 100, 119, 138, 157, 176, 195, 214, 233, 245, 257, 269, 281, 293, 305, 314, 319, 326, 333, 340, 347, 354, 361, 368, 375, 382, 389, 396, 403, 410, 417, 22, 25, 41, 42, 60, 61, 79, 80, 98, 99, 117, 118, 136, 137, 155, 156, 174, 175, 193, 194, 212, 213, 231, 232, 244, 256, 268]
def asL1 : List Addr := [280, 292, 304, 309, 310, 311, 312, 313, 316, 317, 318, 321, 322, 323, 324, 325, 328, 329, 330, 331, 332, 335, 336, 337, 338, 339, 342, 343, 344, 345, 346, 349, 350, 351, 352, 353, 356, 357, 358, 359, 360, 363, 364, 365, 366, 367, 370, 371, 372, 373, 374, 377, 378, 379, 380, 381, 384, 385, 386, 387, 388, 391, 392, 393, 394, 395, 398, 399, 400, 401, 402, 405, 406, 407, 408, 409, 412, 414, 415, 416, 40, 59, 78, 97, 116, 135, 154, 173, 192, 211, 230, 35, 36, 37, 38, 39, 54, 55, 56, 57]
def asL2 : List Addr := [58, 73, 74, 75, 76, 77, 92, 93, 94, 95, 96, 111, 112, 113, 114, 115, 130, 131, 132, 133, 134, 149, 150, 151, 152, 153, 168, 169, 170, 171, 172, 187, 188, 189, 190, 191, 206, 207, 208, 209, 210, 225, 226, 227, 228, 229]
def asL : List Addr := asL0 ++ asL1 ++ asL2
def tabs : List (Str × Option Str) := [("law", none)]
def asT : List Addr := [413]
abbrev hk : PySem.W.Hook := hookT asL asT css.flatten fns tabs
def ob (s : PySem.W.SharedT) : AlT := (obsPG asL css.flatten fns (HandSHeadRun.getT s), tabs.all (tabB1 (He.frG (HandSHeadRun.getT s) asL) (He.frG (HandSHeadRun.getT s) asT)))
theorem ob_eq (s : PySem.W.SharedT) : ob s = hk.obs s.abs := obsTG_eq (HandSHeadRun.getT_eq s)
abbrev kf2 (s : PySem.W.SharedT) : PySem.W.Frag := He.frG (HandSHeadRun.getT s) asT
abbrev kf (s : PySem.W.SharedT) : PySem.W.Frag := He.frG (HandSHeadRun.getT s) asL
noncomputable abbrev En (w : World) (os : OsState) : Option PySem.W.SharedT := HandSHeadRun.endF (HandSHeadRun.stepQ (HandSHeadRun.denQ HandSHeadRun.tabQ) Rw.prog w) 60000 Rw.prog w os
abbrev qv : Program := PySem.W.view Rw.prog [37]
open PySem.W in
theorem run0 (w : World) (os : OsState) : (En w os).map (fun s => (HandSHeadRun.looksF Rw.prog (boot_heap w.params) s.abs, HandSHeadRun.seenQ qv loose (importedModules Rw.prog.main.body) (fun s => xlAt qv [] s && recOk Rw.toRowW.records s) s.abs)) = some (true, openGood qv loose) := by
  kernel_rfl
theorem runF (w : World) (os : OsState) : (En w os).map (fun s => fns.map fun d => fnOb (kf s) d.at_) = some (fns.map ObD.val) := by
  kernel_rfl
theorem runC0 (w : World) (os : OsState) : (En w os).map (fun s => cks0.all fun f => f (kf s)) = some true := by
  kernel_rfl
theorem runC1 (w : World) (os : OsState) : (En w os).map (fun s => cks1.all fun f => f (kf s)) = some true := by
  kernel_rfl
theorem runT (w : World) (os : OsState) : (En w os).map (fun s => tabs.all (tabB1 (kf s) (kf2 s))) = some true := by
  kernel_rfl
theorem run (w : World) : HandSHeadRun.RunEq Rw qv hk ob 60000 loose w := by
  intro os
  refine run_joinT (css := css) (fn := fns) (ts := tabs) (kf := kf) (kf2 := kf2) (run0 w os) (runF w os) (fun c hc => ?_) (runT w os)
  simp only [css, List.mem_cons, List.not_mem_nil, or_false] at hc
  rcases hc with rfl | rfl
  · exact runC0 w os
  · exact runC1 w os
set_option maxHeartbeats 40000000 in
theorem facts {K : PySem.W.Frag} {h : Heap} {mg : Str → Option Value} {fa : Addr} (X : K.In h) (G : h.Ns mainGlobals mg) (hfa : mg "law" = some (.ref fa)) {K2 : PySem.W.Frag} (ct : SaysT css.flatten fns tabs K K2) :
    ∃ T : Txt PySem.Challenge.rw_pastlooks_k39_wrong_facts.prog K mg, T.law.f = fa ∧ ∀ (s : Shared) (v : Value), BindsTo s T.law.fd ⟨[v], []⟩ [("_law_script", v)] := by
  have c := ct.p
  have e := hfa.symm.trans (PySem.W.mg_of X G (He.eqO_ok (c.ck2 0 47 rfl rfl)))
  cases e
  obtain ⟨fd0, F0⟩ := ob_fun (c.de 0 (d := ⟨("is_integer", none), "is_integer", "is_integer", s_is_integer, []⟩) rfl) rfl (c.ck2 0 16 rfl rfl)
  have b0 := F0.binds (ps := ["value"]) fun _ _ _ _ _ _ us hl => match us, hl with | [_], _ => rfl
  obtain ⟨fd1, F1⟩ := ob_fun (c.de 1 (d := ⟨("is_fact", none), "is_fact", "is_fact", s_is_fact, []⟩) rfl) rfl (c.ck2 0 18 rfl rfl)
  have b1 := F1.binds (ps := ["count", "entry"]) fun _ _ _ _ _ _ us hl => match us, hl with | [_, _], _ => rfl
  obtain ⟨fd2, F2⟩ := ob_fun (c.de 2 (d := ⟨("check_facts", none), "check_facts", "check_facts", s_check_facts, []⟩) rfl) rfl (c.ck2 0 20 rfl rfl)
  have b2 := F2.binds (ps := ["count", "facts"]) fun _ _ _ _ _ _ us hl => match us, hl with | [_, _], _ => rfl
  obtain ⟨fd3, F3⟩ := ob_fun (c.de 3 (d := ⟨("relaxed", none), "relaxed", "relaxed", s_relaxed, []⟩) rfl) rfl (c.ck2 0 22 rfl rfl)
  have b3 := F3.binds (ps := ["facts", "values", "origins"]) fun _ _ _ _ _ _ us hl => match us, hl with | [_, _, _], _ => rfl
  obtain ⟨fd4, F4⟩ := ob_fun (c.de 4 (d := ⟨("ring_behind", none), "ring_behind", "ring_behind", s_ring_behind, []⟩) rfl) rfl (c.ck2 0 24 rfl rfl)
  have b4 := F4.binds (ps := ["count", "facts", "origins", "lowered"]) fun _ _ _ _ _ _ us hl => match us, hl with | [_, _, _, _], _ => rfl
  obtain ⟨fd5, F5⟩ := ob_fun (c.de 5 (d := ⟨("ring", none), "ring", "ring", s_ring, []⟩) rfl) rfl (c.ck2 0 26 rfl rfl)
  have b5 := F5.binds (ps := ["count", "facts"]) fun _ _ _ _ _ _ us hl => match us, hl with | [_, _], _ => rfl
  obtain ⟨fd6, F6⟩ := ob_fun (c.de 6 (d := ⟨("solution", none), "solution", "solution", s_solution, []⟩) rfl) rfl (c.ck2 0 28 rfl rfl)
  have b6 := F6.binds (ps := ["count", "facts"]) fun _ _ _ _ _ _ us hl => match us, hl with | [_, _], _ => rfl
  obtain ⟨fd7, F7⟩ := ob_fun (c.de 7 (d := ⟨("bound", none), "bound", "bound", s_bound, []⟩) rfl) rfl (c.ck2 0 30 rfl rfl)
  have b7 := F7.binds (ps := ["count", "facts", "a", "b"]) fun _ _ _ _ _ _ us hl => match us, hl with | [_, _, _, _], _ => rfl
  obtain ⟨fd8, F8⟩ := ob_fun (c.de 8 (d := ⟨("_law_open", none), "_law_open", "_law_open", s_law_open, []⟩) rfl) rfl (c.ck2 0 32 rfl rfl)
  have b8 := F8.binds (ps := ["_law_script"]) fun _ _ _ _ _ _ us hl => match us, hl with | [_], _ => rfl
  obtain ⟨fd9, F9⟩ := ob_fun (c.de 9 (d := ⟨("_law_pick", none), "_law_pick", "_law_pick", s_law_pick, []⟩) rfl) rfl (c.ck2 0 34 rfl rfl)
  have b9 := F9.binds (ps := ["_law_box", "_law_many"]) fun _ _ _ _ _ _ us hl => match us, hl with | [_, _], _ => rfl
  obtain ⟨fd10, F10⟩ := ob_fun (c.de 10 (d := ⟨("_law_number", none), "_law_number", "_law_number", s_law_number, []⟩) rfl) rfl (c.ck2 0 36 rfl rfl)
  have b10 := F10.binds (ps := ["_law_box"]) fun _ _ _ _ _ _ us hl => match us, hl with | [_], _ => rfl
  obtain ⟨fd11, F11⟩ := ob_fun (c.de 11 (d := ⟨("_law_refusal", none), "_law_refusal", "_law_refusal", s_law_refusal, []⟩) rfl) rfl (c.ck2 0 38 rfl rfl)
  have b11 := F11.binds (ps := ["_law_deed"]) fun _ _ _ _ _ _ us hl => match us, hl with | [_], _ => rfl
  obtain ⟨fd12, F12⟩ := ob_fun (c.de 12 (d := ⟨("_law_equal", none), "_law_equal", "_law_equal", s_law_equal, []⟩) rfl) rfl (c.ck2 0 40 rfl rfl)
  have b12 := F12.binds (ps := ["_law_one", "_law_other"]) fun _ _ _ _ _ _ us hl => match us, hl with | [_, _], _ => rfl
  obtain ⟨fd13, F13⟩ := ob_fun (c.de 13 (d := ⟨("_law_facts", none), "_law_facts", "_law_facts", s_law_facts, []⟩) rfl) rfl (c.ck2 0 42 rfl rfl)
  have b13 := F13.binds (ps := ["_law_box", "_law_count", "_law_most"]) fun _ _ _ _ _ _ us hl => match us, hl with | [_, _, _], _ => rfl
  obtain ⟨fd14, F14⟩ := ob_fun (c.de 14 (d := ⟨("_law_wrong", none), "_law_wrong", "_law_wrong", s_law_wrong, []⟩) rfl) rfl (c.ck2 0 44 rfl rfl)
  have b14 := F14.binds (ps := ["_law_box", "_law_count"]) fun _ _ _ _ _ _ us hl => match us, hl with | [_, _], _ => rfl
  obtain ⟨fd15, F15⟩ := ob_fun (c.de 15 (d := ⟨("law", none), "law", "law", s_law, []⟩) rfl) rfl (c.ck2 0 46 rfl rfl)
  have b15 := F15.binds (ps := ["_law_script"]) fun _ _ _ _ _ _ us hl => match us, hl with | [_], _ => rfl
  obtain ⟨fd16, F16⟩ := ob_fun (c.de 16 (d := ⟨("BadFact", some "__init__"), "__init__", "BadFact.__init__", s_BadFact_init, []⟩) rfl) rfl (c.ck2 0 48 rfl rfl)
  have b16 := F16.binds (ps := ["self", "place"]) fun _ _ _ _ _ _ us hl => match us, hl with | [_, _], _ => rfl
  obtain ⟨fd15', F15', FC15⟩ := ob_funC (c.de 15 (d := ⟨("law", none), "law", "law", s_law, []⟩) rfl) rfl (c.ck2 0 46 rfl rfl) (ct.t (a := ("law", none)) (by simp [tabs])).1
  have ef15 : fd15' = fd15 := by obtain ⟨_, _, _, _, _, _, _, _, _, e1, e2, _⟩ := F15'.ex; obtain ⟨_, _, _, _, _, _, _, _, _, e3, e4, _⟩ := F15.ex; rw [e2] at e4; have e5 := congrArg Obj.data (Option.some.inj e4); simp only [Data.func.injEq] at e5; exact e5
  rw [ef15] at FC15
  have bl : ∀ (s : Shared) (v : Value), BindsTo s fd15 ⟨[v], []⟩ [("_law_script", v)] := by
    obtain ⟨_, _, _, _, _, _, _, _, _, e, _⟩ := F15.ex
    rw [e]
    exact fun s v => .of_eq rfl
  exact ⟨⟨(He.ga K "BadName"),
    PySem.W.mg_of X G (He.eqO_ok (c.ck2 0 0 rfl rfl)),
    (He.ga K "BadMoment"),
    PySem.W.mg_of X G (He.eqO_ok (c.ck2 0 1 rfl rfl)),
    (He.ga K "BadBound"),
    PySem.W.mg_of X G (He.eqO_ok (c.ck2 0 2 rfl rfl)),
    (He.ga K "BadTerm"),
    PySem.W.mg_of X G (He.eqO_ok (c.ck2 0 3 rfl rfl)),
    (He.ga K "BadWay"),
    PySem.W.mg_of X G (He.eqO_ok (c.ck2 0 4 rfl rfl)),
    (He.ga K "BadPath"),
    PySem.W.mg_of X G (He.eqO_ok (c.ck2 0 5 rfl rfl)),
    (He.ga K "BadWorld"),
    PySem.W.mg_of X G (He.eqO_ok (c.ck2 0 6 rfl rfl)),
    (He.ga K "BadRows"),
    PySem.W.mg_of X G (He.eqO_ok (c.ck2 0 7 rfl rfl)),
    (He.ga K "BadFact"),
    PySem.W.mg_of X G (He.eqO_ok (c.ck2 0 8 rfl rfl)),
    (He.ga K "BadText"),
    PySem.W.mg_of X G (He.eqO_ok (c.ck2 0 9 rfl rfl)),
    (He.ga K "Unknown"),
    PySem.W.mg_of X G (He.eqO_ok (c.ck2 0 10 rfl rfl)),
    (He.ga K "TooMany"),
    PySem.W.mg_of X G (He.eqO_ok (c.ck2 0 11 rfl rfl)),
    (He.ga K "Unlike"),
    PySem.W.mg_of X G (He.eqO_ok (c.ck2 0 12 rfl rfl)),
    (He.ga K "NotCovered"),
    PySem.W.mg_of X G (He.eqO_ok (c.ck2 0 13 rfl rfl)),
    (He.ga K "NotMost"),
    PySem.W.mg_of X G (He.eqO_ok (c.ck2 0 14 rfl rfl)),
    (He.ga K "NotSettled"),
    PySem.W.mg_of X G (He.eqO_ok (c.ck2 0 15 rfl rfl)),
    ⟨(He.fAd K ("is_integer", none)), fd0, F0, b0, PySem.W.mg_of X G (He.eqO_ok (c.ck2 0 17 rfl rfl))⟩,
    ⟨(He.fAd K ("is_fact", none)), fd1, F1, b1, PySem.W.mg_of X G (He.eqO_ok (c.ck2 0 19 rfl rfl))⟩,
    ⟨(He.fAd K ("check_facts", none)), fd2, F2, b2, PySem.W.mg_of X G (He.eqO_ok (c.ck2 0 21 rfl rfl))⟩,
    ⟨(He.fAd K ("relaxed", none)), fd3, F3, b3, PySem.W.mg_of X G (He.eqO_ok (c.ck2 0 23 rfl rfl))⟩,
    ⟨(He.fAd K ("ring_behind", none)), fd4, F4, b4, PySem.W.mg_of X G (He.eqO_ok (c.ck2 0 25 rfl rfl))⟩,
    ⟨(He.fAd K ("ring", none)), fd5, F5, b5, PySem.W.mg_of X G (He.eqO_ok (c.ck2 0 27 rfl rfl))⟩,
    ⟨(He.fAd K ("solution", none)), fd6, F6, b6, PySem.W.mg_of X G (He.eqO_ok (c.ck2 0 29 rfl rfl))⟩,
    ⟨(He.fAd K ("bound", none)), fd7, F7, b7, PySem.W.mg_of X G (He.eqO_ok (c.ck2 0 31 rfl rfl))⟩,
    ⟨(He.fAd K ("_law_open", none)), fd8, F8, b8, PySem.W.mg_of X G (He.eqO_ok (c.ck2 0 33 rfl rfl))⟩,
    ⟨(He.fAd K ("_law_pick", none)), fd9, F9, b9, PySem.W.mg_of X G (He.eqO_ok (c.ck2 0 35 rfl rfl))⟩,
    ⟨(He.fAd K ("_law_number", none)), fd10, F10, b10, PySem.W.mg_of X G (He.eqO_ok (c.ck2 0 37 rfl rfl))⟩,
    ⟨(He.fAd K ("_law_refusal", none)), fd11, F11, b11, PySem.W.mg_of X G (He.eqO_ok (c.ck2 0 39 rfl rfl))⟩,
    ⟨(He.fAd K ("_law_equal", none)), fd12, F12, b12, PySem.W.mg_of X G (He.eqO_ok (c.ck2 0 41 rfl rfl))⟩,
    ⟨(He.fAd K ("_law_facts", none)), fd13, F13, b13, PySem.W.mg_of X G (He.eqO_ok (c.ck2 0 43 rfl rfl))⟩,
    ⟨(He.fAd K ("_law_wrong", none)), fd14, F14, b14, PySem.W.mg_of X G (He.eqO_ok (c.ck2 0 45 rfl rfl))⟩,
    ⟨(He.fAd K ("law", none)), fd15, F15, b15, PySem.W.mg_of X G (He.eqO_ok (c.ck2 0 47 rfl rfl))⟩,
    ⟨(He.fAd K ("BadFact", some "__init__")), fd16, F16, b16⟩,
    ⟨⟨oexB_ok (c.ck2 0 49 rfl rfl), (He.eqO_ok (c.ck2 0 50 rfl rfl)), (eqB_ok (c.ck2 0 51 rfl rfl)), of_decide_eq_true (c.ck2 0 52 rfl rfl), (c.ck2 0 53 rfl rfl)⟩, (He.eqO_ok (c.ck2 0 54 rfl rfl)), of_decide_eq_true (c.ck2 0 55 rfl rfl), (He.eqO_ok (c.ck2 0 56 rfl rfl)), xfB_ok (c.ck2 0 57 rfl rfl)⟩,
    (eqB_ok (c.ck2 0 58 rfl rfl)),
    (eqB_ok (c.ck2 0 59 rfl rfl)),
    (eqB_ok (c.ck2 1 0 rfl rfl)),
    (eqB_ok (c.ck2 1 1 rfl rfl)),
    (eqB_ok (c.ck2 1 2 rfl rfl)),
    (eqB_ok (c.ck2 1 3 rfl rfl)),
    (eqB_ok (c.ck2 1 4 rfl rfl)),
    (eqB_ok (c.ck2 1 5 rfl rfl)),
    (eqB_ok (c.ck2 1 6 rfl rfl)),
    ⟨cdA K ("law", none), cdP K ("law", none), rfl, rfl, FC15⟩,
    PySem.W.mg_none_of X G (He.eqO_ok (c.ck2 1 7 rfl rfl)),
    PySem.W.mg_none_of X G (He.eqO_ok (c.ck2 1 8 rfl rfl)),
    PySem.W.mg_none_of X G (He.eqO_ok (c.ck2 1 9 rfl rfl)),
    PySem.W.mg_none_of X G (He.eqO_ok (c.ck2 1 10 rfl rfl)),
    PySem.W.mg_none_of X G (He.eqO_ok (c.ck2 1 11 rfl rfl)),
    PySem.W.mg_none_of X G (He.eqO_ok (c.ck2 1 12 rfl rfl)),
    PySem.W.mg_none_of X G (He.eqO_ok (c.ck2 1 13 rfl rfl)),
    PySem.W.mg_none_of X G (He.eqO_ok (c.ck2 1 14 rfl rfl)),
    PySem.W.mg_none_of X G (He.eqO_ok (c.ck2 1 15 rfl rfl)),
    PySem.W.mg_none_of X G (He.eqO_ok (c.ck2 1 16 rfl rfl)),
    PySem.W.mg_none_of X G (He.eqO_ok (c.ck2 1 17 rfl rfl)),
    PySem.W.mg_none_of X G (He.eqO_ok (c.ck2 1 18 rfl rfl))⟩, rfl, bl⟩
-- END RUN
-- LAWIX: 37
end Pl

set_option linter.all false
namespace BF
abbrev Fact := Nat × Nat × Int
def fupd {α : Type} (f : Nat → α) (a : Nat) (x : α) : Nat → α := fun i => if i = a then x else f i
theorem fupd_same {α : Type} {f : Nat → α} {a : Nat} {x : α} : fupd f a x a = x := by unfold fupd; rw [if_pos rfl]
theorem fupd_ne {α : Type} {f : Nat → α} {a i : Nat} {x : α} (h : i ≠ a) : fupd f a x i = f i := by unfold fupd; rw [if_neg h]
structure St where
  V : Nat → Option Int
  O : Nat → Option Nat
  L : Option Nat
def need (V : Nat → Option Int) (f : Fact) : Bool :=
  match V f.2.1 with
  | none => false
  | some y => match V f.1 with
    | none => true
    | some x => decide (y + f.2.2 < x)
def newv (V : Nat → Option Int) (f : Fact) : Int :=
  match V f.2.1 with
  | none => 0
  | some y => y + f.2.2
def stp (s : St) (p : Nat) (f : Fact) : St :=
  if need s.V f then ⟨fupd s.V f.1 (some (newv s.V f)), fupd s.O f.1 (some p), some f.1⟩ else s
def runFrom : Nat → List Fact → St → St
  | _, [], s => s
  | i, f :: r, s => runFrom (i + 1) r (stp s i f)
def round (fs : List Fact) (s : St) : St := runFrom 0 fs { s with L := none }
theorem runFrom_snoc : ∀ (fs : List Fact) (i : Nat) (s : St) (f : Fact), runFrom i (fs ++ [f]) s = stp (runFrom i fs s) (i + fs.length) f
  | [], i, s, f => rfl
  | g :: r, i, s, f => by
    show runFrom (i + 1) (r ++ [f]) (stp s i g) = stp (runFrom (i + 1) r (stp s i g)) (i + (r.length + 1)) f
    rw [runFrom_snoc r (i + 1) (stp s i g) f]
    congr 1
    omega
theorem runFrom_take {fs : List Fact} {i : Nat} {f : Fact} (h : fs[i]? = some f) (s : St) : runFrom 0 (fs.take (i + 1)) s = stp (runFrom 0 (fs.take i) s) i f := by
  have hl : i < fs.length := (List.getElem?_eq_some_iff.mp h).1
  have e : fs.take (i + 1) = fs.take i ++ [f] := by
    rw [List.take_add_one, h]
    rfl
  rw [e, runFrom_snoc]
  congr 1
  rw [List.length_take]
  omega
/-! ### walks along the origins -/
inductive Wk (fs : List Fact) (O : Nat → Option Nat) : Nat → Nat → Nat → Int → Prop
  | nil (v : Nat) : Wk fs O v 0 v 0
  | cons {v p w u n : Nat} {c s : Int} : O v = some p → fs[p]? = some (v, w, c) → Wk fs O w n u s → Wk fs O v (n + 1) u (c + s)
structure Inv (fs : List Fact) (k i : Nat) (V : Nat → Option Int) (O : Nat → Option Nat) (R : Nat → Nat) : Prop where
  o : ∀ v p, O v = some p → ∃ u c x y, fs[p]? = some (v, u, c) ∧ V v = some x ∧ V u = some y ∧ y + c ≤ x
  neg : ∀ v n s, 0 < n → Wk fs O v n v s → s < 0
  j : ∀ v, 0 < R v → ∃ p u c, O v = some p ∧ fs[p]? = some (v, u, c) ∧ R v ≤ R u + 1
  s : ∀ j v u c, fs[j]? = some (v, u, c) → need V (v, u, c) = true → k ≤ R u + (if j < i then 0 else 1)
  m : ∀ v, R v ≤ k
theorem need_iff {V : Nat → Option Int} {a b : Nat} {c : Int} : need V (a, b, c) = true ↔ ∃ y, V b = some y ∧ ∀ x, V a = some x → y + c < x := by
  unfold need
  show (match V b with | none => false | some y => match V a with | none => true | some x => decide (y + c < x)) = true ↔ _
  cases hb : V b with
  | none => simp
  | some y =>
    cases ha : V a with
    | none => simp
    | some x => simp
theorem newv_of {V : Nat → Option Int} {a b : Nat} {c y : Int} (h : V b = some y) : newv V (a, b, c) = y + c := by
  unfold newv
  show (match V b with | none => 0 | some y => y + c) = y + c
  rw [h]
theorem stp_inv {fs : List Fact} {k i : Nat} {s : St} {R : Nat → Nat} {f : Fact} (I : Inv fs k i s.V s.O R) (hk : 1 ≤ k) (hf : fs[i]? = some f) (hL : ∀ x, s.L = some x → R x = k) :
    ∃ R', Inv fs k (i + 1) (stp s i f).V (stp s i f).O R' ∧ ∀ x, (stp s i f).L = some x → R' x = k := by
  obtain ⟨a, b, c⟩ := f
  by_cases hn : need s.V (a, b, c) = true
  · obtain ⟨y, hy, hx⟩ := need_iff.mp hn
    have ev := newv_of (a := a) (c := c) hy
    have es : stp s i (a, b, c) = ⟨fupd s.V a (some (y + c)), fupd s.O a (some i), some a⟩ := by
      unfold stp
      rw [if_pos hn, ev]
    rw [es]
    show ∃ R', Inv fs k (i + 1) (fupd s.V a (some (y + c))) (fupd s.O a (some i)) R' ∧ ∀ x, some a = some x → R' x = k
    have hVa : fupd s.V a (some (y + c)) a = some (y + c) := fupd_same
    have hVn : ∀ v, v ≠ a → fupd s.V a (some (y + c)) v = s.V v := fun v h => fupd_ne h
    have hOn : ∀ v, v ≠ a → fupd s.O a (some i) v = s.O v := fun v h => fupd_ne h
    have hself : b = a → c < 0 := fun e => by
      subst e
      have := hx y hy
      omega
    -- o
    have ho : ∀ v p, fupd s.O a (some i) v = some p → ∃ u c' x' y', fs[p]? = some (v, u, c') ∧ fupd s.V a (some (y + c)) v = some x' ∧ fupd s.V a (some (y + c)) u = some y' ∧ y' + c' ≤ x' := by
      intro v p hp
      by_cases hv : v = a
      · subst hv
        rw [fupd_same] at hp
        cases hp
        by_cases hb : b = v
        · have := hself hb
          subst hb
          exact ⟨b, c, _, _, hf, fupd_same, fupd_same, by omega⟩
        · exact ⟨b, c, _, _, hf, fupd_same, (fupd_ne hb).trans hy, by omega⟩
      · rw [fupd_ne hv] at hp
        obtain ⟨u, c', x', y', h1, h2, h3, h4⟩ := I.o v p hp
        by_cases hu : u = a
        · subst hu
          exact ⟨u, c', x', _, h1, (fupd_ne hv).trans h2, fupd_same, by have := hx _ h3; omega⟩
        · exact ⟨u, c', x', y', h1, (fupd_ne hv).trans h2, (fupd_ne hu).trans h3, h4⟩
    have wle : ∀ v n u s', Wk fs (fupd s.O a (some i)) v n u s' → ∀ x, fupd s.V a (some (y + c)) v = some x → ∃ z, fupd s.V a (some (y + c)) u = some z ∧ z + s' ≤ x := by
      intro v n u s' hw
      induction hw with
      | nil v => intro x h; exact ⟨x, h, by omega⟩
      | cons h1 h2 h3 ih =>
        intro x h
        obtain ⟨u', c', x', y', g1, g2, g3, g4⟩ := ho _ _ h1
        rw [h2] at g1
        injection g1 with g1
        injection g1 with _ g1
        injection g1 with g1 g1'
        subst g1 g1'
        rw [h] at g2
        cases g2
        obtain ⟨z, z1, z2⟩ := ih _ g3
        exact ⟨z, z1, by omega⟩
    have spl : ∀ v n u s', Wk fs (fupd s.O a (some i)) v n u s' → v ≠ a → ∀ x, fupd s.V a (some (y + c)) v = some x → (Wk fs s.O v n u s' ∧ u ≠ a) ∨ ∃ z, fupd s.V a (some (y + c)) u = some z ∧ z + s' < x := by
      intro v n u s' hw
      induction hw with
      | nil v => intro h x _; exact .inl ⟨.nil v, h⟩
      | @cons v p w u n c' s' h1 h2 h3 ih =>
        intro hv x h
        have h1' := h1
        rw [fupd_ne hv] at h1'
        obtain ⟨u', c'', x', y', g1, g2, g3, g4⟩ := I.o _ _ h1'
        rw [h2] at g1
        injection g1 with g1
        injection g1 with _ g1
        injection g1 with g1 g1'
        subst g1 g1'
        rw [fupd_ne hv, g2] at h
        cases h
        by_cases hw : w = a
        · subst hw
          obtain ⟨z, z1, z2⟩ := wle _ _ _ _ h3 _ fupd_same
          refine .inr ⟨z, z1, ?_⟩
          have := hx _ g3
          omega
        · have g3' := (fupd_ne (f := s.V) (x := some (y + c)) hw).trans g3
          rcases ih hw _ g3' with ⟨q1, q2⟩ | ⟨z, z1, z2⟩
          · exact .inl ⟨.cons h1' h2 q1, q2⟩
          · exact .inr ⟨z, z1, by omega⟩
    refine ⟨fupd R a k, ⟨ho, ?_, ?_, ?_, ?_⟩, ?_⟩
    · intro v n s' hn0 hw
      by_cases hv : v = a
      · subst hv
        cases hw with
        | nil => exact absurd hn0 (Nat.lt_irrefl 0)
        | @cons _ p w _ n c' s1 h1 h2 h3 =>
          rw [fupd_same] at h1
          cases h1
          rw [hf] at h2
          injection h2 with h2
          injection h2 with _ h2
          injection h2 with h2 h2'
          subst h2 h2'
          by_cases hb : b = v
          · have hc := hself hb
            subst hb
            obtain ⟨z, z1, z2⟩ := wle _ _ _ _ h3 _ fupd_same
            rw [fupd_same] at z1
            cases z1
            omega
          · rcases spl _ _ _ _ h3 hb _ ((fupd_ne hb).trans hy) with ⟨_, q⟩ | ⟨z, z1, z2⟩
            · exact absurd rfl q
            · rw [fupd_same] at z1
              cases z1
              omega
      · have hvo : ∃ x, fupd s.V a (some (y + c)) v = some x := by
          cases hw with
          | nil => exact absurd hn0 (Nat.lt_irrefl 0)
          | cons h1 h2 h3 =>
            obtain ⟨_, _, x', _, _, g2, _⟩ := ho _ _ h1
            exact ⟨x', g2⟩
        obtain ⟨x, hx'⟩ := hvo
        rcases spl _ _ _ _ hw hv _ hx' with ⟨q, _⟩ | ⟨z, z1, z2⟩
        · exact I.neg v n s' hn0 q
        · rw [hx'] at z1
          cases z1
          omega
    · intro v hv
      by_cases e : v = a
      · subst e
        refine ⟨i, b, c, fupd_same, hf, ?_⟩
        have h1 := I.s i v b c hf hn
        rw [if_neg (Nat.lt_irrefl i)] at h1
        rw [fupd_same]
        by_cases hb : b = v
        · subst hb; rw [fupd_same]; omega
        · rw [fupd_ne hb]; omega
      · rw [fupd_ne e] at hv
        obtain ⟨p, u, c', h1, h2, h3⟩ := I.j v hv
        refine ⟨p, u, c', (fupd_ne e).trans h1, h2, ?_⟩
        rw [fupd_ne e]
        by_cases hu : u = a
        · subst hu; rw [fupd_same]; have := I.m u; have := I.m v; omega
        · rw [fupd_ne hu]; exact h3
    · intro j v u c' hj hnd
      by_cases hu : u = a
      · subst hu; rw [fupd_same]; omega
      · rw [fupd_ne hu]
        obtain ⟨yu, h1, h2⟩ := need_iff.mp hnd
        rw [fupd_ne hu] at h1
        have hold : need s.V (v, u, c') = true := need_iff.mpr ⟨yu, h1, fun x hxv => by
          by_cases hv : v = a
          · subst hv
            have := h2 _ fupd_same
            have := hx _ hxv
            omega
          · exact h2 x ((fupd_ne hv).trans hxv)⟩
        have h3 := I.s j v u c' hj hold
        by_cases hlt : j < i
        · rw [if_pos hlt] at h3
          rw [if_pos (by omega)]
          exact h3
        · by_cases hji : j = i
          · subst hji
            rw [hf] at hj
            injection hj with hj
            injection hj with e1 hj
            injection hj with e2 e3
            subst e1 e2 e3
            have := h2 _ fupd_same
            rw [hy] at h1
            cases h1
            omega
          · rw [if_neg hlt] at h3
            rw [if_neg (by omega)]
            exact h3
    · intro v
      by_cases e : v = a
      · subst e; rw [fupd_same]; exact Nat.le_refl _
      · rw [fupd_ne e]; exact I.m v
    · intro x e
      cases e
      exact fupd_same
  · have es : stp s i (a, b, c) = s := by
      unfold stp
      rw [if_neg hn]
    rw [es]
    refine ⟨R, ⟨I.o, I.neg, I.j, ?_, I.m⟩, hL⟩
    intro j v u c' hj hnd
    have h3 := I.s j v u c' hj hnd
    by_cases hlt : j < i
    · rw [if_pos hlt] at h3
      rw [if_pos (by omega)]
      exact h3
    · by_cases hji : j = i
      · subst hji
        rw [hf] at hj
        cases hj
        exact absurd hnd hn
      · rw [if_neg hlt] at h3
        rw [if_neg (by omega)]
        exact h3
theorem run_inv {fs : List Fact} {k : Nat} (hk : 1 ≤ k) : ∀ (r : List Fact) (i : Nat) (s : St) (R : Nat → Nat), fs.drop i = r → Inv fs k i s.V s.O R → (∀ x, s.L = some x → R x = k) →
    ∃ R', Inv fs k fs.length (runFrom i r s).V (runFrom i r s).O R' ∧ ∀ x, (runFrom i r s).L = some x → R' x = k
  | [], i, s, R, h, I, hL => by
    refine ⟨R, ⟨I.o, I.neg, I.j, ?_, I.m⟩, hL⟩
    intro j v u c hj hnd
    have hl : fs.length ≤ i := by
      have := congrArg List.length h
      rw [List.length_drop] at this
      have e : ([] : List Fact).length = 0 := rfl
      omega
    have hj2 : j < fs.length := (List.getElem?_eq_some_iff.mp hj).1
    have h3 := I.s j v u c hj hnd
    rw [if_pos (by omega)] at h3
    rw [if_pos hj2]
    exact h3
  | f :: r, i, s, R, h, I, hL => by
    have hf : fs[i]? = some f := by
      have : (fs.drop i)[0]? = some f := by rw [h]; rfl
      rw [List.getElem?_drop] at this
      exact this
    have hr : fs.drop (i + 1) = r := by
      rw [← List.drop_drop, h]
      rfl
    obtain ⟨R', I', hL'⟩ := stp_inv I hk hf hL
    exact run_inv hk r (i + 1) (stp s i f) R' hr I' hL'
theorem round_inv {fs : List Fact} {k : Nat} {s : St} {R : Nat → Nat} (hk : 1 ≤ k) (I : Inv fs k 0 s.V s.O R) :
    ∃ R', Inv fs (k + 1) 0 (round fs s).V (round fs s).O R' ∧ ∀ x, (round fs s).L = some x → R' x = k := by
  obtain ⟨R', I', hL⟩ := run_inv hk fs 0 { s with L := none } R rfl I (fun x e => nomatch e)
  refine ⟨R', ⟨I'.o, I'.neg, I'.j, ?_, fun v => Nat.le_succ_of_le (I'.m v)⟩, hL⟩
  intro j v u c hj hnd
  have h3 := I'.s j v u c hj hnd
  rw [if_pos (List.getElem?_eq_some_iff.mp hj).1] at h3
  rw [if_neg (Nat.not_lt_zero j)]
  omega
theorem inv0 {fs : List Fact} {V : Nat → Option Int} : Inv fs 1 0 V (fun _ => none) (fun _ => 0) where
  o := fun _ _ h => nomatch h
  neg := fun _ _ _ h w => by
    cases w with
    | nil => exact absurd h (Nat.lt_irrefl 0)
    | cons h1 _ _ => exact nomatch h1
  j := fun _ h => absurd h (Nat.lt_irrefl 0)
  s := fun _ _ _ _ _ _ => by rw [if_neg (Nat.not_lt_zero _)]; exact Nat.le_refl _
  m := fun _ => Nat.zero_le _
/-! ### a round that lowers nothing -/
theorem stp_L_some {s : St} {p : Nat} {f : Fact} (h : (stp s p f).L = none) : need s.V f = false ∧ stp s p f = s := by
  unfold stp at *
  by_cases hn : need s.V f = true
  · rw [if_pos hn] at h
    cases h
  · rw [if_neg hn]
    exact ⟨Bool.eq_false_iff.mpr hn, rfl⟩
theorem run_none : ∀ (r : List Fact) (i : Nat) (s : St), (runFrom i r s).L = none → runFrom i r s = s ∧ ∀ f ∈ r, need s.V f = false
  | [], _, _, _ => ⟨rfl, fun _ h => nomatch h⟩
  | f :: r, i, s, h => by
    obtain ⟨e1, h1⟩ := run_none r (i + 1) (stp s i f) h
    have h2 : (stp s i f).L = none := by rw [← e1]; exact h
    obtain ⟨q1, q2⟩ := stp_L_some h2
    refine ⟨?_, ?_⟩
    · show runFrom (i + 1) r (stp s i f) = s
      rw [e1, q2]
    · intro g hg
      cases hg with
      | head => exact q1
      | tail _ hg => have := h1 g hg; rw [q2] at this; exact this
theorem round_none {fs : List Fact} {s : St} (h : (round fs s).L = none) : round fs s = { s with L := none } ∧ ∀ f ∈ fs, need s.V f = false := by
  obtain ⟨a, b⟩ := run_none fs 0 { s with L := none } h
  exact ⟨a, b⟩
/-! ### values that are there stay there -/
theorem stp_some {s : St} {p : Nat} {f : Fact} {v : Nat} {x : Int} (h : s.V v = some x) : ∃ x', (stp s p f).V v = some x' ∧ x' ≤ x := by
  obtain ⟨a, b, c⟩ := f
  unfold stp
  by_cases hn : need s.V (a, b, c) = true
  · rw [if_pos hn]
    obtain ⟨y, hy, hx⟩ := need_iff.mp hn
    rw [newv_of hy]
    by_cases hv : v = a
    · subst hv
      exact ⟨_, fupd_same, by have := hx _ h; omega⟩
    · exact ⟨x, (fupd_ne hv).trans h, Int.le_refl _⟩
  · rw [if_neg hn]
    exact ⟨x, h, Int.le_refl _⟩
theorem run_some : ∀ (r : List Fact) (i : Nat) (s : St) (v : Nat) (x : Int), s.V v = some x → ∃ x', (runFrom i r s).V v = some x' ∧ x' ≤ x
  | [], _, _, _, x, h => ⟨x, h, Int.le_refl _⟩
  | f :: r, i, s, v, x, h => by
    obtain ⟨x1, h1, l1⟩ := stp_some (p := i) (f := f) h
    obtain ⟨x2, h2, l2⟩ := run_some r (i + 1) _ v x1 h1
    exact ⟨x2, h2, by omega⟩
theorem round_some {fs : List Fact} {s : St} {v : Nat} {x : Int} (h : s.V v = some x) : ∃ x', (round fs s).V v = some x' ∧ x' ≤ x := run_some fs 0 _ v x h
/-! ### pigeons -/
theorem pigeon : ∀ (n : Nat) (f : Nat → Nat), (∀ t, t ≤ n → f t < n) → ∃ i j, i < j ∧ j ≤ n ∧ f i = f j
  | 0, f, h => absurd (h 0 (Nat.le_refl _)) (Nat.not_lt_zero _)
  | n + 1, f, h => by
    by_cases hx : ∃ i, i < n + 1 ∧ f i = f (n + 1)
    · obtain ⟨i, h1, h2⟩ := hx
      exact ⟨i, n + 1, h1, Nat.le_refl _, h2⟩
    · have hne : ∀ i, i < n + 1 → f i ≠ f (n + 1) := fun i h1 h2 => hx ⟨i, h1, h2⟩
      obtain ⟨i, j, h1, h2, h3⟩ := pigeon n (fun t => if f (n + 1) < f t then f t - 1 else f t) (fun t ht => by
        have a := h t (by omega)
        have b := h (n + 1) (Nat.le_refl _)
        have c := hne t (by omega)
        show (if f (n + 1) < f t then f t - 1 else f t) < n
        split <;> omega)
      refine ⟨i, j, h1, by omega, ?_⟩
      have c1 := hne i (by omega)
      have c2 := hne j (by omega)
      have h3 : (if f (n + 1) < f i then f i - 1 else f i) = (if f (n + 1) < f j then f j - 1 else f j) := h3
      split at h3 <;> split at h3 <;> omega
/-! ### the ring behind -/
def pd (fs : List Fact) (O : Nat → Option Nat) (v : Nat) : Nat :=
  match O v with
  | none => v
  | some p => match fs[p]? with
    | none => v
    | some f => f.2.1
def itr (fs : List Fact) (O : Nat → Option Nat) (v : Nat) : Nat → Nat
  | 0 => v
  | t + 1 => pd fs O (itr fs O v t)
theorem itr_add (fs : List Fact) (O : Nat → Option Nat) (v a : Nat) : ∀ b, itr fs O v (a + b) = itr fs O (itr fs O v a) b
  | 0 => rfl
  | b + 1 => by
    show pd fs O (itr fs O v (a + b)) = pd fs O (itr fs O (itr fs O v a) b)
    rw [itr_add fs O v a b]
def Def (fs : List Fact) (O : Nat → Option Nat) (v : Nat) : Prop := ∃ p u c, O v = some p ∧ fs[p]? = some (v, u, c)
theorem Def.pd {fs : List Fact} {O : Nat → Option Nat} {v p u : Nat} {c : Int} (h1 : O v = some p) (h2 : fs[p]? = some (v, u, c)) : BF.pd fs O v = u := by
  unfold BF.pd
  rw [h1]
  show (match fs[p]? with | none => v | some f => f.2.1) = u
  rw [h2]
theorem wk_of {fs : List Fact} {O : Nat → Option Nat} : ∀ (n v : Nat), (∀ t, t < n → Def fs O (itr fs O v t)) → ∃ s, Wk fs O v n (itr fs O v n) s
  | 0, v, _ => ⟨0, .nil v⟩
  | n + 1, v, h => by
    obtain ⟨p, u, c, h1, h2⟩ := h 0 (Nat.succ_pos _)
    have e : pd fs O v = u := Def.pd h1 h2
    have ei : ∀ t, itr fs O u t = itr fs O v (t + 1) := fun t => by
      rw [Nat.add_comm t 1, itr_add fs O v 1 t]
      show itr fs O u t = itr fs O (pd fs O v) t
      rw [e]
    obtain ⟨s, hs⟩ := wk_of n u (fun t ht => by rw [ei]; exact h (t + 1) (by omega))
    rw [ei] at hs
    exact ⟨c + s, .cons h1 h2 hs⟩
theorem can {fs : List Fact} {k : Nat} {V : Nat → Option Int} {O : Nat → Option Nat} {R : Nat → Nat} (I : Inv fs k 0 V O R) : ∀ (m v : Nat), m ≤ R v → ∀ t, t < m → Def fs O (itr fs O v t)
  | 0, _, _, t, ht => absurd ht (Nat.not_lt_zero _)
  | m + 1, v, h, t, ht => by
    obtain ⟨p, u, c, h1, h2, h3⟩ := I.j v (by omega)
    cases t with
    | zero => exact ⟨p, u, c, h1, h2⟩
    | succ t =>
      have e : pd fs O v = u := Def.pd h1 h2
      rw [Nat.add_comm t 1, itr_add fs O v 1 t]
      show Def fs O (itr fs O (pd fs O v) t)
      rw [e]
      exact can I m u (by omega) t (by omega)
/-- the facts speak of the variables below n -/
def Below (n : Nat) (fs : List Fact) : Prop := ∀ f ∈ fs, f.1 < n ∧ f.2.1 < n
theorem itr_lt {fs : List Fact} {O : Nat → Option Nat} {n v : Nat} (hb : Below n fs) (hv : v < n) : ∀ t, itr fs O v t < n
  | 0 => hv
  | t + 1 => by
    have ih := itr_lt (O := O) hb hv t
    show pd fs O (itr fs O v t) < n
    unfold pd
    cases O (itr fs O v t) with
    | none => exact ih
    | some p =>
      show (match fs[p]? with | none => itr fs O v t | some f => f.2.1) < n
      cases h : fs[p]? with
      | none => exact ih
      | some f => exact (hb f (List.mem_of_getElem? h)).2
theorem cycle {fs : List Fact} {n k : Nat} {V : Nat → Option Int} {O : Nat → Option Nat} {R : Nat → Nat} (I : Inv fs k 0 V O R) (hb : Below n fs) {v : Nat} (hv : v < n) (hR : n ≤ R v) :
    (∀ t, Def fs O (itr fs O v t)) ∧ ∃ m, 0 < m ∧ m ≤ n ∧ itr fs O v (n + m) = itr fs O v n := by
  have h0 := can I n v hR
  obtain ⟨i, j, h1, h2, h3⟩ := pigeon n (itr fs O v) (fun t _ => itr_lt hb hv t)
  have per : ∀ t, i ≤ t → itr fs O v (t + (j - i)) = itr fs O v t := fun t ht => by
    have e1 : t + (j - i) = j + (t - i) := by omega
    have e2 : t = i + (t - i) := by omega
    rw [e1, itr_add, ← h3, ← itr_add, ← e2]
  have all : ∀ m t, t ≤ m → Def fs O (itr fs O v t) := by
    intro m
    induction m with
    | zero => intro t ht; exact h0 t (by omega)
    | succ m ih =>
      intro t ht
      by_cases hlt : t < n
      · exact h0 t hlt
      · have := per (t - (j - i)) (by omega)
        have e : t - (j - i) + (j - i) = t := by omega
        rw [e] at this
        rw [this]
        exact ih _ (by omega)
  exact ⟨fun t => all t t (Nat.le_refl _), j - i, by omega, by omega, per n (by omega)⟩
/-! ### values that keep facts -/
def Keeps (π : Nat → Int) (fs : List Fact) : Prop := ∀ a b c, (a, b, c) ∈ fs → π a ≤ π b + c
theorem wk_keeps {fs : List Fact} {O : Nat → Option Nat} {π : Nat → Int} (hk : Keeps π fs) {v n u : Nat} {s : Int} (w : Wk fs O v n u s) : π v ≤ π u + s := by
  induction w with
  | nil => omega
  | cons h1 h2 h3 ih =>
    have := hk _ _ _ (List.mem_of_getElem? h2)
    omega
theorem no_cycle {fs : List Fact} {n k : Nat} {V : Nat → Option Int} {O : Nat → Option Nat} {R : Nat → Nat} (I : Inv fs k 0 V O R) (hb : Below n fs) {v : Nat} (hv : v < n) (hR : n ≤ R v) (π : Nat → Int) : ¬ Keeps π fs := fun hk => by
  obtain ⟨hd, m, h1, h2, h3⟩ := cycle I hb hv hR
  obtain ⟨s, hs⟩ := wk_of m (itr fs O v n) (fun t _ => by rw [← itr_add]; exact hd _)
  rw [← itr_add, h3] at hs
  have a := I.neg _ _ _ h1 hs
  have b := wk_keeps hk hs
  omega
end BF
namespace BF
def itS (fs : List Fact) (s : St) : Nat → St
  | 0 => s
  | t + 1 => round fs (itS fs s t)
def s0 : St := ⟨fun _ => some 0, fun _ => none, none⟩
def sB (b : Nat) : St := ⟨fun v => if v = b then some 0 else none, fun _ => none, none⟩
def fin (fs : List Fact) (n : Nat) : St := itS fs s0 n
theorem itS_inv {fs : List Fact} {s : St} (hO : s.O = fun _ => none) : ∀ t, ∃ R, Inv fs (t + 1) 0 (itS fs s t).V (itS fs s t).O R ∧ (1 ≤ t → ∀ x, (itS fs s t).L = some x → R x = t)
  | 0 => ⟨fun _ => 0, by show Inv fs 1 0 s.V s.O _; rw [hO]; exact inv0, fun h => absurd h (by omega)⟩
  | t + 1 => by
    obtain ⟨R, I, _⟩ := itS_inv hO t
    obtain ⟨R', I', h'⟩ := round_inv (Nat.succ_le_succ (Nat.zero_le t)) I
    exact ⟨R', I', fun _ => h'⟩
theorem round_V {fs : List Fact} {s s' : St} (hV : s.V = s'.V) (h : (round fs s).L = none) : (round fs s').L = none ∧ (round fs s').V = s'.V := by
  obtain ⟨_, h2⟩ := round_none h
  have key : ∀ (r : List Fact) (i : Nat) (z : St), z.L = none → (∀ f ∈ r, need z.V f = false) → runFrom i r z = z := by
    intro r
    induction r with
    | nil => intro i z _ _; rfl
    | cons f r ih =>
      intro i z hz hn
      have e : stp z i f = z := by
        unfold stp
        rw [if_neg]
        rw [hn f (List.mem_cons_self ..)]
        exact Bool.false_ne_true
      show runFrom (i + 1) r (stp z i f) = z
      rw [e]
      exact ih (i + 1) z hz fun g hg => hn g (List.mem_cons_of_mem _ hg)
  have e := key fs 0 { s' with L := none } rfl (fun f hf => by show need s'.V f = false; rw [← hV]; exact h2 f hf)
  have e : round fs s' = { s' with L := none } := e
  rw [e]
  exact ⟨rfl, rfl⟩
theorem itS_stable {fs : List Fact} {s : St} {t : Nat} (h : (itS fs s (t + 1)).L = none) : ∀ d, (itS fs s (t + 1 + d)).L = none ∧ (itS fs s (t + 1 + d)).V = (itS fs s t).V
  | 0 => by
    refine ⟨h, ?_⟩
    exact (round_V rfl h).2
  | d + 1 => by
    obtain ⟨h1, h2⟩ := itS_stable h d
    obtain ⟨q1, q2⟩ := round_V (s := itS fs s t) (s' := itS fs s (t + 1 + d)) h2.symm h
    exact ⟨q1, q2.trans h2⟩
theorem itS_L {fs : List Fact} {s : St} {t n : Nat} (h : (itS fs s (t + 1)).L = none) (hn : t + 1 ≤ n) : (itS fs s n).L = none ∧ (itS fs s n).V = (itS fs s t).V := by
  have e : t + 1 + (n - (t + 1)) = n := by omega
  have := itS_stable h (n - (t + 1))
  rw [e] at this
  exact this
theorem itS_need {fs : List Fact} {s : St} {n : Nat} (hn : 1 ≤ n) (h : (itS fs s n).L = none) : ∀ f ∈ fs, need (itS fs s n).V f = false := by
  obtain ⟨t, rfl⟩ : ∃ t, n = t + 1 := ⟨n - 1, by omega⟩
  obtain ⟨h1, h2⟩ := round_none (s := itS fs s t) h
  rw [(itS_stable h 0).2]
  exact h2
theorem itS_some {fs : List Fact} {s : St} {v : Nat} {x : Int} (h : s.V v = some x) : ∀ t, ∃ x', (itS fs s t).V v = some x' ∧ x' ≤ x
  | 0 => ⟨x, h, Int.le_refl _⟩
  | t + 1 => by
    obtain ⟨x1, h1, l1⟩ := itS_some h t
    obtain ⟨x2, h2, l2⟩ := round_some (fs := fs) h1
    exact ⟨x2, h2, by omega⟩
theorem run_lt : ∀ (r : List Fact) (n i : Nat) (s : St), Below n r → (∀ x, s.L = some x → x < n) → ∀ x, (runFrom i r s).L = some x → x < n
  | [], _, _, _, _, h => h
  | f :: r, n, i, s, hb, h => by
    refine run_lt r n (i + 1) (stp s i f) (fun g hg => hb g (List.mem_cons_of_mem _ hg)) ?_
    intro x hx
    unfold stp at hx
    by_cases hn : need s.V f = true
    · rw [if_pos hn] at hx
      cases hx
      exact (hb f (List.mem_cons_self ..)).1
    · rw [if_neg hn] at hx
      exact h x hx
theorem round_lt {fs : List Fact} {n : Nat} {s : St} (hb : Below n fs) {x : Nat} (h : (round fs s).L = some x) : x < n := run_lt fs n 0 { s with L := none } hb (fun _ e => by cases e) x h
/-- all rounds lowered something: there is a cycle -/
theorem fin_cycle {fs : List Fact} {s : St} {n x : Nat} (hO : s.O = fun _ => none) (hn : 1 ≤ n) (hb : Below n fs) (h : (itS fs s n).L = some x) :
    x < n ∧ (∀ t, Def fs (itS fs s n).O (itr fs (itS fs s n).O x t)) ∧ (∃ m, 0 < m ∧ m ≤ n ∧ itr fs (itS fs s n).O x (n + m) = itr fs (itS fs s n).O x n) ∧ (∀ v m s', 0 < m → Wk fs (itS fs s n).O v m v s' → s' < 0) ∧ ∀ π, ¬ Keeps π fs := by
  obtain ⟨R, I, hR⟩ := itS_inv hO n
  have hx : x < n := by
    obtain ⟨t, rfl⟩ : ∃ t, n = t + 1 := ⟨n - 1, by omega⟩
    exact round_lt hb h
  have e := hR hn x h
  obtain ⟨c1, c2⟩ := cycle I hb hx (by omega)
  exact ⟨hx, c1, c2, I.neg, no_cycle I hb hx (by omega)⟩
theorem keeps_of {fs : List Fact} {V : Nat → Option Int} (h : ∀ f ∈ fs, need V f = false) (hs : ∀ v, ∃ x, V v = some x) : Keeps (fun v => (V v).getD 0) fs := by
  intro a b c hm
  have h1 := h _ hm
  obtain ⟨x, hx⟩ := hs a
  obtain ⟨y, hy⟩ := hs b
  show (V a).getD 0 ≤ (V b).getD 0 + c
  rw [hx, hy]
  show x ≤ y + c
  by_cases hl : y + c < x
  · have : need V (a, b, c) = true := need_iff.mpr ⟨y, hy, fun x' e => by rw [hx] at e; cases e; exact hl⟩
    rw [this] at h1
    cases h1
  · omega
theorem fin_keeps {fs : List Fact} {n : Nat} (hn : 1 ≤ n) (h : (fin fs n).L = none) : Keeps (fun v => ((fin fs n).V v).getD 0) fs :=
  keeps_of (itS_need hn h) fun v => by
    obtain ⟨x, hx, _⟩ := itS_some (fs := fs) (s := s0) (v := v) (x := 0) rfl n
    exact ⟨x, hx⟩
theorem fin_iff {fs : List Fact} {n : Nat} (hn : 1 ≤ n) (hb : Below n fs) : (fin fs n).L = none ↔ ∃ π, Keeps π fs := by
  constructor
  · exact fun h => ⟨_, fin_keeps hn h⟩
  · rintro ⟨π, hk⟩
    cases h : (fin fs n).L with
    | none => rfl
    | some x => exact absurd hk ((fin_cycle rfl hn hb h).2.2.2.2 π)
/-! ### the bound -/
theorem sB_L {fs : List Fact} {n b : Nat} (hn : 1 ≤ n) (hb : Below n fs) {π : Nat → Int} (hk : Keeps π fs) : (itS fs (sB b) n).L = none := by
  cases h : (itS fs (sB b) n).L with
  | none => rfl
  | some x => exact absurd hk ((fin_cycle rfl hn hb h).2.2.2.2 π)
def Up (π : Nat → Int) (b : Nat) (V : Nat → Option Int) : Prop := ∀ v x, V v = some x → π v ≤ π b + x
theorem stp_up {fs : List Fact} {π : Nat → Int} (hk : Keeps π fs) {b : Nat} {s : St} {p : Nat} {f : Fact} (hf : f ∈ fs) (h : Up π b s.V) : Up π b (stp s p f).V := by
  obtain ⟨a, u, c⟩ := f
  unfold stp
  by_cases hn : need s.V (a, u, c) = true
  · rw [if_pos hn]
    obtain ⟨y, hy, hx⟩ := need_iff.mp hn
    rw [newv_of hy]
    intro v x hv
    have hv : fupd s.V a (some (y + c)) v = some x := hv
    by_cases e : v = a
    · subst e
      rw [fupd_same] at hv
      cases hv
      have h1 := h u y hy
      have h2 := hk v u c hf
      omega
    · rw [fupd_ne e] at hv
      exact h v x hv
  · rw [if_neg hn]
    exact h
theorem run_up {fs : List Fact} {π : Nat → Int} (hk : Keeps π fs) {b : Nat} : ∀ (r : List Fact) (i : Nat) (s : St), (∀ f ∈ r, f ∈ fs) → Up π b s.V → Up π b (runFrom i r s).V
  | [], _, _, _, h => h
  | f :: r, i, s, hm, h => run_up hk r (i + 1) (stp s i f) (fun g hg => hm g (List.mem_cons_of_mem _ hg)) (stp_up hk (hm f (List.mem_cons_self ..)) h)
theorem sB_up {fs : List Fact} {π : Nat → Int} (hk : Keeps π fs) (b : Nat) : ∀ t, Up π b (itS fs (sB b) t).V
  | 0 => by
    intro v x h
    have h : (if v = b then some (0 : Int) else none) = some x := h
    by_cases e : v = b
    · rw [if_pos e] at h
      cases h
      rw [e]
      omega
    · rw [if_neg e] at h
      cases h
  | t + 1 => run_up hk fs 0 _ (fun _ h => h) (sB_up hk b t)
def bnd (fs : List Fact) (n a b : Nat) : Option Int := (itS fs (sB b) n).V a
theorem bnd_self {fs : List Fact} {n b : Nat} {π : Nat → Int} (hk : Keeps π fs) : bnd fs n b b = some 0 := by
  obtain ⟨x, hx, hl⟩ := itS_some (fs := fs) (s := sB b) (v := b) (x := 0) (by show (if b = b then some (0 : Int) else none) = some 0; rw [if_pos rfl]) n
  have := sB_up hk b n b x hx
  show (itS fs (sB b) n).V b = some 0
  rw [hx]
  congr 1
  omega
theorem bnd_up {fs : List Fact} {n a b : Nat} {c : Int} (h : bnd fs n a b = some c) {π : Nat → Int} (hk : Keeps π fs) : π a ≤ π b + c := sB_up hk b n a c h
/-- a bound of all the numbers in sight -/
theorem big (fs : List Fact) (f : Fact → Int) : ∃ M : Int, 0 ≤ M ∧ ∀ g ∈ fs, f g ≤ M := by
  induction fs with
  | nil => exact ⟨0, Int.le_refl _, fun _ h => nomatch h⟩
  | cons g r ih =>
    obtain ⟨M, h0, h1⟩ := ih
    refine ⟨if f g ≤ M then M else f g, by split <;> omega, ?_⟩
    intro g' hg
    cases hg with
    | head => split <;> omega
    | tail _ hg => have := h1 g' hg; split <;> omega
/-- the values reached, and the others far above -/
theorem bnd_sol {fs : List Fact} {n b : Nat} (hn : 1 ≤ n) (hb : Below n fs) {π : Nat → Int} (hk : Keeps π fs) (N : Int) :
    ∃ M, N ≤ M ∧ Keeps (fun v => match (itS fs (sB b) n).V v with | some x => x | none => π v + M) fs := by
  have hL := sB_L (b := b) hn hb hk
  have hnd := itS_need hn hL
  generalize (itS fs (sB b) n).V = V at hnd ⊢
  obtain ⟨M, h0, h1⟩ := big fs (fun g => (match V g.1 with | some x => x | none => 0) - π g.2.1 - g.2.2)
  refine ⟨if N ≤ M then M else N, by split <;> omega, ?_⟩
  intro a u c hm
  show (match V a with | some x => x | none => π a + _) ≤ (match V u with | some x => x | none => π u + _) + c
  have k1 := hk a u c hm
  have k2 := h1 _ hm
  have k3 := hnd _ hm
  have k2 : (match V a with | some x => x | none => 0) - π u - c ≤ M := k2
  cases ha : V a with
  | none =>
    cases hu : V u with
    | none => show π a + _ ≤ π u + _ + c; omega
    | some y =>
      have : need V (a, u, c) = true := need_iff.mpr ⟨y, hu, fun x e => by rw [ha] at e; cases e⟩
      rw [this] at k3
      cases k3
  | some x =>
    rw [ha] at k2
    have k2 : x - π u - c ≤ M := k2
    cases hu : V u with
    | none =>
      show x ≤ π u + (if N ≤ M then M else N) + c
      split <;> omega
    | some y =>
      show x ≤ y + c
      by_cases hl : y + c < x
      · have : need V (a, u, c) = true := need_iff.mpr ⟨y, hu, fun x' e => by rw [ha] at e; cases e; exact hl⟩
        rw [this] at k3
        cases k3
      · omega
theorem bnd_some {fs : List Fact} {n a b : Nat} (hn : 1 ≤ n) (hb : Below n fs) {π : Nat → Int} (hk : Keeps π fs) {c : Int} (h : bnd fs n a b = some c) : ∃ ρ, Keeps ρ fs ∧ ρ a = ρ b + c := by
  obtain ⟨M, _, hM⟩ := bnd_sol (b := b) hn hb hk 0
  refine ⟨_, hM, ?_⟩
  have e1 : (itS fs (sB b) n).V a = some c := h
  have e2 : (itS fs (sB b) n).V b = some 0 := bnd_self hk
  show (match (itS fs (sB b) n).V a with | some x => x | none => π a + M) = (match (itS fs (sB b) n).V b with | some x => x | none => π b + M) + c
  rw [e1, e2]
  show c = 0 + c
  omega
theorem bnd_none {fs : List Fact} {n a b : Nat} (hn : 1 ≤ n) (hb : Below n fs) {π : Nat → Int} (hk : Keeps π fs) (h : bnd fs n a b = none) (N : Int) : ∃ ρ, Keeps ρ fs ∧ ρ b + N ≤ ρ a := by
  obtain ⟨M, h1, hM⟩ := bnd_sol (b := b) hn hb hk (N - π a)
  refine ⟨_, hM, ?_⟩
  have e1 : (itS fs (sB b) n).V a = none := h
  have e2 : (itS fs (sB b) n).V b = some 0 := bnd_self hk
  show (match (itS fs (sB b) n).V b with | some x => x | none => π b + M) + N ≤ (match (itS fs (sB b) n).V a with | some x => x | none => π a + M)
  rw [e1, e2]
  show 0 + N ≤ π a + M
  omega
theorem keeps_snoc {π : Nat → Int} {fs : List Fact} {a b : Nat} {c : Int} : Keeps π (fs ++ [(a, b, c)]) ↔ Keeps π fs ∧ π a ≤ π b + c := by
  constructor
  · intro h
    exact ⟨fun x y z m => h x y z (List.mem_append.mpr (.inl m)), h a b c (List.mem_append.mpr (.inr (List.mem_singleton.mpr rfl)))⟩
  · rintro ⟨h1, h2⟩ x y z m
    rcases List.mem_append.mp m with m | m
    · exact h1 x y z m
    · cases List.mem_singleton.mp m
      exact h2
theorem below_snoc {n : Nat} {fs : List Fact} {a b : Nat} {c : Int} (h : Below n fs) (ha : a < n) (hb : b < n) : Below n (fs ++ [(a, b, c)]) := fun f hf => by
  rcases List.mem_append.mp hf with m | m
  · exact h f m
  · cases List.mem_singleton.mp m
    exact ⟨ha, hb⟩
/-! ### the law of k38, in plain words -/
theorem k38_none {fs : List Fact} {n a b : Nat} (hn : 1 ≤ n) (hb : Below n fs) (ha : a < n) (hb' : b < n) (hs : (fin fs n).L = none) (h : bnd fs n a b = none) (N : Int) : a ≠ b ∧ (fin (fs ++ [(b, a, -N)]) n).L = none := by
  have hk := fin_keeps hn hs
  refine ⟨fun e => ?_, ?_⟩
  · subst e
    rw [bnd_self hk] at h
    cases h
  · obtain ⟨ρ, r1, r2⟩ := bnd_none hn hb hk h N
    exact (fin_iff hn (below_snoc hb hb' ha)).mpr ⟨ρ, keeps_snoc.mpr ⟨r1, by omega⟩⟩
theorem k38_some {fs : List Fact} {n a b : Nat} {c : Int} (hn : 1 ≤ n) (hb : Below n fs) (ha : a < n) (hb' : b < n) (hs : (fin fs n).L = none) (h : bnd fs n a b = some c) :
    (a = b → c = 0) ∧ (fin (fs ++ [(b, a, -c)]) n).L = none ∧ (fin (fs ++ [(b, a, -c - 1)]) n).L ≠ none := by
  have hk := fin_keeps hn hs
  refine ⟨fun e => ?_, ?_, fun e => ?_⟩
  · subst e
    rw [bnd_self hk] at h
    exact (Option.some.inj h).symm
  · obtain ⟨ρ, r1, r2⟩ := bnd_some hn hb hk h
    exact (fin_iff hn (below_snoc hb hb' ha)).mpr ⟨ρ, keeps_snoc.mpr ⟨r1, by omega⟩⟩
  · obtain ⟨ρ, r⟩ := (fin_iff hn (below_snoc hb hb' ha)).mp e
    obtain ⟨r1, r2⟩ := keeps_snoc.mp r
    have := bnd_up h r1
    omega
end BF

namespace Pl
open PySem L2
/-! ### tests whose answer is known -/
theorem iT {c : Bool} {A B : Prop} (h : c = true) (x : A) : if c = true then A else B := by rw [if_pos h]; exact x
theorem iF {c : Bool} {A B : Prop} (h : c = false) (x : B) : if c = true then A else B := by rw [if_neg (by rw [h]; exact Bool.false_ne_true)]; exact x
theorem yes_if {σ : St} {H : Hp} {A B : Hp → Prop} (h : A H) : tYes σ H (fun b H3 => if b = true then A H3 else B H3) := by
  show if true = true then A H else B H
  rw [if_pos rfl]
  exact h
/-! ### for i, x in enumerate(xs) -/
theorem for_enum {K : PySem.W.Frag} {a : Addr} {xs : List V} {g : TG} {tb : TS} {D : Ends} {σ : St} {H : Hp} (Pv : Nat → St → Hp → Prop) (h0 : Pv 0 σ H) (hl : ∀ i σ H, i ≤ xs.length → Pv i σ H → SqL K H a xs)
    (hs : ∀ i x σ H T, xs[i]? = some x → Pv i σ H → H T = none → g (.ref T) σ (upd H T (.tup [.int (i : Nat), x])) fun σ2 H2 => tb { D with nx := Pv (i + 1), ct := Pv (i + 1), bk := D.nx } σ2 H2) (hd : ∀ σ H, Pv xs.length σ H → D.nx σ H) :
    ∃ W : Nat → Nat → St → Hp → Prop, (∃ m, W 0 m σ H) ∧ ∀ i m σ H, W i m σ H →
      ((Ite K a).stop i H ∧ D.nx σ H) ∨ ((Ite K a).go i H ∧ ∃ N : St → Hp → Prop, (∀ σ' H', N σ' H' → ∃ m', m' < m ∧ W (i + 1) m' σ' H') ∧ ∀ x H', (Ite K a).yld i H x H' → g x σ H' fun σ2 H2 => tb { D with nx := N, ct := N, bk := D.nx } σ2 H2) := by
  refine ⟨fun i m σ H => m = xs.length - i ∧ i ≤ xs.length ∧ Pv i σ H, ⟨xs.length, by simp, Nat.zero_le _, h0⟩, ?_⟩
  rintro i m σ H ⟨rfl, hi, p⟩
  have q := hl i σ H hi p
  by_cases hlt : i < xs.length
  · refine .inr ⟨⟨xs, xs[i], q, by simp [hlt]⟩, Pv (i + 1), fun σ' H' p' => ⟨xs.length - (i + 1), by omega, rfl, hlt, p'⟩, fun x H' y => ?_⟩
    obtain ⟨T, x1, rfl, nT, rfl, f⟩ := y
    exact hs i x1 σ _ T (f xs q) p nT
  · have e : i = xs.length := by omega
    subst e
    exact .inl ⟨⟨xs, q, Nat.le_refl _⟩, hd σ H p⟩
/-! ### facts in the heap -/
open BF in
def tup3 (f : Fact) : HO := .tup [.int (f.1 : Nat), .int (f.2.1 : Nat), .int f.2.2]
open BF in
def FactsAt (G : Hp) (a : Addr) (fs : List Fact) : Prop := ∃ vs : List V, G a = some (.lst vs) ∧ vs.length = fs.length ∧ ∀ (i : Nat) (f : Fact), fs[i]? = some f → ∃ t, vs[i]? = some (.ref t) ∧ G t = some (tup3 f)
theorem FactsAt.same {G G' : Hp} {a : Addr} {fs : List BF.Fact} (h : FactsAt G a fs) (s : Same G G') : FactsAt G' a fs := by
  obtain ⟨vs, h1, h2, h3⟩ := h
  refine ⟨vs, s _ _ h1, h2, fun i f e => ?_⟩
  obtain ⟨t, t1, t2⟩ := h3 i f e
  exact ⟨t, t1, s _ _ t2⟩
theorem FactsAt.ix {G : Hp} {a : Addr} {fs : List BF.Fact} {vs : List V} (h1 : G a = some (.lst vs)) (h : FactsAt G a fs) : vs.length = fs.length ∧ ∀ (i : Nat) (f : BF.Fact), fs[i]? = some f → ∃ t, vs[i]? = some (.ref t) ∧ G t = some (tup3 f) := by
  obtain ⟨vs', e1, e2, e3⟩ := h
  rw [h1] at e1
  cases e1
  exact ⟨e2, e3⟩
def oV : Option Int → V
  | none => .non
  | some x => .int x
def oN : Option Nat → V
  | none => .non
  | some x => .int (x : Nat)
def vl (n : Nat) (V : Nat → Option Int) : List L2.V := (List.range n).map fun i => oV (V i)
def ol (n : Nat) (O : Nat → Option Nat) : List L2.V := (List.range n).map fun i => oN (O i)
theorem vl_len (n : Nat) (V : Nat → Option Int) : (vl n V).length = n := by unfold vl; rw [List.length_map, List.length_range]
theorem ol_len (n : Nat) (O : Nat → Option Nat) : (ol n O).length = n := by unfold ol; rw [List.length_map, List.length_range]
theorem vl_at {n v : Nat} {V : Nat → Option Int} (h : v < n) : atI (vl n V) (v : Int) = some (oV (V v)) := atI_nat (by unfold vl; rw [List.getElem?_map, List.getElem?_range h]; rfl)
theorem ol_at {n v : Nat} {O : Nat → Option Nat} (h : v < n) : atI (ol n O) (v : Int) = some (oN (O v)) := atI_nat (by unfold ol; rw [List.getElem?_map, List.getElem?_range h]; rfl)
theorem vl_set {n a : Nat} {V : Nat → Option Int} {x : Option Int} : (vl n V).set a (oV x) = vl n (BF.fupd V a x) := by
  refine List.ext_getElem? fun i => ?_
  unfold vl
  rw [List.getElem?_set]
  by_cases hi : i < n
  · rw [List.getElem?_map, List.getElem?_map, List.getElem?_range hi, List.length_map, List.length_range]
    by_cases e : a = i
    · subst e
      rw [if_pos rfl, if_pos hi]
      show some (oV x) = some (oV (BF.fupd V a x a))
      rw [BF.fupd_same]
    · rw [if_neg e]
      show some (oV (V i)) = some (oV (BF.fupd V a x i))
      rw [BF.fupd_ne (Ne.symm e)]
  · have h1 : ((List.range n).map fun i => oV (V i))[i]? = none := List.getElem?_eq_none (by rw [List.length_map, List.length_range]; omega)
    have h2 : ((List.range n).map fun i => oV (BF.fupd V a x i))[i]? = none := List.getElem?_eq_none (by rw [List.length_map, List.length_range]; omega)
    rw [h1, h2, List.length_map, List.length_range]
    split
    · rw [if_neg (by omega)]
    · rfl
theorem ol_set {n a : Nat} {O : Nat → Option Nat} {x : Option Nat} : (ol n O).set a (oN x) = ol n (BF.fupd O a x) := by
  refine List.ext_getElem? fun i => ?_
  unfold ol
  rw [List.getElem?_set]
  by_cases hi : i < n
  · rw [List.getElem?_map, List.getElem?_map, List.getElem?_range hi, List.length_map, List.length_range]
    by_cases e : a = i
    · subst e
      rw [if_pos rfl, if_pos hi]
      show some (oN x) = some (oN (BF.fupd O a x a))
      rw [BF.fupd_same]
    · rw [if_neg e]
      show some (oN (O i)) = some (oN (BF.fupd O a x i))
      rw [BF.fupd_ne (Ne.symm e)]
  · have h1 : ((List.range n).map fun i => oN (O i))[i]? = none := List.getElem?_eq_none (by rw [List.length_map, List.length_range]; omega)
    have h2 : ((List.range n).map fun i => oN (BF.fupd O a x i))[i]? = none := List.getElem?_eq_none (by rw [List.length_map, List.length_range]; omega)
    rw [h1, h2, List.length_map, List.length_range]
    split
    · rw [if_neg (by omega)]
    · rfl
/-- all but va and oa stays -/
def Fr (va oa : Addr) (H H' : Hp) : Prop := ∀ b o, b ≠ va → b ≠ oa → H b = some o → H' b = some o
theorem Fr.same {va oa : Addr} {G H H' : Hp} (f : Fr va oa H H') (s : Same G H) (h1 : G va = none) (h2 : G oa = none) : Same G H' := fun b o e =>
  f b o (ne_of_none e h1) (ne_of_none e h2) (s b o e)
section
variable {P : Program} {w : World} {K : PySem.W.Frag} {mg : Str → Option Value} {base : Heap}
def spIsInteger : Sp := fun vs H Q _ => ∃ (v : V) (t : String), vs = [v] ∧ Ty H v t ∧ Q (.bl (isInt v)) H
theorem ok_is_integer (T : Txt P K mg) {k : Nat} : FnOk P w K mg base CX0 (k + 1) T.is_integer.f T.is_integer.fd ["value"] spIsInteger := by
  refine T.is_integer.F.ok sc_is_integer (fun vs H Q E h => ?_) (fun cdv A outer s H vs Q E hr h => ?_)
  · obtain ⟨v, t, rfl, _⟩ := h
    rfl
  · obtain ⟨v, t, rfl, ty, q⟩ := h
    refine ⟨_, (pss_one (ps_ret (pe_and (pe_callB call_isi (by rfl) T.n_isinstance (by decide +kernel) (pa_cons (pv 0) (pa_cons (pe_bltn (v := .ty "int") (by rfl) T.n_int (by decide +kernel) rfl) pa_nil))) (pe_one (pe_not (pe_callB call_isi (by rfl) T.n_isinstance (by decide +kernel) (pa_cons (pv 0) (pa_cons (pe_bltn (v := .ty "bool") (by rfl) T.n_bool (by decide +kernel) rfl) pa_nil)))))))), ?_⟩
    refine ⟨v, rfl, _, _, _, _, _, rfl, .ty "int", ty.x, isI_int ty, _, rfl, ?_⟩
    rw [← isInt_of ty] at q
    cases h1 : tyB t "int" with
    | false =>
      rw [h1] at q
      exact iF rfl q
    | true =>
      rw [h1] at q
      refine iT rfl ⟨v, rfl, _, _, _, _, _, rfl, .ty "bool", ty.x, isI_bool ty, _, rfl, ?_⟩
      rw [Bool.true_and] at q
      exact q
def isFact (n : Int) : List V → Bool
  | [.int a, .int b, .int _] => decide (0 ≤ a) && decide (a < n) && (decide (0 ≤ b) && decide (b < n))
  | _ => false
def spIsFact : Sp := fun vs H Q _ => ∃ (n : Int) (v : V), vs = [.int n, v] ∧
  ((∃ t, Ty H v t ∧ t ≠ "tuple" ∧ ∀ H', Same H H' → Q (.bl false) H') ∨
   (∃ a xs, v = .ref a ∧ H a = some (.tup xs) ∧ xs.length ≤ 1000 ∧ (∀ x ∈ xs, ∃ t, Ty H x t) ∧ ∀ H', Same H H' → Q (.bl (isFact n xs)) H'))
theorem tyB_tuple {H : Hp} {v : V} {t : String} (h : Ty H v t) : tyB t "tuple" = decide (t = "tuple") := by
  unfold tyB
  cases h
  · rw [kb_none_tuple]; rfl
  · rw [kb_bool_tuple]; rfl
  · rw [kb_int_tuple]; rfl
  · rw [kb_str_tuple]; rfl
  · rw [kb_list_tuple]; rfl
  · rw [kb_tuple_tuple]; rfl
theorem ok_is_fact (T : Txt P K mg) {k : Nat} : FnOk P w K mg base CX0 (k + 2) T.is_fact.f T.is_fact.fd ["count", "entry"] spIsFact := by
  have G_is_integer : FnOk P w K mg base CX0 (k + 1) T.is_integer.f T.is_integer.fd ["value"] spIsInteger := ok_is_integer T
  refine T.is_fact.F.ok sc_is_fact (fun vs H Q E h => ?_) (fun cdv A outer s H vs Q E hr h => ?_)
  · obtain ⟨n, v, rfl, _⟩ := h
    rfl
  · obtain ⟨n, v, rfl, h⟩ := h
    refine ⟨_, (pss_cons (ps_if (PW.pt (pw_or (pt_not (pt_val (pe_callB call_isi (by rfl) T.n_isinstance (by decide +kernel) (pa_cons (pv 1) (pa_cons (pe_bltn (v := .ty "tuple") (by rfl) T.n_tuple (by decide +kernel) rfl) pa_nil))))) (pw_or1 (pt_cmpR op_ne (pe_callB call_len_seq (by rfl) T.n_len PySem.boot_len (pa_cons (pv 1) pa_nil)) pe_int (nomark _))))) (pss_one (ps_ret pe_bl)) pss_nil)
  (pss_cons (ps_if (pt_not (pt_val (pe_callB (cr_all rfl) (by rfl) T.n_all (by decide +kernel) (pa_cons (pe_lc (own := [("number", 2)]) (g := gName 2) (tt := tYes) (te := (tCall _ _ _ (tCons (tVar 2) tNil))) rfl sc_is_fact.nd (pi_tup (pv 1)) (blkOk_by (own := [("number", 2)]) (N := N_is_fact) (sc := defScope s_is_fact) (by decide +kernel)) (fun _ _ _ _ _ => (pg_name (i := 2) sc_is_fact.nd rfl (.inl rfl))) (fun _ _ _ _ _ => pts_nil) (fun _ _ _ _ _ => (pe_call G_is_integer (hr.mono (by omega)) (by rfl) T.is_integer.g T.is_integer.F.kp T.is_integer.b .nil pass0 (pa_cons (pv 2) pa_nil)))) pa_nil)))) (pss_one (ps_ret pe_bl)) pss_nil)
  (pss_one (ps_ret (pe_and (pe_chain op_le op_lt pe_int (pe_ix ix_tup (pv 1) pe_int (fun _ _ => rfl)) (pv 0)) (pe_one (pe_chain op_le op_lt pe_int (pe_ix ix_tup (pv 1) pe_int (fun _ _ => rfl)) (pv 0)))))))), ?_⟩
    rcases h with ⟨t, ty, nt, q⟩ | ⟨a, xs, rfl, ha, hl, hx, q⟩
    · refine ⟨v, rfl, _, _, _, _, _, rfl, .ty "tuple", ty.x, isI_tuple ty, _, rfl, ?_⟩
      rw [tyB_tuple ty, decide_eq_false nt]
      exact iT rfl (iT rfl (q _ (Same.refl _)))
    · have ty : Ty H (.ref a) "tuple" := .tup ha
      refine ⟨.ref a, rfl, _, _, _, _, _, rfl, .ty "tuple", ty.x, isI_tuple ty, _, rfl, ?_⟩
      rw [tyB_tuple ty]
      refine iF rfl ⟨.ref a, rfl, a, xs, rfl, .inr (SqT.of ha), rfl, _, rfl, ?_⟩
      by_cases h3 : xs.length = 3
      · refine iF (by rw [h3]; rfl) ?_
        refine ⟨.ref a, rfl, a, rfl, ⟨xs, SqT.of ha⟩, fun D hD => ?_⟩
        refine lc_tup (K := K) (a := a) (xs := xs) (fun i H' => Same H H' ∧ H' D = some (.lst ((xs.take i).map fun x => V.bl (isInt x))))
          ⟨same_upd hD, upd_same⟩ (fun i H' _ p => SqT.of (p.1 _ _ ha)) (fun i x H' hi p => ?_) (fun H' p => ?_)
        · obtain ⟨t, tx⟩ := hx x (List.mem_of_getElem? hi)
          refine ⟨rfl, yes_if ⟨x, rfl, x, t, rfl, tx.same p.1, _, p.2, ?_, ?_, ?_⟩⟩
          · rw [List.length_map, List.length_take]
            exact szl (by omega)
          · exact same_mut p.1 hD
          · rw [upd_same, List.take_add_one, hi, List.map_append]
            rfl
        · rw [List.take_of_length_le (Nat.le_refl _)] at p
          refine ⟨D, xs.map isInt, rfl, SqL.of (by rw [List.map_map]; exact p.2), _, rfl, ?_⟩
          obtain ⟨x, y, z, rfl⟩ : ∃ x y z, xs = [x, y, z] := by
            match xs, h3 with
            | [x, y, z], _ => exact ⟨x, y, z, rfl⟩
          have haH : H' a = some (.tup [x, y, z]) := p.1 _ _ ha
          by_cases hall : (([x, y, z].map isInt).all id) = true
          · refine iF (by rw [hall]; rfl) ?_
            obtain ⟨i, rfl⟩ : ∃ i, x = .int i := by
              cases x <;> first | exact ⟨_, rfl⟩ | (simp [isInt] at hall)
            obtain ⟨j, rfl⟩ : ∃ i, y = .int i := by
              cases y <;> first | exact ⟨_, rfl⟩ | (simp [isInt] at hall)
            obtain ⟨l, rfl⟩ : ∃ i, z = .int i := by
              cases z <;> first | exact ⟨_, rfl⟩ | (simp [isInt] at hall)
            have q' := q H' p.1
            have ef : isFact n [.int i, .int j, .int l] = (decide (0 ≤ i) && decide (i < n) && (decide (0 ≤ j) && decide (j < n))) := rfl
            rw [ef] at q'
            refine ⟨.ref a, rfl, a, _, 0, .int i, rfl, rfl, SqT.of haH, rfl, 0, i, rfl, rfl, _, rfl, ?_⟩
            have second : (decide (0 ≤ j) && decide (j < n)) = (decide (0 ≤ i) && decide (i < n) && (decide (0 ≤ j) && decide (j < n))) → tChain (rI0 fun i j => .bl (decide (i ≤ j))) (rI0 fun i j => .bl (decide (i < j))) (tC (.int 0)) (tOp (rIxT K) (tVar 1) (tC (.int 1))) (tVar 0) (start N_is_fact [V.int n, V.ref a]) H' Q := fun eq => by
              rw [← eq] at q'
              refine ⟨.ref a, rfl, a, _, 1, .int j, rfl, rfl, SqT.of haH, rfl, 0, j, rfl, rfl, _, rfl, ?_⟩
              by_cases hj : 0 ≤ j
              · refine iT (decide_eq_true hj) ⟨.int n, rfl, j, n, rfl, rfl, ?_⟩
                rw [decide_eq_true hj, Bool.true_and] at q'
                exact q'
              · refine iF (decide_eq_false hj) ?_
                rw [decide_eq_false hj, Bool.false_and] at q'
                exact q'
            by_cases hi : 0 ≤ i
            · refine iT (decide_eq_true hi) ⟨.int n, rfl, i, n, rfl, rfl, _, rfl, ?_⟩
              by_cases hin : i < n
              · refine iT (decide_eq_true hin) (second ?_)
                rw [decide_eq_true hi, decide_eq_true hin]
                rfl
              · refine iF (decide_eq_false hin) ?_
                rw [decide_eq_false hin, Bool.and_false, Bool.false_and] at q'
                exact q'
            · refine iF (decide_eq_false hi) ⟨_, rfl, iF rfl ?_⟩
              rw [decide_eq_false hi] at q'
              exact q'
          · refine iT (by rw [Bool.eq_false_iff.mpr hall]; rfl) ?_
            have ef : isFact n [x, y, z] = false := by
              cases x <;> cases y <;> cases z <;> first | rfl | exact absurd rfl hall
            have q' := q H' p.1
            rw [ef] at q'
            exact q'
      · refine iT ?_ ?_
        · show (!decide (V.int (xs.length : Int) = V.int 3)) = true
          rw [decide_eq_false (fun e => h3 (by have := V.int.inj e; omega))]
          rfl
        · have ef : isFact n xs = false := by
            unfold isFact
            split
            · exact absurd rfl h3
            · rfl
          rw [ef] at q
          exact q _ (Same.refl _)
end
end Pl

namespace Pl
open PySem L2
section
variable {P : Program} {w : World} {K : PySem.W.Frag} {mg : Str → Option Value} {base : Heap}
open BF in
theorem isFact_ok {n : Nat} {f : Fact} (h : f.1 < n ∧ f.2.1 < n) : isFact (n : Int) [.int (f.1 : Nat), .int (f.2.1 : Nat), .int f.2.2] = true := by
  show (decide ((0 : Int) ≤ (f.1 : Nat)) && decide (((f.1 : Nat) : Int) < n) && (decide ((0 : Int) ≤ (f.2.1 : Nat)) && decide (((f.2.1 : Nat) : Int) < n))) = true
  rw [decide_eq_true (by omega), decide_eq_true (by omega), decide_eq_true (by omega), decide_eq_true (by omega)]
  rfl
def spCheckFacts : Sp := fun vs H Q _ => ∃ (n : Nat) (a : Addr) (fs : List BF.Fact), vs = [.int (n : Nat), .ref a] ∧ FactsAt H a fs ∧ BF.Below n fs ∧ ∀ H', Same H H' → Q .non H'
theorem ok_check_facts (T : Txt P K mg) {k : Nat} : FnOk P w K mg base CX0 (k + 3) T.check_facts.f T.check_facts.fd ["count", "facts"] spCheckFacts := by
  have G_is_fact : FnOk P w K mg base CX0 (k + 2) T.is_fact.f T.is_fact.fd ["count", "entry"] spIsFact := ok_is_fact T
  refine T.check_facts.F.ok sc_check_facts (fun vs H Q E h => ?_) (fun cdv A outer s H vs Q E hr h => ?_)
  · obtain ⟨n, a, fs, rfl, _⟩ := h
    rfl
  · obtain ⟨n, a, fs, rfl, ⟨ts, ha, hl, hx⟩, hb, q⟩ := h
    refine ⟨_, (pss_one (ps_for PassesOwn.never rfl (pi_enum (by rfl) T.n_enumerate (pa_cons (pv 1) pa_nil)) (pg_tup rfl (pgs_cons (pg_name (i := 2) sc_check_facts.nd rfl (.inl rfl)) (pgs_cons (pg_name (i := 3) sc_check_facts.nd rfl (.inl rfl)) pgs_nil)))
   (pss_one (ps_if (pt_not (pt_val (pe_call G_is_fact (hr.mono (by omega)) (by rfl) T.is_fact.g T.is_fact.F.kp T.is_fact.b .nil pass0 (pa_cons (pv 0) (pa_cons (pv 3) pa_nil))))) (pss_one ps_never) pss_nil)))), ?_⟩
    refine ⟨.ref a, rfl, a, ts, rfl, SqL.of ha, ?_⟩
    refine for_enum (K := K) (a := a) (xs := ts) (fun i σ H' => Same H H' ∧ ∃ y2 y3, σ = [some (.int (n : Nat)), some (.ref a), y2, y3]) ⟨Same.refl _, none, none, rfl⟩ (fun i σ H' _ p => SqL.of (p.1 _ _ ha)) (fun i x σ H' t hi p nt => ?_) (fun σ H' p => q H' p.1)
    obtain ⟨sm, y2, y3, rfl⟩ := p
    obtain ⟨f, hf⟩ : ∃ f, fs[i]? = some f := by
      have hlt : i < fs.length := by rw [← hl]; exact (List.getElem?_eq_some_iff.mp hi).1
      exact ⟨_, List.getElem?_eq_getElem hlt⟩
    obtain ⟨t', h1, h2⟩ := hx i f hf
    rw [hi] at h1
    cases h1
    have hbf := hb f (List.mem_of_getElem? hf)
    have s2 : Same H (upd H' t (.tup [.int (i : Nat), .ref t'])) := sm.trans (same_upd nt)
    refine ⟨t, _, rfl, SqT.of upd_same, rfl, _, _, rfl, _, _, rfl, rfl, ?_⟩
    refine ⟨_, rfl, _, rfl, n, _, rfl, .inr ⟨t', _, rfl, s2 _ _ h2, by show 3 ≤ 1000; decide, ?_, fun H2 s3 => ?_⟩⟩
    · intro x hx
      rcases List.mem_cons.mp hx with rfl | hx
      · exact ⟨_, .int _⟩
      rcases List.mem_cons.mp hx with rfl | hx
      · exact ⟨_, .int _⟩
      rcases List.mem_cons.mp hx with rfl | hx
      · exact ⟨_, .int _⟩
      · exact nomatch hx
    · rw [isFact_ok hbf]
      exact ⟨_, rfl, iF rfl ⟨s2.trans s3, _, _, rfl⟩⟩
open BF in
theorem stp_no {s : BF.St} {p : Nat} {f : Fact} (h : need s.V f = false) : stp s p f = s := by
  unfold stp
  rw [if_neg (by rw [h]; exact Bool.false_ne_true)]
open BF in
theorem stp_yes {s : BF.St} {p a b : Nat} {c y : Int} (h : need s.V (a, b, c) = true) (hb : s.V b = some y) : stp s p (a, b, c) = ⟨fupd s.V a (some (y + c)), fupd s.O a (some p), some a⟩ := by
  unfold stp
  rw [if_pos h, newv_of hb]
def lowV : Option Nat → V
  | none => .non
  | some x => .int (x : Nat)
open BF in
def spRelaxed : Sp := fun vs H Q _ => ∃ (n : Nat) (fa va oa : Addr) (fs : List Fact) (s : BF.St), vs = [.ref fa, .ref va, .ref oa] ∧ FactsAt H fa fs ∧ Below n fs ∧ fa ≠ va ∧ fa ≠ oa ∧ va ≠ oa ∧
  H va = some (.lst (vl n s.V)) ∧ H oa = some (.lst (ol n s.O)) ∧
  ∀ H', Fr va oa H H' → H' va = some (.lst (vl n (round fs s).V)) → H' oa = some (.lst (ol n (round fs s).O)) → Q (lowV (round fs s).L) H'
open BF in
theorem ok_relaxed (T : Txt P K mg) {k : Nat} : FnOk P w K mg base CX0 (k + 1) T.relaxed.f T.relaxed.fd ["facts", "values", "origins"] spRelaxed := by
  refine T.relaxed.F.ok sc_relaxed (fun vs H Q E h => ?_) (fun cdv A outer s H vs Q E hr h => ?_)
  · obtain ⟨n, fa, va, oa, fs, z, rfl, _⟩ := h
    rfl
  · obtain ⟨n, fa, va, oa, fs, z, rfl, ⟨ts, ha, hl, hx⟩, hb, n1, n2, n3, hv, ho, q⟩ := h
    refine ⟨_, (pss_cons (ps_set (i := 3) sc_relaxed.nd rfl (.inl rfl) pe_non)
  (pss_cons (ps_for PassesOwn.never rfl (pi_enum (by rfl) T.n_enumerate (pa_cons (pv 0) pa_nil)) (pg_tup rfl (pgs_cons (pg_name (i := 4) sc_relaxed.nd rfl (.inl rfl)) (pgs_cons (pg_tup rfl (pgs_cons (pg_name (i := 5) sc_relaxed.nd rfl (.inl rfl)) (pgs_cons (pg_name (i := 6) sc_relaxed.nd rfl (.inl rfl)) (pgs_cons (pg_name (i := 7) sc_relaxed.nd rfl (.inl rfl)) pgs_nil)))) pgs_nil)))
   (pss_one (ps_if (PW.pt (pw_and (pt_cmpR op_notN (pe_ix ix_list (pv 1) (pv 6) (fun _ _ => rfl)) pe_non (nomark _)) (pw_and1 (PW.pt (pw_or (pt_cmpR op_isN (pe_ix ix_list (pv 1) (pv 5) (fun _ _ => rfl)) pe_non (nomark _)) (pw_or1 (pt_cmpR op_lt (pe_op op_add (pe_ix ix_list (pv 1) (pv 6) (fun _ _ => rfl)) (pv 7)) (pe_ix ix_list (pv 1) (pv 5) (fun _ _ => rfl)) (nomark _)))))))) (pss_cons (ps_asg (pe_op op_add (pe_ix ix_list (pv 1) (pv 6) (fun _ _ => rfl)) (pv 7)) (pg_sub (pv 1) (pv 5) set_list))
  (pss_cons (ps_asg (pv 4) (pg_sub (pv 2) (pv 5) set_list))
  (pss_one (ps_set (i := 3) sc_relaxed.nd rfl (.inl rfl) (pv 5))))) pss_nil)))
  (pss_one (ps_ret (pv 3))))), ?_⟩
    refine ⟨.ref fa, rfl, fa, ts, rfl, SqL.of ha, ?_⟩
    refine for_enum (K := K) (a := fa) (xs := ts) (fun i σ H' => Fr va oa H H' ∧ H' va = some (.lst (vl n (runFrom 0 (fs.take i) { z with L := none }).V)) ∧ H' oa = some (.lst (ol n (runFrom 0 (fs.take i) { z with L := none }).O)) ∧
        ∃ y4 y5 y6 y7, σ = [some (.ref fa), some (.ref va), some (.ref oa), some (lowV (runFrom 0 (fs.take i) { z with L := none }).L), y4, y5, y6, y7])
      ⟨fun _ _ _ _ h => h, hv, ho, none, none, none, none, rfl⟩ (fun i σ H' _ p => SqL.of (p.1 _ _ n1 n2 ha)) (fun i x σ H' t hi p nt => ?_) (fun σ H' p => ?_)
    · obtain ⟨fr, hv', ho', y4, y5, y6, y7, rfl⟩ := p
      obtain ⟨f, hf⟩ : ∃ f, fs[i]? = some f := by
        have hlt : i < fs.length := by rw [← hl]; exact (List.getElem?_eq_some_iff.mp hi).1
        exact ⟨_, List.getElem?_eq_getElem hlt⟩
      obtain ⟨t', h1, h2⟩ := hx i f hf
      rw [hi] at h1
      cases h1
      obtain ⟨f1, f2⟩ := hb f (List.mem_of_getElem? hf)
      rw [runFrom_take hf]
      generalize runFrom 0 (fs.take i) { z with L := none } = u at hv' ho'
      obtain ⟨a, b, c⟩ := f
      have ft : t' ≠ va := ne_of h2 hv (by intro e; cases e)
      have fo : t' ≠ oa := ne_of h2 ho (by intro e; cases e)
      have ht' : H' t' = some (tup3 (a, b, c)) := fr _ _ ft fo h2
      have ntv : va ≠ t := ne_of_none hv' nt
      have nto : oa ≠ t := ne_of_none ho' nt
      have fr2 : Fr va oa H (upd H' t (.tup [.int (i : Nat), .ref t'])) := fun b o b1 b2 e => by
        have := fr b o b1 b2 e
        rw [upd_ne (ne_of_none this nt)]
        exact this
      have hv2 : upd H' t (.tup [.int (i : Nat), .ref t']) va = some (.lst (vl n u.V)) := by rw [upd_ne ntv]; exact hv'
      have ho2 : upd H' t (.tup [.int (i : Nat), .ref t']) oa = some (.lst (ol n u.O)) := by rw [upd_ne nto]; exact ho'
      have ht2 : upd H' t (.tup [.int (i : Nat), .ref t']) t' = some (tup3 (a, b, c)) := same_upd nt _ _ ht'
      have hT2 : upd H' t (.tup [.int (i : Nat), .ref t']) t = some (.tup [.int (i : Nat), .ref t']) := upd_same
      generalize upd H' t (.tup [.int (i : Nat), .ref t']) = H2 at fr2 hv2 ho2 ht2 hT2
      refine ⟨t, _, rfl, SqT.of hT2, rfl, _, _, rfl, _, _, rfl, t', _, rfl, SqT.of ht2, rfl, _, _, rfl, _, _, rfl, _, _, rfl, rfl, rfl, ?_⟩
      refine ⟨.ref va, rfl, .int (b : Nat), rfl, va, _, _, _, rfl, rfl, SqL.of hv2, vl_at f2, rfl, _, rfl, ?_⟩
      cases hb' : u.V b with
      | none =>
        have e : stp u i (a, b, c) = u := stp_no (by
          cases hn : need u.V (a, b, c) with
          | false => rfl
          | true =>
            obtain ⟨y, hy, _⟩ := need_iff.mp hn
            rw [hb'] at hy
            cases hy)
        refine iF rfl (iF rfl ?_)
        rw [e]
        exact ⟨fr2, hv2, ho2, _, _, _, _, rfl⟩
      | some y =>
        refine iT rfl ?_
        refine ⟨.ref va, rfl, .int (a : Nat), rfl, va, _, _, _, rfl, rfl, SqL.of hv2, vl_at f1, rfl, _, rfl, ?_⟩
        have wr : ∀ o1 o2, Fr va oa H (upd (upd H2 va o1) oa o2) := fun o1 o2 b o b1 b2 e => by
          rw [upd_ne b2, upd_ne b1]
          exact fr2 b o b1 b2 e
        have body : need u.V (a, b, c) = true → Fr va oa H (upd (upd H2 va (.lst ((vl n u.V).set a (.int (y + c))))) oa (.lst ((ol n u.O).set a (.int (i : Nat))))) ∧
            (upd (upd H2 va (.lst ((vl n u.V).set a (.int (y + c))))) oa (.lst ((ol n u.O).set a (.int (i : Nat))))) va = some (.lst (vl n (stp u i (a, b, c)).V)) ∧
            (upd (upd H2 va (.lst ((vl n u.V).set a (.int (y + c))))) oa (.lst ((ol n u.O).set a (.int (i : Nat))))) oa = some (.lst (ol n (stp u i (a, b, c)).O)) ∧ (stp u i (a, b, c)).L = some a := fun hn => by
          rw [stp_yes hn hb']
          refine ⟨wr _ _, ?_, ?_, rfl⟩
          · rw [upd_ne n3, upd_same]
            exact congrArg (fun z => some (HO.lst z)) (vl_set (x := some (y + c)))
          · rw [upd_same]
            exact congrArg (fun z => some (HO.lst z)) (ol_set (x := some i))
        have hov : (upd H2 va (.lst ((vl n u.V).set a (.int (y + c))))) oa = some (.lst (ol n u.O)) := by rw [upd_ne (Ne.symm n3)]; exact ho2
        have iv : ixN (vl n u.V).length (a : Int) = some a := ix_in (by omega) (by rw [vl_len]; omega)
        have io : ixN (ol n u.O).length (a : Int) = some a := ix_in (by omega) (by rw [ol_len]; omega)
        cases ha' : u.V a with
        | none =>
          have hn : need u.V (a, b, c) = true := need_iff.mpr ⟨y, hb', fun x e => by rw [ha'] at e; cases e⟩
          obtain ⟨w1, w2, w3, w4⟩ := body hn
          refine iT rfl (iT rfl ?_)
          refine ⟨.ref va, rfl, .int (b : Nat), rfl, va, _, _, _, rfl, rfl, SqL.of hv2, vl_at f2, .int c, rfl, y, c, by rw [hb']; rfl, rfl, .ref va, rfl, .int (a : Nat), rfl, va, _, _, a, rfl, rfl, hv2, iv, ?_⟩
          refine ⟨.int (i : Nat), rfl, .ref oa, rfl, .int (a : Nat), rfl, oa, _, _, a, rfl, rfl, hov, io, ?_⟩
          exact ⟨.int (a : Nat), rfl, w1, w2, w3, _, _, _, _, by rw [w4]; rfl⟩
        | some x =>
          refine iF rfl ?_
          refine ⟨.ref va, rfl, .int (b : Nat), rfl, va, _, _, _, rfl, rfl, SqL.of hv2, vl_at f2, .int c, rfl, y, c, by rw [hb']; rfl, rfl, .ref va, rfl, .int (a : Nat), rfl, va, _, _, _, rfl, rfl, SqL.of hv2, vl_at f1, _, x, rfl, by rw [ha']; rfl, _, rfl, ?_⟩
          by_cases hlt : y + c < x
          · have hn : need u.V (a, b, c) = true := need_iff.mpr ⟨y, hb', fun x' e => by rw [ha'] at e; cases e; exact hlt⟩
            obtain ⟨w1, w2, w3, w4⟩ := body hn
            refine iT (decide_eq_true hlt) ?_
            refine ⟨.ref va, rfl, .int (b : Nat), rfl, va, _, _, _, rfl, rfl, SqL.of hv2, vl_at f2, .int c, rfl, y, c, by rw [hb']; rfl, rfl, .ref va, rfl, .int (a : Nat), rfl, va, _, _, a, rfl, rfl, hv2, iv, ?_⟩
            refine ⟨.int (i : Nat), rfl, .ref oa, rfl, .int (a : Nat), rfl, oa, _, _, a, rfl, rfl, hov, io, ?_⟩
            exact ⟨.int (a : Nat), rfl, w1, w2, w3, _, _, _, _, by rw [w4]; rfl⟩
          · have e : stp u i (a, b, c) = u := stp_no (by
              cases hn : need u.V (a, b, c) with
              | false => rfl
              | true =>
                obtain ⟨y', hy, hz⟩ := need_iff.mp hn
                rw [hb'] at hy
                cases hy
                exact absurd (hz x ha') hlt)
            refine iF (decide_eq_false hlt) ?_
            rw [e]
            exact ⟨fr2, hv2, ho2, _, _, _, _, rfl⟩
    · have e : fs.take ts.length = fs := List.take_of_length_le (by omega)
      rw [e] at p
      obtain ⟨fr, hv', ho', y4, y5, y6, y7, rfl⟩ := p
      exact ⟨_, rfl, q H' fr hv' ho'⟩
end
end Pl

namespace Pl
open PySem L2
namespace BFx
open BF
def collect (fs : List Fact) (O : Nat → Option Nat) (start : Nat) : Nat → Nat → List Nat
  | 0, _ => []
  | fuel + 1, v => if v = start then [] else (O v).getD 0 :: collect fs O start fuel (pd fs O v)
def ringL (fs : List Fact) (n : Nat) (O : Nat → Option Nat) (x : Nat) : List Nat :=
  (O (itr fs O x n)).getD 0 :: collect fs O (itr fs O x n) n (pd fs O (itr fs O x n))
theorem collect_self {fs : List Fact} {O : Nat → Option Nat} {start : Nat} : ∀ m, collect fs O start m start = []
  | 0 => rfl
  | m + 1 => by unfold collect; rw [if_pos rfl]
theorem collect_step {fs : List Fact} {O : Nat → Option Nat} {start m v : Nat} (h : v ≠ start) : collect fs O start (m + 1) v = (O v).getD 0 :: collect fs O start m (pd fs O v) := by
  show (if v = start then [] else (O v).getD 0 :: collect fs O start m (pd fs O v)) = _
  rw [if_neg h]
end BFx
open BFx
theorem flat_rep {α : Type} (x : α) : ∀ n, (List.replicate n [x]).flatten = List.replicate n x
  | 0 => rfl
  | n + 1 => by
    rw [List.replicate_succ, List.flatten_cons, flat_rep x n]
    rfl
theorem rep_map {α : Type} (x : α) (n : Nat) : List.replicate n x = (List.range n).map fun _ => x := by
  refine List.ext_getElem? fun i => ?_
  rw [List.getElem?_map, List.getElem?_replicate]
  by_cases h : i < n
  · rw [if_pos h, List.getElem?_range h]
    rfl
  · rw [if_neg h, List.getElem?_eq_none (by rw [List.length_range]; omega)]
    rfl
theorem rep_vl0 (n : Nat) : (List.replicate ((n : Int).toNat) [V.int 0]).flatten = vl n (fun _ => some 0) := by
  rw [Int.toNat_natCast, flat_rep, rep_map]
  rfl
theorem rep_vlN (n : Nat) : (List.replicate ((n : Int).toNat) [V.non]).flatten = vl n (fun _ => none) := by
  rw [Int.toNat_natCast, flat_rep, rep_map]
  rfl
theorem rep_olN (n : Nat) : (List.replicate ((n : Int).toNat) [V.non]).flatten = ol n (fun _ => none) := by
  rw [Int.toNat_natCast, flat_rep, rep_map]
  rfl
def nV (i : Nat) : V := .int (i : Nat)
open BF in
/-- reading the fact behind a variable's origin -/
theorem def_read {H : Hp} {fa : Addr} {fs : List Fact} {ts : List V} {O : Nat → Option Nat} {v : Nat} (ha : H fa = some (.lst ts)) (hx : ∀ (i : Nat) (f : Fact), fs[i]? = some f → ∃ t, ts[i]? = some (.ref t) ∧ H t = some (tup3 f)) (hd : Def fs O v) :
    ∃ (p : Nat) (c : Int) (t : Addr), O v = some p ∧ atI ts (p : Int) = some (.ref t) ∧ H t = some (tup3 (v, pd fs O v, c)) := by
  obtain ⟨p, u, c, h1, h2⟩ := hd
  obtain ⟨t, t1, t2⟩ := hx p _ h2
  rw [Def.pd h1 h2]
  exact ⟨p, c, t, h1, atI_nat t1, t2⟩
section
variable {P : Program} {w : World} {K : PySem.W.Frag} {mg : Str → Option Value} {base : Heap}
open BF in
def spRingBehind : Sp := fun vs H Q _ => ∃ (n x : Nat) (fa oa : Addr) (fs : List Fact) (O : Nat → Option Nat), vs = [.int (n : Nat), .ref fa, .ref oa, .int (x : Nat)] ∧ FactsAt H fa fs ∧ H oa = some (.lst (ol n O)) ∧ Below n fs ∧ x < n ∧ n ≤ 1000 ∧
  (∀ t, Def fs O (itr fs O x t)) ∧ (∃ m, 0 < m ∧ m ≤ n ∧ itr fs O x (n + m) = itr fs O x n) ∧ ∀ H' p, Same H H' → H p = none → H' p = some (.tup ((ringL fs n O x).map nV)) → Q (.ref p) H'
open BF in
theorem ok_ring_behind (T : Txt P K mg) {k : Nat} : FnOk P w K mg base CX0 (k + 1) T.ring_behind.f T.ring_behind.fd ["count", "facts", "origins", "lowered"] spRingBehind := by
  refine T.ring_behind.F.ok sc_ring_behind (fun vs H Q E h => ?_) (fun cdv A outer s H vs Q E hr h => ?_)
  · obtain ⟨n, x, fa, oa, fs, O, rfl, _⟩ := h
    rfl
  · obtain ⟨n, x, fa, oa, fs, O, rfl, ⟨ts, ha, hl, hx⟩, ho, hb, xn, nn, hd, ⟨m0, m1, m2, m3⟩, q⟩ := h
    have rd : ∀ t, ∃ (p : Nat) (c : Int) (a : Addr), O (itr fs O x t) = some p ∧ atI ts (p : Int) = some (.ref a) ∧ H a = some (tup3 (itr fs O x t, pd fs O (itr fs O x t), c)) := fun t => def_read ha hx (hd t)
    have lt : ∀ t, itr fs O x t < n := itr_lt hb xn
    refine ⟨_, (pss_cons (ps_set (i := 4) sc_ring_behind.nd rfl (.inl rfl) (pv 3))
  (pss_cons (ps_for PassesOwn.never rfl (pi_range1 (by rfl) T.n_range (pa_cons (pv 0) pa_nil)) (pg_name (i := 5) sc_ring_behind.nd rfl (.inl rfl))
   (pss_one (ps_set (i := 4) sc_ring_behind.nd rfl (.inl rfl) (pe_ix ix_tup (pe_ix ix_list (pv 1) (pe_ix ix_list (pv 2) (pv 4) (fun _ _ => rfl)) (fun _ _ => rfl)) pe_int (fun _ _ => rfl)))))
  (pss_cons (ps_set (i := 6) sc_ring_behind.nd rfl (.inl rfl) (pe_lst (pa_cons (pe_ix ix_list (pv 2) (pv 4) (fun _ _ => rfl)) pa_nil)))
  (pss_cons (ps_set (i := 7) sc_ring_behind.nd rfl (.inl rfl) (pe_ix ix_tup (pe_ix ix_list (pv 1) (pe_ix ix_list (pv 2) (pv 4) (fun _ _ => rfl)) (fun _ _ => rfl)) pe_int (fun _ _ => rfl)))
  (pss_cons (ps_while PassesOwn.never (pt_cmpR op_ne (pv 7) (pv 4) (nomark _)) (pss_cons (ps_expr (pe_bm PySem.F.plainAttrs_list PySem.F.slot_list_append PySem.F.type_list_append mt_append (pv 6) (pa_cons (pe_ix ix_list (pv 2) (pv 7) (fun _ _ => rfl)) pa_nil)))
  (pss_one (ps_set (i := 7) sc_ring_behind.nd rfl (.inl rfl) (pe_ix ix_tup (pe_ix ix_list (pv 1) (pe_ix ix_list (pv 2) (pv 7) (fun _ _ => rfl)) (fun _ _ => rfl)) pe_int (fun _ _ => rfl))))))
  (pss_one (ps_ret (pe_callTy call_tuple_of (by rfl) T.n_tuple (by decide +kernel) (pa_cons (pv 6) pa_nil))))))))), ?_⟩
    refine ⟨.int (x : Nat), rfl, .int (n : Nat), rfl, (n : Int), rfl, by omega, by omega, ?_⟩
    refine for_range (lo := 0) (n := ((n : Int)).toNat) (fun t σ H' => H' = H ∧ ∃ y5 y6 y7, σ = [some (.int (n : Nat)), some (.ref fa), some (.ref oa), some (.int (x : Nat)), some (.int (itr fs O x t : Nat)), y5, y6, y7]) ⟨rfl, none, none, none, rfl⟩ (fun t σ H' _ p => ?_) (fun σ H' p => ?_)
    · obtain ⟨rfl, y5, y6, y7, rfl⟩ := p
      obtain ⟨p, c, a, h1, h2, h3⟩ := rd t
      refine ⟨.ref fa, rfl, .ref oa, rfl, .int (itr fs O x t : Nat), rfl, oa, _, _, _, rfl, rfl, SqL.of ho, ol_at (lt t), fa, _, (p : Int), .ref a, rfl, by rw [h1]; rfl, SqL.of ha, h2, a, _, 1, .int (pd fs O (itr fs O x t) : Nat), rfl, rfl, SqT.of h3, rfl, ?_⟩
      exact ⟨rfl, _, y6, y7, rfl⟩
    · obtain ⟨rfl, y5, y6, y7, rfl⟩ := p
      have en : ((n : Int)).toNat = n := rfl
      rw [en]
      obtain ⟨p, c, a, h1, h2, h3⟩ := rd n
      -- found = [origins[start]]
      refine ⟨.ref oa, rfl, .int (itr fs O x n : Nat), rfl, oa, _, _, _, rfl, rfl, SqL.of ho, ol_at (lt n), sz (by show 1 ≤ 100000; decide), fun fo hfo => ?_⟩
      have s1 : ∀ xs, Same H' (upd H' fo (.lst xs)) := fun xs => same_upd hfo
      have e1 : ([oN (O (itr fs O x n))] : List V) = [(O (itr fs O x n)).getD 0].map nV := by rw [h1]; rfl
      rw [e1]
      -- place = facts[origins[start]][1]
      refine ⟨.ref fa, rfl, .ref oa, rfl, .int (itr fs O x n : Nat), rfl, oa, _, _, _, rfl, rfl, SqL.of (s1 _ _ _ ho), ol_at (lt n), fa, _, (p : Int), .ref a, rfl, by rw [h1]; rfl, SqL.of (s1 _ _ _ ha), h2, a, _, 1, .int (pd fs O (itr fs O x n) : Nat), rfl, rfl, SqT.of (s1 _ _ _ h3), rfl, ?_⟩
      -- the loop
      refine ⟨fun m σ H2 => ∃ (j : Nat) (ns : List Nat), σ = [some (.int (n : Nat)), some (.ref fa), some (.ref oa), some (.int (x : Nat)), some (.int (itr fs O x n : Nat)), y5, some (.ref fo), some (.int (itr fs O x j : Nat))] ∧ Same H' H2 ∧ H2 fo = some (.lst (ns.map nV)) ∧
        ringL fs n O x = ns ++ collect fs O (itr fs O x n) m (itr fs O x j) ∧ (∃ d, d ≤ m ∧ itr fs O (itr fs O x j) d = itr fs O x n) ∧ ns.length + m ≤ n + 1, ⟨n, n + 1, [(O (itr fs O x n)).getD 0], rfl, s1 _, upd_same, rfl, ⟨m0 - 1, by omega, ?_⟩, by show 1 + n ≤ n + 1; omega⟩, fun m σ H2 hW => ?_⟩
      · rw [← itr_add, show n + 1 + (m0 - 1) = n + m0 by omega]
        exact m3
      · obtain ⟨j, ns, rfl, sm, hf, er, ⟨d, d1, d2⟩, hn⟩ := hW
        refine ⟨.int (itr fs O x j : Nat), rfl, .int (itr fs O x n : Nat), rfl, rfl, _, rfl, ?_⟩
        by_cases he : itr fs O x j = itr fs O x n
        · refine iF (by rw [he]; simp) ?_
          rw [he, collect_self, List.append_nil] at er
          refine ⟨.ref fo, rfl, fo, _, rfl, .inl ⟨SqL.of hf, fun l hl2 => ?_⟩⟩
          exact q _ l (sm.trans (same_upd hl2)) (sm.free hl2) (by rw [upd_same, er])
        · refine iT (by
            rw [decide_eq_false (fun e => he (by have := V.int.inj e; omega))]
            rfl) ?_
          have dp : 0 < d := by
            cases d with
            | zero => exact absurd d2 he
            | succ d => exact Nat.succ_pos _
          obtain ⟨m', rfl⟩ : ∃ m', m = m' + 1 := ⟨m - 1, by omega⟩
          obtain ⟨pj, cj, aj, g1, g2, g3⟩ := rd j
          refine ⟨_, fun σ' H3 hN => ⟨m', by omega, hN⟩, ?_⟩
          refine ⟨.ref fo, rfl, .inl ⟨rfl, _, SqL.of hf⟩, .ref oa, rfl, .int (itr fs O x j : Nat), rfl, oa, _, _, _, rfl, rfl, SqL.of (sm _ _ ho), ol_at (lt j), fo, _, _, rfl, rfl, hf, szl (by rw [List.length_map]; omega), ?_⟩
          have s2 : Same H' (upd H2 fo (.lst (ns.map nV ++ [oN (O (itr fs O x j))]))) := same_mut sm hfo
          refine ⟨.ref fa, rfl, .ref oa, rfl, .int (itr fs O x j : Nat), rfl, oa, _, _, _, rfl, rfl, SqL.of (s2 _ _ ho), ol_at (lt j), fa, _, (pj : Int), .ref aj, rfl, by rw [g1]; rfl, SqL.of (s2 _ _ ha), g2, aj, _, 1, .int (pd fs O (itr fs O x j) : Nat), rfl, rfl, SqT.of (s2 _ _ g3), rfl, ?_⟩
          refine ⟨j + 1, ns ++ [pj], rfl, s2, ?_, ?_, ⟨d - 1, by omega, ?_⟩, ?_⟩
          · rw [upd_same, g1, List.map_append]
            rfl
          · rw [er, collect_step he, g1, List.append_assoc]
            rfl
          · rw [← itr_add] at d2 ⊢
            rw [show j + 1 + (d - 1) = j + d by omega]
            exact d2
          · rw [List.length_append]
            show ns.length + 1 + m' ≤ n + 1
            omega
open BF in
def RingRes (fs : List Fact) (n : Nat) (H H' : Hp) (v : V) : Prop := ((fin fs n).L = none ∧ v = .non) ∨ ∃ x p, (fin fs n).L = some x ∧ v = .ref p ∧ H p = none ∧ H' p = some (.tup ((ringL fs n (fin fs n).O x).map nV))
open BF in
def spRing : Sp := fun vs H Q _ => ∃ (n : Nat) (a : Addr) (fs : List Fact), vs = [.int (n : Nat), .ref a] ∧ FactsAt H a fs ∧ Below n fs ∧ 1 ≤ n ∧ n ≤ 1000 ∧ ∀ H' v, Same H H' → RingRes fs n H H' v → Q v H'
open BF in
theorem ok_ring (T : Txt P K mg) {k : Nat} : FnOk P w K mg base CX0 (k + 4) T.ring.f T.ring.fd ["count", "facts"] spRing := by
  have G_check_facts : FnOk P w K mg base CX0 (k + 3) T.check_facts.f T.check_facts.fd ["count", "facts"] spCheckFacts := ok_check_facts T
  have G_relaxed : FnOk P w K mg base CX0 (k + 3) T.relaxed.f T.relaxed.fd ["facts", "values", "origins"] spRelaxed := ok_relaxed T
  have G_ring_behind : FnOk P w K mg base CX0 (k + 3) T.ring_behind.f T.ring_behind.fd ["count", "facts", "origins", "lowered"] spRingBehind := ok_ring_behind T
  refine T.ring.F.ok sc_ring (fun vs H Q E h => ?_) (fun cdv A outer s H vs Q E hr h => ?_)
  · obtain ⟨n, a, fs, rfl, _⟩ := h
    rfl
  · obtain ⟨n, a, fs, rfl, hF, hb, n1, n2, q⟩ := h
    refine ⟨_, (pss_cons (ps_expr (pe_call G_check_facts (hr.mono (by omega)) (by rfl) T.check_facts.g T.check_facts.F.kp T.check_facts.b .nil pass0 (pa_cons (pv 0) (pa_cons (pv 1) pa_nil))))
  (pss_cons (ps_set (i := 2) sc_ring.nd rfl (.inl rfl) (pe_op op_rep (pe_lst (pa_cons pe_int pa_nil)) (pv 0)))
  (pss_cons (ps_set (i := 3) sc_ring.nd rfl (.inl rfl) (pe_op op_rep (pe_lst (pa_cons pe_non pa_nil)) (pv 0)))
  (pss_cons (ps_for PassesOwn.never rfl (pi_range1 (by rfl) T.n_range (pa_cons (pv 0) pa_nil)) (pg_name (i := 4) sc_ring.nd rfl (.inl rfl))
   (pss_cons (ps_set (i := 5) sc_ring.nd rfl (.inl rfl) (pe_call G_relaxed (hr.mono (by omega)) (by rfl) T.relaxed.g T.relaxed.F.kp T.relaxed.b .nil pass0 (pa_cons (pv 1) (pa_cons (pv 2) (pa_cons (pv 3) pa_nil)))))
  (pss_one (ps_if (pt_cmpR op_isN (pv 5) pe_non (nomark _)) (pss_one (ps_ret pe_non)) pss_nil))))
  (pss_one (ps_ret (pe_call G_ring_behind (hr.mono (by omega)) (by rfl) T.ring_behind.g T.ring_behind.F.kp T.ring_behind.b .nil pass0 (pa_cons (pv 0) (pa_cons (pv 1) (pa_cons (pv 3) (pa_cons (pv 5) pa_nil))))))))))), ?_⟩
    refine ⟨_, rfl, _, rfl, n, a, fs, rfl, hF, hb, fun H1 s1 => ?_⟩
    refine ⟨sz (by show 1 ≤ 100000; decide), fun p1 hp1 => ?_⟩
    have s2 : Same H (upd H1 p1 (.lst [.int 0])) := s1.trans (same_upd hp1)
    refine ⟨_, rfl, p1, (n : Int), _, rfl, rfl, upd_same, by omega, by omega, sz (by show 1 * n ≤ 100000; omega), fun va hva => ?_⟩
    rw [rep_vl0]
    have s3 := s2.trans (same_upd (o := .lst (vl n fun _ => some 0)) hva)
    have va0 : H va = none := s2.free hva
    have hv0 : upd (upd H1 p1 (.lst [.int 0])) va (.lst (vl n fun _ => some 0)) va = some (.lst (vl n fun _ => some 0)) := upd_same
    generalize upd (upd H1 p1 (.lst [.int 0])) va (.lst (vl n fun _ => some 0)) = H2 at s3 hv0 ⊢
    refine ⟨sz (by show 1 ≤ 100000; decide), fun p2 hp2 => ?_⟩
    have s4 : Same H (upd H2 p2 (.lst [.non])) := s3.trans (same_upd hp2)
    have hv1 := same_upd (o := .lst [.non]) hp2 _ _ hv0
    refine ⟨_, rfl, p2, (n : Int), _, rfl, rfl, upd_same, by omega, by omega, sz (by show 1 * n ≤ 100000; omega), fun oa hoa => ?_⟩
    rw [rep_olN]
    have s5 := s4.trans (same_upd (o := .lst (ol n fun _ => none)) hoa)
    have oa0 : H oa = none := s4.free hoa
    have hv2 := same_upd (o := .lst (ol n fun _ => none)) hoa _ _ hv1
    have ho2 : upd (upd H2 p2 (.lst [.non])) oa (.lst (ol n fun _ => none)) oa = some (.lst (ol n fun _ => none)) := upd_same
    have nvo : va ≠ oa := ne_of_none hv1 hoa
    generalize upd (upd H2 p2 (.lst [.non])) oa (.lst (ol n fun _ => none)) = H3 at s5 hv2 ho2 ⊢
    have nfa : ∀ {z : Addr}, H z = none → a ≠ z := fun hz => by
      obtain ⟨ts, ha, _⟩ := hF
      exact ne_of_none ha hz
    -- the rounds
    refine ⟨_, rfl, (n : Int), rfl, by omega, by omega, ?_⟩
    refine for_range (lo := 0) (n := ((n : Int)).toNat) (fun t σ H' => Same H H' ∧ H' va = some (.lst (vl n (itS fs s0 t).V)) ∧ H' oa = some (.lst (ol n (itS fs s0 t).O)) ∧
      ∃ y4 y5, σ = [some (.int (n : Nat)), some (.ref a), some (.ref va), some (.ref oa), y4, y5] ∧ (1 ≤ t → y5 = some (lowV (itS fs s0 t).L) ∧ (itS fs s0 t).L ≠ none)) ⟨s5, hv2, ho2, none, none, rfl, fun h => absurd h (by omega)⟩ (fun t σ H' ht p => ?_) (fun σ H' p => ?_)
    · obtain ⟨sm, hv, ho, y4, y5, rfl, _⟩ := p
      refine ⟨_, rfl, _, rfl, _, rfl, n, a, va, oa, fs, itS fs s0 t, rfl, hF.same sm, hb, nfa va0, nfa oa0, nvo, hv, ho, fun H4 fr hv4 ho4 => ?_⟩
      have s6 : Same H H4 := fr.same sm va0 oa0
      have hv4 : H4 va = some (.lst (vl n (itS fs s0 (t + 1)).V)) := hv4
      have ho4 : H4 oa = some (.lst (ol n (itS fs s0 (t + 1)).O)) := ho4
      refine ⟨_, rfl, rfl, _, rfl, ?_⟩
      show if (decide (lowV (itS fs s0 (t + 1)).L = V.non)) = true then _ else _
      cases hL : (itS fs s0 (t + 1)).L with
      | none =>
        refine iT rfl ?_
        exact q H4 .non s6 (.inl ⟨(itS_L hL (by have : t < n := ht; omega)).1, rfl⟩)
      | some x =>
        refine iF rfl ?_
        refine ⟨s6, hv4, ho4, _, _, rfl, fun _ => ⟨?_, ?_⟩⟩
        · show some (lowV (round fs (itS fs s0 t)).L) = some (lowV (some x))
          rw [show (round fs (itS fs s0 t)).L = some x from hL]
        · exact fun z => nomatch z
    · have en : ((n : Int)).toNat = n := rfl
      rw [en] at p
      obtain ⟨sm, hv, ho, y4, y5, rfl, hy⟩ := p
      obtain ⟨ey, hne⟩ := hy n1
      cases hL : (itS fs s0 n).L with
      | none => exact absurd hL hne
      | some x =>
        rw [hL] at ey
        subst ey
        obtain ⟨xn, hd, hm, _⟩ := fin_cycle (s := s0) rfl n1 hb hL
        refine ⟨_, rfl, _, rfl, _, rfl, _, rfl, n, x, a, oa, fs, (itS fs s0 n).O, rfl, hF.same sm, ho, hb, xn, n2, hd, hm, fun H4 p s6 hp hp2 => ?_⟩
        exact q H4 (.ref p) (sm.trans s6) (.inr ⟨x, p, hL, rfl, sm.free hp, hp2⟩)
end
end Pl

namespace Pl
open PySem L2
section
variable {P : Program} {w : World} {K : PySem.W.Frag} {mg : Str → Option Value} {base : Heap}
open BF in
/-- what bound hands back -/
def bndR (fs : List Fact) (n a b : Nat) : Option Int := match (fin fs n).L with
  | some _ => none
  | none => bnd fs n a b
open BF in
def spBound : Sp := fun vs H Q _ => ∃ (n a b : Nat) (p : Addr) (fs : List Fact), vs = [.int (n : Nat), .ref p, .int (a : Nat), .int (b : Nat)] ∧ FactsAt H p fs ∧ Below n fs ∧ 1 ≤ n ∧ n ≤ 1000 ∧ a < n ∧ b < n ∧ ∀ H', Same H H' → Q (oV (bndR fs n a b)) H'
open BF in
theorem vl_sB (n b : Nat) : (vl n fun _ => none).set b (.int 0) = vl n (sB b).V := by
  rw [show V.int 0 = oV (some 0) from rfl, vl_set]
  rfl
open BF in
theorem ok_bound (T : Txt P K mg) {k : Nat} : FnOk P w K mg base CX0 (k + 5) T.bound.f T.bound.fd ["count", "facts", "a", "b"] spBound := by
  have G_ring : FnOk P w K mg base CX0 (k + 4) T.ring.f T.ring.fd ["count", "facts"] spRing := ok_ring T
  have G_relaxed : FnOk P w K mg base CX0 (k + 4) T.relaxed.f T.relaxed.fd ["facts", "values", "origins"] spRelaxed := ok_relaxed T
  refine T.bound.F.ok sc_bound (fun vs H Q E h => ?_) (fun cdv A outer s H vs Q E hr h => ?_)
  · obtain ⟨n, a, b, p, fs, rfl, _⟩ := h
    rfl
  · obtain ⟨n, a, b, p, fs, rfl, hF, hb, n1, n2, an, bn, q⟩ := h
    refine ⟨_, (pss_cons (ps_if (pt_cmpR op_notN (pe_call G_ring (hr.mono (by omega)) (by rfl) T.ring.g T.ring.F.kp T.ring.b .nil pass0 (pa_cons (pv 0) (pa_cons (pv 1) pa_nil))) pe_non (nomark _)) (pss_one (ps_ret pe_non)) pss_nil)
  (pss_cons (ps_set (i := 4) sc_bound.nd rfl (.inl rfl) (pe_op op_rep (pe_lst (pa_cons pe_non pa_nil)) (pv 0)))
  (pss_cons (ps_asg pe_int (pg_sub (pv 4) (pv 3) set_list))
  (pss_cons (ps_set (i := 5) sc_bound.nd rfl (.inl rfl) (pe_op op_rep (pe_lst (pa_cons pe_non pa_nil)) (pv 0)))
  (pss_cons (ps_while PassesOwn.never (pt_cmpR op_notN (pe_call G_relaxed (hr.mono (by omega)) (by rfl) T.relaxed.g T.relaxed.F.kp T.relaxed.b .nil pass0 (pa_cons (pv 1) (pa_cons (pv 4) (pa_cons (pv 5) pa_nil)))) pe_non (nomark _)) (pss_one ps_pass))
  (pss_one (ps_ret (pe_ix ix_list (pv 4) (pv 2) (fun _ _ => rfl))))))))), ?_⟩
    refine ⟨_, rfl, _, rfl, n, p, fs, rfl, hF, hb, n1, n2, fun H1 v s1 hv => ⟨rfl, _, rfl, ?_⟩⟩
    rcases hv with ⟨hL, rfl⟩ | ⟨x, r, hL, rfl, _, _⟩
    · refine iF rfl ?_
      have hk := fin_keeps n1 hL
      refine ⟨sz (by show 1 ≤ 100000; decide), fun p1 hp1 => ?_⟩
      have s2 : Same H (upd H1 p1 (.lst [.non])) := s1.trans (same_upd hp1)
      refine ⟨_, rfl, p1, (n : Int), _, rfl, rfl, upd_same, by omega, by omega, sz (by show 1 * n ≤ 100000; omega), fun va hva => ?_⟩
      rw [rep_vlN]
      have va0 : H va = none := s2.free hva
      have iv : ixN (vl n fun _ => none).length (b : Int) = some b := ix_in (by omega) (by rw [vl_len]; omega)
      refine ⟨_, rfl, _, rfl, va, _, _, b, rfl, rfl, upd_same, iv, ?_⟩
      rw [vl_sB, upd_upd]
      have s3 : Same H (upd (upd H1 p1 (.lst [.non])) va (.lst (vl n (sB b).V))) := same_mut s2 va0
      have hv0 : upd (upd H1 p1 (.lst [.non])) va (.lst (vl n (sB b).V)) va = some (.lst (vl n (sB b).V)) := upd_same
      generalize upd (upd H1 p1 (.lst [.non])) va (.lst (vl n (sB b).V)) = H2 at s3 hv0 ⊢
      refine ⟨sz (by show 1 ≤ 100000; decide), fun p2 hp2 => ?_⟩
      have s4 : Same H (upd H2 p2 (.lst [.non])) := s3.trans (same_upd hp2)
      have hv1 := same_upd (o := .lst [.non]) hp2 _ _ hv0
      refine ⟨_, rfl, p2, (n : Int), _, rfl, rfl, upd_same, by omega, by omega, sz (by show 1 * n ≤ 100000; omega), fun oa hoa => ?_⟩
      rw [rep_olN]
      have s5 := s4.trans (same_upd (o := .lst (ol n fun _ => none)) hoa)
      have oa0 : H oa = none := s4.free hoa
      have hv2 := same_upd (o := .lst (ol n fun _ => none)) hoa _ _ hv1
      have ho2 : upd (upd H2 p2 (.lst [.non])) oa (.lst (ol n fun _ => none)) oa = some (.lst (ol n fun _ => none)) := upd_same
      have nvo : va ≠ oa := ne_of_none hv1 hoa
      generalize upd (upd H2 p2 (.lst [.non])) oa (.lst (ol n fun _ => none)) = H3 at s5 hv2 ho2 ⊢
      have nfa : ∀ {z : Addr}, H z = none → p ≠ z := fun hz => by
        obtain ⟨ts, ha, _⟩ := hF
        exact ne_of_none ha hz
      refine ⟨fun m σ H' => ∃ t, t < n ∧ m = n - t ∧ σ = [some (.int (n : Nat)), some (.ref p), some (.int (a : Nat)), some (.int (b : Nat)), some (.ref va), some (.ref oa)] ∧ Same H H' ∧ H' va = some (.lst (vl n (itS fs (sB b) t).V)) ∧ H' oa = some (.lst (ol n (itS fs (sB b) t).O)),
        ⟨n, 0, n1, rfl, rfl, s5, hv2, ho2⟩, fun m σ H' hW => ?_⟩
      obtain ⟨t, tn, rfl, rfl, sm, hv, ho⟩ := hW
      refine ⟨_, rfl, _, rfl, _, rfl, n, p, va, oa, fs, itS fs (sB b) t, rfl, hF.same sm, hb, nfa va0, nfa oa0, nvo, hv, ho, fun H4 fr hv4 ho4 => ⟨rfl, _, rfl, ?_⟩⟩
      have s6 : Same H H4 := fr.same sm va0 oa0
      have hv4 : H4 va = some (.lst (vl n (itS fs (sB b) (t + 1)).V)) := hv4
      have ho4 : H4 oa = some (.lst (ol n (itS fs (sB b) (t + 1)).O)) := ho4
      cases hZ : (itS fs (sB b) (t + 1)).L with
      | none =>
        refine iF (by show (!decide (lowV (itS fs (sB b) (t + 1)).L = V.non)) = false; rw [hZ]; rfl) ?_
        have eV : (itS fs (sB b) (t + 1)).V = (itS fs (sB b) n).V := (itS_stable hZ 0).2.trans (itS_L hZ (by omega)).2.symm
        rw [eV] at hv4
        refine ⟨_, rfl, _, rfl, va, _, _, _, rfl, rfl, SqL.of hv4, vl_at an, ?_⟩
        have q' := q H4 s6
        unfold bndR at q'
        rw [hL] at q'
        exact q'
      | some x =>
        refine iT (by show (!decide (lowV (itS fs (sB b) (t + 1)).L = V.non)) = true; rw [hZ]; rfl) ?_
        refine ⟨_, fun σ' H5 hN => ⟨n - (t + 1), by omega, hN⟩, ?_⟩
        refine ⟨t + 1, ?_, rfl, rfl, s6, hv4, ho4⟩
        by_cases e : t + 1 = n
        · rw [e] at hZ
          rw [sB_L n1 hb hk] at hZ
          cases hZ
        · omega
    · refine iT rfl ?_
      have q' := q H1 s1
      unfold bndR at q'
      rw [hL] at q'
      exact q'
end
end Pl

namespace Pl
open PySem L2
section
variable {P : Program} {w : World} {K : PySem.W.Frag} {mg : Str → Option Value} {base : Heap}
open BF in
def SolRes (fs : List Fact) (n : Nat) (H H' : Hp) (v : V) : Prop := ((fin fs n).L ≠ none ∧ v = .non) ∨ ∃ p, (fin fs n).L = none ∧ v = .ref p ∧ H p = none ∧ H' p = some (.lst (vl n (fin fs n).V))
open BF in
def spSolution : Sp := fun vs H Q _ => ∃ (n : Nat) (a : Addr) (fs : List Fact), vs = [.int (n : Nat), .ref a] ∧ FactsAt H a fs ∧ Below n fs ∧ 1 ≤ n ∧ n ≤ 1000 ∧ ∀ H' v, Same H H' → SolRes fs n H H' v → Q v H'
open BF in
theorem ok_solution (T : Txt P K mg) {k : Nat} : FnOk P w K mg base CX0 (k + 4) T.solution.f T.solution.fd ["count", "facts"] spSolution := by
  have G_check_facts : FnOk P w K mg base CX0 (k + 3) T.check_facts.f T.check_facts.fd ["count", "facts"] spCheckFacts := ok_check_facts T
  have G_relaxed : FnOk P w K mg base CX0 (k + 3) T.relaxed.f T.relaxed.fd ["facts", "values", "origins"] spRelaxed := ok_relaxed T
  refine T.solution.F.ok sc_solution (fun vs H Q E h => ?_) (fun cdv A outer s H vs Q E hr h => ?_)
  · obtain ⟨n, a, fs, rfl, _⟩ := h
    rfl
  · obtain ⟨n, a, fs, rfl, hF, hb, n1, n2, q⟩ := h
    refine ⟨_, (pss_cons (ps_expr (pe_call G_check_facts (hr.mono (by omega)) (by rfl) T.check_facts.g T.check_facts.F.kp T.check_facts.b .nil pass0 (pa_cons (pv 0) (pa_cons (pv 1) pa_nil))))
  (pss_cons (ps_set (i := 2) sc_solution.nd rfl (.inl rfl) (pe_op op_rep (pe_lst (pa_cons pe_int pa_nil)) (pv 0)))
  (pss_cons (ps_set (i := 3) sc_solution.nd rfl (.inl rfl) (pe_op op_rep (pe_lst (pa_cons pe_non pa_nil)) (pv 0)))
  (pss_cons (ps_for PassesOwn.never rfl (pi_range1 (by rfl) T.n_range (pa_cons (pv 0) pa_nil)) (pg_name (i := 4) sc_solution.nd rfl (.inl rfl))
   (pss_one (ps_if (pt_cmpR op_isN (pe_call G_relaxed (hr.mono (by omega)) (by rfl) T.relaxed.g T.relaxed.F.kp T.relaxed.b .nil pass0 (pa_cons (pv 1) (pa_cons (pv 2) (pa_cons (pv 3) pa_nil)))) pe_non (nomark _)) (pss_one (ps_ret (pv 2))) pss_nil)))
  (pss_one (ps_ret pe_non)))))), ?_⟩
    refine ⟨_, rfl, _, rfl, n, a, fs, rfl, hF, hb, fun H1 s1 => ?_⟩
    refine ⟨sz (by show 1 ≤ 100000; decide), fun p1 hp1 => ?_⟩
    have s2 : Same H (upd H1 p1 (.lst [.int 0])) := s1.trans (same_upd hp1)
    refine ⟨_, rfl, p1, (n : Int), _, rfl, rfl, upd_same, by omega, by omega, sz (by show 1 * n ≤ 100000; omega), fun va hva => ?_⟩
    rw [rep_vl0]
    have s3 := s2.trans (same_upd (o := .lst (vl n fun _ => some 0)) hva)
    have va0 : H va = none := s2.free hva
    have hv0 : upd (upd H1 p1 (.lst [.int 0])) va (.lst (vl n fun _ => some 0)) va = some (.lst (vl n fun _ => some 0)) := upd_same
    generalize upd (upd H1 p1 (.lst [.int 0])) va (.lst (vl n fun _ => some 0)) = H2 at s3 hv0 ⊢
    refine ⟨sz (by show 1 ≤ 100000; decide), fun p2 hp2 => ?_⟩
    have s4 : Same H (upd H2 p2 (.lst [.non])) := s3.trans (same_upd hp2)
    have hv1 := same_upd (o := .lst [.non]) hp2 _ _ hv0
    refine ⟨_, rfl, p2, (n : Int), _, rfl, rfl, upd_same, by omega, by omega, sz (by show 1 * n ≤ 100000; omega), fun oa hoa => ?_⟩
    rw [rep_olN]
    have s5 := s4.trans (same_upd (o := .lst (ol n fun _ => none)) hoa)
    have oa0 : H oa = none := s4.free hoa
    have hv2 := same_upd (o := .lst (ol n fun _ => none)) hoa _ _ hv1
    have ho2 : upd (upd H2 p2 (.lst [.non])) oa (.lst (ol n fun _ => none)) oa = some (.lst (ol n fun _ => none)) := upd_same
    have nvo : va ≠ oa := ne_of_none hv1 hoa
    generalize upd (upd H2 p2 (.lst [.non])) oa (.lst (ol n fun _ => none)) = H3 at s5 hv2 ho2 ⊢
    have nfa : ∀ {z : Addr}, H z = none → a ≠ z := fun hz => by
      obtain ⟨ts, ha, _⟩ := hF
      exact ne_of_none ha hz
    refine ⟨_, rfl, (n : Int), rfl, by omega, by omega, ?_⟩
    refine for_range (lo := 0) (n := ((n : Int)).toNat) (fun t σ H' => Same H H' ∧ H' va = some (.lst (vl n (itS fs s0 t).V)) ∧ H' oa = some (.lst (ol n (itS fs s0 t).O)) ∧
      (∃ y4, σ = [some (.int (n : Nat)), some (.ref a), some (.ref va), some (.ref oa), y4]) ∧ (1 ≤ t → (itS fs s0 t).L ≠ none)) ⟨s5, hv2, ho2, ⟨none, rfl⟩, fun h => absurd h (by omega)⟩ (fun t σ H' ht p => ?_) (fun σ H' p => ?_)
    · obtain ⟨sm, hv, ho, ⟨y4, rfl⟩, _⟩ := p
      refine ⟨_, rfl, _, rfl, _, rfl, n, a, va, oa, fs, itS fs s0 t, rfl, hF.same sm, hb, nfa va0, nfa oa0, nvo, hv, ho, fun H4 fr hv4 ho4 => ?_⟩
      have s6 : Same H H4 := fr.same sm va0 oa0
      have hv4 : H4 va = some (.lst (vl n (itS fs s0 (t + 1)).V)) := hv4
      have ho4 : H4 oa = some (.lst (ol n (itS fs s0 (t + 1)).O)) := ho4
      refine ⟨rfl, _, rfl, ?_⟩
      show if (decide (lowV (itS fs s0 (t + 1)).L = V.non)) = true then _ else _
      cases hL : (itS fs s0 (t + 1)).L with
      | none =>
        refine iT rfl ⟨_, rfl, ?_⟩
        have e1 := itS_L hL (n := n) (by have : t < n := ht; omega)
        have eV : (itS fs s0 (t + 1)).V = (itS fs s0 n).V := (itS_stable hL 0).2.trans e1.2.symm
        rw [eV] at hv4
        exact q H4 _ s6 (.inr ⟨va, e1.1, rfl, va0, hv4⟩)
      | some x =>
        refine iF rfl ?_
        exact ⟨s6, hv4, ho4, ⟨_, rfl⟩, fun _ z => nomatch z⟩
    · have en : ((n : Int)).toNat = n := rfl
      rw [en] at p
      obtain ⟨sm, hv, ho, _, hne⟩ := p
      exact q H' .non sm (.inl ⟨hne n1, rfl⟩)
end
end Pl

namespace Pl
open PySem L2
section
variable {P : Program} {w : World} {K : PySem.W.Frag} {mg : Str → Option Value} {base : Heap}
def spOpen (K : PySem.W.Frag) : Sp := fun vs H Q _ => ∃ (a : Addr) (ns : List Int), vs = [.ref a] ∧ SqL K H a (ns.map V.int) ∧ ns.length ≤ 63 ∧
  ∀ (b c : Addr) (H' : Hp), H b = none → H c = none → Same H H' → BoxAt b c H' → Q (.ref b) H'
theorem cut63 (ns : List Int) (h : ns.length ≤ 63) : cutV (ns.map V.int) none (some 63) = ns.map V.int := by
  unfold cutV
  rw [HT.sIx_none, show HT.sIx (ns.map V.int).length (ns.map V.int).length (some 63) = min 63 (ns.map V.int).length from HT.sIx_nat _ _ 63]
  rw [List.drop_zero, List.length_map, Nat.sub_zero]
  exact List.take_of_length_le (by rw [List.length_map]; omega)
theorem ok_law_open (T : Txt P K mg) {k : Nat} : FnOk P w K mg base CX0 (k + 1) T.law_open.f T.law_open.fd ["_law_script"] (spOpen K) := by
  refine T.law_open.F.ok sc_law_open (fun vs H Q E h => ?_) (fun cdv A outer s H vs Q E hr h => ?_)
  · obtain ⟨a, ns, rfl, _⟩ := h
    rfl
  · obtain ⟨a, ns, rfl, hS, hl, q⟩ := h
    refine ⟨_, (pss_cons (ps_set (i := 1) sc_law_open.nd rfl (.inl rfl) (pe_callTy call_list_of (by rfl) T.n_list (by decide +kernel) (pa_cons (pe_slice sl_list (pv 0) po_none (po_some pe_int)) pa_nil)))
  (pss_cons (ps_if (pt_cmpR op_eq (pe_callB call_len_seq (by rfl) T.n_len PySem.boot_len (pa_cons (pv 1) pa_nil)) pe_int (nomark _)) (pss_one (ps_expr (pe_bm PySem.F.plainAttrs_list PySem.F.slot_list_append PySem.F.type_list_append mt_append (pv 1) (pa_cons pe_int pa_nil)))) pss_nil)
  (pss_one (ps_ret (pe_lst (pa_cons (pv 1) (pa_cons pe_int pa_nil))))))), ?_⟩
    refine ⟨.ref a, rfl, 63, rfl, a, _, rfl, hS, fun p hp => ?_⟩
    rw [cut63 ns hl]
    refine ⟨p, _, rfl, .inl (SqL.of upd_same), fun c hc => ?_⟩
    have ncp : c ≠ p := fun e => by
      rw [e, upd_same] at hc
      cases hc
    have hc0 : H c = none := by rw [upd_ne ncp] at hc; exact hc
    have s1 : Same H (upd (upd H p (.lst (ns.map V.int))) c (.lst (ns.map V.int))) := (same_upd hp).trans (same_upd hc)
    refine ⟨.ref c, rfl, c, _, rfl, .inl (SqL.of upd_same), rfl, _, rfl, ite2 (fun e => ?_) (fun e => ?_)⟩
    · have e0 : ((ns.map V.int).length : Int) = 0 := V.int.inj (of_decide_eq_true e)
      have e1 : ns = [] := by
        cases ns with
        | nil => rfl
        | cons x r =>
          rw [List.length_map, List.length_cons] at e0
          omega
      subst e1
      refine ⟨.ref c, rfl, .inl ⟨rfl, _, SqL.of upd_same⟩, c, _, _, rfl, rfl, upd_same, szl (by show 0 < 100000; decide), ?_⟩
      rw [upd_upd]
      have s2 : Same H (upd (upd H p (.lst [])) c (.lst [.int 0])) := (same_upd hp).trans (same_upd hc)
      refine ⟨.ref c, rfl, sz (by show 2 ≤ 100000; decide), fun b hb => ?_⟩
      have nbc : b ≠ c := fun e => by
        rw [e, upd_same] at hb
        cases hb
      exact q b c _ (s2.free hb) hc0 (s2.trans (same_upd hb)) ⟨nbc, [0], 0, upd_same, by rw [upd_ne (Ne.symm nbc), upd_same]; rfl, by decide, by decide⟩
    · have h0 : 0 < ns.length := by
        cases ns with
        | nil => exact absurd (decide_eq_true rfl) e
        | cons x r => exact Nat.succ_pos _
      refine ⟨.ref c, rfl, sz (by show 2 ≤ 100000; decide), fun b hb => ?_⟩
      have nbc : b ≠ c := fun e => by
        rw [e, upd_same] at hb
        cases hb
      exact q b c _ (s1.free hb) hc0 (s1.trans (same_upd hb)) ⟨nbc, ns, 0, upd_same, by rw [upd_ne (Ne.symm nbc), upd_same], h0, by omega⟩
theorem nzA : (2147483647 : Int) ≠ 0 := by decide
theorem nzB : (2147483399 : Int) ≠ 0 := by decide
def spPick : Sp := fun vs H Q _ => ∃ (b c : Addr) (G : Hp) (m : Int), vs = [.ref b, .int m] ∧ Wd b c G H ∧ 0 < m ∧ m < 1073741824 ∧
  ∀ (i : Int) (H' : Hp), Wd b c G H' → 0 ≤ i → i < m → Q (.int i) H'
theorem box_cells {b c : Addr} {G H : Hp} {cs cs' : List Int} {k : Int} (nbc : b ≠ c) (x : Wd b c G H) (h : 0 < cs.length) (h' : cs.length ≤ 64) : Wd b c G (upd (upd H b (.lst [.ref c, .int k])) c (.lst (cs.map V.int))) :=
  ⟨⟨nbc, cs, k, by rw [upd_ne nbc, upd_same], upd_same, h, h'⟩, same_mut (same_mut x.gh x.gb) x.gc, x.gb, x.gc⟩
theorem ok_law_pick (T : Txt P K mg) {k : Nat} : FnOk P w K mg base CX0 (k + 1) T.law_pick.f T.law_pick.fd ["_law_box", "_law_many"] spPick := by
  refine T.law_pick.F.ok sc_law_pick (fun vs H Q E h => ?_) (fun cdv A outer s H vs Q E hr h => ?_)
  · obtain ⟨b, c, G, m, rfl, _⟩ := h
    rfl
  · obtain ⟨b, c, G, m, rfl, W, m0, m1, q⟩ := h
    obtain ⟨nbc, cs, k, hb, hc, l0, l1⟩ := W.box
    refine ⟨_, (pss_cons (ps_set (i := 2) sc_law_pick.nd rfl (.inl rfl) (pe_ix ix_list (pv 0) pe_int (fun _ _ => rfl)))
  (pss_cons (ps_set (i := 3) sc_law_pick.nd rfl (.inl rfl) (pe_ix ix_list (pv 0) pe_int (fun _ _ => rfl)))
  (pss_cons (ps_asg (pe_op op_add (pv 3) pe_int) (pg_sub (pv 0) pe_int set_list))
  (pss_cons (ps_set (i := 4) sc_law_pick.nd rfl (.inl rfl) (pe_op op_modN (pv 3) (pe_callB call_len_seq (by rfl) T.n_len PySem.boot_len (pa_cons (pv 2) pa_nil))))
  (pss_cons (ps_set (i := 5) sc_law_pick.nd rfl (.inl rfl) (pe_ix ix_list (pv 2) (pv 4) (fun _ _ => rfl)))
  (pss_cons (ps_if (pt_cmpR op_ge (pv 5) (pe_op op_pow pe_int pe_int) (nomark _)) (pss_cons (ps_asg (pe_op op_fdivN (pv 5) (pv 1)) (pg_sub (pv 2) (pv 4) set_list))
  (pss_one (ps_ret (pe_op op_modN (pe_callTy call_int1 (by rfl) T.n_int (by decide +kernel) (pa_cons (pv 5) pa_nil)) (pv 1))))) pss_nil)
  (pss_cons (ps_set (i := 6) sc_law_pick.nd rfl (.inl rfl) (pe_op op_modN (pe_callTy call_int1 (by rfl) T.n_int (by decide +kernel) (pa_cons (pe_op op_mul (pe_op op_add (pe_op op_add (pe_op op_modN (pe_callTy call_int1 (by rfl) T.n_int (by decide +kernel) (pa_cons (pv 5) pa_nil)) pe_int) (pe_op op_mul pe_int (pv 3))) pe_int) pe_int) pa_nil)) pe_int))
  (pss_cons (ps_set (i := 6) sc_law_pick.nd rfl (.inl rfl) (pe_op op_modN (pe_callTy call_int1 (by rfl) T.n_int (by decide +kernel) (pa_cons (pe_op op_mul (pv 6) (pe_op op_add (pe_op op_fdivN (pv 6) pe_int) pe_int)) pa_nil)) pe_int))
  (pss_cons (ps_set (i := 6) sc_law_pick.nd rfl (.inl rfl) (pe_op op_modN (pe_callTy call_int1 (by rfl) T.n_int (by decide +kernel) (pa_cons (pe_op op_mul (pv 6) (pe_op op_add (pe_op op_fdivN (pv 6) pe_int) pe_int)) pa_nil)) pe_int))
  (pss_one (ps_ret (pe_op op_modN (pe_callTy call_int1 (by rfl) T.n_int (by decide +kernel) (pa_cons (pe_op op_fdivN (pv 6) pe_int) pa_nil)) (pv 1))))))))))))), ?_⟩
    refine ⟨.ref b, rfl, b, _, 0, _, rfl, rfl, SqL.of hb, rfl, ?_⟩
    refine ⟨.ref b, rfl, b, _, 1, _, rfl, rfl, SqL.of hb, rfl, ?_⟩
    refine ⟨.int k, rfl, k, 1, rfl, rfl, .ref b, rfl, b, _, 1, 1, rfl, rfl, hb, rfl, ?_⟩
    show tSeq _ _ _ _ (upd H b (.lst [.ref c, .int (k + 1)]))
    have hc1 : upd H b (.lst [.ref c, .int (k + 1)]) c = some (.lst (cs.map V.int)) := by rw [upd_ne (Ne.symm nbc)]; exact hc
    have W1 : Wd b c G (upd H b (.lst [.ref c, .int (k + 1)])) := ⟨⟨nbc, cs, k + 1, upd_same, hc1, l0, l1⟩, same_mut W.gh W.gb, W.gb, W.gc⟩
    have ln : (0 : Int) < ((cs.map V.int).length : Int) := by rw [List.length_map]; omega
    refine ⟨.int k, rfl, .ref c, rfl, c, _, rfl, .inl (SqL.of hc1), k, _, rfl, rfl, by omega, ?_⟩
    have j0 := fm0 (a := k) ln
    have j1 := fm1 (a := k) ln
    dsimp only
    generalize ej : k.fmod ((cs.map V.int).length : Int) = j at j0 j1 ⊢
    have j2 : j < (cs.length : Int) := by rw [List.length_map] at j1; exact j1
    obtain ⟨x, hx⟩ := at_ints j0 j2
    refine ⟨.ref c, rfl, .int j, rfl, c, _, j, .int x, rfl, rfl, SqL.of hc1, hx, ?_⟩
    refine ⟨.int x, rfl, 10, 18, rfl, rfl, ⟨by decide, by decide, by decide⟩, x, _, rfl, rfl, _, rfl, ite2 (fun _ => ?_) (fun _ => ?_)⟩
    · refine ⟨.int x, rfl, .int m, rfl, x, m, rfl, rfl, ⟨by omega, by omega⟩, .ref c, rfl, .int j, rfl, c, _, j, j.toNat, rfl, rfl, hc1, ix_in j0 j1, ?_⟩
      refine ⟨.int x, rfl, .inl ⟨x, rfl, .int m, rfl, x, m, rfl, rfl, by omega, ?_⟩⟩
      refine q _ _ ?_ (fm0 m0) (fm1 m0)
      rw [← List.map_set]
      exact ⟨⟨nbc, cs.set j.toNat (x.fdiv m), k + 1, by rw [upd_ne nbc, upd_same], upd_same, by rw [List.length_set]; exact l0, by rw [List.length_set]; exact l1⟩, same_mut W1.gh W1.gc, W1.gb, W1.gc⟩
    · -- the number is mixed
      refine ⟨.int x, rfl, .inl ⟨x, rfl, x, 2147483647, rfl, rfl, nzA, .int k, rfl, 7919, k, rfl, rfl, .inl ⟨by decide, by decide⟩, _, _, rfl, rfl, _, 1, rfl, rfl, _, 48271, rfl, rfl, .inr ⟨by decide, by decide⟩, .inl ⟨_, rfl, _, 2147483647, rfl, rfl, nzA, ?_⟩⟩⟩
      have a0 := fm0 (a := (x.fmod 2147483647 + 7919 * k + 1) * 48271) (b := 2147483647) (by decide)
      have a1 := fm1 (a := (x.fmod 2147483647 + 7919 * k + 1) * 48271) (b := 2147483647) (by decide)
      dsimp only
      generalize ((x.fmod 2147483647 + 7919 * k + 1) * 48271).fmod 2147483647 = y at a0 a1 ⊢
      refine ⟨.int y, rfl, .int y, rfl, y, 1009, rfl, rfl, ⟨by decide, by decide⟩, _, 69621, rfl, rfl, y, _, rfl, rfl, .inl ⟨by omega, by omega⟩, .inl ⟨_, rfl, _, 2147483647, rfl, rfl, nzA, ?_⟩⟩
      have b0 := fm0 (a := y * (y.fdiv 1009 + 69621)) (b := 2147483647) (by decide)
      have b1 := fm1 (a := y * (y.fdiv 1009 + 69621)) (b := 2147483647) (by decide)
      dsimp only
      generalize (y * (y.fdiv 1009 + 69621)).fmod 2147483647 = z at b0 b1 ⊢
      refine ⟨.int z, rfl, .int z, rfl, z, 2003, rfl, rfl, ⟨by decide, by decide⟩, _, 40692, rfl, rfl, z, _, rfl, rfl, .inl ⟨by omega, by omega⟩, .inl ⟨_, rfl, _, 2147483399, rfl, rfl, nzB, ?_⟩⟩
      dsimp only
      generalize (z * (z.fdiv 2003 + 40692)).fmod 2147483399 = u
      refine ⟨.int u, rfl, u, 7, rfl, rfl, ⟨by decide, by decide⟩, .inl ⟨_, rfl, .int m, rfl, _, m, rfl, rfl, by omega, ?_⟩⟩
      exact q _ _ W1 (fm0 m0) (fm1 m0)
def spNumber : Sp := fun vs H Q _ => ∃ (b c : Addr) (G : Hp), vs = [.ref b] ∧ Wd b c G H ∧ ∀ (i : Int) (H' : Hp), Wd b c G H' → -100000000 * 10 ^ 32 ≤ i → i ≤ 100000001 * 10 ^ 32 → Q (.int i) H'
theorem ok_law_number (T : Txt P K mg) {k : Nat} : FnOk P w K mg base CX0 (k + 2) T.law_number.f T.law_number.fd ["_law_box"] spNumber := by
  have G_law_pick : FnOk P w K mg base CX0 (k + 1) T.law_pick.f T.law_pick.fd ["_law_box", "_law_many"] spPick := ok_law_pick T
  refine T.law_number.F.ok sc_law_number (fun vs H Q E h => ?_) (fun cdv A outer s H vs Q E hr h => ?_)
  · obtain ⟨b, c, G, rfl, _⟩ := h
    rfl
  · obtain ⟨b, c, G, rfl, W, q⟩ := h
    refine ⟨_, (pss_cons (ps_set (i := 1) sc_law_number.nd rfl (.inl rfl) (pe_call G_law_pick (hr.mono (by omega)) (by rfl) T.law_pick.g T.law_pick.F.kp T.law_pick.b .nil pass0 (pa_cons (pv 0) (pa_cons pe_int pa_nil))))
  (pss_cons (ps_if (pt_cmpR op_lt (pv 1) pe_int (nomark _)) (pss_one (ps_ret (pe_op op_sub (pe_call G_law_pick (hr.mono (by omega)) (by rfl) T.law_pick.g T.law_pick.F.kp T.law_pick.b .nil pass0 (pa_cons (pv 0) (pa_cons pe_int pa_nil))) pe_int))) pss_nil)
  (pss_cons (ps_if (pt_cmpR op_eq (pv 1) pe_int (nomark _)) (pss_one (ps_ret (pe_op op_sub (pe_call G_law_pick (hr.mono (by omega)) (by rfl) T.law_pick.g T.law_pick.F.kp T.law_pick.b .nil pass0 (pa_cons (pv 0) (pa_cons pe_int pa_nil))) pe_int))) pss_nil)
  (pss_cons (ps_if (pt_cmpR op_eq (pv 1) pe_int (nomark _)) (pss_one (ps_ret (pe_op op_sub (pe_call G_law_pick (hr.mono (by omega)) (by rfl) T.law_pick.g T.law_pick.F.kp T.law_pick.b .nil pass0 (pa_cons (pv 0) (pa_cons pe_int pa_nil))) pe_int))) pss_nil)
  (pss_one (ps_ret (pe_op op_add (pe_op op_mul (pe_op op_sub (pe_call G_law_pick (hr.mono (by omega)) (by rfl) T.law_pick.g T.law_pick.F.kp T.law_pick.b .nil pass0 (pa_cons (pv 0) (pa_cons pe_int pa_nil))) pe_int) (pe_op op_pow pe_int pe_int)) (pe_call G_law_pick (hr.mono (by omega)) (by rfl) T.law_pick.g T.law_pick.F.kp T.law_pick.b .nil pass0 (pa_cons (pv 0) (pa_cons pe_int pa_nil)))))))))), ?_⟩
    refine ⟨.ref b, rfl, b, c, G, 8, rfl, W, by decide, by decide, fun i H1 W1 i0 i1 => ?_⟩
    refine ⟨.int i, rfl, i, 5, rfl, rfl, _, rfl, ite2 (fun _ => ?_) (fun _ => ?_)⟩
    · refine ⟨.ref b, rfl, b, c, G, 9, rfl, W1, by decide, by decide, fun j H2 W2 j0 j1 => ?_⟩
      exact ⟨j, 4, rfl, rfl, q _ _ W2 (by omega) (by omega)⟩
    · refine ⟨.int i, rfl, rfl, _, rfl, ite2 (fun _ => ?_) (fun _ => ?_)⟩
      · refine ⟨.ref b, rfl, b, c, G, 41, rfl, W1, by decide, by decide, fun j H2 W2 j0 j1 => ?_⟩
        exact ⟨j, 20, rfl, rfl, q _ _ W2 (by omega) (by omega)⟩
      · refine ⟨.int i, rfl, rfl, _, rfl, ite2 (fun _ => ?_) (fun _ => ?_)⟩
        · refine ⟨.ref b, rfl, b, c, G, 2000001, rfl, W1, by decide, by decide, fun j H2 W2 j0 j1 => ?_⟩
          exact ⟨j, 1000000, rfl, rfl, q _ _ W2 (by omega) (by omega)⟩
        · refine ⟨.ref b, rfl, b, c, G, 200000001, rfl, W1, by decide, by decide, fun j H2 W2 j0 j1 => ?_⟩
          refine ⟨j, 100000000, rfl, rfl, 10, 32, rfl, rfl, ⟨by decide, by decide, by decide⟩, _, _, rfl, rfl, .inl ⟨by omega, by omega⟩, ?_⟩
          refine ⟨.ref b, rfl, b, c, G, 100000000, rfl, W2, by decide, by decide, fun l H3 W3 l0 l1 => ?_⟩
          refine ⟨_, l, rfl, rfl, q _ _ W3 ?_ ?_⟩
          · show -100000000 * 10 ^ 32 ≤ (j - 100000000) * (10 ^ 32 : Int) + l
            omega
          · show (j - 100000000) * (10 ^ 32 : Int) + l ≤ 100000001 * 10 ^ 32
            omega
end
end Pl

set_option Elab.async false
set_option linter.all false
set_option maxRecDepth 100000
set_option maxHeartbeats 4000000
/-! Looks and rows in plain words; comprehensions that only read. -/
namespace Pl
open PySem L2
/-! ### looks -/
def fitsB (row m : Int) (way : Str) : Bool := if way = "at" then decide (row ≤ m) else if way = "before" then decide (row < m) else if way = "since" then decide (row ≥ m) else decide (row > m)
def isBack (way : Str) : Bool := decide (way = "at") || decide (way = "before")
def tooFar (row m : Int) : Option Int → Bool
  | none => false
  | some l => decide ((if row - m < 0 then -(row - m) else row - m) > l)
def lookedUp (ms : List Int) (m : Int) (way : Str) (lim : Option Int) : Option Int :=
  match ms.filter (fitsB · m way) with
  | [] => none
  | r :: rs => if tooFar (if isBack way then (r :: rs).getLast (by simp) else r) m lim then none else some (if isBack way then (r :: rs).getLast (by simp) else r)
/-- the row that a look takes -/
structure Best (ms : List Int) (m : Int) (way : Str) (x : Int) : Prop where
  mem : x ∈ ms
  fit : fitsB x m way = true
  top : ∀ y ∈ ms, fitsB y m way = true → if isBack way then y ≤ x else x ≤ y
theorem Best.uniq {ms ms' : List Int} {m : Int} {way : Str} {x y : Int} (h : Best ms m way x) (g : Best ms' m way y) (e : ∀ z, z ∈ ms ↔ z ∈ ms') : x = y := by
  have h1 := h.top y ((e y).mpr g.mem) g.fit
  have h2 := g.top x ((e x).mp h.mem) h.fit
  split at h1
  · rename_i q; rw [if_pos q] at h2; omega
  · rename_i q; rw [if_neg q] at h2; omega
theorem sorted_last {l : List Int} (h : l.Pairwise (· ≤ ·)) (hn : l ≠ []) : ∀ y ∈ l, y ≤ l.getLast hn := by
  induction l with
  | nil => exact absurd rfl hn
  | cons a l ih =>
    cases l with
    | nil =>
      intro y hy
      simp at hy
      subst hy
      exact Int.le_refl _
    | cons b l =>
      rw [List.getLast_cons (by simp)]
      intro y hy
      rw [List.pairwise_cons] at h
      rcases List.mem_cons.mp hy with rfl | hy
      · exact h.1 _ (List.getLast_mem _)
      · exact ih h.2 (by simp) y hy
theorem lookedUp_cases {ms : List Int} (hs : ms.Pairwise (· ≤ ·)) (m : Int) (way : Str) (lim : Option Int) :
    ((∀ y ∈ ms, fitsB y m way = false) ∧ lookedUp ms m way lim = none) ∨ ∃ x, Best ms m way x ∧ lookedUp ms m way lim = if tooFar x m lim then none else some x := by
  unfold lookedUp
  have hf : (ms.filter (fitsB · m way)).Pairwise (· ≤ ·) := hs.filter _
  have hm : ∀ y, y ∈ ms.filter (fitsB · m way) ↔ y ∈ ms ∧ fitsB y m way = true := fun y => List.mem_filter
  generalize ms.filter (fitsB · m way) = l at hf hm
  cases l with
  | nil =>
    refine .inl ⟨fun y hy => ?_, rfl⟩
    cases e : fitsB y m way with
    | false => rfl
    | true => exact absurd ((hm y).mpr ⟨hy, e⟩) (by simp)
  | cons r rs =>
    refine .inr ⟨if isBack way then (r :: rs).getLast (by simp) else r, ?_, rfl⟩
    by_cases hb : isBack way = true
    · rw [if_pos hb]
      have h1 := (hm _).mp (List.getLast_mem (l := r :: rs) (by simp))
      refine ⟨h1.1, h1.2, fun y hy hyf => ?_⟩
      rw [if_pos hb]
      exact sorted_last hf (by simp) y ((hm y).mpr ⟨hy, hyf⟩)
    · rw [if_neg hb]
      have h1 := (hm r).mp (by simp)
      refine ⟨h1.1, h1.2, fun y hy hyf => ?_⟩
      rw [if_neg hb]
      rcases List.mem_cons.mp ((hm y).mpr ⟨hy, hyf⟩) with e | e
      · rw [e]; exact Int.le_refl _
      · exact (List.pairwise_cons.mp hf).1 y e
theorem lookedUp_congr {l l' : List Int} (h : l.Pairwise (· ≤ ·)) (h' : l'.Pairwise (· ≤ ·)) (e : ∀ z, z ∈ l ↔ z ∈ l') (m : Int) (way : Str) (lim : Option Int) : lookedUp l m way lim = lookedUp l' m way lim := by
  rcases lookedUp_cases h m way lim with ⟨a1, a2⟩ | ⟨x, bx, ex⟩
  · rcases lookedUp_cases h' m way lim with ⟨b1, b2⟩ | ⟨y, by_, ey⟩
    · rw [a2, b2]
    · have := a1 y ((e y).mpr by_.mem)
      rw [by_.fit] at this
      cases this
  · rcases lookedUp_cases h' m way lim with ⟨b1, b2⟩ | ⟨y, by_, ey⟩
    · have := b1 x ((e x).mp bx.mem)
      rw [bx.fit] at this
      cases this
    · rw [ex, ey, bx.uniq by_ e]
theorem fits_back {y m : Int} {way : Str} (h : fitsB y m way = true) (hb : isBack way = true) : y ≤ m := by
  unfold fitsB at h
  unfold isBack at hb
  split at h
  · exact of_decide_eq_true h
  · split at h
    · have := of_decide_eq_true h; omega
    · rename_i h1 h2; simp [h1, h2] at hb
theorem fits_fore {y m : Int} {way : Str} (h : fitsB y m way = true) (hb : ¬ isBack way = true) : m ≤ y := by
  unfold fitsB at h
  unfold isBack at hb
  split at h
  · rename_i h1; simp [h1] at hb
  · split at h
    · rename_i h1; simp [h1] at hb
    · split at h
      · have := of_decide_eq_true h; omega
      · have := of_decide_eq_true h; omega
/-! ### rows -/
def rowsOf (ps : List (Str × Int)) (s : Str) : List Int := (ps.filter fun p => decide (p.1 = s)).map (·.2)
def encP : Str × Int → PyData := fun p => .tuple [.str p.1, .int p.2]
def sortP (ps : List (Str × Int)) : List (Str × Int) := ps.mergeSort (PySem.W.dataLe false encP)
def leP (p q : Str × Int) : Prop := p.1.cps.toList < q.1.cps.toList ∨ (p.1 = q.1 ∧ p.2 ≤ q.2)
theorem str_ext {a b : Str} (h : a.cps.toList = b.cps.toList) : a = b := by
  cases a; cases b
  simp only at h
  rw [Array.toList_inj] at h
  rw [h]
theorem dataLt_si (x x' : Str) (y y' : Int) : PySem.W.dataLt (.tuple [.str x, .int y]) (.tuple [.str x', .int y']) = decide (x.cps.toList < x'.cps.toList ∨ (x = x' ∧ y < y')) := by
  rw [PySem.W.dataLt_pair (by simp [PySem.W.alike]) (by simp [PySem.W.alike]), PySem.W.dataLt_int, PySem.W.dataLt_str]
  simp only [PyData.eqv, beq_iff_eq]
  by_cases h1 : x = x'
  · subst h1
    by_cases h2 : y = y' <;> simp [h2, List.lt_irrefl]
  · simp [h1]
theorem dataLe_si (p q : Str × Int) : PySem.W.dataLe false encP p q = true ↔ leP p q := by
  show (!PySem.W.dataLt (.tuple [.str q.1, .int q.2]) (.tuple [.str p.1, .int p.2])) = true ↔ _
  rw [dataLt_si]
  simp only [Bool.not_eq_true', decide_eq_false_iff_not]
  unfold leP
  constructor
  · intro h
    by_cases e : p.1 = q.1
    · exact .inr ⟨e, by
        have : ¬ (q.1 = p.1 ∧ q.2 < p.2) := fun z => h (.inr z)
        have : ¬ q.2 < p.2 := fun z => this ⟨e.symm, z⟩
        omega⟩
    · refine .inl ?_
      have h1 : ¬ q.1.cps.toList < p.1.cps.toList := fun z => h (.inl z)
      have h2 : p.1.cps.toList ≤ q.1.cps.toList := List.not_lt.mp h1
      rcases List.le_iff_lt_or_eq.mp h2 with z | z
      · exact z
      · exact absurd (str_ext z) e
  · rintro (h | ⟨h1, h2⟩) (g | ⟨g1, g2⟩)
    · exact List.lt_irrefl _ (List.lt_trans h g)
    · rw [g1] at h; exact List.lt_irrefl _ h
    · rw [h1] at g; exact List.lt_irrefl _ g
    · omega
theorem leP_trans {p q r : Str × Int} (h : leP p q) (g : leP q r) : leP p r := by
  rcases h with h | ⟨h1, h2⟩
  · rcases g with g | ⟨g1, g2⟩
    · exact .inl (List.lt_trans h g)
    · rw [g1] at h; exact .inl h
  · rcases g with g | ⟨g1, g2⟩
    · rw [← h1] at g; exact .inl g
    · exact .inr ⟨h1.trans g1, by omega⟩
theorem leP_total (p q : Str × Int) : leP p q ∨ leP q p := by
  by_cases e : p.1 = q.1
  · rcases Int.le_total p.2 q.2 with h | h
    · exact .inl (.inr ⟨e, h⟩)
    · exact .inr (.inr ⟨e.symm, h⟩)
  · by_cases h : p.1.cps.toList < q.1.cps.toList
    · exact .inl (.inl h)
    · have h2 : q.1.cps.toList ≤ p.1.cps.toList := List.not_lt.mp h
      rcases List.le_iff_lt_or_eq.mp h2 with z | z
      · exact .inr (.inl z)
      · exact absurd (str_ext z).symm e
theorem sortP_perm (ps : List (Str × Int)) : (sortP ps).Perm ps := List.mergeSort_perm _ _
theorem sortP_pw (ps : List (Str × Int)) : (sortP ps).Pairwise leP := by
  have h := List.pairwise_mergeSort (le := PySem.W.dataLe false encP) (fun a b c h1 h2 => (dataLe_si a c).mpr (leP_trans ((dataLe_si a b).mp h1) ((dataLe_si b c).mp h2))) (fun a b => by
    rw [Bool.or_eq_true]
    rcases leP_total a b with h | h
    · exact .inl ((dataLe_si a b).mpr h)
    · exact .inr ((dataLe_si b a).mpr h)) ps
  exact h.imp fun h => (dataLe_si _ _).mp h
theorem sortP_len (ps : List (Str × Int)) : (sortP ps).length = ps.length := (sortP_perm ps).length_eq
theorem rowsOf_sorted {ps : List (Str × Int)} (h : ps.Pairwise leP) (s : Str) : (rowsOf ps s).Pairwise (· ≤ ·) := by
  unfold rowsOf
  rw [List.pairwise_map]
  refine (List.Pairwise.and_mem.mp (h.filter _)).imp ?_
  rintro a b ⟨ha, hb, hab⟩
  have e1 : a.1 = s := of_decide_eq_true (List.mem_filter.mp ha).2
  have e2 : b.1 = s := of_decide_eq_true (List.mem_filter.mp hb).2
  rcases hab with h | h
  · rw [e1, e2] at h
    exact absurd h (List.lt_irrefl _)
  · exact h.2
theorem rowsOf_perm {ps qs : List (Str × Int)} (h : ps.Perm qs) (s : Str) : (rowsOf ps s).Perm (rowsOf qs s) := (h.filter _).map _
theorem mem_rowsOf {ps : List (Str × Int)} {s : Str} {x : Int} : x ∈ rowsOf ps s ↔ (s, x) ∈ ps := by
  unfold rowsOf
  rw [List.mem_map]
  constructor
  · rintro ⟨⟨a, b⟩, h, rfl⟩
    obtain ⟨h1, h2⟩ := List.mem_filter.mp h
    have : a = s := of_decide_eq_true h2
    subst this
    exact h1
  · intro h
    exact ⟨(s, x), List.mem_filter.mpr ⟨h, decide_eq_true rfl⟩, rfl⟩
/-! ### names, ways, limits, rows as the heap has them -/
abbrev letters : Str := "abcdefghijklmnopqrstuvwxyz"
def goodName (z : Str) : Prop := 1 ≤ z.length ∧ z.length ≤ 12 ∧ ∀ c ∈ z.cps.toList, c ∈ letters.cps.toList
abbrev ways : List Str := ["at", "before", "since", "after"]
def limOk : Option Int → Prop
  | none => True
  | some l => 0 ≤ l
/-- rows: names and lists of numbers -/
abbrev Rws := List (Str × List Int)
def EntAt (H : Hp) (kv : Key × V) (r : Str × List Int) : Prop := kv.1 = .inr r.1 ∧ ∃ a, kv.2 = .ref a ∧ H a = some (.lst (r.2.map V.int))
def EntsAt (H : Hp) (kvs : List (Key × V)) (rs : Rws) : Prop := kvs.length = rs.length ∧ ∀ (i : Nat) kv r, kvs[i]? = some kv → rs[i]? = some r → EntAt H kv r
theorem EntsAt.same {H H' : Hp} {kvs : List (Key × V)} {rs : Rws} (s : Same H H') (h : EntsAt H kvs rs) : EntsAt H' kvs rs := ⟨h.1, fun i kv r h1 h2 => by
  obtain ⟨e, a, e2, ha⟩ := h.2 i kv r h1 h2
  exact ⟨e, a, e2, s _ _ ha⟩⟩
def goodRows (rs : Rws) : Prop := (∀ r ∈ rs, goodName r.1 ∧ r.2.Nodup ∧ r.2.length ≤ 300) ∧ (rs.map fun r => r.2.length).sum ≤ 300
/-- the pairs of a row -/
def prsOf (r : Str × List Int) : List (Str × Int) := r.2.map fun m => (r.1, m)
def PrsAt (H : Hp) (vs : List V) (ps : List (Str × Int)) : Prop := vs.length = ps.length ∧ ∀ (i : Nat) p, ps[i]? = some p → ∃ t, vs[i]? = some (.ref t) ∧ H t = some (.tup [.str p.1, .int p.2])
theorem PrsAt.same {H H' : Hp} {vs : List V} {ps : List (Str × Int)} (s : Same H H') (h : PrsAt H vs ps) : PrsAt H' vs ps := ⟨h.1, fun i p e => by
  obtain ⟨t, e1, e2⟩ := h.2 i p e
  exact ⟨t, e1, s _ _ e2⟩⟩
theorem PrsAt.app {H : Hp} {vs us : List V} {ps qs : List (Str × Int)} (h : PrsAt H vs ps) (g : PrsAt H us qs) : PrsAt H (vs ++ us) (ps ++ qs) := by
  refine ⟨by rw [List.length_append, List.length_append, h.1, g.1], fun i p e => ?_⟩
  rw [List.getElem?_append] at e ⊢
  by_cases hl : i < ps.length
  · rw [if_pos hl] at e
    rw [if_pos (by rw [h.1]; exact hl)]
    exact h.2 i p e
  · rw [if_neg hl] at e
    rw [if_neg (by rw [h.1]; exact hl), h.1]
    exact g.2 _ p e
theorem PrsAt.put {H : Hp} {vs xs : List V} {ps : List (Str × Int)} {D : Addr} {o : HO} (hD : H D = some (.lst xs)) (h : PrsAt H vs ps) : PrsAt (upd H D o) vs ps := ⟨h.1, fun i p e => by
  obtain ⟨t, e1, e2⟩ := h.2 i p e
  refine ⟨t, e1, ?_⟩
  rw [upd_ne (fun z => by rw [z, hD] at e2; cases e2)]
  exact e2⟩
/-- the rows of a name -/
def getR (rs : Rws) (z : Str) : List Int := match rs.find? (fun r => decide (r.1 = z)) with
  | none => []
  | some r => r.2
def wRows (rs : Rws) : List (Str × Int) := sortP (rs.flatMap prsOf)
theorem mem_prs {rs : Rws} {z : Str} {x : Int} : (z, x) ∈ rs.flatMap prsOf ↔ ∃ r ∈ rs, r.1 = z ∧ x ∈ r.2 := by
  rw [List.mem_flatMap]
  constructor
  · rintro ⟨r, h1, h2⟩
    obtain ⟨y, h3, h4⟩ := List.mem_map.mp h2
    cases h4
    exact ⟨r, h1, rfl, h3⟩
  · rintro ⟨r, h1, rfl, h3⟩
    exact ⟨r, h1, List.mem_map.mpr ⟨x, h3, rfl⟩⟩
theorem mem_getR {rs : Rws} (hn : (rs.map (·.1)).Nodup) {z : Str} {x : Int} : x ∈ getR rs z ↔ ∃ r ∈ rs, r.1 = z ∧ x ∈ r.2 := by
  unfold getR
  constructor
  · intro h
    cases e : rs.find? (fun r => decide (r.1 = z)) with
    | none => rw [e] at h; cases h
    | some r =>
      rw [e] at h
      exact ⟨r, List.mem_of_find?_eq_some e, of_decide_eq_true (List.find?_some (p := fun r : Str × List Int => decide (r.1 = z)) e), h⟩
  · rintro ⟨r, h1, h2, h3⟩
    cases e : rs.find? (fun r => decide (r.1 = z)) with
    | none =>
      have := List.find?_eq_none.mp e r h1
      simp [h2] at this
    | some q =>
      have hq := List.mem_of_find?_eq_some e
      have eq : q.1 = z := of_decide_eq_true (List.find?_some (p := fun r : Str × List Int => decide (r.1 = z)) e)
      have : q = r := by
        obtain ⟨i, hi⟩ := List.mem_iff_getElem?.mp hq
        obtain ⟨j, hj⟩ := List.mem_iff_getElem?.mp h1
        have a1 : (rs.map (·.1))[i]? = some z := by rw [List.getElem?_map, hi, ← eq]; rfl
        have a2 : (rs.map (·.1))[j]? = some z := by rw [List.getElem?_map, hj, ← h2]; rfl
        have hl1 := List.getElem?_eq_some_iff.mp a1
        have hl2 := List.getElem?_eq_some_iff.mp a2
        have : i = j := by
          rcases Nat.lt_trichotomy i j with h | h | h
          · exact absurd (hl1.2.trans hl2.2.symm) (List.pairwise_iff_getElem.mp hn i j hl1.1 hl2.1 h)
          · exact h
          · exact absurd (hl2.2.trans hl1.2.symm) (List.pairwise_iff_getElem.mp hn j i hl2.1 hl1.1 h)
        subst this
        rw [hi] at hj
        exact Option.some.inj hj
      rw [this]
      exact h3
theorem mem_world {rs : Rws} (hn : (rs.map (·.1)).Nodup) (z : Str) (x : Int) : x ∈ rowsOf (wRows rs) z ↔ x ∈ getR rs z := by
  rw [mem_rowsOf, mem_getR hn, ← mem_prs]
  exact (sortP_perm _).mem_iff
theorem world_sorted (rs : Rws) (z : Str) : (rowsOf (wRows rs) z).Pairwise (· ≤ ·) := rowsOf_sorted (sortP_pw _) z
theorem wRows_len (rs : Rws) : (wRows rs).length = (rs.map fun r => r.2.length).sum := by
  unfold wRows
  rw [sortP_len]
  induction rs with
  | nil => rfl
  | cons x rs ih =>
    simp only [List.flatMap_cons, List.length_append, List.map_cons, List.sum_cons, ih]
    simp [prsOf]
theorem prs_sort {H : Hp} {us : List V} {ps : List (Str × Int)} (h : PrsAt H us ps) : PrsAt H (((us.zip ps).mergeSort (PySem.W.dataLe false fun p => encP p.2)).map (·.1)) (sortP ps) := by
  have e2 : (us.zip ps).map (·.2) = ps := List.map_snd_zip (by rw [h.1]; exact Nat.le_refl _)
  have e3 : sortP ps = ((us.zip ps).mergeSort (PySem.W.dataLe false fun p => encP p.2)).map (·.2) := by
    have z := List.map_mergeSort (r := PySem.W.dataLe false fun p : V × (Str × Int) => encP p.2) (s := PySem.W.dataLe false encP) (f := fun p : V × (Str × Int) => p.2) (l := us.zip ps) (fun a _ b _ => rfl)
    rw [z, e2]
    rfl
  rw [e3]
  refine ⟨by rw [List.length_map, List.length_map], fun i p e => ?_⟩
  rw [List.getElem?_map] at e ⊢
  cases hz : ((us.zip ps).mergeSort (PySem.W.dataLe false fun p => encP p.2))[i]? with
  | none => rw [hz] at e; cases e
  | some z =>
    rw [hz] at e
    obtain ⟨v, q⟩ := z
    have eq : q = p := Option.some.inj e
    subst eq
    have hm := List.mem_mergeSort.mp (List.mem_of_getElem? hz)
    obtain ⟨j, hj⟩ := List.mem_iff_getElem?.mp hm
    rw [List.getElem?_zip_eq_some] at hj
    obtain ⟨t, t1, t2⟩ := h.2 j q hj.2
    rw [hj.1] at t1
    exact ⟨t, t1, t2⟩
/-! ### what stands beside the box -/
def mn (S : List Addr) (H : Hp) : Hp := fun a => if a ∈ S then none else H a
theorem mn_at {S : List Addr} {H : Hp} {a : Addr} (h : a ∉ S) : mn S H a = H a := if_neg h
theorem mn_in {S : List Addr} {H : Hp} {a : Addr} (h : a ∈ S) : mn S H a = none := if_pos h
theorem mn_same {S : List Addr} {H : Hp} : Same (mn S H) H := fun a o e => by
  unfold mn at e
  split at e
  · cases e
  · exact e
theorem same_mn {S : List Addr} {G H : Hp} (s : Same G H) (h : ∀ a ∈ S, G a = none) : Same G (mn S H) := fun a o e => by
  rw [mn_at (fun z => by rw [h a z] at e; cases e)]
  exact s a o e
/-- S: lists -/
def Lsts (S : List Addr) (H : Hp) : Prop := ∀ a ∈ S, ∃ xs, H a = some (.lst xs)
theorem mn_nl {S : List Addr} {H : Hp} {a : Addr} {o : HO} (hS : Lsts S H) (h : H a = some o) (ho : ∀ xs, o ≠ .lst xs) : mn S H a = some o := by
  rw [mn_at (fun z => by obtain ⟨xs, e⟩ := hS a z; rw [h] at e; exact ho xs (Option.some.inj e))]
  exact h
theorem PrsAt.mn {S : List Addr} {H : Hp} (hS : Lsts S H) {vs : List V} {ps : List (Str × Int)} (h : PrsAt H vs ps) : PrsAt (mn S H) vs ps := ⟨h.1, fun i p e => by
  obtain ⟨t, e1, e2⟩ := h.2 i p e
  exact ⟨t, e1, mn_nl hS e2 (fun _ z => nomatch z)⟩⟩
theorem Wd.lsts {b c : Addr} {G H : Hp} (W : Wd b c G H) : Lsts [b, c] H := fun a ha => by
  obtain ⟨_, cs, k, b1, b2, _⟩ := W.box
  simp only [List.mem_cons, List.not_mem_nil, or_false] at ha
  rcases ha with rfl | rfl
  · exact ⟨_, b1⟩
  · exact ⟨_, b2⟩
theorem Wd.sm {b c : Addr} {G H H' : Hp} (W : Wd b c G H) (s : Same H H') : Wd b c G H' := ⟨W.box.same s, W.gh.trans s, W.gb, W.gc⟩
/-- all but the box is taken among what stays -/
theorem Wd.all {b c : Addr} {G H : Hp} (W : Wd b c G H) : Wd b c (mn [b, c] H) H := ⟨W.box, mn_same, mn_in (by simp), mn_in (by simp)⟩
theorem Wd.allS {b c : Addr} {G H : Hp} (W : Wd b c G H) : Same G (mn [b, c] H) := same_mn W.gh fun a ha => by
  simp only [List.mem_cons, List.not_mem_nil, or_false] at ha
  rcases ha with rfl | rfl
  · exact W.gb
  · exact W.gc
theorem Wd.weak {b c : Addr} {G G' H : Hp} (x : Wd b c G' H) (s : Same G G') : Wd b c G H := ⟨x.box, s.trans x.gh, s.free x.gb, s.free x.gc⟩
/-- what stands at p is taken among what stays -/
theorem Wd.keep {b c p : Addr} {G H : Hp} {o : HO} (x : Wd b c G H) (h : H p = some o) (hb : p ≠ b) (hc : p ≠ c) : Wd b c (upd G p o) H :=
  ⟨x.box, fun a u e => by
    by_cases q : a = p
    · subst q; rw [upd_same] at e; cases e; exact h
    · rw [upd_ne q] at e; exact x.gh a u e, by rw [upd_ne (Ne.symm hb)]; exact x.gb, by rw [upd_ne (Ne.symm hc)]; exact x.gc⟩
theorem Wd.nb {b c p : Addr} {G H : Hp} (x : Wd b c G H) (h : H p = none) : p ≠ b ∧ p ≠ c := by
  obtain ⟨_, h1⟩ := x.box.b
  obtain ⟨_, h2⟩ := x.box.c
  exact ⟨fun e => (by rw [e, h1] at h; cases h), fun e => (by rw [e, h2] at h; cases h)⟩
/-! ### comprehensions that only read and make -/
theorem lc_pure {K : PySem.W.Frag} {a : Addr} {xs : List V} {g : TG} {tt : TT} {te : TE} {vs : List Nat} {σ : St} {H1 : Hp} {D : Addr} {Qd : Hp → Prop} (F : V → Option V) (hS : SqL K H1 a xs) (hD : H1 D = none) (hz : xs.length ≤ 100000)
    (hs : ∀ x H (N : V → Hp → Prop) (N' : Hp → Prop), x ∈ xs → Same H1 H → (∀ y H', Same H H' → F x = some y → N y H') → (∀ H', Same H H' → F x = none → N' H') → g x (wipe σ vs) H fun σ2 H2 => wipe σ2 vs = wipe σ vs ∧ tt σ2 H2 fun b H3 => if b = true then te σ2 H3 N else N' H3)
    (hd : ∀ H', Same H1 H' → H' D = some (.lst (xs.filterMap F)) → Qd H') :
    ∃ W : Nat → Nat → Hp → Prop, (∃ m, W 0 m (upd H1 D (.lst []))) ∧ ∀ i m H, W i m H →
      ((Itl K a).stop i H ∧ Qd H) ∨ ((Itl K a).go i H ∧ ∃ Nx : Hp → Prop, (∀ H', Nx H' → ∃ m', m' < m ∧ W (i + 1) m' H') ∧ ∀ x H', (Itl K a).yld i H x H' → g x (wipe σ vs) H' fun σ2 H2 => wipe σ2 vs = wipe σ vs ∧ tt σ2 H2 fun b H3 =>
        if b = true then te σ2 H3 fun y H4 => ∃ acc, H4 D = some (.lst acc) ∧ acc.length < sizeLine ∧ Nx (upd H4 D (.lst (acc ++ [y]))) else Nx H3) := by
  refine lc_list (K := K) (a := a) (xs := xs) (fun i H' => Same H1 H' ∧ H' D = some (.lst ((xs.take i).filterMap F))) ⟨same_upd hD, upd_same⟩ (fun i H' _ pp => pp.1.seq hS) (fun i x H' hx pp => ?_) (fun H' pp => ?_)
  · obtain ⟨s1, hd1⟩ := pp
    have ht : xs.take (i + 1) = xs.take i ++ [x] := by rw [List.take_add_one, hx]; rfl
    refine hs x H' _ _ (List.mem_of_getElem? hx) s1 (fun y H4 s4 ey => ⟨_, s4 _ _ hd1, ?_, ?_, ?_⟩) (fun H4 s4 ey => ⟨s1.trans s4, ?_⟩)
    · have h1 := List.length_filterMap_le F (xs.take i)
      rw [List.length_take] at h1
      have h2 := (List.getElem?_eq_some_iff.mp hx).1
      exact szl (by omega)
    · exact same_mut (s1.trans s4) hD
    · rw [upd_same, ht, List.filterMap_append]
      simp [List.filterMap, ey]
    · rw [s4 _ _ hd1, ht, List.filterMap_append]
      simp [List.filterMap, ey]
  · rw [List.take_of_length_le (Nat.le_refl _)] at pp
    exact hd H' pp.1 pp.2
end Pl

set_option Elab.async false
set_option linter.all false
set_option maxRecDepth 100000
set_option maxHeartbeats 4000000
/-! Short words for readings. -/
namespace Pl
open PySem L2
theorem at_same {H H' : Hp} {a : Addr} {o : HO} (s : Same H H') (h : H a = some o) : H' a = some o := s _ _ h
theorem sm2 {H H1 H2 : Hp} (b : Same H1 H2) (a : Same H H1) : Same H H2 := a.trans b
theorem nw1 {H K : Hp} {p : Addr} {o : HO} (e : upd H p o = K) (h : H p = none) : Same H K ∧ K p = some o := by subst e; exact ⟨same_upd h, upd_same⟩
theorem hu65 {k : Nat} {A : Around} (r : Room k A) : A.units + 65 < cLine := by have := r.un; omega
theorem dI_t {x y : Int} (h : x = y) : decide (V.int x = V.int y) = true := by subst h; exact decide_eq_true rfl
theorem dI_f {x y : Int} (h : ¬ x = y) : decide (V.int x = V.int y) = false := decide_eq_false fun z => h (V.int.inj z)
theorem dS_t {x y : Str} (h : x = y) : decide (V.str x = V.str y) = true := by subst h; exact decide_eq_true rfl
theorem dS_f {x y : Str} (h : ¬ x = y) : decide (V.str x = V.str y) = false := decide_eq_false fun z => h (V.str.inj z)
theorem nI_t {x y : Int} (h : x = y) : (!decide (V.int x = V.int y)) = false := by rw [dI_t h]; rfl
theorem nI_f {x y : Int} (h : ¬ x = y) : (!decide (V.int x = V.int y)) = true := by rw [dI_f h]; rfl
theorem nS_t {x y : Str} (h : x = y) : (!decide (V.str x = V.str y)) = false := by rw [dS_t h]; rfl
theorem nS_f {x y : Str} (h : ¬ x = y) : (!decide (V.str x = V.str y)) = true := by rw [dS_f h]; rfl
theorem nb_t {b : Bool} (h : b = false) : (!b) = true := by rw [h]; rfl
theorem nb_f {b : Bool} (h : b = true) : (!b) = false := by rw [h]; rfl
theorem q_none_int : tyB "NoneType" "int" = false := by unfold tyB; rw [kb_none_int]; rfl
theorem q_none_bool : tyB "NoneType" "bool" = false := by unfold tyB; rw [kb_none_bool]; rfl
theorem q_none_tuple : tyB "NoneType" "tuple" = false := by unfold tyB; rw [kb_none_tuple]; rfl
theorem q_none_list : tyB "NoneType" "list" = false := by unfold tyB; rw [kb_none_list]; rfl
theorem q_none_str : tyB "NoneType" "str" = false := by unfold tyB; rw [kb_none_str]; rfl
theorem q_bool_int : tyB "bool" "int" = true := by unfold tyB; rw [kb_bool_int]; rfl
theorem q_bool_bool : tyB "bool" "bool" = true := by unfold tyB; rw [kb_bool_bool]; rfl
theorem q_bool_tuple : tyB "bool" "tuple" = false := by unfold tyB; rw [kb_bool_tuple]; rfl
theorem q_bool_list : tyB "bool" "list" = false := by unfold tyB; rw [kb_bool_list]; rfl
theorem q_bool_str : tyB "bool" "str" = false := by unfold tyB; rw [kb_bool_str]; rfl
theorem q_int_int : tyB "int" "int" = true := by unfold tyB; rw [kb_int_int]; rfl
theorem q_int_bool : tyB "int" "bool" = false := by unfold tyB; rw [kb_int_bool]; rfl
theorem q_int_tuple : tyB "int" "tuple" = false := by unfold tyB; rw [kb_int_tuple]; rfl
theorem q_int_list : tyB "int" "list" = false := by unfold tyB; rw [kb_int_list]; rfl
theorem q_int_str : tyB "int" "str" = false := by unfold tyB; rw [kb_int_str]; rfl
theorem q_str_int : tyB "str" "int" = false := by unfold tyB; rw [kb_str_int]; rfl
theorem q_str_bool : tyB "str" "bool" = false := by unfold tyB; rw [kb_str_bool]; rfl
theorem q_str_tuple : tyB "str" "tuple" = false := by unfold tyB; rw [kb_str_tuple]; rfl
theorem q_str_list : tyB "str" "list" = false := by unfold tyB; rw [kb_str_list]; rfl
theorem q_str_str : tyB "str" "str" = true := by unfold tyB; rw [kb_str_str]; rfl
theorem q_list_int : tyB "list" "int" = false := by unfold tyB; rw [kb_list_int]; rfl
theorem q_list_bool : tyB "list" "bool" = false := by unfold tyB; rw [kb_list_bool]; rfl
theorem q_list_tuple : tyB "list" "tuple" = false := by unfold tyB; rw [kb_list_tuple]; rfl
theorem q_list_list : tyB "list" "list" = true := by unfold tyB; rw [kb_list_list]; rfl
theorem q_list_str : tyB "list" "str" = false := by unfold tyB; rw [kb_list_str]; rfl
theorem q_tuple_int : tyB "tuple" "int" = false := by unfold tyB; rw [kb_tuple_int]; rfl
theorem q_tuple_bool : tyB "tuple" "bool" = false := by unfold tyB; rw [kb_tuple_bool]; rfl
theorem q_tuple_tuple : tyB "tuple" "tuple" = true := by unfold tyB; rw [kb_tuple_tuple]; rfl
theorem q_tuple_list : tyB "tuple" "list" = false := by unfold tyB; rw [kb_tuple_list]; rfl
theorem q_tuple_str : tyB "tuple" "str" = false := by unfold tyB; rw [kb_tuple_str]; rfl
end Pl

namespace Pl
open PySem L2
local macro_rules | `(tactic| infer_instance) => `(tactic| first
  | with_reducible assumption
  | with_reducible exact Same.refl _
  | exact Wd.gh (by with_reducible assumption)
  | exact sm2 (by with_reducible assumption) (by infer_instance)
  | exact sm2 (same_upd (by with_reducible assumption)) (by infer_instance)
  | exact sm2 (Wd.gh (by with_reducible assumption)) (by infer_instance))
local macro_rules | `(tactic| trivial) => `(tactic| first
  | with_reducible assumption
  | with_reducible exact upd_same
  | exact at_same (by with_reducible assumption) (by trivial)
  | exact at_same (same_upd (by with_reducible assumption)) (by trivial)
  | exact at_same (Wd.gh (by with_reducible assumption)) (by trivial))
local macro_rules | `(tactic| ac_rfl) => `(tactic| first
  | exact Ty.int _
  | exact Ty.str _
  | exact Ty.non
  | exact Ty.bl _
  | exact Ty.tup (by trivial)
  | exact Ty.lst (by trivial))
local macro_rules | `(tactic| contradiction) => `(tactic| first
  | exact rfl
  | exact decide_eq_true (by first | assumption | omega)
  | exact decide_eq_false (by first | assumption | omega)
  | exact dI_t (by first | assumption | omega)
  | exact dI_f (by first | assumption | omega)
  | exact dS_t (by first | assumption | decide)
  | exact dS_f (by first | assumption | decide)
  | exact nI_t (by first | assumption | omega)
  | exact nI_f (by first | assumption | omega)
  | exact nS_t (by first | assumption | decide)
  | exact nS_f (by first | assumption | decide)
  | assumption
  | exact q_none_int | exact q_none_bool | exact q_none_tuple | exact q_none_list | exact q_none_str | exact q_bool_int | exact q_bool_bool | exact q_bool_tuple | exact q_bool_list | exact q_bool_str | exact q_int_int | exact q_int_bool | exact q_int_tuple | exact q_int_list | exact q_int_str | exact q_str_int | exact q_str_bool | exact q_str_tuple | exact q_str_list | exact q_str_str | exact q_list_int | exact q_list_bool | exact q_list_tuple | exact q_list_list | exact q_list_str | exact q_tuple_int | exact q_tuple_bool | exact q_tuple_tuple | exact q_tuple_list | exact q_tuple_str
  | exact nb_t (by contradiction)
  | exact nb_f (by contradiction))
local macro_rules | `(tactic| and_intros) => `(tactic| repeat (first
  | refine ⟨_, rfl, ?_⟩
  | refine ⟨_, _, rfl, rfl, ?_⟩
  | refine ⟨rfl, ?_⟩
  | refine ⟨_, _, _, _, rfl, rfl, SqT.of (by trivial), at_ix (by decide) rfl, ?_⟩
  | refine ⟨_, _, _, _, rfl, rfl, SqL.of (by trivial), at_ix (by decide) rfl, ?_⟩
  | refine ⟨_, _, rfl, Or.inl (SqL.of (by trivial)), ?_⟩
  | refine ⟨_, _, rfl, Or.inr (SqT.of (by trivial)), ?_⟩
  | refine ⟨_, _, _, _, _, rfl, (by trivial), (by trivial), (by trivial), rfl, ?_⟩
  | refine ⟨_, _, _, _, _, rfl, ClsV.ty _, Ty.x (by ac_rfl), isI_tuple (by ac_rfl), ?_⟩
  | refine ⟨_, _, _, _, _, rfl, ClsV.ty _, Ty.x (by ac_rfl), isI_list (by ac_rfl), ?_⟩
  | refine ⟨_, _, _, _, _, rfl, ClsV.ty _, Ty.x (by ac_rfl), isI_int (by ac_rfl), ?_⟩
  | refine ⟨_, _, _, _, _, rfl, ClsV.ty _, Ty.x (by ac_rfl), isI_bool (by ac_rfl), ?_⟩
  | refine ⟨_, _, _, _, _, rfl, ClsV.ty _, Ty.x (by ac_rfl), isI_str (by ac_rfl), ?_⟩
  | refine ⟨sz (Nat.le_of_ble_eq_true rfl), ?_⟩
  | refine ⟨Or.inl ⟨rfl, _, SqL.of (by trivial)⟩, ?_⟩
  | refine ⟨_, _, rfl, SqT.of (by trivial), rfl, _, _, rfl, _, _, rfl, _, _, rfl, _, _, rfl, rfl, ?_⟩
  | refine ⟨_, _, rfl, SqT.of (by trivial), rfl, _, _, rfl, _, _, rfl, _, _, rfl, rfl, ?_⟩
  | refine ⟨_, _, rfl, SqT.of (by trivial), rfl, _, _, rfl, _, _, rfl, rfl, ?_⟩
  | refine ⟨_, _, _, _, rfl, (by with_reducible assumption : Wd _ _ _ _), (by first | decide | omega), (by first | decide | omega), ?_⟩
  | refine ⟨_, _, _, rfl, (by with_reducible assumption : Wd _ _ _ _), ?_⟩
  | refine iT (by contradiction) ?_
  | refine iF (by contradiction) ?_))
-- USE RD
open LamX
section
variable {P : Program} {w : World} {K : PySem.W.Frag} {mg : Str → Option Value} {base : Heap}
theorem ok_BadFact_init (T : Txt P K mg) {k : Nat} : FnOk P w K mg base CX0 (k + 1) T.BadFact_init.f T.BadFact_init.fd ["self", "place"] (spExI K "place") := by
  refine T.BadFact_init.F.ok (k := k) sc_BadFact_init (fun vs H Q E h => ?_) (fun cdv A outer s H vs Q E hr h => ?_)
  · obtain ⟨a, C, y, rfl, _⟩ := h
    rfl
  · obtain ⟨a, C, y, rfl, hT, ha, hno, q⟩ := h
    exact ⟨_, (pss_one (ps_ost (pv 0) (pv 1))), ⟨_, rfl, _, rfl, a, C, rfl, hT, hno, .inl ⟨ha, fun dx h1 h2 => q dx h1 h2⟩⟩⟩
end
def erL {K : PySem.W.Frag} {mg : Str → Option Value} {P : Program} (T : Txt P K mg) : List Er := [(T.c_BadFact, "BadFact", some "place")]
theorem gives_law_refusal {P : Program} {X : Cx} {K : PySem.W.Frag} {mg : Str → Option Value} (T : Txt P K mg) (hK : X.K = K) (hmg : X.mg = mg) {q : Str} (cdg : Value) : GivesTo X N_law_refusal "_law_refusal" (defScope s_law_refusal) T.law_refusal.f cdg (defBody s_law_refusal) "_law_deed" q (TRef (erL T)) := by
  subst hK hmg
  intro f c' s H Q tl act hc h
  refine ⟨_, (pss_cons (ps_set (i := 1) sc_law_refusal.nd rfl (.inl rfl) (pe_tup (pa_cons pe_str pa_nil)))
  (pss_cons (ps_try_mix rfl rfl sc_law_refusal.nd L2.takes0 (fun W pn xe tk _ => pss_act (fun E p1 p2 hW => act W pn xe E p1 p2 tk hW)) (.consAs (i := 2) rfl rfl ⟨rfl, by decide, .inl T.g_BadName⟩ (fun a oe cls d pn hz hf => (pss_one ps_never))
  (.consAs (i := 2) rfl rfl ⟨rfl, by decide, .inl T.g_BadMoment⟩ (fun a oe cls d pn hz hf => (pss_one ps_never))
  (.consAs (i := 2) rfl rfl ⟨rfl, by decide, .inl T.g_BadBound⟩ (fun a oe cls d pn hz hf => (pss_one ps_never))
  (.consAs (i := 2) rfl rfl ⟨rfl, by decide, .inl T.g_BadTerm⟩ (fun a oe cls d pn hz hf => (pss_one ps_never))
  (.consAs (i := 2) rfl rfl ⟨rfl, by decide, .inl T.g_BadWay⟩ (fun a oe cls d pn hz hf => (pss_one ps_never))
  (.consAs (i := 2) rfl rfl ⟨rfl, by decide, .inl T.g_BadPath⟩ (fun a oe cls d pn hz hf => (pss_one ps_never))
  (.consAs (i := 2) rfl rfl ⟨rfl, by decide, .inl T.g_BadWorld⟩ (fun a oe cls d pn hz hf => (pss_one ps_never))
  (.consAs (i := 2) rfl rfl ⟨rfl, by decide, .inl T.g_BadRows⟩ (fun a oe cls d pn hz hf => (pss_one ps_never))
  (.consAs (i := 2) rfl rfl ⟨rfl, by decide, .inl T.g_BadFact⟩ (fun a oe cls d pn hz hf => (pss_one (ps_set (i := 1) sc_law_refusal.nd rfl (.inl rfl) (pe_tup (pa_cons pe_str (pa_cons (pe_xf T.er_BadFact.xf T.er_BadFact.no hz hf (pv 2)) pa_nil))))))
  (.consAs (i := 2) rfl rfl ⟨rfl, by decide, .inl T.g_BadText⟩ (fun a oe cls d pn hz hf => (pss_one ps_never))
  (.consAs (i := 2) rfl rfl ⟨rfl, by decide, .inl T.g_Unknown⟩ (fun a oe cls d pn hz hf => (pss_one ps_never))
  (.cons ⟨rfl, by decide, .inl T.g_TooMany⟩ (fun a oe cls d pn hz hf => (pss_one ps_never))
  (.cons ⟨rfl, by decide, .inl T.g_Unlike⟩ (fun a oe cls d pn hz hf => (pss_one ps_never))
  (.cons ⟨rfl, by decide, .inl T.g_NotCovered⟩ (fun a oe cls d pn hz hf => (pss_one ps_never))
  (.cons ⟨rfl, by decide, .inl T.g_NotMost⟩ (fun a oe cls d pn hz hf => (pss_one ps_never))
  (.cons ⟨rfl, by decide, .inl T.g_NotSettled⟩ (fun a oe cls d pn hz hf => (pss_one ps_never))
  .nil)))))))))))))))))
  (pss_one (ps_ret (pv 1))))), ?_⟩
  and_intros
  intro p hp
  generalize el : upd _ p _ = H1
  have h1 : H1 = upd H p (.tup [.str "nothing"]) := el.symm
  obtain ⟨s1, q1⟩ := nw1 el hp
  clear el
  refine ⟨rfE (erL T) Q, fun cls d σ' H' hE hlen => ?_, rfl, s1 _ _ hc, ?_⟩
  · obtain ⟨e, he, rfl, hm⟩ := hE
    match σ', hlen with
    | [x0, x1, x2], _ =>
    simp only [erL, List.mem_cons, List.not_mem_nil, or_false] at he
    rcases he with rfl
    · refine ⟨false, T.em_BadFact_BadName, (fun z => nomatch z), fun _ => ⟨false, T.em_BadFact_BadMoment, (fun z => nomatch z), fun _ => ⟨false, T.em_BadFact_BadBound, (fun z => nomatch z), fun _ => ⟨false, T.em_BadFact_BadTerm, (fun z => nomatch z), fun _ => ⟨false, T.em_BadFact_BadWay, (fun z => nomatch z), fun _ => ⟨false, T.em_BadFact_BadPath, (fun z => nomatch z), fun _ => ⟨false, T.em_BadFact_BadWorld, (fun z => nomatch z), fun _ => ⟨false, T.em_BadFact_BadRows, (fun z => nomatch z), fun _ => ⟨true, T.em_BadFact_BadFact, fun _ a ha => ?_, fun z => nomatch z⟩⟩⟩⟩⟩⟩⟩⟩⟩
      obtain ⟨dd, fs, v, rfl, hx, hlk, hq⟩ := hm
      exact ⟨_, rfl, rfl, rfl, dd, fs, v, rfl, hx, hlk, sz (Nat.le_of_ble_eq_true rfl), fun p1 hp1 => ⟨_, rfl, hq p1 hp1⟩⟩
  · rw [h1]
    exact h p hp _ (fun v H' z => ⟨_, rfl, z⟩)
end Pl

namespace Pl
open PySem L2
local macro_rules | `(tactic| infer_instance) => `(tactic| first
  | with_reducible assumption
  | with_reducible exact Same.refl _
  | exact Wd.gh (by with_reducible assumption)
  | exact sm2 (by with_reducible assumption) (by infer_instance)
  | exact sm2 (same_upd (by with_reducible assumption)) (by infer_instance)
  | exact sm2 (Wd.gh (by with_reducible assumption)) (by infer_instance))
local macro_rules | `(tactic| trivial) => `(tactic| first
  | with_reducible assumption
  | with_reducible exact upd_same
  | exact at_same (by with_reducible assumption) (by trivial)
  | exact at_same (same_upd (by with_reducible assumption)) (by trivial)
  | exact at_same (Wd.gh (by with_reducible assumption)) (by trivial))
local macro_rules | `(tactic| ac_rfl) => `(tactic| first
  | exact Ty.int _
  | exact Ty.str _
  | exact Ty.non
  | exact Ty.bl _
  | exact Ty.tup (by trivial)
  | exact Ty.lst (by trivial))
local macro_rules | `(tactic| contradiction) => `(tactic| first
  | exact rfl
  | exact decide_eq_true (by first | assumption | omega)
  | exact decide_eq_false (by first | assumption | omega)
  | exact dI_t (by first | assumption | omega)
  | exact dI_f (by first | assumption | omega)
  | exact dS_t (by first | assumption | decide)
  | exact dS_f (by first | assumption | decide)
  | exact nI_t (by first | assumption | omega)
  | exact nI_f (by first | assumption | omega)
  | exact nS_t (by first | assumption | decide)
  | exact nS_f (by first | assumption | decide)
  | assumption
  | exact q_none_int | exact q_none_bool | exact q_none_tuple | exact q_none_list | exact q_none_str | exact q_bool_int | exact q_bool_bool | exact q_bool_tuple | exact q_bool_list | exact q_bool_str | exact q_int_int | exact q_int_bool | exact q_int_tuple | exact q_int_list | exact q_int_str | exact q_str_int | exact q_str_bool | exact q_str_tuple | exact q_str_list | exact q_str_str | exact q_list_int | exact q_list_bool | exact q_list_tuple | exact q_list_list | exact q_list_str | exact q_tuple_int | exact q_tuple_bool | exact q_tuple_tuple | exact q_tuple_list | exact q_tuple_str
  | exact nb_t (by contradiction)
  | exact nb_f (by contradiction))
local macro_rules | `(tactic| and_intros) => `(tactic| repeat (first
  | refine ⟨_, rfl, ?_⟩
  | refine ⟨_, _, rfl, rfl, ?_⟩
  | refine ⟨rfl, ?_⟩
  | refine ⟨_, _, _, _, rfl, rfl, SqT.of (by trivial), at_ix (by decide) rfl, ?_⟩
  | refine ⟨_, _, _, _, rfl, rfl, SqL.of (by trivial), at_ix (by decide) rfl, ?_⟩
  | refine ⟨_, _, rfl, Or.inl (SqL.of (by trivial)), ?_⟩
  | refine ⟨_, _, rfl, Or.inr (SqT.of (by trivial)), ?_⟩
  | refine ⟨_, _, _, _, _, rfl, (by trivial), (by trivial), (by trivial), rfl, ?_⟩
  | refine ⟨_, _, _, _, _, rfl, ClsV.ty _, Ty.x (by ac_rfl), isI_tuple (by ac_rfl), ?_⟩
  | refine ⟨_, _, _, _, _, rfl, ClsV.ty _, Ty.x (by ac_rfl), isI_list (by ac_rfl), ?_⟩
  | refine ⟨_, _, _, _, _, rfl, ClsV.ty _, Ty.x (by ac_rfl), isI_int (by ac_rfl), ?_⟩
  | refine ⟨_, _, _, _, _, rfl, ClsV.ty _, Ty.x (by ac_rfl), isI_bool (by ac_rfl), ?_⟩
  | refine ⟨_, _, _, _, _, rfl, ClsV.ty _, Ty.x (by ac_rfl), isI_str (by ac_rfl), ?_⟩
  | refine ⟨sz (Nat.le_of_ble_eq_true rfl), ?_⟩
  | refine ⟨Or.inl ⟨rfl, _, SqL.of (by trivial)⟩, ?_⟩
  | refine ⟨_, _, rfl, SqT.of (by trivial), rfl, _, _, rfl, _, _, rfl, _, _, rfl, _, _, rfl, rfl, ?_⟩
  | refine ⟨_, _, rfl, SqT.of (by trivial), rfl, _, _, rfl, _, _, rfl, _, _, rfl, rfl, ?_⟩
  | refine ⟨_, _, rfl, SqT.of (by trivial), rfl, _, _, rfl, _, _, rfl, rfl, ?_⟩
  | refine ⟨_, _, _, _, rfl, (by with_reducible assumption : Wd _ _ _ _), (by first | decide | omega), (by first | decide | omega), ?_⟩
  | refine ⟨_, _, _, rfl, (by with_reducible assumption : Wd _ _ _ _), ?_⟩
  | refine iT (by contradiction) ?_
  | refine iF (by contradiction) ?_))
-- USE RD
open BF in
/-- an entry: a fact, or none -/
def EnAt (n : Nat) (H : Hp) (v : V) : Option Fact → Prop
  | some f => (∃ t, v = .ref t ∧ H t = some (tup3 f)) ∧ f.1 < n ∧ f.2.1 < n
  | none => (∃ t, Ty H v t ∧ t ≠ "tuple") ∨ (∃ a xs, v = .ref a ∧ H a = some (.tup xs) ∧ xs.length ≤ 1000 ∧ (∀ x ∈ xs, ∃ t, Ty H x t ∧ t ≠ "list") ∧ isFact (n : Int) xs = false)
theorem EnAt.same {n : Nat} {H H' : Hp} {v : V} (s : Same H H') : ∀ {e : Option BF.Fact}, EnAt n H v e → EnAt n H' v e
  | some f, ⟨⟨t, h1, h2⟩, h3⟩ => ⟨⟨t, h1, s _ _ h2⟩, h3⟩
  | none, .inl ⟨t, h1, h2⟩ => .inl ⟨t, h1.same s, h2⟩
  | none, .inr ⟨a, xs, h1, h2, h3, h4, h5⟩ => .inr ⟨a, xs, h1, s _ _ h2, h3, fun x hx => let ⟨t, ht, hn⟩ := h4 x hx; ⟨t, ht.same s, hn⟩, h5⟩
def EnsAt (n : Nat) (H : Hp) (vs : List V) (es : List (Option BF.Fact)) : Prop := vs.length = es.length ∧ ∀ (i : Nat) e, es[i]? = some e → ∃ v, vs[i]? = some v ∧ EnAt n H v e
def firstBad (es : List (Option BF.Fact)) (i : Nat) : Prop := es[i]? = some none ∧ ∀ j, j < i → es[j]? ≠ some none
section
variable {P : Program} {w : World} {K : PySem.W.Frag} {mg : Str → Option Value} {base : Heap}
def spCkBad (T : Txt P K mg) : Sp := fun vs H _ E => ∃ (n : Nat) (a : Addr) (us : List V) (es : List (Option BF.Fact)) (i : Nat), vs = [.int (n : Nat), .ref a] ∧ H a = some (.lst us) ∧ EnsAt n H us es ∧ firstBad es i ∧ ∀ H' d, Same H H' → H' d = none → E (.ref T.c_BadFact) (some d) (upd H' d (.xd [(("place" : Str), .int (i : Nat))]))
theorem ok_check_bad (T : Txt P K mg) {k : Nat} : FnOk P w K mg base (L2.CX P w) (k + 3) T.check_facts.f T.check_facts.fd ["count", "facts"] (spCkBad T) := by
  have G_is_fact : FnOk P w K mg base CX0 (k + 2) T.is_fact.f T.is_fact.fd ["count", "entry"] spIsFact := ok_is_fact T
  have G_BadFact_init : FnOk P w K mg base CX0 (k + 1) T.BadFact_init.f T.BadFact_init.fd ["self", "place"] (spExI K "place") := ok_BadFact_init T
  refine T.check_facts.F.okX sc_check_facts (fun vs H Q E h => ?_) (fun cdv A outer s H vs Q E hr h => ?_)
  · obtain ⟨n, a, us, es, i, rfl, _⟩ := h
    rfl
  · obtain ⟨n, a, us, es, ib, rfl, ha, ⟨hlen, hen⟩, ⟨hb1, hb2⟩, q⟩ := h
    refine ⟨_, (pss_one (ps_for (passes_of rfl) rfl (pi_enum (by rfl) T.n_enumerate (pa_cons (pv 1) pa_nil)) (pg_tup rfl (pgs_cons (pg_name (i := 2) sc_check_facts.nd rfl (.inl rfl)) (pgs_cons (pg_name (i := 3) sc_check_facts.nd rfl (.inl rfl)) pgs_nil)))
   (pss_one (ps_if (pt_not (pt_val (pe_call G_is_fact (hr.mono (by omega)) (by rfl) T.is_fact.g T.is_fact.F.kp T.is_fact.b .nil pass0 (pa_cons (pv 0) (pa_cons (pv 3) pa_nil))))) (pss_one (ps_raise rfl (takes_of rfl rfl rfl rfl) (pmk_oex T.er_BadFact.x T.er_BadFact.i T.er_BadFact.t G_BadFact_init (hr.mono (by omega)) T.BadFact_init.b .nil pass0 (by rfl) T.g_BadFact (pa_cons (pv 2) pa_nil)))) pss_nil)))), ?_⟩
    refine ⟨.ref a, rfl, a, us, rfl, SqL.of ha, ?_⟩
    refine for_enum (K := K) (a := a) (xs := us) (fun i σ H' => Same H H' ∧ i ≤ ib ∧ ∃ y2 y3, σ = [some (.int (n : Nat)), some (.ref a), y2, y3]) ⟨Same.refl _, Nat.zero_le _, none, none, rfl⟩ (fun i σ H' _ p => SqL.of (p.1 _ _ ha)) (fun i x σ H' t hi p nt => ?_) (fun σ H' p => ?_)
    · obtain ⟨sm, hib, y2, y3, rfl⟩ := p
      have hlt : i < es.length := by rw [← hlen]; exact (List.getElem?_eq_some_iff.mp hi).1
      obtain ⟨e, he⟩ : ∃ e, es[i]? = some e := ⟨_, List.getElem?_eq_getElem hlt⟩
      obtain ⟨v, hv, hev⟩ := hen i e he
      rw [hi] at hv
      cases hv
      have s2 : Same H (upd H' t (.tup [.int (i : Nat), x])) := sm.trans (same_upd nt)
      refine ⟨t, _, rfl, SqT.of upd_same, rfl, _, _, rfl, _, _, rfl, rfl, ?_⟩
      refine ⟨_, rfl, _, rfl, n, _, rfl, ?_⟩
      cases e with
      | some f =>
        obtain ⟨⟨t', rfl, h2⟩, h3⟩ := hev
        refine .inr ⟨t', _, rfl, s2 _ _ h2, by show 3 ≤ 1000; decide, ?_, fun H2 s3 => ?_⟩
        · intro x hx
          rcases List.mem_cons.mp hx with rfl | hx
          · exact ⟨_, .int _⟩
          rcases List.mem_cons.mp hx with rfl | hx
          · exact ⟨_, .int _⟩
          rcases List.mem_cons.mp hx with rfl | hx
          · exact ⟨_, .int _⟩
          · exact nomatch hx
        · rw [isFact_ok h3]
          refine ⟨_, rfl, iF rfl ⟨s2.trans s3, ?_, _, _, rfl⟩⟩
          rcases Nat.lt_or_eq_of_le hib with h | h
          · exact h
          · subst h
            rw [hb1] at he
            cases he
      | none =>
        have hii : i = ib := by
          rcases Nat.lt_or_eq_of_le hib with h | h
          · exact absurd he (hb2 i h)
          · exact h
        have fin : ∀ H2, Same (upd H' t (.tup [.int (i : Nat), x])) H2 → ∀ d, H2 d = none → E (.ref T.c_BadFact) (some d) (upd H2 d (.xd [(("place" : Str), .int (i : Nat))])) := fun H2 s3 d hd => by rw [hii]; exact q H2 d (s2.trans s3) hd
        rcases hev with ⟨t', ty, nt'⟩ | ⟨a', xs, rfl, ha', hl', hx', hf'⟩
        · refine .inl ⟨t', ty.same s2, nt', fun H2 s3 => ⟨_, rfl, iT rfl ?_⟩⟩
          exact ⟨_, rfl, exI_made T.er_BadFact.x T.er_BadFact.no (fin H2 s3)⟩
        · refine .inr ⟨a', xs, rfl, s2 _ _ ha', hl', fun x hx => let ⟨t, ht, _⟩ := hx' x hx; ⟨t, ht.same s2⟩, fun H2 s3 => ?_⟩
          rw [hf']
          exact ⟨_, rfl, iT rfl ⟨_, rfl, exI_made T.er_BadFact.x T.er_BadFact.no (fin H2 s3)⟩⟩
    · obtain ⟨_, hib, _⟩ := p
      have := (List.getElem?_eq_some_iff.mp hb1).1
      omega
def spBad (T : Txt P K mg) (ex : Nat → List V → Prop) : Sp := fun vs H _ E => ∃ (n : Nat) (a : Addr) (ws us : List V) (es : List (Option BF.Fact)) (i : Nat), vs = .int (n : Nat) :: .ref a :: ws ∧ ex n ws ∧ H a = some (.lst us) ∧ EnsAt n H us es ∧ firstBad es i ∧ ∀ H' d, Same H H' → H' d = none → E (.ref T.c_BadFact) (some d) (upd H' d (.xd [(("place" : Str), .int (i : Nat))]))
theorem ok_ring_bad (T : Txt P K mg) {k : Nat} : FnOk P w K mg base (L2.CX P w) (k + 4) T.ring.f T.ring.fd ["count", "facts"] (spBad T fun _ ws => ws = []) := by
  have G_check_facts : FnOk P w K mg base (L2.CX P w) (k + 3) T.check_facts.f T.check_facts.fd ["count", "facts"] (spCkBad T) := ok_check_bad T
  have G_relaxed : FnOk P w K mg base CX0 (k + 1) T.relaxed.f T.relaxed.fd ["facts", "values", "origins"] spRelaxed := ok_relaxed T
  have G_ring_behind : FnOk P w K mg base CX0 (k + 1) T.ring_behind.f T.ring_behind.fd ["count", "facts", "origins", "lowered"] spRingBehind := ok_ring_behind T
  refine T.ring.F.okX sc_ring (fun vs H Q E h => ?_) (fun cdv A outer s H vs Q E hr h => ?_)
  · obtain ⟨n, a, ws, us, es, i, rfl, rfl, _⟩ := h
    rfl
  · obtain ⟨n, a, ws, us, es, i, rfl, rfl, h1, h2, h3, h4⟩ := h
    exact ⟨_, (pss_cons (ps_expr (pe_call G_check_facts (hr.mono (by omega)) (by rfl) T.check_facts.g T.check_facts.F.kp T.check_facts.b .nil (passes_call (takes_of rfl rfl rfl rfl) (fun _ _ _ _ h => h)) (pa_cons (pv 0) (pa_cons (pv 1) pa_nil))))
  (pss_cons (ps_set (i := 2) sc_ring.nd rfl (.inl rfl) (pe_op op_rep (pe_lst (pa_cons pe_int pa_nil)) (pv 0)))
  (pss_cons (ps_set (i := 3) sc_ring.nd rfl (.inl rfl) (pe_op op_rep (pe_lst (pa_cons pe_non pa_nil)) (pv 0)))
  (pss_cons (ps_for (passes_of rfl) rfl (pi_range1 (by rfl) T.n_range (pa_cons (pv 0) pa_nil)) (pg_name (i := 4) sc_ring.nd rfl (.inl rfl))
   (pss_cons (ps_set (i := 5) sc_ring.nd rfl (.inl rfl) (pe_call G_relaxed (hr.mono (by omega)) (by rfl) T.relaxed.g T.relaxed.F.kp T.relaxed.b .nil pass0 (pa_cons (pv 1) (pa_cons (pv 2) (pa_cons (pv 3) pa_nil)))))
  (pss_one (ps_if (pt_cmpR op_isN (pv 5) pe_non (nomark _)) (pss_one (ps_ret pe_non)) pss_nil))))
  (pss_one (ps_ret (pe_call G_ring_behind (hr.mono (by omega)) (by rfl) T.ring_behind.g T.ring_behind.F.kp T.ring_behind.b .nil pass0 (pa_cons (pv 0) (pa_cons (pv 1) (pa_cons (pv 3) (pa_cons (pv 5) pa_nil))))))))))), ⟨_, rfl, _, rfl, n, a, us, es, i, rfl, h1, h2, h3, h4⟩⟩
theorem ok_solution_bad (T : Txt P K mg) {k : Nat} : FnOk P w K mg base (L2.CX P w) (k + 4) T.solution.f T.solution.fd ["count", "facts"] (spBad T fun _ ws => ws = []) := by
  have G_check_facts : FnOk P w K mg base (L2.CX P w) (k + 3) T.check_facts.f T.check_facts.fd ["count", "facts"] (spCkBad T) := ok_check_bad T
  have G_relaxed : FnOk P w K mg base CX0 (k + 1) T.relaxed.f T.relaxed.fd ["facts", "values", "origins"] spRelaxed := ok_relaxed T
  refine T.solution.F.okX sc_solution (fun vs H Q E h => ?_) (fun cdv A outer s H vs Q E hr h => ?_)
  · obtain ⟨n, a, ws, us, es, i, rfl, rfl, _⟩ := h
    rfl
  · obtain ⟨n, a, ws, us, es, i, rfl, rfl, h1, h2, h3, h4⟩ := h
    exact ⟨_, (pss_cons (ps_expr (pe_call G_check_facts (hr.mono (by omega)) (by rfl) T.check_facts.g T.check_facts.F.kp T.check_facts.b .nil (passes_call (takes_of rfl rfl rfl rfl) (fun _ _ _ _ h => h)) (pa_cons (pv 0) (pa_cons (pv 1) pa_nil))))
  (pss_cons (ps_set (i := 2) sc_solution.nd rfl (.inl rfl) (pe_op op_rep (pe_lst (pa_cons pe_int pa_nil)) (pv 0)))
  (pss_cons (ps_set (i := 3) sc_solution.nd rfl (.inl rfl) (pe_op op_rep (pe_lst (pa_cons pe_non pa_nil)) (pv 0)))
  (pss_cons (ps_for (passes_of rfl) rfl (pi_range1 (by rfl) T.n_range (pa_cons (pv 0) pa_nil)) (pg_name (i := 4) sc_solution.nd rfl (.inl rfl))
   (pss_one (ps_if (pt_cmpR op_isN (pe_call G_relaxed (hr.mono (by omega)) (by rfl) T.relaxed.g T.relaxed.F.kp T.relaxed.b .nil pass0 (pa_cons (pv 1) (pa_cons (pv 2) (pa_cons (pv 3) pa_nil)))) pe_non (nomark _)) (pss_one (ps_ret (pv 2))) pss_nil)))
  (pss_one (ps_ret pe_non)))))), ⟨_, rfl, _, rfl, n, a, us, es, i, rfl, h1, h2, h3, h4⟩⟩
theorem ok_bound_bad (T : Txt P K mg) {k : Nat} : FnOk P w K mg base (L2.CX P w) (k + 5) T.bound.f T.bound.fd ["count", "facts", "a", "b"] (spBad T fun _ ws => ws.length = 2) := by
  have G_ring : FnOk P w K mg base (L2.CX P w) (k + 4) T.ring.f T.ring.fd ["count", "facts"] (spBad T fun _ ws => ws = []) := ok_ring_bad T
  have G_relaxed : FnOk P w K mg base CX0 (k + 1) T.relaxed.f T.relaxed.fd ["facts", "values", "origins"] spRelaxed := ok_relaxed T
  refine T.bound.F.okX sc_bound (fun vs H Q E h => ?_) (fun cdv A outer s H vs Q E hr h => ?_)
  · obtain ⟨n, a, ws, us, es, i, rfl, hw, _⟩ := h
    show ws.length + 2 = 4
    rw [hw]
  · obtain ⟨n, a, ws, us, es, i, rfl, hw, h1, h2, h3, h4⟩ := h
    match ws, hw with
    | [x, y], _ =>
    exact ⟨_, (pss_cons (ps_if (pt_cmpR op_notN (pe_call G_ring (hr.mono (by omega)) (by rfl) T.ring.g T.ring.F.kp T.ring.b .nil (passes_call (takes_of rfl rfl rfl rfl) (fun _ _ _ _ h => h)) (pa_cons (pv 0) (pa_cons (pv 1) pa_nil))) pe_non (nomark _)) (pss_one (ps_ret pe_non)) pss_nil)
  (pss_cons (ps_set (i := 4) sc_bound.nd rfl (.inl rfl) (pe_op op_rep (pe_lst (pa_cons pe_non pa_nil)) (pv 0)))
  (pss_cons (ps_asg pe_int (pg_sub (pv 4) (pv 3) set_list))
  (pss_cons (ps_set (i := 5) sc_bound.nd rfl (.inl rfl) (pe_op op_rep (pe_lst (pa_cons pe_non pa_nil)) (pv 0)))
  (pss_cons (ps_while (passes_of rfl) (pt_cmpR op_notN (pe_call G_relaxed (hr.mono (by omega)) (by rfl) T.relaxed.g T.relaxed.F.kp T.relaxed.b .nil pass0 (pa_cons (pv 1) (pa_cons (pv 4) (pa_cons (pv 5) pa_nil)))) pe_non (nomark _)) (pss_one ps_pass))
  (pss_one (ps_ret (pe_ix ix_list (pv 4) (pv 2) (fun _ _ => rfl))))))))), ⟨_, rfl, _, rfl, n, a, [], us, es, i, rfl, rfl, h1, h2, h3, h4⟩⟩
end
end Pl

namespace Pl
open PySem L2
section
variable {P : Program} {w : World} {K : PySem.W.Frag} {mg : Str → Option Value} {base : Heap}
open BF in
def Rows (G : Hp) (vs : List V) (fs : List Fact) : Prop := vs.length = fs.length ∧ ∀ (i : Nat) (f : Fact), fs[i]? = some f → ∃ t, vs[i]? = some (.ref t) ∧ G t = some (tup3 f)
open BF in
def spLawFacts : Sp := fun vs H Q _ => ∃ (b c : Addr) (G : Hp) (n m : Nat), vs = [.ref b, .int (n : Nat), .int (m : Nat)] ∧ Wd b c G H ∧ 1 ≤ n ∧ n ≤ 1000 ∧ m ≤ 1000 ∧
  ∀ (G' H' : Hp) (p : Addr) (vs : List V) (fs : List Fact), Same G G' → Wd b c G' H' → G' p = none → p ≠ b → p ≠ c → H' p = some (.lst vs) → Rows G' vs fs → Below n fs → fs.length ≤ m → Q (.ref p) H'
open BF in
theorem ok_law_facts (T : Txt P K mg) {k : Nat} : FnOk P w K mg base CX0 (k + 3) T.law_facts.f T.law_facts.fd ["_law_box", "_law_count", "_law_most"] spLawFacts := by
  have G_law_pick : FnOk P w K mg base CX0 (k + 2) T.law_pick.f T.law_pick.fd ["_law_box", "_law_many"] spPick := ok_law_pick T
  have G_law_number : FnOk P w K mg base CX0 (k + 2) T.law_number.f T.law_number.fd ["_law_box"] spNumber := ok_law_number T
  refine T.law_facts.F.ok sc_law_facts (fun vs H Q E h => ?_) (fun cdv A outer s H vs Q E hr h => ?_)
  · obtain ⟨b, c, G, n, m, rfl, _⟩ := h
    rfl
  · obtain ⟨b, c, G, n, m, rfl, W, n1, n2, m2, q⟩ := h
    refine ⟨_, (pss_cons (ps_set (i := 3) sc_law_facts.nd rfl (.inl rfl) (pe_lst pa_nil))
  (pss_cons (ps_for PassesOwn.never rfl (pi_range1 (by rfl) T.n_range (pa_cons (pe_call G_law_pick (hr.mono (by omega)) (by rfl) T.law_pick.g T.law_pick.F.kp T.law_pick.b .nil pass0 (pa_cons (pv 0) (pa_cons (pe_op op_add (pv 2) pe_int) pa_nil))) pa_nil)) (pg_name (i := 4) sc_law_facts.nd rfl (.inl rfl))
   (pss_cons (ps_set (i := 5) sc_law_facts.nd rfl (.inl rfl) (pe_call G_law_pick (hr.mono (by omega)) (by rfl) T.law_pick.g T.law_pick.F.kp T.law_pick.b .nil pass0 (pa_cons (pv 0) (pa_cons (pv 1) pa_nil))))
  (pss_cons (ps_set (i := 6) sc_law_facts.nd rfl (.inl rfl) (pe_call G_law_pick (hr.mono (by omega)) (by rfl) T.law_pick.g T.law_pick.F.kp T.law_pick.b .nil pass0 (pa_cons (pv 0) (pa_cons (pv 1) pa_nil))))
  (pss_one (ps_expr (pe_bm PySem.F.plainAttrs_list PySem.F.slot_list_append PySem.F.type_list_append mt_append (pv 3) (pa_cons (pe_tup (pa_cons (pv 5) (pa_cons (pv 6) (pa_cons (pe_call G_law_number (hr.mono (by omega)) (by rfl) T.law_number.g T.law_number.F.kp T.law_number.b .nil pass0 (pa_cons (pv 0) pa_nil)) pa_nil)))) pa_nil)))))))
  (pss_one (ps_ret (pv 3))))), ?_⟩
    refine ⟨Nat.zero_le _, fun p hp => ?_⟩
    obtain ⟨pb, pc⟩ := W.nb hp
    have gp : G p = none := W.gh.free hp
    have W1 : Wd b c G (upd H p (.lst [])) := W.mut gp pb pc
    have W2 : Wd b c (upd G p (.lst [])) (upd H p (.lst [])) := W1.keep upd_same pb pc
    refine ⟨_, rfl, _, rfl, _, _, rfl, rfl, b, c, _, (m : Int) + 1, rfl, W2, by omega, by omega, fun r H1 W3 r0 r1 => ?_⟩
    refine ⟨r, rfl, by omega, by omega, ?_⟩
    refine for_range (lo := 0) (n := r.toNat) (fun t σ H' => ∃ (G' : Hp) (vs : List V) (fs : List Fact) (y4 y5 y6 : Option V), σ = [some (.ref b), some (.int (n : Nat)), some (.int (m : Nat)), some (.ref p), y4, y5, y6] ∧ Same G G' ∧ Wd b c G' H' ∧ G' p = none ∧ H' p = some (.lst vs) ∧ Rows G' vs fs ∧ Below n fs ∧ fs.length = t)
      ⟨G, [], [], none, none, none, rfl, Same.refl _, W3.weak (same_upd gp), gp, W3.gh _ _ upd_same, ⟨rfl, fun _ _ h => by simp at h⟩, (fun _ h => nomatch h), rfl⟩ (fun t σ H' ht p2 => ?_) (fun σ H' p2 => ?_)
    · obtain ⟨G', vs, fs, y4, y5, y6, rfl, sg, W4, gp', hv, hR, hB, hlen⟩ := p2
      have W5 : Wd b c (upd G' p (.lst vs)) H' := W4.keep hv pb pc
      refine ⟨_, rfl, _, rfl, b, c, _, (n : Int), rfl, W5, by omega, by omega, fun i H2 W6 i0 i1 => ?_⟩
      refine ⟨_, rfl, _, rfl, b, c, _, (n : Int), rfl, W6, by omega, by omega, fun j H3 W7 j0 j1 => ?_⟩
      have hv3 : H3 p = some (.lst vs) := W7.gh _ _ upd_same
      refine ⟨_, rfl, .inl ⟨rfl, _, SqL.of hv3⟩, _, rfl, _, rfl, _, rfl, b, c, _, rfl, W7, fun x H4 W8 _ _ => ?_⟩
      refine ⟨sz (by show 3 ≤ 100000; decide), fun a ha => ?_⟩
      have hv4 : H4 p = some (.lst vs) := W8.gh _ _ upd_same
      have nap : a ≠ p := Ne.symm (ne_of_none hv4 ha)
      have W9 : Wd b c G' H4 := W8.weak (same_upd gp')
      have g1 := Gr.new (o := .tup [.int i, .int j, .int x]) W9.gh ha
      have W10 := W9.gr g1
      refine ⟨p, vs, .ref a, rfl, rfl, by rw [upd_ne (Ne.symm nap)]; exact hv4, szl (by rw [hR.1, hlen]; have : t < r.toNat := ht; omega), ?_⟩
      have gpa : upd G' a (.tup [.int i, .int j, .int x]) p = none := by rw [upd_ne (Ne.symm nap)]; exact gp'
      refine ⟨upd G' a (.tup [.int i, .int j, .int x]), vs ++ [.ref a], fs ++ [(i.toNat, j.toNat, x)], _, _, _, rfl, sg.trans g1.gg, W10.mut gpa pb pc, gpa, upd_same, ?_, below_snoc hB (by omega) (by omega), by rw [List.length_append, hlen]; rfl⟩
      refine ⟨by rw [List.length_append, List.length_append, hR.1]; rfl, fun l f hf => ?_⟩
      rw [List.getElem?_append] at hf ⊢
      by_cases hl : l < fs.length
      · rw [if_pos hl] at hf
        rw [if_pos (by rw [hR.1]; exact hl)]
        obtain ⟨t1, t2, t3⟩ := hR.2 l f hf
        exact ⟨t1, t2, g1.gg _ _ t3⟩
      · rw [if_neg hl] at hf
        rw [if_neg (by rw [hR.1]; exact hl), hR.1]
        cases e : l - fs.length with
        | zero =>
          rw [e] at hf
          have ef : (i.toNat, j.toNat, x) = f := Option.some.inj hf
          subst ef
          refine ⟨a, rfl, ?_⟩
          rw [upd_same]
          show some (HO.tup [.int i, .int j, .int x]) = some (HO.tup [.int ((i.toNat : Nat) : Int), .int ((j.toNat : Nat) : Int), .int x])
          rw [Int.toNat_of_nonneg i0, Int.toNat_of_nonneg j0]
        | succ z =>
          rw [e] at hf
          simp at hf
    · obtain ⟨G', vs, fs, y4, y5, y6, rfl, sg, W4, gp', hv, hR, hB, hlen⟩ := p2
      exact ⟨_, rfl, q G' H' p vs fs sg W4 gp' pb pc hv hR hB (by omega)⟩
end
end Pl

namespace Pl
open PySem L2
local macro_rules | `(tactic| infer_instance) => `(tactic| first
  | with_reducible assumption
  | with_reducible exact Same.refl _
  | exact Wd.gh (by with_reducible assumption)
  | exact sm2 (by with_reducible assumption) (by infer_instance)
  | exact sm2 (same_upd (by with_reducible assumption)) (by infer_instance)
  | exact sm2 (Wd.gh (by with_reducible assumption)) (by infer_instance))
local macro_rules | `(tactic| trivial) => `(tactic| first
  | with_reducible assumption
  | with_reducible exact upd_same
  | exact at_same (by with_reducible assumption) (by trivial)
  | exact at_same (same_upd (by with_reducible assumption)) (by trivial)
  | exact at_same (Wd.gh (by with_reducible assumption)) (by trivial))
local macro_rules | `(tactic| ac_rfl) => `(tactic| first
  | exact Ty.int _
  | exact Ty.str _
  | exact Ty.non
  | exact Ty.bl _
  | exact Ty.tup (by trivial)
  | exact Ty.lst (by trivial))
local macro_rules | `(tactic| contradiction) => `(tactic| first
  | exact rfl
  | exact decide_eq_true (by first | assumption | omega)
  | exact decide_eq_false (by first | assumption | omega)
  | exact dI_t (by first | assumption | omega)
  | exact dI_f (by first | assumption | omega)
  | exact dS_t (by first | assumption | decide)
  | exact dS_f (by first | assumption | decide)
  | exact nI_t (by first | assumption | omega)
  | exact nI_f (by first | assumption | omega)
  | exact nS_t (by first | assumption | decide)
  | exact nS_f (by first | assumption | decide)
  | assumption
  | exact q_none_int | exact q_none_bool | exact q_none_tuple | exact q_none_list | exact q_none_str | exact q_bool_int | exact q_bool_bool | exact q_bool_tuple | exact q_bool_list | exact q_bool_str | exact q_int_int | exact q_int_bool | exact q_int_tuple | exact q_int_list | exact q_int_str | exact q_str_int | exact q_str_bool | exact q_str_tuple | exact q_str_list | exact q_str_str | exact q_list_int | exact q_list_bool | exact q_list_tuple | exact q_list_list | exact q_list_str | exact q_tuple_int | exact q_tuple_bool | exact q_tuple_tuple | exact q_tuple_list | exact q_tuple_str
  | exact nb_t (by contradiction)
  | exact nb_f (by contradiction))
local macro_rules | `(tactic| and_intros) => `(tactic| repeat (first
  | refine ⟨_, rfl, ?_⟩
  | refine ⟨_, _, rfl, rfl, ?_⟩
  | refine ⟨rfl, ?_⟩
  | refine ⟨_, _, _, _, rfl, rfl, SqT.of (by trivial), at_ix (by decide) rfl, ?_⟩
  | refine ⟨_, _, _, _, rfl, rfl, SqL.of (by trivial), at_ix (by decide) rfl, ?_⟩
  | refine ⟨_, _, rfl, Or.inl (SqL.of (by trivial)), ?_⟩
  | refine ⟨_, _, rfl, Or.inr (SqT.of (by trivial)), ?_⟩
  | refine ⟨_, _, _, _, _, rfl, (by trivial), (by trivial), (by trivial), rfl, ?_⟩
  | refine ⟨_, _, _, _, _, rfl, ClsV.ty _, Ty.x (by ac_rfl), isI_tuple (by ac_rfl), ?_⟩
  | refine ⟨_, _, _, _, _, rfl, ClsV.ty _, Ty.x (by ac_rfl), isI_list (by ac_rfl), ?_⟩
  | refine ⟨_, _, _, _, _, rfl, ClsV.ty _, Ty.x (by ac_rfl), isI_int (by ac_rfl), ?_⟩
  | refine ⟨_, _, _, _, _, rfl, ClsV.ty _, Ty.x (by ac_rfl), isI_bool (by ac_rfl), ?_⟩
  | refine ⟨_, _, _, _, _, rfl, ClsV.ty _, Ty.x (by ac_rfl), isI_str (by ac_rfl), ?_⟩
  | refine ⟨sz (Nat.le_of_ble_eq_true rfl), ?_⟩
  | refine ⟨Or.inl ⟨rfl, _, SqL.of (by trivial)⟩, ?_⟩
  | refine ⟨_, _, rfl, SqT.of (by trivial), rfl, _, _, rfl, _, _, rfl, _, _, rfl, _, _, rfl, rfl, ?_⟩
  | refine ⟨_, _, rfl, SqT.of (by trivial), rfl, _, _, rfl, _, _, rfl, _, _, rfl, rfl, ?_⟩
  | refine ⟨_, _, rfl, SqT.of (by trivial), rfl, _, _, rfl, _, _, rfl, rfl, ?_⟩
  | refine ⟨_, _, _, _, rfl, (by with_reducible assumption : Wd _ _ _ _), (by first | decide | omega), (by first | decide | omega), ?_⟩
  | refine ⟨_, _, _, rfl, (by with_reducible assumption : Wd _ _ _ _), ?_⟩
  | refine iT (by contradiction) ?_
  | refine iF (by contradiction) ?_))
-- USE RD
section
variable {P : Program} {w : World} {K : PySem.W.Frag} {mg : Str → Option Value} {base : Heap}
theorem nwW {b c p : Addr} {G H K : Hp} {o : HO} (e : upd H p o = K) (W : Wd b c G H) (h : H p = none) : ∃ G', Same G G' ∧ Wd b c G' K ∧ G' p = some o ∧ G p = none := by
  obtain ⟨nb, nc⟩ := W.nb h
  subst e
  exact ⟨upd G p o, same_upd (W.gh.free h), (W.sm (same_upd h)).keep upd_same nb nc, upd_same, W.gh.free h⟩
theorem atI_mem {xs : List V} {i : Int} {v : V} (h : atI xs i = some v) : v ∈ xs := by
  unfold atI at h
  cases e : ixN xs.length i with
  | none => rw [e] at h; cases h
  | some j => rw [e] at h; exact List.mem_of_getElem? h
theorem tyN {H : Hp} : ∀ y ∈ ([] : List V), ∃ t, Ty H y t ∧ t ≠ "list" := fun y h => nomatch h
theorem tyC {H : Hp} {x : V} {xs : List V} (h : ∃ t, Ty H x t ∧ t ≠ "list") (r : ∀ y ∈ xs, ∃ t, Ty H y t ∧ t ≠ "list") : ∀ y ∈ x :: xs, ∃ t, Ty H y t ∧ t ≠ "list" := fun y hy => (List.mem_cons.mp hy).elim (fun e => e ▸ h) (r y)
def spWrong : Sp := fun vs H Q _ => ∃ (b c : Addr) (G : Hp) (n : Nat), vs = [.ref b, .int (n : Nat)] ∧ Wd b c G H ∧ 1 ≤ n ∧ n ≤ 1000 ∧
  ∀ (v : V) (G' H' : Hp), Same G G' → Wd b c G' H' → EnAt n G' v none → (∀ a, v = .ref a → G a = none) → Q v H'
theorem ok_law_wrong (T : Txt P K mg) {k : Nat} : FnOk P w K mg base CX0 (k + 3) T.law_wrong.f T.law_wrong.fd ["_law_box", "_law_count"] spWrong := by
  have G_law_pick : FnOk P w K mg base CX0 (k + 2) T.law_pick.f T.law_pick.fd ["_law_box", "_law_many"] spPick := ok_law_pick T
  have G_law_number : FnOk P w K mg base CX0 (k + 2) T.law_number.f T.law_number.fd ["_law_box"] spNumber := ok_law_number T
  refine T.law_wrong.F.ok (k := k + 2) sc_law_wrong (fun vs H Q E h => ?_) (fun cdv A outer s H vs Q E hr h => ?_)
  · obtain ⟨b, c, G, n, rfl, _⟩ := h
    rfl
  · obtain ⟨b, c, G, n, rfl, W, n1, n2, q⟩ := h
    refine ⟨_, (pss_cons (ps_set (i := 2) sc_law_wrong.nd rfl (.inl rfl) (pe_call G_law_pick (hr.mono (by omega)) (by rfl) T.law_pick.g T.law_pick.F.kp T.law_pick.b .nil pass0 (pa_cons (pv 0) (pa_cons (pv 1) pa_nil))))
  (pss_cons (ps_set (i := 3) sc_law_wrong.nd rfl (.inl rfl) (pe_call G_law_number (hr.mono (by omega)) (by rfl) T.law_number.g T.law_number.F.kp T.law_number.b .nil pass0 (pa_cons (pv 0) pa_nil)))
  (pss_cons (ps_set (i := 4) sc_law_wrong.nd rfl (.inl rfl) (pe_lst (pa_cons pe_non (pa_cons (pe_lst (pa_cons (pv 2) (pa_cons (pv 2) (pa_cons (pv 3) pa_nil)))) (pa_cons (pe_tup (pa_cons (pv 2) (pa_cons (pv 3) pa_nil))) (pa_cons (pe_tup (pa_cons (pv 2) (pa_cons (pv 2) (pa_cons (pv 3) (pa_cons (pv 3) pa_nil))))) (pa_cons (pe_tup (pa_cons (pv 2) (pa_cons (pe_un un_neg pe_int) (pa_cons (pv 3) pa_nil)))) (pa_cons (pe_tup (pa_cons (pe_un un_neg pe_int) (pa_cons (pv 2) (pa_cons (pv 3) pa_nil)))) (pa_cons (pe_tup (pa_cons (pv 1) (pa_cons (pv 2) (pa_cons (pv 3) pa_nil)))) (pa_cons (pe_tup (pa_cons (pv 2) (pa_cons (pv 1) (pa_cons (pv 3) pa_nil)))) pa_nil))))))))))
  (pss_cons (ps_set (i := 4) sc_law_wrong.nd rfl (.inl rfl) (pe_op op_cat (pv 4) (pe_lst (pa_cons (pe_tup (pa_cons pe_bl (pa_cons (pv 2) (pa_cons (pv 3) pa_nil)))) (pa_cons (pe_tup (pa_cons (pv 2) (pa_cons pe_bl (pa_cons (pv 3) pa_nil)))) (pa_cons (pe_tup (pa_cons (pv 2) (pa_cons (pv 2) (pa_cons pe_bl pa_nil)))) (pa_cons (pe_tup (pa_cons (pv 2) (pa_cons (pv 2) (pa_cons pe_str pa_nil)))) (pa_cons (pe_tup (pa_cons (pv 2) (pa_cons pe_non (pa_cons (pv 3) pa_nil)))) (pa_cons pe_str (pa_cons (pe_tup pa_nil) (pa_cons pe_int pa_nil)))))))))))
  (pss_cons (ps_set (i := 4) sc_law_wrong.nd rfl (.inl rfl) (pe_op op_cat (pv 4) (pe_lst (pa_cons (pe_tup (pa_cons (pv 2) (pa_cons (pe_op op_add (pv 1) (pe_callB call_abs (by rfl) T.n_abs (by decide +kernel) (pa_cons (pv 3) pa_nil))) (pa_cons (pv 3) pa_nil)))) (pa_cons (pe_tup (pa_cons pe_str (pa_cons (pv 2) (pa_cons (pv 3) pa_nil)))) (pa_cons (pe_tup (pa_cons (pv 2) (pa_cons (pv 2) (pa_cons pe_non pa_nil)))) (pa_cons (pe_tup (pa_cons (pe_tup (pa_cons (pv 2) (pa_cons (pv 2) (pa_cons (pv 3) pa_nil)))) pa_nil)) pa_nil)))))))
  (pss_one (ps_ret (pe_ix ix_list (pv 4) (pe_call G_law_pick (hr.mono (by omega)) (by rfl) T.law_pick.g T.law_pick.F.kp T.law_pick.b .nil pass0 (pa_cons (pv 0) (pa_cons pe_int pa_nil))) (fun _ _ => rfl))))))))), ?_⟩
    refine ⟨_, rfl, _, rfl, b, c, _, (n : Int), rfl, W, by omega, by omega, fun a H1 W1 a0 a1 => ?_⟩
    refine ⟨_, rfl, b, c, _, rfl, W1, fun x H2 W2 _ _ => ?_⟩
    clear W1
    have W0 := W2
    clear W2
    and_intros
    intro p1 hp1
    generalize el : upd _ p1 _ = K1
    obtain ⟨G1g, g1, W1, r1, f1⟩ := nwW el W0 hp1
    clear el hp1
    and_intros
    intro p2 hp2
    generalize el : upd _ p2 _ = K2
    obtain ⟨G2g, g2, W2, r2, f2⟩ := nwW el W1 hp2
    clear el hp2
    and_intros
    intro p3 hp3
    generalize el : upd _ p3 _ = K3
    obtain ⟨G3g, g3, W3, r3, f3⟩ := nwW el W2 hp3
    clear el hp3
    and_intros
    intro p4 hp4
    generalize el : upd _ p4 _ = K4
    obtain ⟨G4g, g4, W4, r4, f4⟩ := nwW el W3 hp4
    clear el hp4
    and_intros
    intro p5 hp5
    generalize el : upd _ p5 _ = K5
    obtain ⟨G5g, g5, W5, r5, f5⟩ := nwW el W4 hp5
    clear el hp5
    and_intros
    intro p6 hp6
    generalize el : upd _ p6 _ = K6
    obtain ⟨G6g, g6, W6, r6, f6⟩ := nwW el W5 hp6
    clear el hp6
    and_intros
    intro p7 hp7
    generalize el : upd _ p7 _ = K7
    obtain ⟨G7g, g7, W7, r7, f7⟩ := nwW el W6 hp7
    clear el hp7
    and_intros
    intro p8 hp8
    generalize el : upd _ p8 _ = K8
    obtain ⟨G8g, g8, W8, r8, f8⟩ := nwW el W7 hp8
    clear el hp8
    and_intros
    intro p9 hp9
    generalize el : upd _ p9 _ = K9
    obtain ⟨G9g, g9, W9, r9, f9⟩ := nwW el W8 hp9
    clear el hp9
    and_intros
    intro p10 hp10
    generalize el : upd _ p10 _ = K10
    obtain ⟨G10g, g10, W10, r10, f10⟩ := nwW el W9 hp10
    clear el hp10
    and_intros
    intro p11 hp11
    generalize el : upd _ p11 _ = K11
    obtain ⟨G11g, g11, W11, r11, f11⟩ := nwW el W10 hp11
    clear el hp11
    and_intros
    intro p12 hp12
    generalize el : upd _ p12 _ = K12
    obtain ⟨G12g, g12, W12, r12, f12⟩ := nwW el W11 hp12
    clear el hp12
    and_intros
    intro p13 hp13
    generalize el : upd _ p13 _ = K13
    obtain ⟨G13g, g13, W13, r13, f13⟩ := nwW el W12 hp13
    clear el hp13
    and_intros
    intro p14 hp14
    generalize el : upd _ p14 _ = K14
    obtain ⟨G14g, g14, W14, r14, f14⟩ := nwW el W13 hp14
    clear el hp14
    and_intros
    intro p15 hp15
    generalize el : upd _ p15 _ = K15
    obtain ⟨G15g, g15, W15, r15, f15⟩ := nwW el W14 hp15
    clear el hp15
    have c15 : Same G8g G15g := ((((((g9.trans g10).trans g11).trans g12).trans g13).trans g14).trans g15)
    refine ⟨p8, p15, _, _, rfl, rfl, W15.gh _ _ (c15 _ _ r8), W15.gh _ _ r15, Nat.le_of_ble_eq_true rfl, ?_⟩
    intro p16 hp16
    generalize el : upd _ p16 _ = K16
    obtain ⟨G16g, g16, W16, r16, f16⟩ := nwW el W15 hp16
    clear el hp16
    and_intros
    intro p17 hp17
    generalize el : upd _ p17 _ = K17
    obtain ⟨G17g, g17, W17, r17, f17⟩ := nwW el W16 hp17
    clear el hp17
    and_intros
    intro p18 hp18
    generalize el : upd _ p18 _ = K18
    obtain ⟨G18g, g18, W18, r18, f18⟩ := nwW el W17 hp18
    clear el hp18
    and_intros
    intro p19 hp19
    generalize el : upd _ p19 _ = K19
    obtain ⟨G19g, g19, W19, r19, f19⟩ := nwW el W18 hp19
    clear el hp19
    and_intros
    intro p20 hp20
    generalize el : upd _ p20 _ = K20
    obtain ⟨G20g, g20, W20, r20, f20⟩ := nwW el W19 hp20
    clear el hp20
    and_intros
    intro p21 hp21
    generalize el : upd _ p21 _ = K21
    obtain ⟨G21g, g21, W21, r21, f21⟩ := nwW el W20 hp21
    clear el hp21
    and_intros
    intro p22 hp22
    generalize el : upd _ p22 _ = K22
    obtain ⟨G22g, g22, W22, r22, f22⟩ := nwW el W21 hp22
    clear el hp22
    have c22 : Same G16g G22g := (((((g17.trans g18).trans g19).trans g20).trans g21).trans g22)
    refine ⟨p16, p22, _, _, rfl, rfl, W22.gh _ _ (c22 _ _ r16), W22.gh _ _ r22, Nat.le_of_ble_eq_true rfl, ?_⟩
    intro p23 hp23
    generalize el : upd _ p23 _ = K23
    obtain ⟨G23g, g23, W23, r23, f23⟩ := nwW el W22 hp23
    clear el hp23
    have z23 : Same G23g G23g := Same.refl _
    have z22 : Same G22g G23g := g23.trans z23
    have z21 : Same G21g G23g := g22.trans z22
    have z20 : Same G20g G23g := g21.trans z21
    have z19 : Same G19g G23g := g20.trans z20
    have z18 : Same G18g G23g := g19.trans z19
    have z17 : Same G17g G23g := g18.trans z18
    have z16 : Same G16g G23g := g17.trans z17
    have z15 : Same G15g G23g := g16.trans z16
    have z14 : Same G14g G23g := g15.trans z15
    have z13 : Same G13g G23g := g14.trans z14
    have z12 : Same G12g G23g := g13.trans z13
    have z11 : Same G11g G23g := g12.trans z12
    have z10 : Same G10g G23g := g11.trans z11
    have z9 : Same G9g G23g := g10.trans z10
    have z8 : Same G8g G23g := g9.trans z9
    have z7 : Same G7g G23g := g8.trans z8
    have z6 : Same G6g G23g := g7.trans z7
    have z5 : Same G5g G23g := g6.trans z6
    have z4 : Same G4g G23g := g5.trans z5
    have z3 : Same G3g G23g := g4.trans z4
    have z2 : Same G2g G23g := g3.trans z3
    have z1 : Same G1g G23g := g2.trans z2
    have y0 : Same G G := Same.refl _
    have y1 : Same G G1g := g1
    have y2 : Same G G2g := y1.trans g2
    have y3 : Same G G3g := y2.trans g3
    have y4 : Same G G4g := y3.trans g4
    have y5 : Same G G5g := y4.trans g5
    have y6 : Same G G6g := y5.trans g6
    have y7 : Same G G7g := y6.trans g7
    have y8 : Same G G8g := y7.trans g8
    have y9 : Same G G9g := y8.trans g9
    have y10 : Same G G10g := y9.trans g10
    have y11 : Same G G11g := y10.trans g11
    have y12 : Same G G12g := y11.trans g12
    have y13 : Same G G13g := y12.trans g13
    have y14 : Same G G14g := y13.trans g14
    have y15 : Same G G15g := y14.trans g15
    have y16 : Same G G16g := y15.trans g16
    have y17 : Same G G17g := y16.trans g17
    have y18 : Same G G18g := y17.trans g18
    have y19 : Same G G19g := y18.trans g19
    have y20 : Same G G20g := y19.trans g20
    have y21 : Same G G21g := y20.trans g21
    have y22 : Same G G22g := y21.trans g22
    have fre : ∀ v ∈ [V.non, V.ref p1, V.ref p2, V.ref p3, V.ref p4, V.ref p5, V.ref p6, V.ref p7, V.ref p9, V.ref p10, V.ref p11, V.ref p12, V.ref p13, V.str "abc", V.ref p14, V.int 0, V.ref p17, V.ref p18, V.ref p19, V.ref p21], ∀ a, v = .ref a → G a = none := fun v hv a e => by
      simp only [List.mem_cons, List.not_mem_nil, or_false] at hv
      rcases hv with rfl | rfl | rfl | rfl | rfl | rfl | rfl | rfl | rfl | rfl | rfl | rfl | rfl | rfl | rfl | rfl | rfl | rfl | rfl | rfl
      · cases e
      · cases e; exact y0.free f1
      · cases e; exact y1.free f2
      · cases e; exact y2.free f3
      · cases e; exact y3.free f4
      · cases e; exact y4.free f5
      · cases e; exact y5.free f6
      · cases e; exact y6.free f7
      · cases e; exact y8.free f9
      · cases e; exact y9.free f10
      · cases e; exact y10.free f11
      · cases e; exact y11.free f12
      · cases e; exact y12.free f13
      · cases e
      · cases e; exact y13.free f14
      · cases e
      · cases e; exact y16.free f17
      · cases e; exact y17.free f18
      · cases e; exact y18.free f19
      · cases e; exact y20.free f21
    have gg : Same G G23g := g1.trans z1
    have r : G23g p23 = some (.lst [V.non, V.ref p1, V.ref p2, V.ref p3, V.ref p4, V.ref p5, V.ref p6, V.ref p7, V.ref p9, V.ref p10, V.ref p11, V.ref p12, V.ref p13, V.str "abc", V.ref p14, V.int 0, V.ref p17, V.ref p18, V.ref p19, V.ref p21]) := r23
    clear g1 g2 g3 g4 g5 g6 g7 g8 g9 g10 g11 g12 g13 g14 g15 g16 g17 g18 g19 g20 g21 g22 g23 c15 c22 W0 W1 W2 W3 W4 W5 W6 W7 W8 W9 W10 W11 W12 W13 W14 W15 W16 W17 W18 W19 W20 W21 W22
    have all : ∀ v ∈ [V.non, V.ref p1, V.ref p2, V.ref p3, V.ref p4, V.ref p5, V.ref p6, V.ref p7, V.ref p9, V.ref p10, V.ref p11, V.ref p12, V.ref p13, V.str "abc", V.ref p14, V.int 0, V.ref p17, V.ref p18, V.ref p19, V.ref p21], EnAt n G23g v none := fun v hv => by
      simp only [List.mem_cons, List.not_mem_nil, or_false] at hv
      rcases hv with rfl | rfl | rfl | rfl | rfl | rfl | rfl | rfl | rfl | rfl | rfl | rfl | rfl | rfl | rfl | rfl | rfl | rfl | rfl | rfl
      · exact .inl ⟨_, .non, by decide⟩
      · exact .inl ⟨_, .lst (z1 _ _ r1), by decide⟩
      · exact .inr ⟨p2, _, rfl, z2 _ _ r2, Nat.le_of_ble_eq_true rfl, (tyC ⟨_, .int _, by decide⟩ (tyC ⟨_, .int _, by decide⟩ tyN)), rfl⟩
      · exact .inr ⟨p3, _, rfl, z3 _ _ r3, Nat.le_of_ble_eq_true rfl, (tyC ⟨_, .int _, by decide⟩ (tyC ⟨_, .int _, by decide⟩ (tyC ⟨_, .int _, by decide⟩ (tyC ⟨_, .int _, by decide⟩ tyN)))), rfl⟩
      · exact .inr ⟨p4, _, rfl, z4 _ _ r4, Nat.le_of_ble_eq_true rfl, (tyC ⟨_, .int _, by decide⟩ (tyC ⟨_, .int _, by decide⟩ (tyC ⟨_, .int _, by decide⟩ tyN))), by show (decide ((0 : Int) ≤ a) && decide (a < n) && (decide ((0 : Int) ≤ -1) && decide ((-1 : Int) < n))) = false; simp⟩
      · exact .inr ⟨p5, _, rfl, z5 _ _ r5, Nat.le_of_ble_eq_true rfl, (tyC ⟨_, .int _, by decide⟩ (tyC ⟨_, .int _, by decide⟩ (tyC ⟨_, .int _, by decide⟩ tyN))), by show (decide ((0 : Int) ≤ -1) && decide ((-1 : Int) < n) && (decide ((0 : Int) ≤ a) && decide (a < n))) = false; simp⟩
      · exact .inr ⟨p6, _, rfl, z6 _ _ r6, Nat.le_of_ble_eq_true rfl, (tyC ⟨_, .int _, by decide⟩ (tyC ⟨_, .int _, by decide⟩ (tyC ⟨_, .int _, by decide⟩ tyN))), by show (decide ((0 : Int) ≤ (n : Int)) && decide ((n : Int) < n) && (decide ((0 : Int) ≤ a) && decide (a < n))) = false; simp⟩
      · exact .inr ⟨p7, _, rfl, z7 _ _ r7, Nat.le_of_ble_eq_true rfl, (tyC ⟨_, .int _, by decide⟩ (tyC ⟨_, .int _, by decide⟩ (tyC ⟨_, .int _, by decide⟩ tyN))), by show (decide ((0 : Int) ≤ a) && decide (a < n) && (decide ((0 : Int) ≤ (n : Int)) && decide ((n : Int) < n))) = false; simp⟩
      · exact .inr ⟨p9, _, rfl, z9 _ _ r9, Nat.le_of_ble_eq_true rfl, (tyC ⟨_, .bl _, by decide⟩ (tyC ⟨_, .int _, by decide⟩ (tyC ⟨_, .int _, by decide⟩ tyN))), rfl⟩
      · exact .inr ⟨p10, _, rfl, z10 _ _ r10, Nat.le_of_ble_eq_true rfl, (tyC ⟨_, .int _, by decide⟩ (tyC ⟨_, .bl _, by decide⟩ (tyC ⟨_, .int _, by decide⟩ tyN))), rfl⟩
      · exact .inr ⟨p11, _, rfl, z11 _ _ r11, Nat.le_of_ble_eq_true rfl, (tyC ⟨_, .int _, by decide⟩ (tyC ⟨_, .int _, by decide⟩ (tyC ⟨_, .bl _, by decide⟩ tyN))), rfl⟩
      · exact .inr ⟨p12, _, rfl, z12 _ _ r12, Nat.le_of_ble_eq_true rfl, (tyC ⟨_, .int _, by decide⟩ (tyC ⟨_, .int _, by decide⟩ (tyC ⟨_, .str _, by decide⟩ tyN))), rfl⟩
      · exact .inr ⟨p13, _, rfl, z13 _ _ r13, Nat.le_of_ble_eq_true rfl, (tyC ⟨_, .int _, by decide⟩ (tyC ⟨_, .non, by decide⟩ (tyC ⟨_, .int _, by decide⟩ tyN))), rfl⟩
      · exact .inl ⟨_, .str _, by decide⟩
      · exact .inr ⟨p14, _, rfl, z14 _ _ r14, Nat.le_of_ble_eq_true rfl, tyN, rfl⟩
      · exact .inl ⟨_, .int _, by decide⟩
      · exact .inr ⟨p17, _, rfl, z17 _ _ r17, Nat.le_of_ble_eq_true rfl, (tyC ⟨_, .int _, by decide⟩ (tyC ⟨_, .int _, by decide⟩ (tyC ⟨_, .int _, by decide⟩ tyN))), by show (decide ((0 : Int) ≤ a) && decide (a < n) && (decide ((0 : Int) ≤ (n : Int) + (if x < 0 then -x else x)) && decide ((n : Int) + (if x < 0 then -x else x) < n))) = false; rw [decide_eq_false (show ¬ ((n : Int) + (if x < 0 then -x else x) < n) by split <;> omega)]; simp⟩
      · exact .inr ⟨p18, _, rfl, z18 _ _ r18, Nat.le_of_ble_eq_true rfl, (tyC ⟨_, .str _, by decide⟩ (tyC ⟨_, .int _, by decide⟩ (tyC ⟨_, .int _, by decide⟩ tyN))), rfl⟩
      · exact .inr ⟨p19, _, rfl, z19 _ _ r19, Nat.le_of_ble_eq_true rfl, (tyC ⟨_, .int _, by decide⟩ (tyC ⟨_, .int _, by decide⟩ (tyC ⟨_, .non, by decide⟩ tyN))), rfl⟩
      · exact .inr ⟨p21, _, rfl, z21 _ _ r21, Nat.le_of_ble_eq_true rfl, (tyC ⟨_, .tup (z20 _ _ r20), by decide⟩ tyN), rfl⟩
    refine ⟨_, rfl, _, rfl, b, c, _, 20, rfl, W23, by decide, by decide, fun i K24 W24 i0 i1 => ?_⟩
    have hl := W24.gh _ _ r
    obtain ⟨v, hv⟩ : ∃ v, atI [V.non, V.ref p1, V.ref p2, V.ref p3, V.ref p4, V.ref p5, V.ref p6, V.ref p7, V.ref p9, V.ref p10, V.ref p11, V.ref p12, V.ref p13, V.str "abc", V.ref p14, V.int 0, V.ref p17, V.ref p18, V.ref p19, V.ref p21] i = some v := by
      have hi : i.toNat < 20 := by omega
      exact ⟨_, at_ix i0 (List.getElem?_eq_getElem hi)⟩
    exact ⟨p23, _, i, v, rfl, rfl, SqL.of hl, hv, q v G23g K24 gg W24 (all v (atI_mem hv)) (fre v (atI_mem hv))⟩
end
end Pl

namespace Pl
open PySem L2
section
variable {P : Program} {w : World} {K : PySem.W.Frag} {mg : Str → Option Value} {base : Heap}
theorem tB1 : tyB "NoneType" "tuple" = false := by unfold tyB; rw [kb_none_tuple]; rfl
theorem tB2 : tyB "bool" "tuple" = false := by unfold tyB; rw [kb_bool_tuple]; rfl
theorem tB3 : tyB "int" "tuple" = false := by unfold tyB; rw [kb_int_tuple]; rfl
theorem tB4 : tyB "str" "tuple" = false := by unfold tyB; rw [kb_str_tuple]; rfl
theorem tB5 : tyB "list" "tuple" = false := by unfold tyB; rw [kb_list_tuple]; rfl
theorem tB6 : tyB "tuple" "tuple" = true := by unfold tyB; rw [kb_tuple_tuple]; rfl
theorem lB1 : tyB "NoneType" "list" = false := by unfold tyB; rw [kb_none_list]; rfl
theorem lB2 : tyB "bool" "list" = false := by unfold tyB; rw [kb_bool_list]; rfl
theorem lB3 : tyB "int" "list" = false := by unfold tyB; rw [kb_int_list]; rfl
theorem lB4 : tyB "str" "list" = false := by unfold tyB; rw [kb_str_list]; rfl
theorem lB5 : tyB "list" "list" = true := by unfold tyB; rw [kb_list_list]; rfl
theorem lB6 : tyB "tuple" "list" = false := by unfold tyB; rw [kb_tuple_list]; rfl
theorem bB2 : tyB "bool" "bool" = true := by unfold tyB; rw [kb_bool_bool]; rfl
theorem bB3 : tyB "int" "bool" = false := by unfold tyB; rw [kb_int_bool]; rfl
theorem bB4 : tyB "str" "bool" = false := by unfold tyB; rw [kb_str_bool]; rfl
theorem iB3 : tyB "int" "int" = true := by unfold tyB; rw [kb_int_int]; rfl
theorem iB4 : tyB "str" "int" = false := by unfold tyB; rw [kb_str_int]; rfl
theorem sB4 : tyB "str" "str" = true := by unfold tyB; rw [kb_str_str]; rfl
/-- a value that is no object, with its type -/
inductive Sc : V → String → Prop
  | non : Sc .non "NoneType"
  | bl (b : Bool) : Sc (.bl b) "bool"
  | int (i : Int) : Sc (.int i) "int"
  | str (x : Str) : Sc (.str x) "str"
theorem Sc.ty {v : V} {t : String} (h : Sc v t) (H : Hp) : Ty H v t := by
  cases h
  · exact .non
  · exact .bl _
  · exact .int _
  · exact .str _
/-- two values hold equal data, to a depth -/
def Eqd (H : Hp) : Nat → V → V → Prop
  | 0, v, u => v = u ∧ ∃ t, Sc v t
  | n + 1, v, u => (v = u ∧ ∃ t, Sc v t) ∨ ∃ a b xs ys, v = .ref a ∧ u = .ref b ∧ ((H a = some (.lst xs) ∧ H b = some (.lst ys)) ∨ (H a = some (.tup xs) ∧ H b = some (.tup ys))) ∧ xs.length = ys.length ∧ xs.length ≤ 1000000 ∧
      ∀ (i : Nat) x y, xs[i]? = some x → ys[i]? = some y → Eqd H n x y
theorem Eqd.sc {H : Hp} {v : V} {t : String} (h : Sc v t) : ∀ n, Eqd H n v v
  | 0 => ⟨rfl, t, h⟩
  | _ + 1 => .inl ⟨rfl, t, h⟩
theorem Eqd.same {H H' : Hp} (s : Same H H') : ∀ {n : Nat} {v u : V}, Eqd H n v u → Eqd H' n v u
  | 0, _, _, h => h
  | n + 1, _, _, h => by
    rcases h with h | ⟨a, b, xs, ys, e1, e2, e3, e4, e5, e6⟩
    · exact .inl h
    · refine .inr ⟨a, b, xs, ys, e1, e2, ?_, e4, e5, fun i x y hx hy => Eqd.same s (e6 i x y hx hy)⟩
      rcases e3 with ⟨g1, g2⟩ | ⟨g1, g2⟩
      · exact .inl ⟨s _ _ g1, s _ _ g2⟩
      · exact .inr ⟨s _ _ g1, s _ _ g2⟩
def spEqual : Nat → Sp
  | 0 => fun _ _ _ _ => False
  | n + 1 => fun vs H Q _ => ∃ (v u : V), vs = [v, u] ∧ Eqd H n v u ∧ Q (.bl true) H
theorem ok_law_equal (T : Txt P K mg) {k : Nat} : ∀ n, FnOk P w K mg base CX0 (k + n + 1) T.law_equal.f T.law_equal.fd ["_law_one", "_law_other"] (spEqual n)
  | 0 => T.law_equal.F.ok sc_law_equal (fun _ _ _ _ h => h.elim) (fun _ _ _ _ _ _ _ _ _ h => h.elim)
  | n + 1 => by
    have G_law_equal : FnOk P w K mg base CX0 (k + n + 1) T.law_equal.f T.law_equal.fd ["_law_one", "_law_other"] (spEqual n) := ok_law_equal T n
    refine T.law_equal.F.ok sc_law_equal (fun vs H Q E h => ?_) (fun cdv A outer s H vs Q E hr h => ?_)
    · obtain ⟨v, u, rfl, _⟩ := h
      rfl
    · obtain ⟨v, u, rfl, h, q⟩ := h
      refine ⟨_, (pss_cons (ps_set (i := 2) sc_law_equal.nd rfl (.inl rfl) (pe_and (pe_callB call_isi (by rfl) T.n_isinstance (by decide +kernel) (pa_cons (pv 0) (pa_cons (pe_bltn (v := .ty "tuple") (by rfl) T.n_tuple (by decide +kernel) rfl) pa_nil))) (pe_one (pe_callB call_isi (by rfl) T.n_isinstance (by decide +kernel) (pa_cons (pv 1) (pa_cons (pe_bltn (v := .ty "tuple") (by rfl) T.n_tuple (by decide +kernel) rfl) pa_nil))))))
  (pss_cons (ps_if (PW.pt (pw_or (pt_val (pv 2)) (pw_or1 (PW.pt (pw_and (pt_val (pe_callB call_isi (by rfl) T.n_isinstance (by decide +kernel) (pa_cons (pv 0) (pa_cons (pe_bltn (v := .ty "list") (by rfl) T.n_list (by decide +kernel) rfl) pa_nil)))) (pw_and1 (pt_val (pe_callB call_isi (by rfl) T.n_isinstance (by decide +kernel) (pa_cons (pv 1) (pa_cons (pe_bltn (v := .ty "list") (by rfl) T.n_list (by decide +kernel) rfl) pa_nil)))))))))) (pss_cons (ps_if (pt_cmpR op_ne (pe_callB call_len_seq (by rfl) T.n_len PySem.boot_len (pa_cons (pv 0) pa_nil)) (pe_callB call_len_seq (by rfl) T.n_len PySem.boot_len (pa_cons (pv 1) pa_nil)) (nomark _)) (pss_one (ps_ret pe_bl)) pss_nil)
  (pss_cons (ps_for PassesOwn.never rfl (pi_range1 (by rfl) T.n_range (pa_cons (pe_callB call_len_seq (by rfl) T.n_len PySem.boot_len (pa_cons (pv 0) pa_nil)) pa_nil)) (pg_name (i := 3) sc_law_equal.nd rfl (.inl rfl))
   (pss_one (ps_if (pt_not (pt_val (pe_call G_law_equal (hr.mono (by omega)) (by rfl) T.law_equal.g T.law_equal.F.kp T.law_equal.b .nil pass0 (pa_cons (pe_ix ix_seq (pv 0) (pv 3) (fun _ _ => rfl)) (pa_cons (pe_ix ix_seq (pv 1) (pv 3) (fun _ _ => rfl)) pa_nil))))) (pss_one (ps_ret pe_bl)) pss_nil)))
  (pss_one (ps_ret pe_bl)))) pss_nil)
  (pss_cons (ps_if (PW.pt (pw_or (pt_cmpR op_isN (pv 0) pe_non (nomark _)) (pw_or1 (pt_cmpR op_isN (pv 1) pe_non (nomark _))))) (pss_one (ps_ret (pe_and (pe_cmpR op_isN (pv 0) pe_non (nomark _)) (pe_one (pe_cmpR op_isN (pv 1) pe_non (nomark _)))))) pss_nil)
  (pss_cons (ps_if (PW.pt (pw_or (pt_val (pe_callB call_isi (by rfl) T.n_isinstance (by decide +kernel) (pa_cons (pv 0) (pa_cons (pe_bltn (v := .ty "bool") (by rfl) T.n_bool (by decide +kernel) rfl) pa_nil)))) (pw_or1 (pt_val (pe_callB call_isi (by rfl) T.n_isinstance (by decide +kernel) (pa_cons (pv 1) (pa_cons (pe_bltn (v := .ty "bool") (by rfl) T.n_bool (by decide +kernel) rfl) pa_nil))))))) (pss_one (ps_ret (pe_and (pe_callB call_isi (by rfl) T.n_isinstance (by decide +kernel) (pa_cons (pv 0) (pa_cons (pe_bltn (v := .ty "bool") (by rfl) T.n_bool (by decide +kernel) rfl) pa_nil))) (pe_and (pe_callB call_isi (by rfl) T.n_isinstance (by decide +kernel) (pa_cons (pv 1) (pa_cons (pe_bltn (v := .ty "bool") (by rfl) T.n_bool (by decide +kernel) rfl) pa_nil))) (pe_one (pe_cmpR op_eq (pv 0) (pv 1) (nomark _))))))) pss_nil)
  (pss_cons (ps_if (PW.pt (pw_or (PW.pt (pw_and (pt_val (pe_callB call_isi (by rfl) T.n_isinstance (by decide +kernel) (pa_cons (pv 0) (pa_cons (pe_bltn (v := .ty "int") (by rfl) T.n_int (by decide +kernel) rfl) pa_nil)))) (pw_and1 (pt_val (pe_callB call_isi (by rfl) T.n_isinstance (by decide +kernel) (pa_cons (pv 1) (pa_cons (pe_bltn (v := .ty "int") (by rfl) T.n_int (by decide +kernel) rfl) pa_nil))))))) (pw_or1 (PW.pt (pw_and (pt_val (pe_callB call_isi (by rfl) T.n_isinstance (by decide +kernel) (pa_cons (pv 0) (pa_cons (pe_bltn (v := .ty "str") (by rfl) T.n_str (by decide +kernel) rfl) pa_nil)))) (pw_and1 (pt_val (pe_callB call_isi (by rfl) T.n_isinstance (by decide +kernel) (pa_cons (pv 1) (pa_cons (pe_bltn (v := .ty "str") (by rfl) T.n_str (by decide +kernel) rfl) pa_nil)))))))))) (pss_one (ps_ret (pe_cmpR op_eq (pv 0) (pv 1) (nomark _)))) pss_nil)
  (pss_one (ps_ret pe_bl))))))), ?_⟩
      have sc : (v = u ∧ ∃ t, Sc v t) ∨ ∃ m a b xs ys, n = m + 1 ∧ v = .ref a ∧ u = .ref b ∧ ((H a = some (.lst xs) ∧ H b = some (.lst ys)) ∨ (H a = some (.tup xs) ∧ H b = some (.tup ys))) ∧ xs.length = ys.length ∧ xs.length ≤ 1000000 ∧ ∀ (i : Nat) x y, xs[i]? = some x → ys[i]? = some y → Eqd H m x y := by
        cases n with
        | zero => exact .inl h
        | succ m =>
          rcases h with h | ⟨a, b, xs, ys, h⟩
          · exact .inl h
          · exact .inr ⟨m, a, b, xs, ys, rfl, h⟩
      rcases sc with ⟨rfl, t, ht⟩ | ⟨m, a, b, xs, ys, rfl, rfl, rfl, hh, hl, hz, hx⟩
      · have ty := ht.ty H
        cases ht with
        | non =>
          refine ⟨_, rfl, _, _, _, _, _, rfl, .ty "tuple", ty.x, isI_tuple ty, _, rfl, iF tB1 ?_⟩
          refine ⟨_, rfl, _, rfl, iF rfl ⟨_, rfl, _, _, _, _, _, rfl, .ty "list", ty.x, isI_list ty, _, rfl, iF lB1 (iF rfl ?_)⟩⟩
          refine ⟨_, rfl, rfl, _, rfl, iT rfl (iT rfl ?_)⟩
          exact ⟨_, rfl, rfl, _, rfl, iT rfl ⟨_, rfl, rfl, q⟩⟩
        | bl x =>
          refine ⟨_, rfl, _, _, _, _, _, rfl, .ty "tuple", ty.x, isI_tuple ty, _, rfl, iF tB2 ?_⟩
          refine ⟨_, rfl, _, rfl, iF rfl ⟨_, rfl, _, _, _, _, _, rfl, .ty "list", ty.x, isI_list ty, _, rfl, iF lB2 (iF rfl ?_)⟩⟩
          refine ⟨_, rfl, rfl, _, rfl, iF rfl ⟨_, rfl, rfl, _, rfl, iF rfl ?_⟩⟩
          refine ⟨_, rfl, _, _, _, _, _, rfl, .ty "bool", ty.x, isI_bool ty, _, rfl, iT bB2 (iT rfl ?_)⟩
          refine ⟨_, rfl, _, _, _, _, _, rfl, .ty "bool", ty.x, isI_bool ty, _, rfl, iT bB2 ⟨_, rfl, _, _, _, _, _, rfl, .ty "bool", ty.x, isI_bool ty, _, rfl, iT bB2 ⟨_, rfl, _, rfl, rfl, ?_⟩⟩⟩
          rw [decide_eq_true rfl]
          exact q
        | int x =>
          refine ⟨_, rfl, _, _, _, _, _, rfl, .ty "tuple", ty.x, isI_tuple ty, _, rfl, iF tB3 ?_⟩
          refine ⟨_, rfl, _, rfl, iF rfl ⟨_, rfl, _, _, _, _, _, rfl, .ty "list", ty.x, isI_list ty, _, rfl, iF lB3 (iF rfl ?_)⟩⟩
          refine ⟨_, rfl, rfl, _, rfl, iF rfl ⟨_, rfl, rfl, _, rfl, iF rfl ?_⟩⟩
          refine ⟨_, rfl, _, _, _, _, _, rfl, .ty "bool", ty.x, isI_bool ty, _, rfl, iF bB3 ⟨_, rfl, _, _, _, _, _, rfl, .ty "bool", ty.x, isI_bool ty, _, rfl, iF bB3 ?_⟩⟩
          refine ⟨_, rfl, _, _, _, _, _, rfl, .ty "int", ty.x, isI_int ty, _, rfl, iT iB3 ⟨_, rfl, _, _, _, _, _, rfl, .ty "int", ty.x, isI_int ty, _, rfl, iT iB3 (iT iB3 ?_)⟩⟩
          refine ⟨_, rfl, _, rfl, rfl, ?_⟩
          rw [decide_eq_true rfl]
          exact q
        | str x =>
          refine ⟨_, rfl, _, _, _, _, _, rfl, .ty "tuple", ty.x, isI_tuple ty, _, rfl, iF tB4 ?_⟩
          refine ⟨_, rfl, _, rfl, iF rfl ⟨_, rfl, _, _, _, _, _, rfl, .ty "list", ty.x, isI_list ty, _, rfl, iF lB4 (iF rfl ?_)⟩⟩
          refine ⟨_, rfl, rfl, _, rfl, iF rfl ⟨_, rfl, rfl, _, rfl, iF rfl ?_⟩⟩
          refine ⟨_, rfl, _, _, _, _, _, rfl, .ty "bool", ty.x, isI_bool ty, _, rfl, iF bB4 ⟨_, rfl, _, _, _, _, _, rfl, .ty "bool", ty.x, isI_bool ty, _, rfl, iF bB4 ?_⟩⟩
          refine ⟨_, rfl, _, _, _, _, _, rfl, .ty "int", ty.x, isI_int ty, _, rfl, iF iB4 (iF rfl ⟨_, rfl, _, _, _, _, _, rfl, .ty "str", ty.x, isI_str ty, _, rfl, iT sB4 ⟨_, rfl, _, _, _, _, _, rfl, .ty "str", ty.x, isI_str ty, _, rfl, iT sB4 ?_⟩⟩)⟩
          refine ⟨_, rfl, _, rfl, rfl, ?_⟩
          rw [decide_eq_true rfl]
          exact q
      · rcases hh with ⟨h1, h2⟩ | ⟨h1, h2⟩
        · have ty : Ty H (.ref a) "list" := .lst h1
          have ty' : Ty H (.ref b) "list" := .lst h2
          refine ⟨_, rfl, _, _, _, _, _, rfl, .ty "tuple", ty.x, isI_tuple ty, _, rfl, iF tB5 ?_⟩
          refine ⟨_, rfl, _, rfl, iF rfl ⟨_, rfl, _, _, _, _, _, rfl, .ty "list", ty.x, isI_list ty, _, rfl, iT lB5 ⟨_, rfl, _, _, _, _, _, rfl, .ty "list", ty'.x, isI_list ty', _, rfl, iT lB5 ?_⟩⟩⟩
          refine ⟨_, rfl, a, _, rfl, .inl (SqL.of h1), _, rfl, b, _, rfl, .inl (SqL.of h2), rfl, _, rfl, iF (by rw [hl]; simp) ?_⟩
          refine ⟨_, rfl, a, _, rfl, .inl (SqL.of h1), _, rfl, by omega, by omega, ?_⟩
          refine for_range (lo := 0) (n := ((xs.length : Int)).toNat) (fun t σ H' => H' = H ∧ ∃ y, σ = [some (.ref a), some (.ref b), some (.bl false), y]) ⟨rfl, none, rfl⟩ (fun t σ H' ht p => ?_) (fun σ H' p => ?_)
          · obtain ⟨rfl, y, rfl⟩ := p
            have ht : t < xs.length := ht
            have e0 : (0 : Int) + (t : Nat) = (t : Nat) := by omega
            have g1 : atI xs (0 + (t : Nat)) = some xs[t] := by rw [e0]; exact atI_nat (List.getElem?_eq_getElem ht)
            have g2 : atI ys (0 + (t : Nat)) = some (ys[t]'(by omega)) := by rw [e0]; exact atI_nat (List.getElem?_eq_getElem (by omega))
            refine ⟨_, rfl, _, rfl, .inl ⟨a, _, _, _, rfl, rfl, SqL.of h1, g1, _, rfl, _, rfl, .inl ⟨b, _, _, _, rfl, rfl, SqL.of h2, g2, _, _, rfl, hx t _ _ (List.getElem?_eq_getElem ht) (List.getElem?_eq_getElem (by omega)), ?_⟩⟩⟩
            exact ⟨_, rfl, iF rfl ⟨rfl, _, rfl⟩⟩
          · obtain ⟨rfl, y, rfl⟩ := p
            exact q
        · have ty : Ty H (.ref a) "tuple" := .tup h1
          have ty' : Ty H (.ref b) "tuple" := .tup h2
          refine ⟨_, rfl, _, _, _, _, _, rfl, .ty "tuple", ty.x, isI_tuple ty, _, rfl, iT tB6 ⟨_, rfl, _, _, _, _, _, rfl, .ty "tuple", ty'.x, isI_tuple ty', ?_⟩⟩
          refine ⟨_, rfl, _, rfl, iT tB6 (iT rfl ?_)⟩
          refine ⟨_, rfl, a, _, rfl, .inr (SqT.of h1), _, rfl, b, _, rfl, .inr (SqT.of h2), rfl, _, rfl, iF (by rw [hl]; simp) ?_⟩
          refine ⟨_, rfl, a, _, rfl, .inr (SqT.of h1), _, rfl, by omega, by omega, ?_⟩
          refine for_range (lo := 0) (n := ((xs.length : Int)).toNat) (fun t σ H' => H' = H ∧ ∃ y, σ = [some (.ref a), some (.ref b), some (.bl (tyB "tuple" "tuple")), y]) ⟨rfl, none, rfl⟩ (fun t σ H' ht p => ?_) (fun σ H' p => ?_)
          · obtain ⟨rfl, y, rfl⟩ := p
            have ht : t < xs.length := ht
            have e0 : (0 : Int) + (t : Nat) = (t : Nat) := by omega
            have g1 : atI xs (0 + (t : Nat)) = some xs[t] := by rw [e0]; exact atI_nat (List.getElem?_eq_getElem ht)
            have g2 : atI ys (0 + (t : Nat)) = some (ys[t]'(by omega)) := by rw [e0]; exact atI_nat (List.getElem?_eq_getElem (by omega))
            refine ⟨_, rfl, _, rfl, .inr (.inl ⟨a, _, _, _, rfl, rfl, SqT.of h1, g1, _, rfl, _, rfl, .inr (.inl ⟨b, _, _, _, rfl, rfl, SqT.of h2, g2, _, _, rfl, hx t _ _ (List.getElem?_eq_getElem ht) (List.getElem?_eq_getElem (by omega)), ?_⟩)⟩)⟩
            exact ⟨_, rfl, iF rfl ⟨rfl, _, rfl⟩⟩
          · obtain ⟨rfl, y, rfl⟩ := p
            exact q
end
end Pl

namespace Pl
open PySem L2
theorem Eqd.tup {H : Hp} {a b : Addr} {xs : List V} (n : Nat) (ha : H a = some (.tup xs)) (hb : H b = some (.tup xs)) (hl : xs.length ≤ 1000) (hx : ∀ x ∈ xs, ∃ t, Sc x t) : Eqd H (n + 1) (.ref a) (.ref b) :=
  .inr ⟨a, b, xs, xs, rfl, rfl, .inr ⟨ha, hb⟩, rfl, by omega, fun i x y h1 h2 => by
    rw [h1] at h2
    cases h2
    obtain ⟨t, ht⟩ := hx x (List.mem_of_getElem? h1)
    exact Eqd.sc ht n⟩
theorem Eqd.lst {H : Hp} {a b : Addr} {xs : List V} (n : Nat) (ha : H a = some (.lst xs)) (hb : H b = some (.lst xs)) (hl : xs.length ≤ 1000) (hx : ∀ x ∈ xs, ∃ t, Sc x t) : Eqd H (n + 1) (.ref a) (.ref b) :=
  .inr ⟨a, b, xs, xs, rfl, rfl, .inl ⟨ha, hb⟩, rfl, by omega, fun i x y h1 h2 => by
    rw [h1] at h2
    cases h2
    obtain ⟨t, ht⟩ := hx x (List.mem_of_getElem? h1)
    exact Eqd.sc ht n⟩
end Pl

namespace Pl
open PySem L2
local macro_rules | `(tactic| infer_instance) => `(tactic| first
  | with_reducible assumption
  | with_reducible exact Same.refl _
  | exact Wd.gh (by with_reducible assumption)
  | exact sm2 (by with_reducible assumption) (by infer_instance)
  | exact sm2 (same_upd (by with_reducible assumption)) (by infer_instance)
  | exact sm2 (Wd.gh (by with_reducible assumption)) (by infer_instance))
local macro_rules | `(tactic| trivial) => `(tactic| first
  | with_reducible assumption
  | with_reducible exact upd_same
  | exact at_same (by with_reducible assumption) (by trivial)
  | exact at_same (same_upd (by with_reducible assumption)) (by trivial)
  | exact at_same (Wd.gh (by with_reducible assumption)) (by trivial))
local macro_rules | `(tactic| ac_rfl) => `(tactic| first
  | exact Ty.int _
  | exact Ty.str _
  | exact Ty.non
  | exact Ty.bl _
  | exact Ty.tup (by trivial)
  | exact Ty.lst (by trivial))
local macro_rules | `(tactic| contradiction) => `(tactic| first
  | exact rfl
  | exact decide_eq_true (by first | assumption | omega)
  | exact decide_eq_false (by first | assumption | omega)
  | exact dI_t (by first | assumption | omega)
  | exact dI_f (by first | assumption | omega)
  | exact dS_t (by first | assumption | decide)
  | exact dS_f (by first | assumption | decide)
  | exact nI_t (by first | assumption | omega)
  | exact nI_f (by first | assumption | omega)
  | exact nS_t (by first | assumption | decide)
  | exact nS_f (by first | assumption | decide)
  | assumption
  | exact q_none_int | exact q_none_bool | exact q_none_tuple | exact q_none_list | exact q_none_str | exact q_bool_int | exact q_bool_bool | exact q_bool_tuple | exact q_bool_list | exact q_bool_str | exact q_int_int | exact q_int_bool | exact q_int_tuple | exact q_int_list | exact q_int_str | exact q_str_int | exact q_str_bool | exact q_str_tuple | exact q_str_list | exact q_str_str | exact q_list_int | exact q_list_bool | exact q_list_tuple | exact q_list_list | exact q_list_str | exact q_tuple_int | exact q_tuple_bool | exact q_tuple_tuple | exact q_tuple_list | exact q_tuple_str
  | exact nb_t (by contradiction)
  | exact nb_f (by contradiction))
local macro_rules | `(tactic| and_intros) => `(tactic| repeat (first
  | refine ⟨_, rfl, ?_⟩
  | refine ⟨_, _, rfl, rfl, ?_⟩
  | refine ⟨rfl, ?_⟩
  | refine ⟨_, _, _, _, rfl, rfl, SqT.of (by trivial), at_ix (by decide) rfl, ?_⟩
  | refine ⟨_, _, _, _, rfl, rfl, SqL.of (by trivial), at_ix (by decide) rfl, ?_⟩
  | refine ⟨_, _, rfl, Or.inl (SqL.of (by trivial)), ?_⟩
  | refine ⟨_, _, rfl, Or.inr (SqT.of (by trivial)), ?_⟩
  | refine ⟨_, _, _, _, _, rfl, (by trivial), (by trivial), (by trivial), rfl, ?_⟩
  | refine ⟨_, _, _, _, _, rfl, ClsV.ty _, Ty.x (by ac_rfl), isI_tuple (by ac_rfl), ?_⟩
  | refine ⟨_, _, _, _, _, rfl, ClsV.ty _, Ty.x (by ac_rfl), isI_list (by ac_rfl), ?_⟩
  | refine ⟨_, _, _, _, _, rfl, ClsV.ty _, Ty.x (by ac_rfl), isI_int (by ac_rfl), ?_⟩
  | refine ⟨_, _, _, _, _, rfl, ClsV.ty _, Ty.x (by ac_rfl), isI_bool (by ac_rfl), ?_⟩
  | refine ⟨_, _, _, _, _, rfl, ClsV.ty _, Ty.x (by ac_rfl), isI_str (by ac_rfl), ?_⟩
  | refine ⟨sz (Nat.le_of_ble_eq_true rfl), ?_⟩
  | refine ⟨Or.inl ⟨rfl, _, SqL.of (by trivial)⟩, ?_⟩
  | refine ⟨_, _, rfl, SqT.of (by trivial), rfl, _, _, rfl, _, _, rfl, _, _, rfl, _, _, rfl, rfl, ?_⟩
  | refine ⟨_, _, rfl, SqT.of (by trivial), rfl, _, _, rfl, _, _, rfl, _, _, rfl, rfl, ?_⟩
  | refine ⟨_, _, rfl, SqT.of (by trivial), rfl, _, _, rfl, _, _, rfl, rfl, ?_⟩
  | refine ⟨_, _, _, _, rfl, (by with_reducible assumption : Wd _ _ _ _), (by first | decide | omega), (by first | decide | omega), ?_⟩
  | refine ⟨_, _, _, rfl, (by with_reducible assumption : Wd _ _ _ _), ?_⟩
  | refine iT (by contradiction) ?_
  | refine iF (by contradiction) ?_))
-- USE RD
open LamX
def spLaw (K : PySem.W.Frag) (Pt : Addr) : Sp := fun vs H Q _ => ∃ (a : Addr) (ns : List Int), vs = [.ref a] ∧ H Pt = some (.tbl #[]) ∧ SqL K H a (ns.map V.int) ∧ ns.length ≤ 63 ∧ ∀ H', Q (.bl true) H'
theorem EnAt.nt {n : Nat} {H : Hp} {v : V} : ∀ {e : Option BF.Fact}, EnAt n H v e → EnAt n (Pl.nt H) v e
  | some f, ⟨⟨t, h1, h2⟩, h3⟩ => ⟨⟨t, h1, nt_at h2 (fun _ z => nomatch z)⟩, h3⟩
  | none, .inl ⟨t, h1, h2⟩ => .inl ⟨t, Ty.nt h1, h2⟩
  | none, .inr ⟨a, xs, h1, h2, h3, h4, h5⟩ => .inr ⟨a, xs, h1, nt_at h2 (fun _ z => nomatch z), h3, fun x hx => let ⟨t, ht, hn⟩ := h4 x hx; ⟨t, Ty.nt ht, hn⟩, h5⟩
theorem Ty.mnl {S : List Addr} {H : Hp} (hS : Lsts S H) {v : V} {t : String} (h : Ty H v t) (hn : t ≠ "list") : Ty (mn S H) v t := by
  cases h with
  | non => exact .non
  | bl b => exact .bl b
  | int i => exact .int i
  | str x => exact .str x
  | lst h => exact absurd rfl hn
  | tup h => exact .tup (mn_nl hS h fun _ z => nomatch z)
theorem EnAt.mnl {n : Nat} {S : List Addr} {H : Hp} (hS : Lsts S H) {v : V} (hv : ∀ a ∈ S, v ≠ .ref a) (h : EnAt n H v none) : EnAt n (Pl.mn S H) v none := by
  rcases h with ⟨t, ht, hn⟩ | ⟨a, xs, h1, h2, h3, h4, h5⟩
  · refine .inl ⟨t, ?_, hn⟩
    cases ht with
    | lst h => exact .lst (by rw [mn_at fun z => hv _ z rfl]; exact h)
    | tup h => exact absurd rfl hn
    | non => exact .non
    | bl b => exact .bl b
    | int i => exact .int i
    | str x => exact .str x
  · refine .inr ⟨a, xs, h1, mn_nl hS h2 (fun _ z => nomatch z), h3, fun x hx => ?_, h5⟩
    obtain ⟨t, ht, hn⟩ := h4 x hx
    exact ⟨t, Ty.mnl hS ht hn, hn⟩
theorem EnsAt.nt {n : Nat} {H : Hp} {vs : List V} {es : List (Option BF.Fact)} (h : EnsAt n H vs es) : EnsAt n (Pl.nt H) vs es := ⟨h.1, fun i e he => let ⟨v, h1, h2⟩ := h.2 i e he; ⟨v, h1, h2.nt⟩⟩
theorem EnsAt.same {n : Nat} {H H' : Hp} {vs : List V} {es : List (Option BF.Fact)} (s : Same H H') (h : EnsAt n H vs es) : EnsAt n H' vs es := ⟨h.1, fun i e he => let ⟨v, h1, h2⟩ := h.2 i e he; ⟨v, h1, h2.same s⟩⟩
theorem EnsAt.set {n : Nat} {H : Hp} {vs : List V} {es : List (Option BF.Fact)} {j : Nat} {v : V} (h : EnsAt n H vs es) (hv : EnAt n H v none) : EnsAt n H (vs.set j v) (es.set j none) := by
  refine ⟨by rw [List.length_set, List.length_set]; exact h.1, fun i e he => ?_⟩
  rw [List.getElem?_set] at he
  by_cases hij : j = i
  · subst hij
    rw [if_pos rfl] at he
    by_cases hl : j < es.length
    · rw [if_pos hl] at he
      cases he
      exact ⟨v, by rw [List.getElem?_set_self (by rw [h.1]; exact hl)], hv⟩
    · rw [if_neg hl] at he
      cases he
  · rw [if_neg hij] at he
    obtain ⟨u, h1, h2⟩ := h.2 i e he
    exact ⟨u, by rw [List.getElem?_set_ne hij]; exact h1, h2⟩
/-- where the entries are none -/
def Bads (es : List (Option BF.Fact)) (ps : List Nat) : Prop := (∀ j, es[j]? = some none ↔ j ∈ ps) ∧ ∀ j ∈ ps, j < es.length
theorem Bads.set {es : List (Option BF.Fact)} {ps : List Nat} {j : Nat} (h : Bads es ps) (hj : j < es.length) : Bads (es.set j none) (ps ++ [j]) := by
  refine ⟨fun i => ?_, fun i hi => ?_⟩
  · rw [List.getElem?_set, List.mem_append, List.mem_singleton]
    by_cases hij : j = i
    · subst hij
      rw [if_pos rfl, if_pos hj]
      exact ⟨fun _ => .inr rfl, fun _ => rfl⟩
    · rw [if_neg hij, h.1 i]
      exact ⟨.inl, fun z => z.elim id fun e => absurd e.symm hij⟩
  · rw [List.length_set]
    rcases List.mem_append.mp hi with h1 | h1
    · exact h.2 i h1
    · rw [List.mem_singleton.mp h1]; exact hj
theorem all_good {es : List (Option BF.Fact)} (h : ∀ j : Nat, es[j]? ≠ some none) : ∃ fs : List BF.Fact, es = fs.map some := by
  induction es with
  | nil => exact ⟨[], rfl⟩
  | cons e es ih =>
    obtain ⟨fs, rfl⟩ := ih fun j => h (j + 1)
    cases e with
    | none => exact absurd rfl (h 0)
    | some f => exact ⟨f :: fs, rfl⟩
open BF in
theorem ens_facts {n : Nat} {H : Hp} {a : Addr} {vs : List V} {fs : List Fact} (ha : H a = some (.lst vs)) (h : EnsAt n H vs (fs.map some)) : FactsAt H a fs ∧ Below n fs := by
  refine ⟨⟨vs, ha, by rw [h.1, List.length_map], fun i f hf => ?_⟩, fun f hf => ?_⟩
  · obtain ⟨v, h1, ⟨t, rfl, h3⟩, _⟩ := h.2 i (some f) (by rw [List.getElem?_map, hf]; rfl)
    exact ⟨t, h1, h3⟩
  · obtain ⟨i, hi⟩ := List.mem_iff_getElem?.mp hf
    obtain ⟨v, h1, _, h3⟩ := h.2 i (some f) (by rw [List.getElem?_map, hi]; rfl)
    exact h3
/-- what the law expects -/
def Due (H : Hp) (d : Addr) (es : List (Option BF.Fact)) : Prop := ((∃ fs : List BF.Fact, es = fs.map some) ∧ H d = some (.tup [.str "nothing"])) ∨ ∃ i : Nat, firstBad es i ∧ H d = some (.tup [.str "BadFact", .int (i : Nat)])
theorem Due.same {H H' : Hp} {d : Addr} {es : List (Option BF.Fact)} (s : Same H H') (h : Due H d es) : Due H' d es := h.imp (fun ⟨a, b⟩ => ⟨a, s _ _ b⟩) fun ⟨i, a, b⟩ => ⟨i, a, s _ _ b⟩
theorem Due.nt {H : Hp} {d : Addr} {es : List (Option BF.Fact)} (h : Due H d es) : Due (Pl.nt H) d es := h.imp (fun ⟨a, b⟩ => ⟨a, nt_at b fun _ z => nomatch z⟩) fun ⟨i, a, b⟩ => ⟨i, a, nt_at b fun _ z => nomatch z⟩
section
variable {P : Program} {w : World} {K : PySem.W.Frag} {mg : Str → Option Value} {base : Heap}
theorem ok_law (T : Txt P K mg) (TB : TabB base mg T.lc_law.c T.lc_law.P) : FnOk P w K mg base CX0 40 T.law.f T.law.fd ["_law_script"] (spLaw K T.lc_law.P) := by
  have G_law_open : FnOk P w K mg base CX0 (17 + 1) T.law_open.f T.law_open.fd ["_law_script"] (spOpen K) := ok_law_open T
  have G_law_pick : FnOk P w K mg base CX0 (17 + 1) T.law_pick.f T.law_pick.fd ["_law_box", "_law_many"] spPick := ok_law_pick T
  have G_law_facts : FnOk P w K mg base CX0 (0 + 3) T.law_facts.f T.law_facts.fd ["_law_box", "_law_count", "_law_most"] spLawFacts := ok_law_facts T
  have G_law_wrong : FnOk P w K mg base CX0 (0 + 3) T.law_wrong.f T.law_wrong.fd ["_law_box", "_law_count"] spWrong := ok_law_wrong T
  have G_law_equal : FnOk P w K mg base CX0 (15 + 3 + 1) T.law_equal.f T.law_equal.fd ["_law_one", "_law_other"] (spEqual 3) := ok_law_equal T 3
  have G_ring := fnOk_or (fnOk_lift (w := w) (base := base) (P := P) (ok_ring T (k := 0))) (ok_ring_bad T (k := 0))
  have G_solution := fnOk_or (fnOk_lift (w := w) (base := base) (P := P) (ok_solution T (k := 0))) (ok_solution_bad T (k := 0))
  have G_bound := fnOk_or (fnOk_lift (w := w) (base := base) (P := P) (ok_bound T (k := 0))) (ok_bound_bad T (k := 0))
  refine T.lc_law.F.ok (k := 39) sc_law (fun vs H Q E h => ?_) (fun A outer s H vs Q E hr h => ?_)
  · obtain ⟨a, ns, rfl, _⟩ := h
    rfl
  · obtain ⟨sa, sns, rfl, hP, hS, hl, q⟩ := h
    refine ⟨_, (pss_cons (ps_set (i := 1) sc_law.nd rfl (.inl rfl) (pe_call G_law_open (hr.mono (by omega)) (by rfl) T.law_open.g T.law_open.F.kp T.law_open.b .nil pass0 (pa_cons (pv 0) pa_nil)))
  (pss_cons (ps_set (i := 2) sc_law.nd rfl (.inl rfl) (pe_call G_law_pick (hr.mono (by omega)) (by rfl) T.law_pick.g T.law_pick.F.kp T.law_pick.b .nil pass0 (pa_cons (pv 1) (pa_cons pe_int pa_nil))))
  (pss_cons (ps_set (i := 3) sc_law.nd rfl (.inr rfl) (pe_op op_add pe_int (pe_call G_law_pick (hr.mono (by omega)) (by rfl) T.law_pick.g T.law_pick.F.kp T.law_pick.b .nil pass0 (pa_cons (pv 1) (pa_cons pe_int pa_nil)))))
  (pss_cons (ps_set (i := 4) sc_law.nd rfl (.inr rfl) (pe_call G_law_facts (hr.mono (by omega)) (by rfl) T.law_facts.g T.law_facts.F.kp T.law_facts.b .nil pass0 (pa_cons (pv 1) (pa_cons (pv 3) (pa_cons pe_int pa_nil)))))
  (pss_cons (ps_set (i := 5) sc_law.nd rfl (.inl rfl) (pe_lst pa_nil))
  (pss_cons (ps_for PassesOwn.never rfl (pi_range1 (by rfl) T.n_range (pa_cons (pv 2) pa_nil)) (pg_name (i := 6) sc_law.nd rfl (.inl rfl))
   (pss_one (ps_if (pt_cmpR op_gt (pe_callB call_len_seq (by rfl) T.n_len PySem.boot_len (pa_cons (pv 4) pa_nil)) pe_int (nomark _)) (pss_cons (ps_set (i := 10) sc_law.nd rfl (.inl rfl) (pe_call G_law_pick (hr.mono (by omega)) (by rfl) T.law_pick.g T.law_pick.F.kp T.law_pick.b .nil pass0 (pa_cons (pv 1) (pa_cons (pe_callB call_len_seq (by rfl) T.n_len PySem.boot_len (pa_cons (pv 4) pa_nil)) pa_nil))))
  (pss_cons (ps_asg (pe_call G_law_wrong (hr.mono (by omega)) (by rfl) T.law_wrong.g T.law_wrong.F.kp T.law_wrong.b .nil pass0 (pa_cons (pv 1) (pa_cons (pv 3) pa_nil))) (pg_sub (pv 4) (pv 10) set_list))
  (pss_one (ps_expr (pe_bm PySem.F.plainAttrs_list PySem.F.slot_list_append PySem.F.type_list_append mt_append (pv 5) (pa_cons (pv 10) pa_nil)))))) pss_nil)))
  (pss_cons (ps_set (i := 7) sc_law.nd rfl (.inl rfl) (pe_tup (pa_cons pe_str pa_nil)))
  (Evl.pss_cut (ps_if (pt_cmpR op_gt (pe_callB call_len_seq (by rfl) T.n_len PySem.boot_len (pa_cons (pv 5) pa_nil)) pe_int (nomark _)) (pss_one (ps_set (i := 7) sc_law.nd rfl (.inl rfl) (pe_tup (pa_cons pe_str (pa_cons (pe_callB (cr_min rfl) (by rfl) T.n_min (by decide +kernel) (pa_cons (pv 5) pa_nil)) pa_nil))))) pss_nil)
  (pss_cons (ps_set (i := 8) sc_law.nd rfl (.inr rfl) (pe_call G_law_pick (hr.mono (by omega)) (by rfl) T.law_pick.g T.law_pick.F.kp T.law_pick.b .nil pass0 (pa_cons (pv 1) (pa_cons (pv 3) pa_nil))))
  (pss_cons (ps_set (i := 9) sc_law.nd rfl (.inr rfl) (pe_call G_law_pick (hr.mono (by omega)) (by rfl) T.law_pick.g T.law_pick.F.kp T.law_pick.b .nil pass0 (pa_cons (pv 1) (pa_cons (pv 3) pa_nil))))
  (pss_cons (ps_if (pt_not (pt_val (pe_call G_law_equal (hr.mono (by omega)) (by rfl) T.law_equal.g T.law_equal.F.kp T.law_equal.b .nil pass0 (pa_cons (pe_lam (k := 20) T.law_refusal.F T.law_refusal.b T.law_refusal.g sc_law_refusal (fun cdg => by exact gives_law_refusal T rfl rfl cdg) TB rfl (hr.mono (by omega)) rfl (fun A outer s H E f c' hr => (pe_call G_ring (hr.mono (by omega)) (by rfl) T.ring.g T.ring.F.kp T.ring.b .nil (passes_call (takes_of rfl rfl rfl rfl) (fun _ _ _ _ h => h)) (pa_cons (pv 3) (pa_cons (pv 4) pa_nil)))) (lamS_by (sc := defScope s_law) (by decide +kernel))) (pa_cons (pv 7) pa_nil))))) (pss_one (ps_ret pe_bl)) pss_nil)
  (pss_cons (ps_if (pt_not (pt_val (pe_call G_law_equal (hr.mono (by omega)) (by rfl) T.law_equal.g T.law_equal.F.kp T.law_equal.b .nil pass0 (pa_cons (pe_lam (k := 20) T.law_refusal.F T.law_refusal.b T.law_refusal.g sc_law_refusal (fun cdg => by exact gives_law_refusal T rfl rfl cdg) TB rfl (hr.mono (by omega)) rfl (fun A outer s H E f c' hr => (pe_call G_bound (hr.mono (by omega)) (by rfl) T.bound.g T.bound.F.kp T.bound.b .nil (passes_call (takes_of rfl rfl rfl rfl) (fun _ _ _ _ h => h)) (pa_cons (pv 3) (pa_cons (pv 4) (pa_cons (pv 8) (pa_cons (pv 9) pa_nil)))))) (lamS_by (sc := defScope s_law) (by decide +kernel))) (pa_cons (pv 7) pa_nil))))) (pss_one (ps_ret pe_bl)) pss_nil)
  (pss_one (ps_ret (pe_call G_law_equal (hr.mono (by omega)) (by rfl) T.law_equal.g T.law_equal.F.kp T.law_equal.b .nil pass0 (pa_cons (pe_lam (k := 20) T.law_refusal.F T.law_refusal.b T.law_refusal.g sc_law_refusal (fun cdg => by exact gives_law_refusal T rfl rfl cdg) TB rfl (hr.mono (by omega)) rfl (fun A outer s H E f c' hr => (pe_call G_solution (hr.mono (by omega)) (by rfl) T.solution.g T.solution.F.kp T.solution.b .nil (passes_call (takes_of rfl rfl rfl rfl) (fun _ _ _ _ h => h)) (pa_cons (pv 3) (pa_cons (pv 4) pa_nil)))) (lamS_by (sc := defScope s_law) (by decide +kernel))) (pa_cons (pv 7) pa_nil))))))))))))))))), ?_⟩
    refine ⟨_, rfl, sa, sns, rfl, hS, hl, fun b c H1 hb hc s1 bx => ?_⟩
    obtain ⟨G1, W1, gP⟩ := Wd.beginT hP hb hc s1 bx
    clear hP hb hc s1 bx
    refine ⟨_, rfl, b, c, _, 3, rfl, W1, by decide, by decide, fun mn2 H2 W2 m0 m1 => ?_⟩
    refine ⟨_, rfl, b, c, _, 12, rfl, W2, by decide, by decide, fun i H3 W3 i0 i1 => ⟨1, i, rfl, rfl, ?_⟩⟩
    have ei : (1 : Int) + i = ((1 + i.toNat : Nat) : Int) := by omega
    obtain ⟨n, hn1, hn2, en⟩ : ∃ n : Nat, 1 ≤ n ∧ n ≤ 1000 ∧ (1 : Int) + i = (n : Nat) := ⟨1 + i.toNat, by omega, by omega, ei⟩
    clear ei W1 W2
    rw [show (fun i j : Int => V.int (i + j)) 1 i = V.int (n : Nat) from congrArg V.int en]
    refine ⟨_, rfl, _, rfl, b, c, _, n, 20, rfl, W3, hn1, hn2, by decide, fun G4 H4 p us fs s4 W4 gp pb pc hp4 hR hB hlen => ?_⟩
    have gP4 := s4 _ _ gP
    clear W3 s4 gP
    and_intros
    intro pl hpl
    obtain ⟨plb, plc⟩ := W4.nb hpl
    have gpl : G4 pl = none := W4.gh.free hpl
    have npl : pl ≠ p := fun z => by rw [z, hp4] at hpl; cases hpl
    generalize elk : upd _ pl _ = H5
    obtain ⟨s5, q5⟩ := nw1 elk hpl
    clear elk
    have W5 := W4.sm s5
    have hE : EnsAt n G4 us (fs.map some) := ⟨by rw [List.length_map]; exact hR.1, fun i e he => by
      rw [List.getElem?_map] at he
      cases hf : fs[i]? with
      | none => rw [hf] at he; cases he
      | some f =>
        rw [hf] at he
        cases he
        obtain ⟨t, h1, h2⟩ := hR.2 i f hf
        exact ⟨_, h1, ⟨t, rfl, h2⟩, hB f (List.mem_of_getElem? hf)⟩⟩
    have hBd : Bads (fs.map some) [] := ⟨fun j => ⟨fun z => (by
      rw [List.getElem?_map] at z
      cases hf : fs[j]? with
      | none => rw [hf] at z; cases z
      | some f => rw [hf] at z; cases z), fun z => nomatch z⟩, fun j z => nomatch z⟩
    refine ⟨_, rfl, mn2, rfl, by omega, by omega, ?_⟩
    refine for_range (lo := 0) (n := mn2.toNat) (fun i σ H' => ∃ (G' : Hp) (us : List V) (es : List (Option BF.Fact)) (ps : List Nat) (z : List (Option V)), z.length = 5 ∧ σ = [some (.ref sa), some (.ref b), some (.int mn2), some (.int (n : Nat)), some (.ref p), some (.ref pl)] ++ z ∧ Wd b c G' H' ∧ G' T.lc_law.P = some (.tbl #[]) ∧ G' p = none ∧ G' pl = none ∧ H' p = some (.lst us) ∧ H' pl = some (.lst (ps.map nV)) ∧
      EnsAt n G' us es ∧ Bads es ps ∧ es.length ≤ 20 ∧ ps.length ≤ i) ⟨G4, us, fs.map some, [], [_, _, _, _, _], rfl, rfl, W5, gP4, gp, gpl, s5 _ _ hp4, q5, hE, hBd, by rw [List.length_map]; exact hlen, Nat.le_refl _⟩ (fun i σ H' hi pp => ?_) (fun σ H' pp => ?_)
    · obtain ⟨G', us, es, ps, z, hz, rfl, W6, gP6, gp6, gpl6, hp6, hpl6, hE6, hB6, hl6, hps⟩ := pp
      match z, hz with
      | [z1, z2, z3, z4, z5], _ =>
      and_intros
      by_cases h0 : us.length = 0
      · refine iF (by rw [h0]; rfl) ?_
        exact ⟨G', us, es, ps, [_, _, _, _, _], rfl, rfl, W6, gP6, gp6, gpl6, hp6, hpl6, hE6, hB6, hl6, Nat.le_succ_of_le hps⟩
      refine iT (decide_eq_true (by omega)) ?_
      have Wx := (W6.keep hp6 pb pc).keep hpl6 plb plc
      have ul : us.length ≤ 20 := by rw [hE6.1]; exact hl6
      refine ⟨_, rfl, _, rfl, p, us, rfl, .inl (SqL.of hp6), b, c, _, (us.length : Int), rfl, Wx, by omega, by omega, fun at_ H7 W7 a0 a1 => ?_⟩
      refine ⟨_, rfl, _, rfl, b, c, _, n, rfl, W7, hn1, hn2, fun v G8 H8 s8 W8 hv8 hfr => ?_⟩
      have hp8 := W8.gh _ _ (s8 _ _ (show upd (upd G' p (.lst us)) pl (.lst (ps.map nV)) p = some (.lst us) by rw [upd_ne npl.symm, upd_same]))
      have hpl8 := W8.gh _ _ (s8 _ _ upd_same)
      have g8p : G8 p = some (.lst us) := s8 _ _ (show upd (upd G' p (.lst us)) pl (.lst (ps.map nV)) p = some (.lst us) by rw [upd_ne npl.symm, upd_same])
      have g8l : G8 pl = some (.lst (ps.map nV)) := s8 _ _ upd_same
      refine ⟨_, rfl, _, rfl, p, us, at_, at_.toNat, rfl, rfl, hp8, ix_in a0 a1, ?_⟩
      have hpl9 : upd H8 p (.lst (us.set at_.toNat v)) pl = some (.lst (ps.map nV)) := by rw [upd_ne npl]; exact hpl8
      refine ⟨_, rfl, .inl ⟨rfl, _, SqL.of hpl9⟩, _, rfl, pl, _, _, rfl, rfl, hpl9, szl (by rw [List.length_map]; have : i < mn2.toNat := hi; omega), ?_⟩
      have hS : Lsts [p, pl] G8 := fun a ha => by
        simp only [List.mem_cons, List.not_mem_nil, or_false] at ha
        rcases ha with rfl | rfl
        · exact ⟨_, g8p⟩
        · exact ⟨_, g8l⟩
      have hvn : ∀ a ∈ [p, pl], v ≠ .ref a := fun a ha e => by
        have := hfr a e
        simp only [List.mem_cons, List.not_mem_nil, or_false] at ha
        rcases ha with rfl | rfl
        · rw [upd_ne npl.symm, upd_same] at this; cases this
        · rw [upd_same] at this; cases this
      have sG : Same G' (mn [p, pl] G8) := by
        refine same_mn (((same_upd gp6).trans (same_upd (by rw [upd_ne npl]; exact gpl6))).trans s8) fun a ha => ?_
        simp only [List.mem_cons, List.not_mem_nil, or_false] at ha
        rcases ha with rfl | rfl
        · exact gp6
        · exact gpl6
      have g9p : mn [p, pl] G8 p = none := mn_in (by simp)
      have g9l : mn [p, pl] G8 pl = none := mn_in (by simp)
      have jl : at_.toNat < es.length := by rw [← hE6.1]; omega
      have eat : V.int at_ = nV at_.toNat := congrArg V.int (by omega)
      refine ⟨mn [p, pl] G8, us.set at_.toNat v, es.set at_.toNat none, ps ++ [at_.toNat], [_, _, _, _, _], rfl, rfl, ((W8.weak mn_same).mut g9p pb pc).mut g9l plb plc, sG _ _ gP6, g9p, g9l, by rw [upd_ne npl.symm, upd_same], ?_, (hE6.same sG).set (hv8.mnl hS hvn), hB6.set jl, by rw [List.length_set]; exact hl6, by rw [List.length_append, List.length_singleton]; omega⟩
      rw [upd_same, eat, List.map_append]
      rfl
    · obtain ⟨G', us, es, ps, z, hz, rfl, W6, gP6, gp6, gpl6, hp6, hpl6, hE6, hB6, hl6, hps⟩ := pp
      match z, hz with
      | [z1, z2, z3, z4, z5], _ =>
      and_intros
      intro d0 hd0
      generalize elk : upd _ d0 _ = H7
      obtain ⟨s7, q7⟩ := nw1 elk hd0
      clear elk
      refine ⟨fun σ H' => ∃ (d : Addr) (z : List (Option V)), z.length = 3 ∧ σ = [some (.ref sa), some (.ref b), some (.int mn2), some (.int (n : Nat)), some (.ref p), some (.ref pl), z1, some (.ref d)] ++ z ∧ Same H7 H' ∧ Due H' d es, ?_, ?_⟩
      · refine ⟨_, rfl, pl, _, rfl, .inl (SqL.of (s7 _ _ hpl6)), _, _, rfl, rfl, _, rfl, ?_⟩
        cases hps0 : ps with
        | nil =>
          refine iF rfl ⟨d0, [_, _, _], rfl, rfl, Same.refl _, .inl ⟨all_good fun j z => ?_, q7⟩⟩
          have := (hB6.1 j).mp z
          rw [hps0] at this
          cases this
        | cons x xs =>
          rw [← hps0]
          refine iT (decide_eq_true (by rw [hps0, List.length_map, List.length_cons]; omega)) ?_
          have ens : ps.map nV = (ps.map fun j => ((j : Nat) : Int)).map V.int := by rw [List.map_map]; rfl
          refine ⟨_, rfl, pl, ps.map fun j => ((j : Nat) : Int), rfl, SqL.of (by rw [← ens]; exact s7 _ _ hpl6), by rw [hps0]; exact Nat.succ_pos _, fun m hm hle => ?_⟩
          obtain ⟨ib, hib, rfl⟩ := List.mem_map.mp hm
          refine ⟨sz (Nat.le_of_ble_eq_true rfl), fun d1 hd1 => ?_⟩
          exact ⟨d1, [_, _, _], rfl, rfl, same_upd hd1, .inr ⟨ib, ⟨(hB6.1 ib).mpr hib, fun j hj z => by
            have := hle _ (List.mem_map.mpr ⟨j, (hB6.1 j).mp z, rfl⟩)
            omega⟩, upd_same⟩⟩
      rintro σ H8 ⟨d, z, hz3, rfl, s8, hdue⟩
      match z, hz3 with
      | [y1, y2, y3], _ =>
      have W7 := W6.sm (s7.trans s8)
      have hS8 := W7.lsts
      have gP8 := W7.allS _ _ gP6
      have hE8 := hE6.same W7.allS
      have hp8 : mn [b, c] H8 p = some (.lst us) := by rw [mn_at (by simp [pb, pc])]; exact s8 _ _ (s7 _ _ hp6)
      have hd8 : Due (mn [b, c] H8) d es := hdue.imp (fun ⟨u, v⟩ => ⟨u, mn_nl hS8 v fun _ z => nomatch z⟩) fun ⟨i, u, v⟩ => ⟨i, u, mn_nl hS8 v fun _ z => nomatch z⟩
      have W8a := W7.all
      clear W7 hS8 W6 gP6 gp6 gpl6 hp6 hpl6 hE6 hB6 s7 s8 hdue q7 hd0 W4 W5 hR hE hBd gp gpl q5 s5 gP4 hp4
      generalize mn [b, c] H8 = G at gP8 hE8 hp8 hd8 W8a
      refine ⟨_, rfl, _, rfl, b, c, _, (n : Int), rfl, W8a, by omega, by omega, fun ax H9 W9 ax0 ax1 => ?_⟩
      refine ⟨_, rfl, _, rfl, b, c, _, (n : Int), rfl, W9, by omega, by omega, fun bx H10 W8 bx0 bx1 => ?_⟩
      have eax : V.int ax = V.int ((ax.toNat : Nat) : Int) := congrArg V.int (by omega)
      have ebx : V.int bx = V.int ((bx.toNat : Nat) : Int) := congrArg V.int (by omega)
      have tabs0 : ∀ q : Str, Tabs [(T.lc_law.P, q)] H10 := fun q x hx => by rw [List.mem_singleton.mp hx]; exact TabS.nil (W8.gh _ _ gP8)
      have hpN : nt G p = some (.lst us) := nt_at hp8 fun _ z => nomatch z
      have hEN := hE8.nt
      have hNT : ∀ y o, nt G y = some o → ∀ ps, o ≠ .tbl ps := fun y o e => (nt_sub e).2
      have hdN0 := hd8.nt
      generalize hGn : nt G = Gn at hpN hEN hNT hdN0
      clear W8a W9 hE8 hp8 hd8
      rcases hdN0 with ⟨⟨fs2, rfl⟩, hdN⟩ | ⟨ib, hfb, hdN⟩
      · have scs : ∀ z ∈ ([.str "nothing"] : List V), ∃ t, Sc z t := fun z hz => by cases List.mem_singleton.mp hz; exact ⟨_, .str _⟩
        refine ⟨tabs0 _, fun HL eN tb1 p0 hp0 Q' hQ' => ?_⟩
        have gL : Same Gn HL := (by rw [← hGn]; exact (nt_mono W8.gh).trans (nt_same eN))
        generalize elk : upd _ p0 _ = H0k
        obtain ⟨s0, q0⟩ := nw1 elk hp0
        clear elk
        have gk := gL.trans s0
        refine ⟨_, rfl, _, rfl, .inl ⟨n, p, fs2, rfl, (ens_facts (gk _ _ hpN) (hEN.same gk)).1, (ens_facts (gk _ _ hpN) (hEN.same gk)).2, hn1, hn2, fun H3 v s3 rv => hQ' _ _ ?_⟩⟩
        have hr3 := s3 _ _ q0
        have sk := s0.trans s3
        refine ⟨_, rfl, _, _, rfl, Eqd.tup 1 hr3 ((gL.trans sk) _ _ hdN) (Nat.le_of_ble_eq_true rfl) (fun z hz => ?_), _, rfl, iF rfl ?_⟩
        · exact scs z hz
        have gK1 := gL.trans sk
        have tb1' := tb1.ext sk
        clear eN tb1 hp0 hQ' s0 q0 gk hr3 sk gL
        refine ⟨tb1' , fun HL eN tb1 p0 hp0 Q' hQ' => ?_⟩
        have gL : Same Gn HL := fun y o e => eN _ _ (gK1 _ _ e) (hNT _ _ e)
        generalize elk : upd _ p0 _ = H0k
        obtain ⟨s0, q0⟩ := nw1 elk hp0
        clear elk
        have gk := gL.trans s0
        refine ⟨_, rfl, _, rfl, _, rfl, _, rfl, .inl ⟨n, ax.toNat, bx.toNat, p, fs2, by rw [eax, ebx]; rfl, (ens_facts (gk _ _ hpN) (hEN.same gk)).1, (ens_facts (gk _ _ hpN) (hEN.same gk)).2, hn1, hn2, by omega, by omega, fun H3 s3 => hQ' _ _ ?_⟩⟩
        have hr3 := s3 _ _ q0
        have sk := s0.trans s3
        refine ⟨_, rfl, _, _, rfl, Eqd.tup 1 hr3 ((gL.trans sk) _ _ hdN) (Nat.le_of_ble_eq_true rfl) (fun z hz => ?_), _, rfl, iF rfl ?_⟩
        · exact scs z hz
        have gK2 := gL.trans sk
        have tb2' := tb1.ext sk
        clear eN tb1 hp0 hQ' s0 q0 gk hr3 sk gL
        refine ⟨tb2' , fun HL eN tb1 p0 hp0 Q' hQ' => ?_⟩
        have gL : Same Gn HL := fun y o e => eN _ _ (gK2 _ _ e) (hNT _ _ e)
        generalize elk : upd _ p0 _ = H0k
        obtain ⟨s0, q0⟩ := nw1 elk hp0
        clear elk
        have gk := gL.trans s0
        refine ⟨_, rfl, _, rfl, .inl ⟨n, p, fs2, rfl, (ens_facts (gk _ _ hpN) (hEN.same gk)).1, (ens_facts (gk _ _ hpN) (hEN.same gk)).2, hn1, hn2, fun H3 v s3 rv => hQ' _ _ ?_⟩⟩
        have hr3 := s3 _ _ q0
        have sk := s0.trans s3
        exact ⟨_, rfl, _, _, rfl, Eqd.tup 1 hr3 ((gL.trans sk) _ _ hdN) (Nat.le_of_ble_eq_true rfl) scs, q _⟩
      · have scs : ∀ z ∈ ([.str "BadFact", .int (ib : Nat)] : List V), ∃ t, Sc z t := fun z hz => by
          simp only [List.mem_cons, List.not_mem_nil, or_false] at hz
          rcases hz with rfl | rfl
          · exact ⟨_, .str _⟩
          · exact ⟨_, .int _⟩
        refine ⟨tabs0 _, fun HL eN tb1 p0 hp0 Q' hQ' => ?_⟩
        have gL : Same Gn HL := (by rw [← hGn]; exact (nt_mono W8.gh).trans (nt_same eN))
        generalize elk : upd _ p0 _ = H0k
        obtain ⟨s0, q0⟩ := nw1 elk hp0
        clear elk
        have gk := gL.trans s0
        refine ⟨_, rfl, _, rfl, .inr ⟨n, p, [], us, es, ib, rfl, rfl, gk _ _ hpN, hEN.same gk, hfb, fun H2 d9 s2 hd9 => ⟨_, List.mem_singleton.mpr rfl, rfl, d9, _, _, rfl, upd_same, rfl, fun p9 hp9 => ?_⟩⟩⟩
        generalize elk : upd (upd H2 d9 _) p9 _ = H3
        have hr3 : H3 p9 = some (.tup [.str "BadFact", .int (ib : Nat)]) := by rw [← elk, upd_same]
        have s3 : Same H2 H3 := by rw [← elk]; exact (same_upd hd9).trans (same_upd hp9)
        clear elk
        have sk := (s0.trans s2).trans s3
        refine ⟨_, rfl, _, _, rfl, Eqd.tup 1 hr3 ((gL.trans sk) _ _ hdN) (Nat.le_of_ble_eq_true rfl) (fun z hz => ?_), _, rfl, iF rfl ?_⟩
        · exact scs z hz
        have gK1 := gL.trans sk
        have tb1' := tb1.ext sk
        clear eN tb1 hp0 hQ' s0 q0 gk hr3 sk gL
        refine ⟨tb1' , fun HL eN tb1 p0 hp0 Q' hQ' => ?_⟩
        have gL : Same Gn HL := fun y o e => eN _ _ (gK1 _ _ e) (hNT _ _ e)
        generalize elk : upd _ p0 _ = H0k
        obtain ⟨s0, q0⟩ := nw1 elk hp0
        clear elk
        have gk := gL.trans s0
        refine ⟨_, rfl, _, rfl, _, rfl, _, rfl, .inr ⟨n, p, [.int ax, .int bx], us, es, ib, rfl, rfl, gk _ _ hpN, hEN.same gk, hfb, fun H2 d9 s2 hd9 => ⟨_, List.mem_singleton.mpr rfl, rfl, d9, _, _, rfl, upd_same, rfl, fun p9 hp9 => ?_⟩⟩⟩
        generalize elk : upd (upd H2 d9 _) p9 _ = H3
        have hr3 : H3 p9 = some (.tup [.str "BadFact", .int (ib : Nat)]) := by rw [← elk, upd_same]
        have s3 : Same H2 H3 := by rw [← elk]; exact (same_upd hd9).trans (same_upd hp9)
        clear elk
        have sk := (s0.trans s2).trans s3
        refine ⟨_, rfl, _, _, rfl, Eqd.tup 1 hr3 ((gL.trans sk) _ _ hdN) (Nat.le_of_ble_eq_true rfl) (fun z hz => ?_), _, rfl, iF rfl ?_⟩
        · exact scs z hz
        have gK2 := gL.trans sk
        have tb2' := tb1.ext sk
        clear eN tb1 hp0 hQ' s0 q0 gk hr3 sk gL
        refine ⟨tb2' , fun HL eN tb1 p0 hp0 Q' hQ' => ?_⟩
        have gL : Same Gn HL := fun y o e => eN _ _ (gK2 _ _ e) (hNT _ _ e)
        generalize elk : upd _ p0 _ = H0k
        obtain ⟨s0, q0⟩ := nw1 elk hp0
        clear elk
        have gk := gL.trans s0
        refine ⟨_, rfl, _, rfl, .inr ⟨n, p, [], us, es, ib, rfl, rfl, gk _ _ hpN, hEN.same gk, hfb, fun H2 d9 s2 hd9 => ⟨_, List.mem_singleton.mpr rfl, rfl, d9, _, _, rfl, upd_same, rfl, fun p9 hp9 => ?_⟩⟩⟩
        generalize elk : upd (upd H2 d9 _) p9 _ = H3
        have hr3 : H3 p9 = some (.tup [.str "BadFact", .int (ib : Nat)]) := by rw [← elk, upd_same]
        have s3 : Same H2 H3 := by rw [← elk]; exact (same_upd hd9).trans (same_upd hp9)
        clear elk
        have sk := (s0.trans s2).trans s3
        exact ⟨_, rfl, _, _, rfl, Eqd.tup 1 hr3 ((gL.trans sk) _ _ hdN) (Nat.le_of_ble_eq_true rfl) scs, q _⟩
end
end Pl
open PySem PySem.W PySem.Calls PyProof.Rows in
set_option maxRecDepth 100000 in
set_option maxHeartbeats 0 in
theorem PySem.Challenge.cw_pastlooks_k39_wrong_facts_holds : PySem.Challenge.rw_pastlooks_k39_wrong_facts.Holds := by
  w_on; o_law
  refine HandSHeadRun.head_any (r := OpenLaw.row PySem.Challenge.rw_pastlooks_k39_wrong_facts) (q := view (OpenLaw.row PySem.Challenge.rw_pastlooks_k39_wrong_facts).prog [37]) (H := Pl.hk) (ob := Pl.ob) (M := 60000) (loose := Pl.loose) (d := HandSHeadRun.topDef (OpenLaw.row PySem.Challenge.rw_pastlooks_k39_wrong_facts).prog 37) (kwd := []) Pl.ob_eq
    (by kernel_rfl) (fun s => by kernel_rfl) Pl.run (by kernel_rfl) (by kernel_rfl) (by kernel_rfl) (by rfl) (by first | assumption | decide +kernel) (by decide +kernel) ⟨rfl, rfl, rfl, rfl, rfl, by decide +kernel⟩ ?hw ?hc
  case hw => w_witness2
  case hc =>
    refine LamX.walk_ofTsE (l := PySem.Challenge.rw_pastlooks_k39_wrong_facts) (n := 63) (k := 40) (x := "_law_script") (CX := fun _ => L2.CX0) rfl (by decide) (by kernel_rfl) ⟨rfl, by decide, by decide⟩ ?F (fun _ _ _ _ _ z => z)
    intro w mg fa h Y G hmg0
    obtain ⟨K, K2, KX, KX2, c⟩ := Y
    have hmg : mg ("law" : PySem.Str) = some (.ref fa) := by
      have e : (HandSHeadRun.topDef (OpenLaw.row PySem.Challenge.rw_pastlooks_k39_wrong_facts).prog 37).name = ("law" : PySem.Str) := by kernel_rfl
      rw [← e]
      exact hmg0
    obtain ⟨T, rfl, hb⟩ := Pl.facts KX G hmg c
    have ft_law := c.t (a := (("law", none) : Str × Option Str)) (by simp [Pl.tabs])
    rw [← T.lc_law.ec, ← T.lc_law.eP] at ft_law
    refine ⟨K, KX, T.law.fd, [(T.lc_law.c, T.lc_law.P)], Pl.spLaw K T.lc_law.P, ?_, ?_, ?_, hb, fun H a ns hl _ hT hS => ⟨a, ns, rfl, hT (T.lc_law.c, T.lc_law.P) (by simp), hS, hl, fun _ => rfl⟩, fun base _ _ TB => Pl.ok_law T (TB (T.lc_law.c, T.lc_law.P) (by simp))⟩
    · intro p hp
      simp only [List.mem_cons, List.not_mem_nil, or_false] at hp
      rcases hp with rfl
      · exact Pl.tbB_ok KX2 ft_law.2.2
    · intro p hp
      simp only [List.mem_cons, List.not_mem_nil, or_false] at hp
      rcases hp with rfl
      · exact ft_law.2.1
    · intro p hp
      simp only [List.mem_cons, List.not_mem_nil, or_false] at hp
      rcases hp with rfl
      · exact Pl.cdB_ok KX ft_law.1
