import PyProof.Rows.All
import HandS.Head0
import HandS.Head1
import HandS.Head2
import HandS.Head3
import KE.KNestM
import PySem.Challenge.RW_latechunks_k53_pieces_with_far_begins
import Wide.All
import OpenK.AllK
import Wide.FinOn
import HandS.ForMost
import HandS.Wide
import HandS.IsInst
import HandS.Defaults
import HandS.Evl
import HandS.EndTab
import HandS.Lambda
import HandS.Style
import HandS.Steps
import HandS.Text
import PyProof.ReprRoads
import PyProof.ListStr
import PyProof.StrOps2
import HandS.Walk
import HandS.ExcInit
import HandS.Nested
import HandS.ExcValue
import KE.KExcSuper
import HandS.ExcIs
import HandS.ExcField
import KE.KOpsOwn
import PyProof.Rows.Range3
import PyProof.Conv_bool
import HandS.HotCalls
import PyProof.EqAt
import HandS.ClsMeth
import HandS.MakeKwOnly
import HandS.FStr
import KE.KCallOwn
import PyProof.Rows.StrOr
import PyProof.TypeEq
import HandS.DeepEq
import KE.KEqDict
import HandS.Star
import HandS.Zip
import HandS.Flow
import HandS.TupMul
import OpenK.KOps
import HandS.TupAny
import HandS.SortInts
import HandS.IterVal
import OpenK.KMeth
import KE.KOwnIter
import PyProof.SliceList
import PyProof.IsiBase
import HandS.OwnEq
import HandS.Gcd
import HandS.DictComp
import HandS.Deep
import KE.KFmtOwn
import PyProof.CallStr
import KE.GoesMore
import KE.GoesEnum
import HandS.Iter
import HandS.MakeKw
import HandS.Small
import HandS.OwnIter
import HandS.ListItems
import HandS.Flt
import HandS.Strs
import HandS.SetFor
import KE.KItemsList
import KE.KPairComp
import PyProof.Walk
import PyProof.WalkLemmas
import HandS.Conv
import HandS.Records
set_option Elab.async false
set_option linter.all false
set_option maxRecDepth 100000
set_option maxHeartbeats 4000000
section
namespace L3
open PySem PySem.W
def looseN : List PySem.Str := (["_wall", "LateError", "BadSize", "BadRest", "BadRule", "BadText", "TooMany", "MOST_SIZE", "is_integer", "is_within", "is_size", "MOST_FIGURES", "number_of", "is_figures", "MOST_PARTS", "MOST_RESIDUES", "MOST_DIVISOR", "MOST_ADDED", "Rule", "need_rest", "cut_to", "Fixed", "Divided", "Lesser", "Greater", "By", "is_joinable", "need_joined", "need_sides", "word_at"] : List PySem.Str) ++ (["need_numbers", "bounds_of", "rule_end", "rule_told", "need_rule", "first_quotient", "line_of", "lines_of", "turns_of", "size_at", "piece_from", "is_on", "end_of", "pieces_at", "pieces", "_law_pen", "_law_draw", "_law_pick", "_law_drawn_part", "_law_drawn_rule", "_law_rule", "_law_wish", "_law_modulus", "_law_size", "_law_far", "_law_row_right", "_law_right"] : List PySem.Str)
end L3
open PySem PySem.W PyProof.Rows
open PySem.Calls HandSHeadRun
theorem K53H.runA (w : World) : (wholeF (fun p => stepQ (denQ tabQ) p w) fenceQ 30000 (OpenLaw.row PySem.Challenge.rw_latechunks_k53_pieces_with_far_begins).prog).map (fun x => looksF (OpenLaw.row PySem.Challenge.rw_latechunks_k53_pieces_with_far_begins).prog x.1.heap x.2.abs) = some true := by
  kernel_rfl
theorem K53H.runB (w : World) : (wholeF (fun p => stepQ (denQ tabQ) p w) fenceQ 30000 (OpenLaw.row PySem.Challenge.rw_latechunks_k53_pieces_with_far_begins).prog).map (fun x => seenQ (view (OpenLaw.row PySem.Challenge.rw_latechunks_k53_pieces_with_far_begins).prog [0, 64]) L3.looseN (importedModules (OpenLaw.row PySem.Challenge.rw_latechunks_k53_pieces_with_far_begins).prog.main.body) (fun s => xlAt (view (OpenLaw.row PySem.Challenge.rw_latechunks_k53_pieces_with_far_begins).prog [0, 64]) [] s && recOk (OpenRow.toRowW (OpenLaw.row PySem.Challenge.rw_latechunks_k53_pieces_with_far_begins)).records s) x.2.abs) = some (openGood (view (OpenLaw.row PySem.Challenge.rw_latechunks_k53_pieces_with_far_begins).prog [0, 64]) L3.looseN) := by
  kernel_rfl
end
section
namespace L3
open PySem PySem.Spec PyProof.Rows L2
def PenO (a c : Addr) (n : Nat) : HO := .ext fun h => ∃ (spot rest : Int) (t u : Tok) (k : Nat),
  h.get? a = some { cls := .type "list", data := .seq #[.ref c, .int spot t, .int rest u] k } ∧ 0 ≤ spot ∧ spot ≤ n
theorem PenO_ok {P : Program} {w : World} {H : Hp} {h : Heap} {a c : Addr} {n : Nat} {spot rest : Int} {t u : Tok} {k : Nat}
    (e : h.get? a = some { cls := .type "list", data := .seq #[.ref c, .int spot t, .int rest u] k }) (h0 : 0 ≤ spot) (h1 : spot ≤ n) :
    ObjOk P w H h a (PenO a c n) :=
  ⟨⟨spot, rest, t, u, k, e, h0, h1⟩, ⟨_, e⟩, fun _ _ ⟨s, r, t, u, k, q, z⟩ f => ⟨s, r, t, u, k, f _ q, z⟩⟩
section
variable {X : Cx} {pins : List (Addr × Obj)} {σ : L2.St} {H : Hp} {s : Shared}
theorem Inv.penOpen {a c : Addr} {n : Nat} (I : Inv X pins σ H s) (h : H a = some (PenO a c n)) :
    ∃ spot rest : Int, 0 ≤ spot ∧ spot ≤ n ∧ Inv X pins σ (upd H a (.lst [.ref c, .int spot, .int rest])) s := by
  obtain ⟨⟨spot, rest, t, u, k, e, h0, h1⟩, _, _⟩ := (show ObjOk X.prog X.w H s.heap a (PenO a c n) from I.hok a _ h)
  refine ⟨spot, rest, h0, h1, ?_⟩
  have mu : Mut (H a) := by rw [h]; exact True.intro
  have := I.write (t' := s.toks) (h' := s.heap) (x := a) (e := a) (o := .lst [.ref c, .int spot, .int rest]) mu (.inl rfl) (fun _ _ _ q => q) ⟨_, e⟩
    ⟨(by rw [sizeLine_eq]; show 3 ≤ 16777216; decide), [.ref c, .int spot t, .int rest u], k, .cons rfl (.cons ⟨t, rfl⟩ (.cons ⟨u, rfl⟩ .nil)), e⟩
  exact this
theorem vals3 {x y z : V} {us : List Value} (r : Vals [x, y, z] us) : ∃ u v w, us = [u, v, w] ∧ RelV x u ∧ RelV y v ∧ RelV z w := by
  cases r with
  | cons r1 r =>
    cases r with
    | cons r2 r =>
      cases r with
      | cons r3 r =>
        cases r
        exact ⟨_, _, _, rfl, r1, r2, r3⟩
theorem Inv.penClose {a c : Addr} {n : Nat} {spot rest : Int} (I : Inv X pins σ H s) (h : H a = some (.lst [.ref c, .int spot, .int rest])) (h0 : 0 ≤ spot) (h1 : spot ≤ n) :
    Inv X pins σ (upd H a (PenO a c n)) s := by
  obtain ⟨_, its, k, r, e⟩ := (show ObjOk X.prog X.w H s.heap a (.lst _) from I.hok a _ h)
  obtain ⟨u, v, w, rfl, r1, ⟨t, r2⟩, ⟨t', r3⟩⟩ := vals3 r
  cases (show u = .ref c from r1)
  subst r2 r3
  have mu : Mut (H a) := by rw [h]; exact True.intro
  exact I.write (t' := s.toks) (h' := s.heap) (x := a) (e := a) (o := PenO a c n) mu (.inl rfl) (fun _ _ _ q => q) ⟨_, e⟩ (PenO_ok e h0 h1)
end
/-- inside: the list is known, behind: it is hidden again -/
def penBack (a c : Addr) (n : Nat) (P : Hp → Prop) (H : Hp) : Prop := ∃ spot rest : Int, H a = some (.lst [.ref c, .int spot, .int rest]) ∧ 0 ≤ spot ∧ spot ≤ n ∧ P (upd H a (PenO a c n))
def tPen (a c : Addr) (n m : Nat) (t : TS) : TS := fun D σ H => H a = some (PenO a c n) ∧ ∀ spot rest : Int, 0 ≤ spot → spot ≤ n →
  t { nx := fun σ' => penBack a c m (D.nx σ'), rt := fun v => penBack a c m (D.rt v), bk := fun σ' => penBack a c m (D.bk σ'), ct := fun σ' => penBack a c m (D.ct σ') } σ (upd H a (.lst [.ref c, .int spot, .int rest]))
theorem pss_pen {X : Cx} {sts : List Stmt} {t : TS} (a c : Addr) (n m : Nat) (h : PSs X sts t) : PSs X sts (tPen a c n m t) := by
  refine ⟨fun pins s σ H D I hw => ?_⟩
  obtain ⟨ha, hw⟩ := hw
  obtain ⟨spot, rest, h0, h1, I1⟩ := Inv.penOpen I ha
  refine thn (h.run pins s σ _ _ I1 (hw spot rest h0 h1)) fun f s' q => ?_
  cases f with
  | next =>
    obtain ⟨σ', H', I', sp, re, e, g0, g1, z⟩ := q
    exact ⟨σ', _, Inv.penClose I' e g0 g1, z⟩
  | brk =>
    obtain ⟨σ', H', I', sp, re, e, g0, g1, z⟩ := q
    exact ⟨σ', _, Inv.penClose I' e g0 g1, z⟩
  | cont =>
    obtain ⟨σ', H', I', sp, re, e, g0, g1, z⟩ := q
    exact ⟨σ', _, Inv.penClose I' e g0 g1, z⟩
  | ret u =>
    obtain ⟨v, σ', H', I', r, sp, re, e, g0, g1, z⟩ := q
    exact ⟨v, σ', _, Inv.penClose I' e g0 g1, r, z⟩
end L3
namespace L3
open PySem PySem.Spec PyProof.Rows L2
section
variable {σ : L2.St} {H : Hp} {D : Ends} {t u : TS} {te ta tb : TE} {Q : VK} {v x y : V} {K : PySem.W.Frag}
theorem iteB {b : Bool} {A B : Prop} (h1 : b = true → A) (h2 : b = false → B) : if b = true then A else B := by
  cases b with
  | true => exact iteT (h1 rfl)
  | false => exact iteF (h2 rfl)
theorem iteD {c : Prop} {_ : Decidable c} {A B : Prop} (h1 : c → A) (h2 : ¬ c → B) : if decide c = true then A else B := iteB (fun h => h1 (of_decide_eq_true h)) (fun h => h2 (of_decide_eq_false h))
theorem iteND {c : Prop} {_ : Decidable c} {A B : Prop} (h1 : ¬ c → A) (h2 : c → B) : if (!decide c) = true then A else B := iteB (fun h => h1 (by simpa using h)) (fun h => h2 (by simpa using h))
theorem s_seq (h : t { D with nx := u D } σ H) : tSeq t u D σ H := h
theorem s_next (h : D.nx σ H) : tNext D σ H := h
theorem s_asg {i : Nat} (h : te σ H fun x H1 => D.nx (σ.set i (some x)) H1) : tAsg te (gName i) D σ H := h
theorem s_asgS {to ti : TE} {t : TSet} (h : te σ H fun v H1 => to σ H1 fun o H2 => ti σ H2 fun i H3 => t o i v H3 fun H4 => D.nx σ H4) : tAsg te (gSub to ti t) D σ H := h
theorem s_drop (h : te σ H fun _ H1 => D.nx σ H1) : tDrop te D σ H := h
theorem s_ret (h : te σ H D.rt) : tRet te D σ H := h
theorem s_retN (h : D.rt .non H) : tRetN D σ H := h
theorem s_if {c : TT} (h : c σ H fun b H1 => if b = true then t D σ H1 else u D σ H1) : tIfS c t u D σ H := h
theorem s_var {i : Nat} (e : σ[i]? = some (some v)) (h : Q v H) : tVar i σ H Q := ⟨v, e, h⟩
theorem s_c (h : Q v H) : tC v σ H Q := h
theorem s_op {r : R2} (h : ta σ H fun x H1 => tb σ H1 fun y H2 => r x y H2 Q) : tOp r ta tb σ H Q := h
theorem s_un {r : V → Hp → VK → Prop} (h : ta σ H fun x H1 => r x H1 Q) : tUn r ta σ H Q := h
theorem s_cb {r : List V → Hp → VK → Prop} {tt : TA} (h : tt σ H fun vs H1 => r vs H1 Q) : tCB r tt σ H Q := h
theorem s_nil {Q : List V → Hp → Prop} (h : Q [] H) : tNil σ H Q := h
theorem s_cons {Q : List V → Hp → Prop} {tr : TA} (h : ta σ H fun x H1 => tr σ H1 fun xs H2 => Q (x :: xs) H2) : tCons ta tr σ H Q := h
theorem s_test {Q : Bool → Hp → Prop} (h : te σ H fun x H' => ∃ k, x = .bl k ∧ Q k H') : tTest te σ H Q := h
theorem s_tB {Q : Bool → Hp → Prop} (h : te σ H fun x H' => ∃ k, x = .bl k ∧ Q k H') : tB te σ H Q := h
theorem s_bl {R : Bool → Prop} {b : Bool} (h : R b) : ∃ k, V.bl b = .bl k ∧ R k := ⟨b, rfl, h⟩
theorem s_and {c d : TT} {Q : Bool → Hp → Prop} (h : c σ H fun b H1 => if b = true then d σ H1 Q else Q false H1) : tAnd c d σ H Q := h
theorem s_or {c d : TT} {Q : Bool → Hp → Prop} (h : c σ H fun b H1 => if b = true then Q true H1 else d σ H1 Q) : tOr c d σ H Q := h
theorem s_not {c : TT} {Q : Bool → Hp → Prop} (h : c σ H fun b H1 => Q (!b) H1) : tNot c σ H Q := h
theorem s_andV (h : ta σ H fun x H1 => ∃ c, x = .bl c ∧ if c = true then tb σ H1 Q else Q (.bl false) H1) : tAndV ta tb σ H Q := h
theorem s_orV (h : ta σ H fun x H1 => ∃ c, x = .bl c ∧ if c = true then Q (.bl true) H1 else tb σ H1 Q) : tOrV ta tb σ H Q := h
theorem s_notV (h : ta σ H fun x H1 => ∃ c, x = .bl c ∧ Q (.bl (!c)) H1) : tNotV ta σ H Q := h
theorem s_ifE {c : TT} (h : c σ H fun b H1 => if b = true then ta σ H1 Q else tb σ H1 Q) : tIf c ta tb σ H Q := h
theorem s_call {sp : Sp} {dvs : List V} {E : XK} {tt : TA} (h : tt σ H fun vs H1 => sp (vs ++ dvs) H1 Q E) : tCall sp dvs E tt σ H Q := h
theorem s_I0 {g : Int → Int → V} {i j : Int} (h : Q (g i j) H) : rI0 g (.int i) (.int j) H Q := ⟨i, j, rfl, rfl, h⟩
theorem s_I {C : Int → Int → Prop} {g : Int → Int → V} {i j : Int} (c : C i j) (h : Q (g i j) H) : rI C g (.int i) (.int j) H Q := ⟨i, j, rfl, rfl, c, h⟩
theorem s_U {g : Int → V} {i : Int} (h : Q (g i) H) : rU g (.int i) H Q := ⟨i, rfl, h⟩
theorem s_setL {p : Addr} {xs : List V} {i : Int} {j : Nat} {R : Hp → Prop} (hp : H p = some (.lst xs)) (e : ixN xs.length i = some j) (h : R (upd H p (.lst (xs.set j v)))) : rSetL (.ref p) (.int i) v H R := ⟨p, xs, i, j, rfl, rfl, hp, e, h⟩
theorem s_int {R : Int → Prop} {R' : Bool → Prop} {i : Int} (h : R i) : (∃ j, [V.int i] = [V.int j] ∧ R j) ∨ ∃ k, [V.int i] = [V.bl k] ∧ R' k := .inl ⟨i, rfl, h⟩
theorem s_intB {R : Int → Prop} {R' : Bool → Prop} {b : Bool} (h : R' b) : (∃ j, [V.bl b] = [V.int j] ∧ R j) ∨ ∃ k, [V.bl b] = [V.bl k] ∧ R' k := .inr ⟨b, rfl, h⟩
theorem s_abs {R : Int → Prop} {i : Int} (h : R i) : ∃ j, [V.int i] = [V.int j] ∧ R j := ⟨i, rfl, h⟩
theorem s_lenL {R : Nat → Prop} {p : Addr} {xs : List V} (hp : H p = some (.lst xs)) (h : R xs.length) : ∃ x n, [V.ref p] = [x] ∧ LenV K x H n ∧ R n := ⟨_, _, rfl, .inl ⟨xs, .inl (.inl hp), rfl⟩, h⟩
/-- all that is tracked stays -/
theorem ex_new {p : Addr} {o : HO} (h : H p = none) : ∀ b u, H b = some u → upd H p o b = some u := fun b u e => by
  rw [upd_ne (ne_of_none e h)]; exact e
def Ex (H H' : Hp) : Prop := ∀ b o, H b = some o → H' b = some o
theorem Ex.refl (H : Hp) : Ex H H := fun _ _ h => h
theorem Ex.trans {H H1 H2 : Hp} (a : Ex H H1) (b : Ex H1 H2) : Ex H H2 := fun x o h => b x o (a x o h)
theorem Ex.free {H H' : Hp} (e : Ex H H') {p : Addr} (h : H' p = none) : H p = none := by
  cases q : H p with
  | none => rfl
  | some o => rw [e _ _ q] at h; cases h
/-- what is wanted of a new thing (kept from being reduced) -/
def ap (Q : VK) (v : V) (H : Hp) : Prop := Q v H
theorem s_lst {tt : TA} (h : tt σ H fun xs H1 => xs.length ≤ sizeLine ∧ ∀ p, H1 p = none → ap Q (.ref p) (upd H1 p (.lst xs))) : tLst tt σ H Q := h
theorem s_tup {tt : TA} (h : tt σ H fun xs H1 => xs.length ≤ sizeLine ∧ ∀ p, H1 p = none → ap Q (.ref p) (upd H1 p (.tup xs))) : tTup tt σ H Q := h
theorem s_new {o : HO} {n : Nat} (hz : n ≤ sizeLine) (h : ∀ p H2, H p = none → Ex H H2 → H2 p = some o → Q (.ref p) H2) : n ≤ sizeLine ∧ ∀ p, H p = none → ap Q (.ref p) (upd H p o) :=
  ⟨hz, fun p hp => h p _ hp (ex_new hp) upd_same⟩
theorem s_cut {M : L2.St → Hp → Prop} (h : t { D with nx := M } σ H) (k : ∀ σ' H', M σ' H' → u D σ' H') : Evl.tCut t u D σ H := ⟨M, h, k⟩
theorem dpInts {H : Hp} : ∀ ns : List Int, DpAll K H (ns.map V.int) (ns.map PyData.int)
  | [] => .nil
  | _ :: r => .cons (.int _) (dpInts r)
theorem s_neD {d e : PyData} (hd : Dp K H x d) (he : Dp K H y e) (sd : SeqAt.shaped d = true) (se : SeqAt.shaped e = true) (h : Q (.bl (!PyData.eqv d e)) H) : rNeD K x y H Q := ⟨d, e, hd, he, sd, se, h⟩
theorem s_eqD {d e : PyData} (hd : Dp K H x d) (he : Dp K H y e) (sd : SeqAt.shaped d = true) (se : SeqAt.shaped e = true) (h : Q (.bl (PyData.eqv d e)) H) : rEqD K x y H Q := ⟨d, e, hd, he, sd, se, h⟩
end
end L3
namespace L3
open PySem PySem.Spec PyProof.Rows L2
def lim : Nat := 1000000
/-- the pen's cells: a list of numbers, hidden too -/
def ScO (c : Addr) (ns : List Int) : HO := .ext fun h => ∃ (its : List Value) (k : Nat), (ns.map V.int).length ≤ sizeLine ∧ Vals (ns.map V.int) its ∧ h.get? c = some { cls := .type "list", data := .seq its.toArray k }
section
variable {X : Cx} {pins : List (Addr × Obj)} {σ : L2.St} {H : Hp} {s : Shared}
theorem Inv.scOpen {c : Addr} {ns : List Int} (I : Inv X pins σ H s) (h : H c = some (ScO c ns)) : Inv X pins σ (upd H c (.lst (ns.map V.int))) s := by
  obtain ⟨⟨its, k, hz, r, e⟩, _, _⟩ := (show ObjOk X.prog X.w H s.heap c (ScO c ns) from I.hok c _ h)
  have mu : Mut (H c) := by rw [h]; exact True.intro
  exact I.write (t' := s.toks) (h' := s.heap) (x := c) (e := c) (o := .lst (ns.map V.int)) mu (.inl rfl) (fun _ _ _ q => q) ⟨_, e⟩ ⟨hz, its, k, r, e⟩
theorem Inv.scClose {c : Addr} {ns : List Int} (I : Inv X pins σ H s) (h : H c = some (.lst (ns.map V.int))) : Inv X pins σ (upd H c (ScO c ns)) s := by
  obtain ⟨hz, its, k, r, e⟩ := (show ObjOk X.prog X.w H s.heap c (.lst _) from I.hok c _ h)
  have mu : Mut (H c) := by rw [h]; exact True.intro
  exact I.write (t' := s.toks) (h' := s.heap) (x := c) (e := c) (o := ScO c ns) mu (.inl rfl) (fun _ _ _ q => q) ⟨_, e⟩
    ⟨⟨its, k, hz, r, e⟩, ⟨_, e⟩, fun _ _ ⟨i, k, z, r, q⟩ f => ⟨i, k, z, r, f _ q⟩⟩
end
def scBack (c : Addr) (ns : List Int) (P : Hp → Prop) (H : Hp) : Prop := H c = some (.lst (ns.map V.int)) ∧ P (upd H c (ScO c ns))
def tSc (c : Addr) (ns : List Int) (t : TS) : TS := fun D σ H => H c = some (ScO c ns) ∧
  t { nx := fun σ' => scBack c ns (D.nx σ'), rt := fun v => scBack c ns (D.rt v), bk := fun σ' => scBack c ns (D.bk σ'), ct := fun σ' => scBack c ns (D.ct σ') } σ (upd H c (.lst (ns.map V.int)))
theorem pss_sc {X : Cx} {sts : List Stmt} {t : TS} (c : Addr) (ns : List Int) (h : PSs X sts t) : PSs X sts (tSc c ns t) := by
  refine ⟨fun pins s σ H D I hw => ?_⟩
  obtain ⟨ha, hw⟩ := hw
  refine thn (h.run pins s σ _ _ (Inv.scOpen I ha) hw) fun f s' q => ?_
  cases f with
  | next =>
    obtain ⟨σ', H', I', e, z⟩ := q
    exact ⟨σ', _, Inv.scClose I' e, z⟩
  | brk =>
    obtain ⟨σ', H', I', e, z⟩ := q
    exact ⟨σ', _, Inv.scClose I' e, z⟩
  | cont =>
    obtain ⟨σ', H', I', e, z⟩ := q
    exact ⟨σ', _, Inv.scClose I' e, z⟩
  | ret u =>
    obtain ⟨v, σ', H', I', r, e, z⟩ := q
    exact ⟨v, σ', _, Inv.scClose I' e, r, z⟩
def Pen (H : Hp) (a : Addr) (n : Nat) : Prop := ∃ c ns, H a = some (PenO a c n) ∧ H c = some (ScO c ns) ∧ ns.length ≤ 63 ∧ c ≠ a
def NoTbl : HO → Prop
  | .tbl _ => False
  | _ => True
/-- all but the pen at a and the tables of code objects stays -/
def Xt (a : Addr) (H H' : Hp) : Prop := ∀ b o, b ≠ a → NoTbl o → H b = some o → H' b = some o
abbrev rInt1 : List V → Hp → VK → Prop := fun xs H Q => (∃ i, xs = [V.int i] ∧ Q (V.int i) H) ∨ ∃ k, xs = [V.bl k] ∧ Q (V.int (if k then 1 else 0)) H
abbrev rLen1 (K : PySem.W.Frag) : List V → Hp → VK → Prop := fun xs H Q => ∃ x n, xs = [x] ∧ LenV K x H n ∧ Q (V.int ((n : Nat) : Int)) H
abbrev rAbs1 : List V → Hp → VK → Prop := fun xs H Q => ∃ i, xs = [V.int i] ∧ Q (V.int (if i < 0 then -i else i)) H
/-- == and != of flat things, or of data -/
def rEqU (K : PySem.W.Frag) : R2 := fun x y H Q => rEq x y H Q ∨ rEqD K x y H Q
def rNeU (K : PySem.W.Frag) : R2 := fun x y H Q => rNe x y H Q ∨ rNeD K x y H Q
theorem dec_eqI (i j : Int) : decide (V.int i = V.int j) = decide (i = j) := by
  by_cases h : i = j
  · subst h; simp
  · rw [decide_eq_false h, decide_eq_false (fun z => h (V.int.inj z))]
theorem dec_eqS (i j : Str) : decide (V.str i = V.str j) = decide (i = j) := by
  by_cases h : i = j
  · subst h; simp
  · rw [decide_eq_false h, decide_eq_false (fun z => h (V.str.inj z))]
section
variable {K : PySem.W.Frag} {H : Hp} {Q : VK} {x y : V}
theorem s_eqI {i j : Int} (h : Q (.bl (decide (i = j))) H) : rEqU K (.int i) (.int j) H Q := .inl ⟨rfl, by rw [dec_eqI]; exact h⟩
theorem s_neI {i j : Int} (h : Q (.bl (!decide (i = j))) H) : rNeU K (.int i) (.int j) H Q := .inl ⟨rfl, by rw [dec_eqI]; exact h⟩
theorem s_eqS {i j : Str} (h : Q (.bl (decide (i = j))) H) : rEqU K (.str i) (.str j) H Q := .inl ⟨rfl, by rw [dec_eqS]; exact h⟩
theorem s_neS {i j : Str} (h : Q (.bl (!decide (i = j))) H) : rNeU K (.str i) (.str j) H Q := .inl ⟨rfl, by rw [dec_eqS]; exact h⟩
theorem s_neD' {d e : PyData} (hd : Dp K H x d) (he : Dp K H y e) (sd : SeqAt.shaped d = true) (se : SeqAt.shaped e = true) (h : Q (.bl (!PyData.eqv d e)) H) : rNeU K x y H Q := .inr ⟨d, e, hd, he, sd, se, h⟩
end
end L3
end
section
namespace L3
open PySem PySem.Spec PyProof.Rows L2
structure FnG (P : Program) (w : World) (K : PySem.W.Frag) (mg : Str → Option Value) (base : Heap) (CX : CXT) (k : Nat) (f : Addr) (fd : FuncData) (ps : List Str) (sp : Sp) : Prop where
  len : ∀ vs H Q E, sp vs H Q E → vs.length = ps.length
  run : ∀ (A : Around) (fr : List Env) (s : Shared) (H : Hp) (as : Args) (us : List Value) (vs : List V) (Q : VK) (E : XK), Room k A → A.guards = some [] → Env0 P w K mg base A fr s H →
    BindsTo s fd as (ps.zip us) → Vals vs us → sp vs H Q E → codeAny (model P w) A (.call (.ref f) as) (CR CX fr P w H s Q E) s
theorem FnG.of {P : Program} {w : World} {K : PySem.W.Frag} {mg : Str → Option Value} {base : Heap} {CX : CXT} {k : Nat} {f : Addr} {fd : FuncData} {ps : List Str} {sp : Sp} (F : FnOk P w K mg base CX k f fd ps sp) : FnG P w K mg base CX k f fd ps sp :=
  ⟨F.len, fun A fr s H as us vs Q E r _ => F.run A fr s H as us vs Q E r⟩
/-- THE RULE for such a def -/
theorem funG {P : Program} {w : World} {K : PySem.W.Frag} {mg : Str → Option Value} {base : Heap} {CX : CXT} {x qual : Str} {st : Stmt} {f : Addr} {fd : FuncData} {N ps : List Str} {k : Nat} {sp : Sp}
    (F : Fun K x qual st f fd) (S : FnScope N ps (defScope st)) (len : ∀ vs H Q E, sp vs H Q E → vs.length = ps.length)
    (body : ∀ (cd : Value) (A : Around) (fr : List Env) (s : Shared) (H : Hp) (vs : List V) (Q : VK) (E : XK), Room k (A.deeper (envOfC qual (defScope st) s.heap.objs.size f cd)) → A.guards = some [] → sp vs H Q E →
      ∃ t, PSs (cxOf CX P w K mg base N qual (defScope st) f cd A fr s H E) (defBody st) t ∧ t { nx := fun _ H' => Q .non H', rt := Q } (L2.start N vs) H) :
    FnG P w K mg base CX (k + 1) f fd ps sp := by
  obtain ⟨oc, od, kV, doc, pm, an, cd, ct, sl, rfl, lk, hcd⟩ := F.ex
  exact ⟨len, fun A fr s H as us vs Q E hr hg e0 hb r h => LamX.run_ofS lk hcd S hr e0 hb r (len _ _ _ _ h) fun hr' => body cd A fr s H vs Q E hr' hg h⟩
section
variable {X : Cx} {CX : CXT} {k : Nat} {f : Addr} {fd : FuncData} {ps : List Str} {sp : Sp} {E : XK} {x : Str} {p pos : Pos} {e : Expr} {es : List Expr} {t : TA}
theorem runG {pins : List (Addr × Obj)} {σ : L2.St} {H : Hp} {s : Shared} {Q : VK} {us : List Value} {vs : List V} (F : FnG X.prog X.w X.K X.mg X.base CX k f fd ps sp) (hr : Room k X.A) (hg : X.A.guards = some [])
    (hb : Binds X.K fd ps []) (hx : Passes CX X E) (I : Inv X pins σ H s) (r : Vals vs us) (h : sp vs H Q E) : wpAny (model X.prog X.w) X.A (call (.ref f) us) (EP X pins σ Q) X.xe s := by
  have hl : (us ++ []).length = ps.length := by rw [List.append_nil, ← r.length]; exact F.len _ _ _ _ h
  have b := hb s us I.kIn hl
  rw [List.append_nil] at b
  refine wpAny_call (codeAny_mono (F.run X.A X.stack s H ⟨us, []⟩ us vs Q E hr hg I.env0 b r h) fun q s' z => ?_)
  match q, z with
  | .error e, z => exact hx pins σ H s e s' I z
  | .ok (.ret u), z => exact I.after z
/-- a def of the module, called by its name, as one bundle -/
structure Fn (P : Program) (w : World) (K : PySem.W.Frag) (mg : Str → Option Value) (base : Heap) (CX : CXT) (k : Nat) (x : Str) (ps : List Str) (sp : Sp) : Prop where
  ex : ∃ (f : Addr) (fd : FuncData), FnG P w K mg base CX k f fd ps sp ∧ mg x = some (.ref f) ∧ PySem.W.keepIn K (.ref f) = true ∧ Binds K fd ps [] ∧
    ∀ (s : Shared) (ws : List Value), K.In s.heap → ws.length = ps.length → BindsTo s fd ⟨[], ps.zip ws⟩ (ps.zip ws)
theorem pe_f {j : Nat} (c : Fn X.prog X.w X.K X.mg X.base CX k x ps sp) (hr : Room j X.A) (hg : X.A.guards = some []) (hx : Passes CX X E) (ha : PA X (e :: es) t) (hk : k ≤ j := by decide) (gl : Gl X x := by rfl)
    (hdb : (x == ("__debug__" : Str)) = false := by decide) (he : starEach (e :: es) X.env = (false, eval e X.env) :: starEach es X.env := by rfl) (hpl : (backTo pos (starEach es X.env)).any (·.1) = false := by rfl) :
    PE X (.Call (.Name x p) (e :: es) [] pos) (tCall sp [] E t) := by
  obtain ⟨f, fd, F, m, kp, b, _⟩ := c.ex
  constructor
  intro pins s σ H Q I h
  refine wpAny_Call_Name_kw (ld_glob I gl m ?_ hdb)
  refine PySem.W.callWith_K (h₀ := X.base) I.ok.mod.kin kp (thn (ha.run pos pins s σ H _ I h) fun us s1 q => ?_) he hpl
  obtain ⟨vs, H1, I1, r, q⟩ := q
  rw [List.append_nil] at q
  exact ⟨I1.kIn, runG F (hr.mono hk) hg b hx I1 r q⟩
end
end L3
namespace L3
open PySem PySem.Spec PyProof.Rows L2 LamX
/-- what is tracked at the law's entry: the script, locked, where it is no object of the module's own; the tables -/
def H0 (K : PySem.W.Frag) (a : Addr) (o : Obj) (xs : List V) (ts : List Addr) : Hp := fun b =>
  if b ∈ ts then some (.tbl #[]) else if b = a ∧ (K.lookup a).isNone = true then some (.frz o (.lst xs)) else none
theorem lawG {P : Program} {w : World} {K : PySem.W.Frag} {mg mb : Str → Option Value} {CX : CXT} {k : Nat} {fa a : Addr} {cs : List (Addr × Addr)} {fd : FuncData} {x : Str} {sp : Sp} {s : Shared} {vs : List Value} {ns : List Int}
    (kin : K.In s.heap) (glo : s.heap.Ns mainGlobals mg) (blt : s.heap.Ns builtinsNs mb) (bls : ∀ y : Str, y ≠ "__name__" → mb y = bootBuiltins y) (lims : s.heap.NoLimit) (gen : s.gens = #[])
    (tabs : ∀ p ∈ cs, s.heap.get? p.2 = some { cls := .none, data := .fields #[] }) (tabK : ∀ p ∈ cs, K.lookup p.2 = none) (codes : ∀ p ∈ cs, PySem.W.CodeHd s.heap p.1 p.2)
    (bmod : ∃ (bm : Addr) (ob : Obj), mg "__builtins__" = some (.ref bm) ∧ bm ≠ builtinsNs ∧ s.heap.get? bm = some ob ∧ ob.cls = .type "module" ∧ ob.dict = some builtinsNs ∧ ob.data = .plain)
    (scr : s.heap.get? a = some { cls := .type "list", data := .seq vs.toArray }) (hInts : IntsAre vs ns) (few : ns.length ≤ sizeLine) (room : Room k callerA)
    (F : ∀ base : Heap, K.In base → base.Ns mainGlobals mg → (∀ p ∈ cs, TabB base mg p.1 p.2) → FnG P w K mg base CX k fa fd [x] sp)
    (bind : ∀ (s : Shared) (u : Value), BindsTo s fd ⟨[u], []⟩ [(x, u)])
    (says : ∀ H : Hp, (∀ p ∈ cs, H p.2 = some (.tbl #[])) → SqL K H a (ns.map V.int) → sp [.ref a] H (fun v _ => v = .bl true) fun _ _ _ => False)
    (none' : ∀ H e s', CX [] H s (fun _ _ _ => False) e s' → False) :
    codeAny (model P w) callerA (.call (.ref fa) ⟨[.ref a], []⟩) (fun r s' => r = .ok (.ret (.bool true)) ∧ OldK s.heap s'.heap ∧ s'.os = s.os ∧ AllBare s'.gens) s := by
  have rv := vals_ints hInts
  have lv := hInts.length
  generalize hts : cs.map (·.2) = ts
  have mem : ∀ p ∈ cs, p.2 ∈ ts := fun p hp => by rw [← hts]; exact List.mem_map.mpr ⟨p, hp, rfl⟩
  have isT : ∀ b ∈ ts, s.heap.get? b = some { cls := .none, data := .fields #[] } ∧ K.lookup b = none := fun b hb => by
    rw [← hts] at hb
    obtain ⟨p, hp, rfl⟩ := List.mem_map.mp hb
    exact ⟨tabs p hp, tabK p hp⟩
  have aT : a ∉ ts := fun z => by
    have q := (isT a z).1
    rw [scr] at q
    exact nomatch congrArg Obj.data (Option.some.inj q)
  generalize hH : H0 K a { cls := .type "list", data := .seq vs.toArray } (ns.map V.int) ts = H
  have atT : ∀ b ∈ ts, H b = some (.tbl #[]) := fun b hb => by rw [← hH]; exact if_pos hb
  have cases_ : ∀ b, H b = none ∨ b ∈ ts ∨ (b = a ∧ K.lookup a = none ∧ H b = some (.frz { cls := .type "list", data := .seq vs.toArray } (.lst (ns.map V.int)))) := fun b => by
    by_cases h1 : b ∈ ts
    · exact .inr (.inl h1)
    · by_cases h2 : b = a ∧ (K.lookup a).isNone = true
      · refine .inr (.inr ⟨h2.1, by simpa using h2.2, ?_⟩)
        rw [← hH]; unfold H0; rw [if_neg h1, if_pos h2]
      · left; rw [← hH]; unfold H0; rw [if_neg h1, if_neg h2]
  have hok : HOk P w H s.heap := fun b o e => by
    rcases cases_ b with q | q | ⟨rfl, _, q⟩
    · rw [q] at e; cases e
    · rw [atT b q] at e; cases e; exact (isT b q).1
    · rw [q] at e; cases e
      exact ⟨scr, by rw [List.length_map]; exact few, vs, _, rv, scr⟩
  have sq : SqL K H a (ns.map V.int) := by
    cases hk : K.lookup a with
    | none => exact .inl (.inr ⟨_, by rw [← hH]; unfold H0; rw [if_neg aT, if_pos ⟨rfl, by rw [hk]; rfl⟩]⟩)
    | some o =>
      have z := kin a o hk
      rw [scr] at z
      cases z
      exact .inr ⟨_, vs.toArray, _, hk, rfl, rfl, rfl, by rw [List.size_toArray, lv]; exact few, by simpa using rv⟩
  -- what isn't tracked lies in the ground
  have gr : ∀ {b : Addr} {o : Obj}, s.heap.get? b = some o → H b = none → (hidT s.heap H).get? b = some o := fun e n => hidT_get e n
  have free : ∀ {b : Addr} {o : Obj}, s.heap.get? b = some o → (∀ us n, o.data ≠ .seq us n) → o.data ≠ .fields #[] → H b = none := fun {b o} e h1 h2 => by
    rcases cases_ b with q | q | ⟨rfl, _, _⟩
    · exact q
    · rw [(isT b q).1] at e; cases e; exact (h2 rfl).elim
    · rw [scr] at e; cases e; exact (h1 _ _ rfl).elim
  have ns' : ∀ {b : Addr} {m : Str → Option Value}, s.heap.Ns b m → (hidT s.heap H).Ns b m := fun {b m} h => by
    obtain ⟨o, es, ep, e, d, r⟩ := h
    exact ⟨o, es, ep, gr e (free e (fun _ _ z => by rw [d] at z; cases z) fun z => by rw [d] at z; cases z), d, r⟩
  have kin' : K.In (hidT s.heap H) := fun b o e => gr (kin b o e) (by
    rcases cases_ b with q | q | ⟨rfl, q, _⟩
    · exact q
    · rw [(isT b q).2] at e; cases e
    · rw [q] at e; cases e)
  have lim' : (hidT s.heap H).NoLimit := by
    obtain ⟨mc, h1, h2⟩ := lims
    exact ⟨mc, ns' h1, h2⟩
  have tb : ∀ p ∈ cs, TabB (hidT s.heap H) mg p.1 p.2 := fun p hp => by
    refine ⟨?_, ?_, fun z => ?_⟩
    · obtain ⟨o, us, file, tf, flags, tg, inF, text, tt, e1, r1, r2, r3, r⟩ := codes p hp
      refine ⟨o, us, file, tf, flags, tg, inF, text, tt, gr e1 (free e1 (fun _ _ z => by rw [r2] at z; cases z) fun z => ?_), r1, r2, r3, r⟩
      rw [r2] at z
      cases z
      simp at r3
    · obtain ⟨bm, ob, b1, b2, b3, b4, b5, b6⟩ := bmod
      refine ⟨bm, ob, b1, b2, fun z => ?_, fun z => ?_, gr b3 (free b3 (fun _ _ z => by rw [b6] at z; cases z) fun z => by rw [b6] at z; cases z), b4, b5, b6⟩
      · obtain ⟨o, es, ep, e, hd, _⟩ := glo
        rw [z, e] at b3; cases b3; rw [hd] at b6; cases b6
      · rw [z, tabs p hp] at b3; cases b3; cases b6
    · obtain ⟨o, es, ep, e, hd, _⟩ := glo
      rw [z, tabs p hp] at e; cases e; cases hd
  have e0 : Env0 P w K mg (hidT s.heap H) callerA [] s H :=
    ⟨rfl, ⟨kin', ns' glo, ⟨mb, ns' blt, bls⟩, lim'⟩, fun b o e => of_hidT e, Nat.le_of_eq (hidT_size _ _), trivial, fun b hb => absurd (show b ∈ ([] : List Addr) from hb) (by simp), hok, .of_eq gen⟩
  refine codeAny_mono ((F _ kin' (ns' glo) tb).run callerA [] s H ⟨[.ref a], []⟩ [.ref a] [.ref a] _ _ room rfl e0 (bind s (.ref a)) (.cons rfl .nil) (says H (fun p hp => atT _ (mem p hp)) sq)) fun r s' h => ?_
  match r, h with
  | .error e, h => exact (none' H e s' h).elim
  | .ok (.ret u), h =>
    obtain ⟨v, H', os, bare, un, hok', r', q⟩ := h
    have q' : v = .bl true := q
    subst q'
    obtain rfl : u = Value.bool true := r'
    have nofr : ∀ b : Addr, b ∉ frs [] := fun b z => absurd (show b ∈ ([] : List Addr) from z) (by simp)
    have kept : ∀ b o, b ∉ ts → s.heap.get? b = some o → s'.heap.get? b = some o := fun b o nb e => by
      rcases cases_ b with q | q | ⟨_, _, q⟩
      · exact un.keep b o e q (nofr b) (by simp)
      · exact absurd q nb
      · have e1 := (hok b _ q).1
        have e2 := (hok' b _ (un.frzs b _ _ q)).1
        rw [e] at e1; cases e1; exact e2
    have tgrow : ∀ p ∈ cs, ∃ more : Array Value, s'.heap.get? p.2 = some { cls := .none, data := .fields more } := fun p hp => by
      obtain ⟨more, z⟩ := un.tbls p.2 #[] (atT _ (mem p hp))
      exact ⟨_, hok' p.2 _ z⟩
    have back : ∀ b ∈ ts, ∃ p ∈ cs, p.2 = b := fun b hb => by
      rw [← hts] at hb
      obtain ⟨p, hp, e⟩ := List.mem_map.mp hb
      exact ⟨p, hp, e⟩
    refine ⟨rfl, ⟨fun b o e => ?_, fun b o e => ?_⟩, os, bare⟩
    · by_cases hb : b ∈ ts
      · obtain ⟨p, hp, rfl⟩ := back b hb
        obtain ⟨more, hm⟩ := tgrow p hp
        rw [tabs p hp] at e
        cases e
        refine .inr (.inl ⟨((codes p hp).tab (tabs p hp)).isCodeTable, rfl, #[], more, rfl, ?_⟩)
        rw [Array.empty_append]
        exact hm
      · exact .inl (kept b o hb e)
    · by_cases hb : b ∈ ts
      · obtain ⟨p, hp, rfl⟩ := back b hb
        obtain ⟨more, hm⟩ := tgrow p hp
        exact ⟨_, hm⟩
      · exact ⟨o, kept b o hb e⟩
/-- what a law's own text must bring -/
structure LawG (l : PySem.W.OpenLaw) (w : World) (K : PySem.W.Frag) (CX : CXT) (k n : Nat) (x : Str) (mg : Str → Option Value) (fa : Addr) (h : Heap) : Prop where
  ex : ∃ (fd : FuncData) (cs : List (Addr × Addr)) (sp : Sp), (∀ p ∈ cs, h.get? p.2 = some { cls := .none, data := .fields #[] }) ∧ (∀ p ∈ cs, K.lookup p.2 = none) ∧ (∀ p ∈ cs, PySem.W.CodeHd h p.1 p.2) ∧
    (∀ (s : Shared) (u : Value), BindsTo s fd ⟨[u], []⟩ [(x, u)]) ∧
    (∀ (H : Hp) (a : Addr) (ns : List Int), ns.length ≤ n → (∀ p ∈ cs, H p.2 = some (.tbl #[])) → SqL K H a (ns.map V.int) → sp [.ref a] H (fun v _ => v = .bl true) fun _ _ _ => False) ∧
    ∀ base : Heap, K.In base → base.Ns mainGlobals mg → (∀ p ∈ cs, TabB base mg p.1 p.2) → FnG l.prog w K mg base CX k fa fd [x] sp
theorem walkG {l : PySem.W.OpenLaw} {n k : Nat} {q : Program} {loose : List Str} {XP : (Str → Option Value) → Heap → Prop} {YP : World → Heap → Prop} {d : DefRec} {K : Params → PySem.W.Frag} {CX : World → CXT} {x : Str}
    (hn : l.most = some n) (hn2 : n ≤ sizeLine) (hdf : d.params.defaults = []) (hr : Room k callerA) (hY : ∀ (w : World) (h : Heap), YP w h → (K w.params).In h)
    (F : ∀ (w : World) (mg : Str → Option Value) (fa : Addr) (h : Heap), YP w h → (K w.params).In h → h.Ns mainGlobals mg → mg d.name = some (.ref fa) → LawG l w (K w.params) (CX w) k n x mg fa h)
    (hCX : ∀ (w : World) (H : Hp) (s : Shared) (e : Value) (s' : Shared), CX w [] H s (fun _ _ _ => False) e s' → False) :
    PySem.W.WalkO q loose XP YP l.row.toRowW d [] (fun f vs => PySem.call f vs) := by
  refine Att.attach_callB hn hdf fun w s₀ s₁ mg mb fa o pm cd doc a vs ns G Y ho hd hcd hmg hobj hints hlen _ hg => ?_
  have kx := hY w _ Y
  obtain ⟨fd, cs, sp, t1, t2, t3, hb, hs, hF⟩ := (F w mg fa _ Y kx G.T.g hmg).ex
  exact lawG kx G.T.g G.T.b G.T.builtins G.T.nolimit hg t1 t2 t3 G.T.bmain hobj hints (Nat.le_trans hlen hn2) hr hF hb (fun H hH hS => hs H a ns hlen hH hS) fun H e s' => hCX w H s₁ e s'
end L3
end
section
namespace L3
open PySem PySem.Spec PyProof.Rows L2
section
variable {X : Cx}
def repS (z : Str) (n : Nat) : Str := ⟨(List.replicate n z.cps).foldl (· ++ ·) #[]⟩
def rMulS : R2 := fun x y H Q => ∃ z n, x = .str z ∧ y = .int n ∧ 2 ≤ n ∧ n ≤ 100000 ∧ z.length = 1 ∧ Q (.str (repS z n.toNat)) H
theorem repS_len (z : Str) (n : Nat) : (repS z n).length = n * z.length := by
  have h : ∀ (l : List (Array Nat)) (a : Array Nat), (l.foldl (· ++ ·) a).size = a.size + (l.map (·.size)).sum := by
    intro l
    induction l with
    | nil => intro a; simp
    | cons b r ih => intro a; rw [List.foldl_cons, ih, Array.size_append, List.map_cons, List.sum_cons]; omega
  show ((List.replicate n z.cps).foldl (· ++ ·) #[]).size = _
  rw [h, List.map_replicate, List.sum_replicate_nat]
  simp [Str.length]
theorem op_mulS : OpR X (binaryOp .Mult) rMulS := by
  intro pins s σ H x y v u Q I rx ry h
  obtain ⟨z, n, rfl, rfl, h1, h2, h3, q⟩ := h
  obtain ⟨t, rfl⟩ := rx
  obtain ⟨t', rfl⟩ := ry
  have c1 : ¬ n < 1 := by omega
  have c2 : (n == 1 || z.length == 0) = false := by
    rw [h3, show (n == 1) = false from beq_eq_false_iff_ne.mpr (by omega)]
    rfl
  refine P.mul_str (by rw [decide_eq_false (by omega), decide_eq_false (by omega)]; rfl) (fun _ _ => ?_) (fun _ _ => ?_) ?_
  · rw [h3]
    have : (1 : Int) ≤ (2 ^ 63 - 1) / n := Int.le_ediv_of_mul_le (by omega) (by omega)
    omega
  · unfold PySem.Builtin.Str.tooLong
    rw [h3]
    exact decide_eq_false (by rw [sizeLine_eq]; omega)
  · rw [if_neg c1, c2, if_neg (by decide)]
    refine ⟨?_, ⟨.str (repS z n.toNat), H, I.tok _, ⟨_, rfl⟩, q⟩⟩
    show (repS z n.toNat).length ≤ sizeLine
    rw [repS_len, h3, sizeLine_eq]
    omega
theorem vals_of_get : ∀ {xs : List V} {us : List Value}, xs.length = us.length → (∀ (i : Nat) x u, xs[i]? = some x → us[i]? = some u → RelV x u) → Vals xs us
  | [], [], _, _ => .nil
  | x :: xs, u :: us, hl, h => .cons (h 0 x u rfl rfl) (vals_of_get (by simpa using hl) fun i y v a b => h (i + 1) y v (by simpa using a) (by simpa using b))
  | [], _ :: _, hl, _ => by simp at hl
  | _ :: _, [], hl, _ => by simp at hl
def chars (z : Str) : List V := z.cps.toList.map fun c => V.str ⟨#[c]⟩
def rListS : List V → Hp → VK → Prop := fun xs H Q => ∃ z, xs = [.str z] ∧ z.length ≤ sizeLine ∧ ∀ l, H l = none → ap Q (.ref l) (upd H l (.lst (chars z)))
theorem call_listS (hc : X.calm = true) : CallR X (.type "list") rListS := by
  intro pins s σ H xs us Q I r h
  obtain ⟨z, rfl, hz, q⟩ := h
  obtain ⟨u, rfl, rx⟩ := vals1 r
  obtain ⟨t, rfl⟩ := rx
  refine call_list_str (I.ok.hd hc) z t (fun h' tk acc c k e it => ?_) hz
  have rl : Vals (chars z) acc.toList := by
    refine vals_of_get ?_ fun i x u hx hu => ?_
    · unfold chars
      rw [List.length_map, Array.length_toList, Array.length_toList, it.1]
    · obtain ⟨c, t, e1, rfl⟩ := it.2 i u (by simpa using hu)
      have e2 : z.cps.toList[i]? = some c := by simpa using e1
      unfold chars at hx
      rw [List.getElem?_map, e2] at hx
      cases hx
      exact ⟨t, rfl⟩
  refine ⟨.ref s.heap.objs.size, _, I.laid (t' := tk) k (Nat.le_refl _) (o := .lst (chars z)) ⟨by unfold chars; rw [List.length_map]; exact hz, acc.toList, c, rl, by simpa using e⟩, rfl, q _ (I.hok.fresh (Nat.le_refl _))⟩
end
end L3
namespace L3
open PySem PySem.Calls PySem.NumText PyProof.Rows PySem.W PySem.W.KIN
def DigitsFree (h : Heap) : Prop := ∃ mc, h.Ns cStatics mc ∧ mc "sys.int_max_str_digits" = none
theorem wp_digits {M : Model} {A : Around} {E : Value → Shared → Prop} {s : Shared} {Q : Nat → Shared → Prop} (hm : DigitsFree s.heap) (h : Q 4300 s) : wpAny M A PySem.Builtin.intMaxStrDigits Q E s := by
  obtain ⟨mc, h1, h2⟩ := hm
  unfold PySem.Builtin.intMaxStrDigits
  refine wpAny_bind (wpAny_nsGet h1 ?_)
  rw [h2]
  exact wpAny_pure h
theorem wp_textL {M : Model} {A : Around} {E : Value → Shared → Prop} {s : Shared} {Q : Value → Shared → Prop} {v : Value} {text : List Nat} {n : Int} (hm : DigitsFree s.heap)
    (hs : ¬ (text.takeWhile (· != 0)).length ≤ 640) (hr : (int_private% "readNumeral") 4300 10 (text.takeWhile (· != 0)) = (int_private% "Numeral.value") n)
    (ha : ((text.takeWhile (· != 0)).length == text.length) = true) (h : Q (.int n s.toks) { s with toks := s.toks + 1 }) :
    wpAny M A ((int_private% "intFromText") v text 10) Q E s := by
  obtain ⟨hp, g, d, tk, os⟩ := s
  repeat (any_goals (first
    | assumption
    | (with_reducible refine wpAny_ite_false (decide_eq_false hs) ?_)
    | (with_reducible refine wpAny_ite_true (decide_eq_true ha) ?_)
    | (with_reducible refine wp_digits hm ?_)
    | wp_step))
  all_goals (try rw [hr])
  all_goals (try dsimp only)
  repeat (any_goals (first
    | assumption
    | (with_reducible refine wpAny_ite_true (decide_eq_true ha) ?_)
    | wp_step))
structure HidL (p : Prop) : Prop where
  out : p
theorem meets_textL {x : PySem.Str} {u : Tok} {n : Int} (hl : ¬ (numSeenOf x).length ≤ 640) (hr : (int_private% "readNumeral") 4300 10 (numSeenOf x) = (int_private% "Numeral.value") n)
    (ha : ((numSeenOf x).length == (numTextOf x).length) = true) : Meets (Builtin.«int.__new__» ⟨[.type "int", .str x u], []⟩) (fun _ R s => DigitsFree s.heap ∧ R (.ok (.ret (.int n s.toks))) { s with toks := s.toks + 1 }) := by
  intro prog w A R s h
  obtain ⟨hm, h⟩ := h
  obtain ⟨hp, g, d, tk, os⟩ := s
  have g1 := F.conv_sub_int
  have g2 := F.madeHere_int
  have g3 := str_int
  have g4 := str_idx
  have g5 := str_trunc
  have g6 : typeOf (.str x u) = pure (.type "str") := rfl
  have hk := HidL.mk (And.intro hl (And.intro hr ha))
  clear hl hr ha
  repeat (any_goals (first
    | assumption
    | ((with_reducible show wpAny _ _ ((int_private% "intFromText") _ _ _) _ _ _); refine wp_textL hm hk.out.1 hk.out.2.1 hk.out.2.2 ?_)
    | wp_step))
theorem call_textL {prog : Program} {w : World} {A : Around} {E : Value → Shared → Prop} {s : Shared} {Q : Value → Shared → Prop} {x : PySem.Str} {u : Tok} {n : Int} (hm : DigitsFree s.heap) (hl : ¬ (numSeenOf x).length ≤ 640) (hr : (int_private% "readNumeral") 4300 10 (numSeenOf x) = (int_private% "Numeral.value") n)
    (ha : ((numSeenOf x).length == (numTextOf x).length) = true) (h : Q (.int n s.toks) { s with toks := s.toks + 1 }) :
    wpAny (model prog w) A (call (.type "int") [.str x u]) Q E s := call_int_1 (meets_textL hl hr ha) ⟨hm, rfl, h⟩
end L3
namespace L3
open PySem PySem.Spec PyProof.Rows L2
namespace FnK
theorem slot : Slot "function" "__getattribute__" "object.__getattribute__" := .of (owner := "object") (n := "__getattribute__")
  (by rw [typeLookup_type, builtinLookup_eq_fast]; kernel_rfl) (by decide +kernel) (by decide +kernel) (by decide +kernel) (by first | exact .inl (by decide +kernel) | exact .inr (by decide +kernel)) (by rw [isSubtype_type]; kernel_rfl)
theorem look : typeLookup (.type "function") "__class__" = pure (some (.builtin "object.__class__")) := by
  rw [typeLookup_type, builtinLookup_eq_fast]; kernel_rfl
theorem below : isSubtype (.type "function") (.type (".".intercalate ("object.__class__".cutAt '.').dropLast)) = pure true := by
  rw [F.owner_object_class, isSubtype_type]; kernel_rfl
section
variable {prog : Program} {w : World} {A : Around} {E : Value → Shared → Prop} {hp : Heap} {gs : Array GenState} {dr : Drawn} {tk : Nat} {os : OsState} {f : Addr} {ob : Obj}
theorem got {R : Result → Shared → Prop} (e : hp.get? f = some ob) (c : ob.cls = .type "function") (k : R (.ok (.ret (.type "function"))) ⟨hp, gs, dr, tk, os⟩) :
    codeAny (model prog w) A (.call (.builtin "getset_descriptor.__get__") ⟨[.builtin "object.__class__", .ref f, .type "function"], []⟩) R ⟨hp, gs, dr, tk, os⟩ := by
  have y1 : (⟨hp, gs, dr, tk, os⟩ : Shared).TypeIs (.ref f) "function" := ⟨_, e, c⟩
  have y2 : (⟨hp, gs, dr, tk, os⟩ : Shared).TypeIs (.builtin "object.__class__") "getset_descriptor" := F.typeOf_object_class
  have y3 := below
  refine codeAny_call_builtin F.slot_gs_get.plain F.entry_gs_get (F.slot_gs_get.check _ _ _ _ _ _ _ _ y2 (F.args_gs_get _ _ _) ?_)
  repeat (any_goals (first | assumption | wp_step))
  refine ⟨Code.quiet_builtin _ (by decide +kernel), codeAny_builtin F.entry_object_class ?_⟩
  repeat (any_goals (first | assumption | wp_step))
theorem entry {t : Tok} {Q : Fin → Shared → Prop} (e : hp.get? f = some ob) (c : ob.cls = .type "function") (k : Q (.done (.ret (.type "function"))) ⟨hp, gs, dr, tk, os⟩) :
    wpAny (model prog w) A (Builtin.«object.__getattribute__» ⟨[.ref f, .str "__class__" t], []⟩) Q E ⟨hp, gs, dr, tk, os⟩ := by
  have y1 : (⟨hp, gs, dr, tk, os⟩ : Shared).TypeIs (.ref f) "function" := ⟨_, e, c⟩
  have y2 : (⟨hp, gs, dr, tk, os⟩ : Shared).TypeIs (.builtin "object.__class__") "getset_descriptor" := F.typeOf_object_class
  have y3 := look
  have y4 := F.typeOf_object_class
  have y5 := F.slot_gs_get.lookup
  have y6 := F.slot_gs_set.lookup
  repeat (any_goals (first | assumption | wp_step))
  refine got e c ?_
  repeat (any_goals (first | assumption | wp_step))
theorem by_ {t : Tok} {Q : Value → Shared → Prop} (e : hp.get? f = some ob) (c : ob.cls = .type "function") (k : Q (.type "function") ⟨hp, gs, dr, tk, os⟩) :
    wpAny (model prog w) A (getAttrBy (.ref f) (.str "__class__" t) false) Q E ⟨hp, gs, dr, tk, os⟩ := by
  have y1 : (⟨hp, gs, dr, tk, os⟩ : Shared).TypeIs (.ref f) "function" := ⟨_, e, c⟩
  have y2 := slot.lookup
  have y3 := slot.bind (.ref f)
  repeat (any_goals (first | assumption | wp_step))
  refine codeAny_call_builtin slot.plain F.entry_object_getattribute (slot.check _ _ _ _ _ _ _ _ y1 (F.args_object_getattribute_2 _ _) (entry e c ?_))
  repeat (any_goals (first | assumption | wp_step))
theorem attr {Q : Option Value → Shared → Prop} (e : hp.get? f = some ob) (c : ob.cls = .type "function") (k : Q (some (.type "function")) ⟨hp, gs, dr, tk + 1, os⟩) :
    wpAny (model prog w) A (getAttr? (.ref f) "__class__") Q E ⟨hp, gs, dr, tk, os⟩ := by
  unfold getAttr? getAttrBy?
  repeat (any_goals (first | assumption | with_reducible apply by_ e c | wp_step))
end
theorem kit {K : PySem.W.Frag} {f : Addr} : PySem.W.KitX K (.ref f) (.type "function") (PySem.W.KitAt f "function") :=
  PySem.W.kitx_of PySem.W.kitAt_ty (fun {_ _ _ _ _ s} p k => by
    obtain ⟨hp, gs, dr, tk, os⟩ := s
    obtain ⟨o, h1, h2⟩ := p
    exact attr h1 h2 k)
end FnK
/-- a function object -/
def FnV (f : Addr) : HO := .ext fun h => ∃ o, h.get? f = some o ∧ o.cls = .type "function"
/-- a value's type -/
inductive TyA (K : PySem.W.Frag) (H : Hp) : V → Value → Prop where
  | x {v : V} {t : Value} (h : TyX K H v t) : TyA K H v t
  | fn {f : Addr} (e : H f = some (FnV f)) : TyA K H (.ref f) (.type "function")
def rIsiA (K : PySem.W.Frag) : List V → Hp → VK → Prop := fun xs H Q => ∃ (x c : V) (t u : Value) (b : Bool), xs = [x, c] ∧ ClsV c u ∧ TyA K H x t ∧ PySem.W.kitOne K t u = some b ∧ Q (.bl b) H
theorem callIsi {X : Cx} : CallR X (.builtin "isinstance") (rIsiA X.K) := by
  intro pins s σ H xs us Q I r h
  obtain ⟨x, c, t, u, b, rfl, k, ty, e, q⟩ := h
  cases ty with
  | x ty => exact call_isi pins s σ H _ us Q I r ⟨x, c, t, u, b, rfl, k, ty, e, q⟩
  | @fn f ef =>
    obtain ⟨u1, u2, rfl, r1, r2⟩ := vals2 r
    have e2 := k.eq r2
    subst e2
    cases (show u1 = Value.ref f from r1)
    obtain ⟨⟨o, h1, h2⟩, _, _⟩ := (show ObjOk X.prog X.w H s.heap f (FnV f) from I.hok f _ ef)
    exact PySem.W.kia_one (FnK.kit (K := X.K) (f := f)) I.kIn ⟨o, h1, h2⟩ e (fun z => nomatch z) fun tk => ⟨.bl b, H, I.tok tk, rfl, q⟩
end L3
namespace L3
open PySem PySem.Spec PyProof.Rows L2 LamX
theorem Tabs.up {T : List (Addr × Str)} {H : Hp} {p : Addr} {o : HO} (t : Tabs T H) (h : H p = none) : Tabs T (upd H p o) := t.ext (ex_new h)
section
variable {X : Cx}
def rAddU : R2 := fun x y H Q => rI0 (fun i j => V.int (i + j)) x y H Q ∨ (∃ i j, x = .str i ∧ y = .str j ∧ i.length + j.length ≤ sizeLine ∧ Q (.str (i ++ j)) H) ∨ rCat x y H Q
theorem opAdd : OpR X (binaryOp .Add) rAddU := OpR.or op_add (OpR.or op_add_str op_cat)
def rMulU : R2 := fun x y H Q => rI IntMulOk (fun i j => V.int (i * j)) x y H Q ∨ rMulS x y H Q ∨ rRep x y H Q
theorem opMul : OpR X (binaryOp .Mult) rMulU := OpR.or (opI fun _ _ _ _ _ _ _ hc q => mul_int q hc) (OpR.or op_mulS op_rep)
theorem opEq (hu : X.A.units + 64 < cLine) : OpR X (compareOp .Eq) (rEqU X.K) := OpR.or op_eq (op_eqD hu)
theorem opNe (hu : X.A.units + 64 < cLine) : OpR X (compareOp .NotEq) (rNeU X.K) := OpR.or op_ne (op_neD hu)
def rIsU : R2 := fun x y H Q => (y = .non ∧ Q (.bl (decide (x = .non))) H) ∨ rIsB x y H Q
theorem opIs : OpR X (compareOp .Is) rIsU := OpR.or op_isN op_isBl
def rIsNotU : R2 := fun x y H Q => (y = .non ∧ Q (.bl (!decide (x = .non))) H) ∨ rNotB x y H Q
theorem opIsNot : OpR X (compareOp .IsNot) rIsNotU := OpR.or op_notN op_notBl
def rInU (K : PySem.W.Frag) : R2 := fun x y H Q => rInS x y H Q ∨ rIn K false x y H Q
theorem opIn : OpR X (compareOp .In) (rInU X.K) := OpR.or op_inS op_in_seq
def rNotInU (K : PySem.W.Frag) : R2 := fun x y H Q => rNotInS x y H Q ∨ rIn K true x y H Q
theorem IxR.or {r r' : R2} (h : IxR X r) (h' : IxR X r') : IxR X (fun x y H Q => r x y H Q ∨ r' x y H Q) := by
  intro value slice pins s σ H x y v u Q I rx ry q hs
  rcases q with q | q
  · exact h value slice pins s σ H x y v u Q I rx ry q hs
  · exact h' value slice pins s σ H x y v u Q I rx ry q hs
def rIxU (K : PySem.W.Frag) : R2 := fun x y H Q => rIxL K x y H Q ∨ rIxT K x y H Q ∨ rIxS x y H Q
theorem ixU : IxR X (rIxU X.K) := IxR.or ix_list (IxR.or ix_tup ix_str)
def rSlU (K : PySem.W.Frag) : V → Option Int → Option Int → Hp → VK → Prop := fun x lo hi H Q => rSlL K x lo hi H Q ∨ rSlS x lo hi H Q
theorem slU : SlR X (rSlU X.K) := SlR.or sl_list sl_str
theorem CallR.or {f : Value} {r r' : List V → Hp → VK → Prop} (h : CallR X f r) (h' : CallR X f r') : CallR X f (fun xs H Q => r xs H Q ∨ r' xs H Q) := by
  intro pins s σ H xs us Q I rs q
  rcases q with q | q
  · exact h pins s σ H xs us Q I rs q
  · exact h' pins s σ H xs us Q I rs q
/-- int(x): an int, a bool, a text -/
def rIntT : List V → Hp → VK → Prop := fun xs H Q => ∃ a n, xs = [.str a] ∧ PySem.intText? a = some n ∧ a.length ≤ 640 ∧ Q (.int n) H
def rIntL (K : PySem.W.Frag) : List V → Hp → VK → Prop := fun xs H Q => ∃ a n, xs = [.str a] ∧ PySem.intText? a = some n ∧ PySem.W.nsIn K cStatics "sys.int_max_str_digits" = some none ∧ ¬ (numSeenOf a).length ≤ 640 ∧ a.length ≤ sizeLine ∧ Q (.int n) H
theorem ns_none {K : PySem.W.Frag} {h : Heap} {a : Addr} {m : Str → Option Value} {x : Str} (kin : K.In h) (g : h.Ns a m) (e : PySem.W.nsIn K a x = some none) : m x = none := by
  obtain ⟨o, es, ep, ho, hd, _, hf⟩ := g
  cases hk : K.lookup a with
  | none => unfold PySem.W.nsIn at e; rw [hk] at e; cases e
  | some o' =>
    have z := kin _ _ hk
    rw [ho] at z
    cases z
    obtain ⟨c, d, dt, sl⟩ := o
    cases hd
    unfold PySem.W.nsIn at e
    rw [hk] at e
    cases he : es.toList.find? (·.key.isStr x) with
    | some y =>
      exfalso
      revert e
      show (match es.toList.find? (·.key.isStr x) with | some e => some (some e.val) | none => if es.toList.any (·.refKey) then none else some none) = some none → False
      rw [he]
      intro e; cases e
    | none =>
      rw [← hf]
      unfold nsFind findBy
      rw [← Array.find?_toList, he]
      rfl
theorem digits_free {K : PySem.W.Frag} {h : Heap} (kin : K.In h) (hl : h.NoLimit) (e : PySem.W.nsIn K cStatics "sys.int_max_str_digits" = some none) : DigitsFree h := by
  obtain ⟨mc, hn, _⟩ := hl
  refine ⟨mc, hn, ?_⟩
  exact ns_none kin hn e
def rIntU (K : PySem.W.Frag) : List V → Hp → VK → Prop := fun xs H Q => rInt1 xs H Q ∨ rIntT xs H Q ∨ rIntL K xs H Q
theorem callIntL : CallR X (.type "int") (rIntL X.K) := by
  intro pins s σ H xs us Q I rs h
  obtain ⟨a, n, rfl, hn, hk, hl, hz, q⟩ := h
  obtain ⟨u, rfl, rx⟩ := vals1 rs
  obtain ⟨t, rfl⟩ := rx
  rcases read4300 a hz with ⟨m, e1, e2, e3⟩ | ⟨e1, _⟩
  · rw [hn] at e1
    cases e1
    exact call_textL (digits_free I.kIn I.nolimit hk) hl e3 e2 ⟨.int n, H, I.tok _, ⟨_, rfl⟩, q⟩
  · rw [hn] at e1; cases e1
theorem callInt : CallR X (.type "int") (rIntU X.K) := CallR.or call_int1 (CallR.or call_int_str callIntL)
def rListU (K : PySem.W.Frag) : List V → Hp → VK → Prop := fun xs H Q => (∃ p ys, xs = [.ref p] ∧ (SqL K H p ys ∨ SqT K H p ys) ∧ ∀ l, H l = none → Q (.ref l) (upd H l (.lst ys))) ∨ rListS xs H Q
theorem callList (hc : X.calm = true) : CallR X (.type "list") (rListU X.K) := CallR.or call_list_of (call_listS hc)
end
end L3
end
section
namespace KX
open PySem PySem.Spec PyProof.Rows L2 LamX L3
section
variable {X : Cx} {K : PySem.W.Frag} (hK : X.K = K := by rfl)
include hK
theorem opIn : OpR X (compareOp .In) (rInU K) := by subst hK; exact L3.opIn
theorem ixU : IxR X (rIxU K) := by subst hK; exact L3.ixU
theorem slU : SlR X (rSlU K) := by subst hK; exact L3.slU
theorem callInt : CallR X (.type "int") (rIntU K) := by subst hK; exact L3.callInt
theorem callIsi : CallR X (.builtin "isinstance") (rIsiA K) := by subst hK; exact L3.callIsi
theorem callLen : CallR X (.builtin "len") (rLen1 K) := by subst hK; exact call_len
theorem callList (hc : X.calm = true) : CallR X (.type "list") (rListU K) := by subst hK; exact L3.callList hc
theorem eqU (hu : X.A.units + 64 < cLine) : OpR X (compareOp .Eq) (rEqU K) := by subst hK; exact opEq hu
theorem neU (hu : X.A.units + 64 < cLine) : OpR X (compareOp .NotEq) (rNeU K) := by subst hK; exact opNe hu
theorem fld {e : Expr} {f : Str} {pos : Pos} {ta : TE} (ha : PE X e ta) (hb : attributeBase e f X.env (eval e X.env) = eval e X.env) : PE X (.Attribute e f pos) (tFld K ta f) := by subst hK; exact pe_fld ha hb
end
end KX
namespace L3
open PySem PySem.Spec PyProof.Rows L2 LamX
section
variable {σ : L2.St} {H : Hp} {D : Ends} {Q : VK} {v x y : V} {K : PySem.W.Frag} {te ta tb : TE}
theorem iteNF {A B : Prop} (h : A) : if (!false) = true then A else B := iteT h
theorem iteNT {A B : Prop} (h : B) : if (!true) = true then A else B := iteF h
theorem s_pair {i j : Nat} {tt : TA} (h : tt σ H fun vs H1 => ∃ v w, vs = [v, w] ∧ D.nx ((σ.set i (some v)).set j (some w)) H1) : tPar i j tt D σ H := h
theorem s_pair2 {R : V → V → Prop} (h : R x y) : ∃ v w, [x, y] = [v, w] ∧ R v w := ⟨x, y, rfl, h⟩
theorem s_fld {tv : TE} {f : Str} (h : tv σ H fun y H1 => ta σ H1 fun x H2 => ∃ a C dx fs, x = .ref a ∧ H2 a = some (.ins C dx fs) ∧ Cls K C ∧ NoAttr K C f ∧ fs.length < 1000 ∧ D.nx σ (upd H2 a (.ins C dx (putF f y fs)))) : sFld K ta tv f D σ H := h
theorem s_make {C : Addr} {sp : Sp} {dvs : List V} {E : XK} {tt : TA} (h : tt σ H fun vs H1 => ∀ p dx, H1 p = none → H1 dx = none → dx ≠ p → sp (.ref p :: (vs ++ dvs)) (upd (upd H1 dx (.own p)) p (.ins C dx [])) (fun v H2 => v = .non ∧ ap Q (.ref p) H2) E) : tMake C sp dvs E tt σ H Q := h
theorem s_disp1 {tk tv : TE} {k : Key} {v' : V} (hk : ∀ H' (R : VK), R (kV k) H' → tk σ H' R) (hv : ∀ H' (R : VK), R v' H' → tv σ H' R) (h : ∀ p H2, H p = none → Ex H H2 → H2 p = some (.dK [(k, v')]) → Q (.ref p) H2) : tDisp [(tk, tv)] σ H Q := fun p hp => by
  refine hk _ _ (hv _ _ ?_)
  refine ⟨upd_same, [(k, v')], rfl, (by show 1 ≤ 15; decide), ?_⟩
  refine h p _ hp (fun b o e => ?_) upd_same
  rw [upd_ne (ne_of_none e hp), upd_ne (ne_of_none e hp)]; exact e
theorem s_pow {g : Int → Int → V} {i j : Int} (c : CPow i j) (h : Q (g i j) H) : rI CPow g (.int i) (.int j) H Q := ⟨i, j, rfl, rfl, c, h⟩
theorem s_m1 {r : V → List V → Hp → VK → Prop} (h : ta σ H fun x H1 => (∃ a, x = .str a) ∧ tb σ H1 fun y H2 => r x [y] H2 Q) : tM1 r ta tb σ H Q := h
theorem s_isstr {z : Str} {R : Prop} (h : R) : (∃ a, V.str z = .str a) ∧ R := ⟨⟨z, rfl⟩, h⟩
theorem s_addI {i j : Int} (h : Q (.int (i + j)) H) : rAddU (.int i) (.int j) H Q := .inl ⟨i, j, rfl, rfl, h⟩
theorem s_mulI {i j : Int} (c : IntMulOk i j) (h : Q (.int (i * j)) H) : rMulU (.int i) (.int j) H Q := .inl ⟨i, j, rfl, rfl, c, h⟩
theorem s_isN (h : Q (.bl (decide (x = .non))) H) : rIsU x .non H Q := .inl ⟨rfl, h⟩
theorem s_isB {a b : Bool} (h : Q (.bl (decide (a = b))) H) : rIsU (.bl a) (.bl b) H Q := .inr ⟨a, b, rfl, rfl, h⟩
theorem s_nisN (h : Q (.bl (!decide (x = .non))) H) : rIsNotU x .non H Q := .inl ⟨rfl, h⟩
theorem s_nisB {a b : Bool} (h : Q (.bl (!decide (a = b))) H) : rIsNotU (.bl a) (.bl b) H Q := .inr ⟨a, b, rfl, rfl, h⟩
theorem s_inS {c : Nat} {z : Str} (h : Q (.bl (decide (c ∈ z.cps.toList))) H) : rInU K (.str ⟨#[c]⟩) (.str z) H Q := .inl ⟨c, z, rfl, rfl, h⟩
theorem s_ninS {c : Nat} {z : Str} (h : Q (.bl (!decide (c ∈ z.cps.toList))) H) : rNotInU K (.str ⟨#[c]⟩) (.str z) H Q := .inl ⟨c, z, rfl, rfl, h⟩
theorem s_inT {p : Addr} {xs : List V} (hs : SqT K H p xs) (hx : flatV x = true) (ha : xs.all flatV = true) (h : Q (.bl (inV x xs)) H) : rInU K x (.ref p) H Q := .inr ⟨p, xs, rfl, .inr hs, hx, ha, h⟩
theorem s_iL {p : Addr} {xs : List V} {i : Int} (hp : H p = some (.lst xs)) (e : atI xs i = some v) (h : Q v H) : rIxU K (.ref p) (.int i) H Q := .inl ⟨p, xs, i, v, rfl, rfl, .inl (.inl hp), e, h⟩
theorem s_iT {p : Addr} {xs : List V} {i : Int} (hp : H p = some (.tup xs)) (e : atI xs i = some v) (h : Q v H) : rIxU K (.ref p) (.int i) H Q := .inr (.inl ⟨p, xs, i, v, rfl, rfl, .inl (.inl hp), e, h⟩)
theorem s_slice {r : V → Option Int → Option Int → Hp → VK → Prop} {tl th : TO} (h : te σ H fun x H1 => tl σ H1 fun l H2 => th σ H2 fun u H3 => r x l u H3 Q) : tSl r te tl th σ H Q := h
theorem s_part {R : Option Int → Hp → Prop} (h : te σ H fun x H1 => ∃ i, x = .int i ∧ R (some i) H1) : tPart te σ H R := h
theorem s_partI {R : Int → Prop} {i : Int} (h : R i) : ∃ j, V.int i = .int j ∧ R j := ⟨i, rfl, h⟩
theorem s_nopart {R : Option Int → Hp → Prop} (h : R none H) : tNoPart σ H R := h
theorem s_slL {p : Addr} {xs : List V} {lo hi : Option Int} (hs : SqL K H p xs) (h : ∀ q H2, H q = none → Ex H H2 → H2 q = some (.lst (cutV xs lo hi)) → Q (.ref q) H2) : rSlU K (.ref p) lo hi H Q :=
  .inl ⟨p, xs, rfl, hs, fun q hq => h q _ hq (ex_new hq) upd_same⟩
theorem s_cI {i : Int} (h : Q (.int i) H) : rIntU K [.int i] H Q := .inl (.inl ⟨i, rfl, h⟩)
theorem s_cB {b : Bool} (h : Q (.int (if b then 1 else 0)) H) : rIntU K [.bl b] H Q := .inl (.inr ⟨b, rfl, h⟩)
theorem s_listL {p : Addr} {xs : List V} (hs : SqL K H p xs) (h : ∀ q H2, H q = none → Ex H H2 → H2 q = some (.lst xs) → Q (.ref q) H2) : rListU K [.ref p] H Q :=
  .inl ⟨p, xs, rfl, .inl hs, fun q hq => h q _ hq (ex_new hq) upd_same⟩
theorem s_isiT {n : String} {t : Value} {b : Bool} (ty : TyA K H x t) (e : PySem.W.kitOne K t (.type n) = some b) (h : Q (.bl b) H) : rIsiA K [x, .ty n] H Q := ⟨x, .ty n, t, .type n, b, rfl, .ty n, ty, e, h⟩
theorem s_isiC {C : Addr} {t : Value} {b : Bool} (ty : TyA K H x t) (e : PySem.W.kitOne K t (.ref C) = some b) (h : Q (.bl b) H) : rIsiA K [x, .ref C] H Q := ⟨x, .ref C, t, .ref C, b, rfl, .own C, ty, e, h⟩
theorem s_chain {r r' : R2} {tc : TE} (h : ta σ H fun x H1 => tb σ H1 fun y H2 => r x y H2 fun z H3 => ∃ k, z = .bl k ∧ (if k = true then tc σ H3 fun w' H4 => r' y w' H4 Q else Q (.bl false) H3)) : tChain r r' ta tb tc σ H Q := h
theorem s_bm {T : String} {r : V → List V → Hp → VK → Prop} {t : TA} (h : te σ H fun x H1 => tyV K T x H1 ∧ t σ H1 fun xs H2 => r x xs H2 Q) : tBM K T r te t σ H Q := h
theorem s_app {p : Addr} {xs : List V} (hp : H p = some (.lst xs)) (hz : xs.length < sizeLine) (h : Q .non (upd H p (.lst (xs ++ [y])))) : rAppend (.ref p) [y] H Q := ⟨p, xs, y, rfl, rfl, hp, hz, h⟩
def LC (J : It) (g : TG) (tt : TT) (te : TE) (vs : List Nat) (σ : L2.St) (H1 : Hp) (Q : VK) : Prop := ∀ D, H1 D = none → ∃ W : Nat → Nat → Hp → Prop, (∃ m, W 0 m (upd H1 D (.lst []))) ∧ ∀ i m H, W i m H →
  (J.stop i H ∧ Q (.ref D) H) ∨ (J.go i H ∧ ∃ Nx : Hp → Prop, (∀ H', Nx H' → ∃ m', m' < m ∧ W (i + 1) m' H') ∧ ∀ x H', J.yld i H x H' → g x (wipe σ vs) H' fun σ2 H2 => wipe σ2 vs = wipe σ vs ∧ tt σ2 H2 fun b H3 =>
    if b = true then te σ2 H3 fun y H4 => ∃ acc, H4 D = some (.lst acc) ∧ acc.length < sizeLine ∧ Nx (upd H4 D (.lst (acc ++ [y]))) else Nx H3)
theorem s_lcS {g : TG} {tt : TT} {vs : List Nat} (h : ta σ H fun v H1 => ∃ z, v = .str z ∧ LC (Its z) g tt te vs σ H1 Q) : tLc (iStr ta) g tt te vs σ H Q := h
theorem s_lcR {g : TG} {tt : TT} {vs : List Nat} {tr : TA} (h : tr σ H fun ws H1 => ∃ j : Int, ws = [.int j] ∧ -(2 ^ 62) ≤ j ∧ j < 2 ^ 62 ∧ LC (Itr 0 j.toNat) g tt te vs σ H1 Q) : tLc (iRng1 tr) g tt te vs σ H Q := h
theorem s_strE {R : Str → Prop} {z : Str} (h : R z) : ∃ y, V.str z = .str y ∧ R y := ⟨z, rfl, h⟩
end
end L3
end
section
local macro_rules | `(tactic| tm_at "s1") => `(tactic| first
  | with_reducible first
    | refine L3.s_seq ?_ | refine L3.s_asg ?_ | refine L3.s_op ?_ | refine L3.s_c ?_ | refine L3.s_cb ?_ | refine L3.s_cons ?_ | refine L3.s_nil ?_ | refine L3.s_test ?_ | refine L3.s_bl ?_
    | refine L3.s_I0 ?_ | refine L3.s_and ?_ | refine L3.s_or ?_ | refine L3.s_not ?_ | refine L3.s_if ?_ | refine L3.s_next ?_ | refine L3.s_ret ?_ | refine L3.s_retN ?_ | refine L3.s_asgS ?_ | refine L3.s_drop ?_
    | refine L3.s_un ?_ | refine L3.s_U ?_ | refine L3.s_int ?_ | refine L3.s_intB ?_ | refine L3.s_abs ?_ | refine L3.s_andV ?_ | refine L3.s_orV ?_ | refine L3.s_notV ?_ | refine L3.s_ifE ?_ | refine L3.s_call ?_ | refine L3.s_lst ?_ | refine L3.s_tup ?_ | refine L3.s_tB ?_
    | refine L3.s_addI ?_ | refine L3.s_inS ?_ | refine L3.s_ninS ?_ | refine L3.s_slice ?_ | refine L3.s_part ?_ | refine L3.s_partI ?_ | refine L3.s_nopart ?_ | refine L3.s_cI ?_ | refine L3.s_cB ?_ | refine L3.s_chain ?_ | refine L3.s_bm ?_ | refine L3.s_lcS ?_ | refine L3.s_lcR ?_ | refine L3.s_strE ?_
    | refine L2.iteT ?_ | refine L2.iteF ?_ | refine L3.iteNF ?_ | refine L3.iteNT ?_
    | refine L3.s_eqI ?_ | refine L3.s_neI ?_ | refine L3.s_eqS ?_ | refine L3.s_neS ?_
    | refine L3.s_pair ?_ | refine L3.s_pair2 ?_ | refine L3.s_fld ?_ | refine L3.s_make ?_ | refine L3.s_m1 ?_ | refine L3.s_isstr ?_
    | refine L3.s_isN ?_ | refine L3.s_isB ?_ | refine L3.s_nisN ?_ | refine L3.s_nisB ?_
  | ((with_reducible refine' L3.s_var ?e ?_); (case e => rfl))
  | ((with_reducible refine' L3.s_pow ?c ?_); (case c => exact ⟨by decide, by decide, by decide⟩)))
local macro_rules | `(tactic| tm_at "s") => `(tactic| repeat tm_at "s1")
namespace L3
open PySem PySem.Spec PyProof.Rows L2
theorem mulL {i j : Int} (h : -(2 ^ 64) < i ∧ i < 2 ^ 64) : IntMulOk i j := CMul.ok (.inl h)
def spDraw : Sp := fun vs H Q _ => ∃ a n many, vs = [.ref a, .int many] ∧ 0 < many ∧ many.natAbs < 2 ^ 8000 ∧ Pen H a n ∧ n < lim ∧
  ∀ (d : Int) (H' : Hp), 0 ≤ d → d < many → Pen H' a (n + 1) → (∀ b o, b ≠ a → H b = some o → H' b = some o) → Q (.int d) H'
abbrev rSub : R2 := rI0 fun i j => V.int (i - j)
abbrev rMod : R2 := rI (fun _ j => 0 < j) fun i j => V.int (i % j)
abbrev rDivW : R2 := rI CDivW fun i j => V.int (i / j)
abbrev rPow : R2 := rI CPow fun i j => V.int (i ^ j.toNat)
abbrev t1 (r : List V → Hp → VK → Prop) (te : TE) : TE := tCB r (tCons te tNil)
abbrev tI (i : Int) : TE := tC (.int i)
def tDraw (K : PySem.W.Frag) (c1 c2 c3 c4 c5 c6 c7 c8 c9 c10 : Int) : TS :=
  tSeq (tIfS (tTest (tOp (rI0 fun i j => V.bl (decide (j < i))) (tOp (rIxU K) (tVar 0) (tI 2)) (tI 0)))
    (tSeq (tAsg (tOp rMod (t1 (rIntU K) (tOp (rIxU K) (tVar 0) (tI 2))) (tVar 1)) (gName 2))
    (tSeq (tAsg (tOp rDivW (t1 (rIntU K) (tOp (rIxU K) (tVar 0) (tI 2))) (tVar 1)) (gSub (tVar 0) (tI 2) rSetL))
      (tRet (tVar 2)))) tNext)
  (tSeq (tAsg (tOp (rIxU K) (tVar 0) (tI 1)) (gName 3))
  (tSeq (tAsg (tOp rAddU (tVar 3) (tI 1)) (gSub (tVar 0) (tI 1) rSetL))
  (tSeq (tAsg (tOp rAddU (tOp rMulU (tI c1) (tVar 3)) (tI c2)) (gName 4))
  (Evl.tCut (tIfS (tTest (tOp (rNeU K) (tOp (rIxU K) (tVar 0) (tI 0)) (tLst tNil)))
    (tAsg (tOp (rIxU K) (tOp (rIxU K) (tVar 0) (tI 0)) (tOp rMod (t1 (rIntU K) (tVar 3)) (t1 (rLen1 K) (tOp (rIxU K) (tVar 0) (tI 0))))) (gName 4)) tNext)
  (tSeq (tIfS (tAnd (tTest (tOp (rI0 fun i j => V.bl (decide (i < j))) (tVar 3) (t1 (rLen1 K) (tOp (rIxU K) (tVar 0) (tI 0))))) (tTest (tOp (rI0 fun i j => V.bl (decide (j ≤ i))) (t1 rAbs1 (tVar 4)) (tOp rPow (tI 10) (tI 18)))))
    (tSeq (tAsg (tOp rAddU (tOp rMulU (tI 2) (tOp rSub (t1 rAbs1 (tVar 4)) (tOp rPow (tI 10) (tI 18)))) (t1 (rIntU K) (tOp (rI0 fun i j => V.bl (decide (i < j))) (tVar 4) (tI 0)))) (gName 5))
    (tSeq (tAsg (tOp rDivW (t1 (rIntU K) (tVar 5)) (tVar 1)) (gSub (tVar 0) (tI 2) rSetL))
      (tRet (tOp rMod (t1 (rIntU K) (tVar 5)) (tVar 1))))) tNext)
  (tSeq (tAsg (tOp rMod (t1 (rIntU K) (tOp rPow (tOp rAddU (tOp rAddU (tOp rMod (t1 (rIntU K) (tVar 4)) (tI c3)) (tOp rMulU (tI c4) (tVar 3))) (tI c5)) (tI 5))) (tI c6)) (gName 6))
  (tSeq (tAsg (tOp rMod (t1 (rIntU K) (tOp rPow (tOp rAddU (tOp rAddU (tOp rMulU (tVar 6) (tOp rAddU (tOp rMulU (tI 2) (tVar 3)) (tI c7))) (tOp rMulU (tOp rMulU (tI c8) (tVar 3)) (tVar 3))) (tI c9)) (tI 3))) (tI c10)) (gName 6))
    (tRet (tOp rMod (t1 (rIntU K) (tOp rDivW (tVar 6) (tI 32))) (tVar 1))))))))))
structure DrawC (c1 c2 c3 c4 c5 c6 c7 c8 c9 c10 : Int) : Prop where
  h1 : 0 ≤ c1 ∧ c1 < 1000000
  h3 : 0 < c3 ∧ c3 < 4294967296
  h4 : 0 ≤ c4 ∧ c4 < 1000000
  h5 : 0 ≤ c5 ∧ c5 < 1000000
  h6 : 0 < c6 ∧ c6 < 4294967296
  h7 : 0 ≤ c7 ∧ c7 < 1000000
  h8 : 0 ≤ c8 ∧ c8 < 1000000
  h9 : 0 ≤ c9 ∧ c9 < 1000000
  h10 : 0 < c10 ∧ c10 < 4294967296
theorem shInts (ns : List Int) : SeqAt.shaped (.list (ns.map PyData.int)) = true := by
  have h1 : ∀ l : List Int, PyData.canLayAll0 (l.map PyData.int) = true := by
    intro l
    induction l with
    | nil => rfl
    | cons x r ih => rw [List.map_cons]; unfold PyData.canLayAll0; rw [ih]; rfl
  have h2 : ∀ l : List Int, PyData.depthAll (l.map PyData.int) = 0 := by
    intro l
    induction l with
    | nil => rfl
    | cons x r ih => rw [List.map_cons]; unfold PyData.depthAll; rw [ih]; rfl
  unfold SeqAt.shaped PyData.canLay0 PyData.depth
  rw [h1, h2]; decide
theorem atI_int {α : Type} {xs : List α} {i : Int} (h0 : 0 ≤ i) (h : i < xs.length) : atI xs i = xs[i.toNat]? := by
  unfold atI ixN
  rw [if_pos h0, if_pos h]
  rfl
theorem natAbs_lt {x : Int} {k : Nat} (h0 : 0 ≤ x) (h : x < k) : x.natAbs < k := by omega
theorem rd_draw {K : PySem.W.Frag} {c1 c2 c3 c4 c5 c6 c7 c8 c9 c10 : Int} (C : DrawC c1 c2 c3 c4 c5 c6 c7 c8 c9 c10) {a c : Addr} {n : Nat} {many : Int} {ns : List Int} {H : Hp} {Q : VK} {Nn : L2.St → Hp → Prop} {B1 B2 : L2.St → Hp → Prop}
    (hm : 0 < many) (hm2 : many.natAbs < 2 ^ 8000) (ha : H a = some (PenO a c n)) (hc : H c = some (.lst (ns.map V.int))) (hn : n < lim) (hl : ns.length ≤ 63)
    (k : ∀ (d : Int) (H' : Hp), 0 ≤ d → d < many → (H' a = some (PenO a c (n + 1)) ∧ H' c = some (.lst (ns.map V.int))) → (∀ b o, b ≠ a → H b = some o → H' b = some o) → Q (.int d) H') :
    tPen a c n (n + 1) (tDraw K c1 c2 c3 c4 c5 c6 c7 c8 c9 c10) { nx := Nn, rt := Q, bk := B1, ct := B2 } [some (.ref a), some (.int many), none, none, none, none, none] H := by
  refine ⟨ha, fun spot rest h0 h1 => ?_⟩
  have nca : c ≠ a := fun z => by rw [z, ha] at hc; cases hc
  have fin : ∀ (d spot' rest' : Int) (H1 : Hp), 0 ≤ d → d < many → 0 ≤ spot' → spot' ≤ n + 1 → H1 a = some (.lst [.ref c, .int spot', .int rest']) → (∀ b o, b ≠ a → H b = some o → H1 b = some o) → penBack a c (n + 1) (Q (.int d)) H1 := by
    intro d sp re H1 d0 d1 s0 s1 e q
    exact ⟨sp, re, e, s0, by omega, k d _ d0 d1 ⟨upd_same, by rw [upd_ne nca]; exact q c _ nca hc⟩ (fun b o hb => by rw [upd_ne hb]; exact q b o hb)⟩
  unfold tDraw
  tm_at "s"
  refine s_iL upd_same rfl ?_
  tm_at "s"
  refine iteD (fun hpos => ?_) (fun _ => ?_)
  · tm_at "s"
    refine s_iL upd_same rfl ?_
    tm_at "s"
    refine s_I hm ?_
    tm_at "s"
    refine s_iL upd_same rfl ?_
    tm_at "s"
    refine s_I (wide_div hm hm2 (by decide) (by decide)) ?_
    tm_at "s"
    refine s_setL upd_same rfl ?_
    tm_at "s"
    exact fin _ spot _ _ (Int.emod_nonneg _ (by omega)) (Int.emod_lt_of_pos _ hm) h0 (by omega) upd_same (fun b o hb hh => by rw [upd_ne hb, upd_ne hb]; exact hh)
  · tm_at "s"
    refine s_iL upd_same rfl ?_
    tm_at "s"
    refine s_setL upd_same rfl ?_
    have hs : (spot : Int) ≤ 1000000 := by unfold lim at hn; omega
    tm_at "s"
    refine s_mulI (mulL ⟨by have := C.h1; omega, by have := C.h1; omega⟩) ?_
    tm_at "s"
    refine s_cut (M := fun σ' H' => ∃ cell : Int, σ' = [some (.ref a), some (.int many), none, some (.int spot), some (.int cell), none, none] ∧ H' a = some (.lst [.ref c, .int (spot + 1), .int rest]) ∧ ∀ b o, b ≠ a → H b = some o → H' b = some o) ?_ ?_
    · tm_at "s"
      refine s_iL upd_same rfl ?_
      tm_at "s"
      refine s_new (by decide) fun p H2 hp e2 h2 => ?_
      have a2 : H2 a = some (.lst [.ref c, .int (spot + 1), .int rest]) := e2 _ _ upd_same
      have k2 : ∀ b o, b ≠ a → H b = some o → H2 b = some o := fun b o hb hh => e2 _ _ (by rw [upd_ne hb, upd_ne hb]; exact hh)
      have c2 := k2 c _ nca hc
      clear hp e2
      refine s_neD' (.lst (.inl (.inl c2)) (dpInts ns)) (.lst (.inl (.inl h2)) .nil) (shInts ns) rfl ?_
      tm_at "s"
      refine iteB (fun hne => ?_) (fun _ => ?_)
      · tm_at "s"
        refine s_iL a2 rfl ?_
        tm_at "s"
        refine s_iL a2 rfl ?_
        tm_at "s"
        refine s_lenL c2 ?_
        rw [List.length_map]
        have hns : 0 < ns.length := by
          cases ns with
          | nil => exact absurd hne (by decide)
          | cons x r => exact Nat.succ_pos _
        refine s_I (by omega) ?_
        have hx : spot % (ns.length : Int) < ns.length := Int.emod_lt_of_pos _ (by omega)
        have hx0 : 0 ≤ spot % (ns.length : Int) := Int.emod_nonneg _ (by omega)
        have hxn : (spot % (ns.length : Int)).toNat < ns.length := by omega
        refine s_iL c2 (v := .int (ns[(spot % (ns.length : Int)).toNat]'hxn)) ?_ ?_
        · rw [atI_int hx0 (by rw [List.length_map]; exact hx), List.getElem?_map, List.getElem?_eq_getElem hxn]
          rfl
        · exact ⟨_, rfl, a2, k2⟩
      · tm_at "s"
        exact ⟨_, rfl, a2, k2⟩
    · rintro σ' H2 ⟨cell, rfl, a2, k2⟩
      have c2 := k2 c _ nca hc
      have main : (tSeq (tAsg (tOp rMod (t1 (rIntU K) (tOp rPow (tOp rAddU (tOp rAddU (tOp rMod (t1 (rIntU K) (tVar 4)) (tI c3)) (tOp rMulU (tI c4) (tVar 3))) (tI c5)) (tI 5))) (tI c6)) (gName 6))
          (tSeq (tAsg (tOp rMod (t1 (rIntU K) (tOp rPow (tOp rAddU (tOp rAddU (tOp rMulU (tVar 6) (tOp rAddU (tOp rMulU (tI 2) (tVar 3)) (tI c7))) (tOp rMulU (tOp rMulU (tI c8) (tVar 3)) (tVar 3))) (tI c9)) (tI 3))) (tI c10)) (gName 6))
            (tRet (tOp rMod (t1 (rIntU K) (tOp rDivW (tVar 6) (tI 32))) (tVar 1)))))
          { nx := fun σ' => penBack a c (n + 1) (Nn σ'), rt := fun v => penBack a c (n + 1) (Q v), bk := fun σ' => penBack a c (n + 1) (B1 σ'), ct := fun σ' => penBack a c (n + 1) (B2 σ') }
          [some (.ref a), some (.int many), none, some (.int spot), some (.int cell), none, none] H2 := by
        have hc3 := C.h3; have hc4 := C.h4; have hc5 := C.h5; have hc6 := C.h6; have hc7 := C.h7; have hc8 := C.h8; have hc9 := C.h9; have hc10 := C.h10
        tm_at "s"
        refine s_I hc3.1 ?_
        tm_at "s"
        refine s_mulI (mulL ⟨by omega, by omega⟩) ?_
        tm_at "s"
        have e1 : 0 ≤ cell % c3 := Int.emod_nonneg _ (by omega)
        have e2 : cell % c3 < c3 := Int.emod_lt_of_pos _ hc3.1
        have e3 : 0 ≤ c4 * spot := Int.mul_nonneg hc4.1 h0
        have e4 : c4 * spot ≤ 1000000 * 1000000 := Int.mul_le_mul (by omega) hs h0 (by decide)
        refine s_pow ⟨by decide, by decide, ?_⟩ ?_
        · exact natAbs_lt (by omega) (by show _ < ((2 ^ 64 : Nat) : Int); omega)
        tm_at "s"
        refine s_I hc6.1 ?_
        generalize hg : ((cell % c3 + c4 * spot + c5) ^ (Int.toNat 5)) % c6 = g
        have g0 : 0 ≤ g := by rw [← hg]; exact Int.emod_nonneg _ (by omega)
        have g1 : g < c6 := by rw [← hg]; exact Int.emod_lt_of_pos _ hc6.1
        tm_at "s"
        refine s_mulI (mulL (by decide)) ?_
        tm_at "s"
        refine s_mulI (mulL ⟨by omega, by omega⟩) ?_
        tm_at "s"
        refine s_mulI (mulL ⟨by omega, by omega⟩) ?_
        have f3 : 0 ≤ c8 * spot := Int.mul_nonneg hc8.1 h0
        have f4 : c8 * spot ≤ 1000000 * 1000000 := Int.mul_le_mul (by omega) hs h0 (by decide)
        tm_at "s"
        refine s_mulI (mulL ⟨by omega, by omega⟩) ?_
        have f5 : 0 ≤ c8 * spot * spot := Int.mul_nonneg f3 h0
        have f6 : c8 * spot * spot ≤ 1000000 * 1000000 * 1000000 := Int.mul_le_mul f4 hs h0 (by decide)
        have f7 : 0 ≤ g * (2 * spot + c7) := Int.mul_nonneg g0 (by omega)
        have f8 : g * (2 * spot + c7) ≤ 4294967296 * 3000000 := Int.mul_le_mul (by omega) (by omega) (by omega) (by decide)
        tm_at "s"
        refine s_pow ⟨by decide, by decide, ?_⟩ ?_
        · exact natAbs_lt (by omega) (by show _ < ((2 ^ 64 : Nat) : Int); omega)
        tm_at "s"
        refine s_I hc10.1 ?_
        tm_at "s"
        refine s_I (wide_div (b := 64) (by decide) (by decide) (by decide) (by decide)) ?_
        tm_at "s"
        refine s_I hm ?_
        exact fin _ (spot + 1) rest _ (Int.emod_nonneg _ (by omega)) (Int.emod_lt_of_pos _ hm) (by omega) (by omega) a2 k2
      tm_at "s"
      refine s_iL a2 rfl ?_
      tm_at "s"
      refine s_lenL c2 ?_
      tm_at "s"
      refine iteD (fun _ => ?_) (fun _ => ?_)
      · tm_at "s"
        refine iteD (fun hbig => ?_) (fun _ => ?_)
        · tm_at "s"
          refine s_mulI (mulL (by decide)) ?_
          tm_at "s"
          refine s_I (wide_div hm hm2 (by decide) (by decide)) ?_
          tm_at "s"
          refine s_setL a2 rfl ?_
          tm_at "s"
          refine s_I hm ?_
          exact fin _ (spot + 1) _ _ (Int.emod_nonneg _ (by omega)) (Int.emod_lt_of_pos _ hm) (by omega) (by omega) upd_same (fun b o hb hh => by rw [upd_ne hb]; exact k2 b o hb hh)
        · exact main
      · refine iteF ?_
        exact main
theorem rd_drawS {K : PySem.W.Frag} {c1 c2 c3 c4 c5 c6 c7 c8 c9 c10 : Int} (C : DrawC c1 c2 c3 c4 c5 c6 c7 c8 c9 c10) {a c : Addr} {n : Nat} {many : Int} {ns : List Int} {H : Hp} {Q : VK} {Nn : L2.St → Hp → Prop} {B1 B2 : L2.St → Hp → Prop}
    (hm : 0 < many) (hm2 : many.natAbs < 2 ^ 8000) (ha : H a = some (PenO a c n)) (hc : H c = some (ScO c ns)) (hn : n < lim) (hl : ns.length ≤ 63 ∧ c ≠ a)
    (k : ∀ (d : Int) (H' : Hp), 0 ≤ d → d < many → Pen H' a (n + 1) → (∀ b o, b ≠ a → H b = some o → H' b = some o) → Q (.int d) H') :
    tSc c ns (tPen a c n (n + 1) (tDraw K c1 c2 c3 c4 c5 c6 c7 c8 c9 c10)) { nx := Nn, rt := Q, bk := B1, ct := B2 } [some (.ref a), some (.int many), none, none, none, none, none] H := by
  refine ⟨hc, rd_draw C hm hm2 (by rw [upd_ne (Ne.symm hl.2)]; exact ha) upd_same hn hl.1 fun d H' d0 d1 ⟨p1, p2⟩ q => ?_⟩
  refine ⟨p2, k d _ d0 d1 ⟨c, ns, by rw [upd_ne (Ne.symm hl.2)]; exact p1, upd_same, hl⟩ fun b o hb ho => ?_⟩
  by_cases hbc : b = c
  · subst hbc
    rw [upd_same, ← hc]; exact ho
  · rw [upd_ne hbc]
    exact q b o hb (by rw [upd_ne hbc]; exact ho)
end L3
end
section
namespace L3
open PySem PySem.Spec PyProof.Rows L2 PySem.NumText
theorem str_ext {a b : Str} (h : a.cps.toList = b.cps.toList) : a = b := by
  cases a; cases b
  have := Array.ext' h
  cases this; rfl
theorem len_codes (z : Str) : z.cps.toList.length = z.length := Array.length_toList
def strOf (n : Int) : Str := Str.ofString (toString n)
theorem strOf_nat (n : Nat) : (strOf (n : Int)).cps.toList = TL.numL n := TL.tl_num n
theorem ofString_codes (s : String) : (Str.ofString s).cps.toList = s.toList.map Char.toNat := by
  rw [Str.ofString_eq_toList]
theorem strOf_neg {m : Nat} (h : 0 < m) : (strOf (-(m : Int))).cps.toList = 45 :: TL.numL m := by
  obtain ⟨k, rfl⟩ : ∃ k, m = k + 1 := ⟨m - 1, by omega⟩
  have e : toString (-((k + 1 : Nat) : Int)) = "-" ++ toString (((k + 1 : Nat) : Int)) := rfl
  unfold strOf
  rw [e, ofString_codes, String.toList_append, List.map_append, ← ofString_codes, ← ofString_codes]
  show [45] ++ _ = _
  have := strOf_nat (k + 1)
  unfold strOf at this
  rw [this]
  rfl
end L3
end
section
namespace L3
open PySem PySem.Spec PyProof.Rows L2 LamX
theorem pen_heap (a c : Addr) (n : Nat) : ∃ h : Heap, (∃ (spot rest : Int) (t u : Tok) (k : Nat), h.get? a = some { cls := .type "list", data := .seq #[.ref c, .int spot t, .int rest u] k } ∧ 0 ≤ spot ∧ spot ≤ n) ∧
    ∀ b o, h.get? b = some o → o.cls = .type "list" ∧ ∀ vs, o.data ≠ .fields vs := by
  let ob : Obj := { cls := .type "list", data := .seq #[.ref c, .int 0 0, .int 0 0] 0 }
  refine ⟨{ objs := Array.replicate (a + 1) ob }, ⟨0, 0, 0, 0, 0, ?_, by decide, by omega⟩, fun b o e => ?_⟩
  · unfold Heap.get?
    have : (Array.replicate (a + 1) ob)[a]? = some ob := by simp
    show (match (Array.replicate (a + 1) ob)[a]? with | some ⟨_, _, .freed, _⟩ => none | o => o) = _
    rw [this]
  · unfold Heap.get? at e
    have q : (Array.replicate (a + 1) ob)[b]? = none ∨ (Array.replicate (a + 1) ob)[b]? = some ob := by
      by_cases h : b < a + 1
      · right; simp [h]
      · left; exact Array.getElem?_eq_none (by rw [Array.size_replicate]; exact Nat.le_of_not_lt h)
    change (match (Array.replicate (a + 1) ob)[b]? with | some ⟨_, _, .freed, _⟩ => none | o => o) = some o at e
    rcases q with q | q
    · rw [q] at e; cases e
    · rw [q] at e; cases e
      exact ⟨rfl, fun vs z => nomatch z⟩
theorem codeO_pen {k a c : Addr} {n : Nat} {q : Str} : CodeO k q ≠ PenO a c n := fun e => by
  unfold CodeO PenO at e
  injection e with e
  obtain ⟨h, h1, h2⟩ := pen_heap a c n
  rw [← congrFun e h] at h1
  obtain ⟨o, vs, _, g1, g2, _⟩ := h1
  exact (h2 _ _ g1).2 vs g2
/-- the pen stands, so do the tables -/
structure Wo (T : List (Addr × Str)) (H : Hp) (a : Addr) (n : Nat) : Prop where
  pen : Pen H a n
  tabs : Tabs T H
/-- an object that is told otherwise than a pen does not lie at the pen's place -/
theorem Pen.ne {H : Hp} {a : Addr} {n : Nat} (p : Pen H a n) {b : Addr} {o : HO} (h : H b = some o) (d : ∀ c n, o ≠ PenO a c n) : b ≠ a := fun z => by
  obtain ⟨c, ns, ha, _⟩ := p
  rw [z, ha] at h
  exact d c n (Option.some.inj h).symm
theorem Wo.keep {T : List (Addr × Str)} {H H' : Hp} {a : Addr} {n m : Nat} (w : Wo T H a n) (p : Pen H' a m) (k : ∀ b o, b ≠ a → H b = some o → H' b = some o) : Wo T H' a m := by
  refine ⟨p, fun t ht => ?_⟩
  obtain ⟨ps, h1, h2, h3⟩ := w.tabs t ht
  refine ⟨ps, k _ _ (w.pen.ne h1 fun c n z => by unfold PenO at z; cases z) h1, h2, fun pos cv hc => ?_⟩
  obtain ⟨c, e1, e2⟩ := h3 pos cv hc
  exact ⟨c, e1, k _ _ (w.pen.ne e2 fun _ _ => codeO_pen) e2⟩
theorem Wo.ex {T : List (Addr × Str)} {H H' : Hp} {a : Addr} {n : Nat} (w : Wo T H a n) (k : Ex H H') : Wo T H' a n := by
  obtain ⟨c, ns, h1, h2, h3⟩ := w.pen
  exact ⟨⟨c, ns, k _ _ h1, k _ _ h2, h3⟩, w.tabs.ext k⟩
theorem Xt.refl (a : Addr) (H : Hp) : Xt a H H := fun _ _ _ _ h => h
theorem Xt.trans {a : Addr} {H H1 H2 : Hp} (x : Xt a H H1) (y : Xt a H1 H2) : Xt a H H2 := fun b o h1 h2 h => y b o h1 h2 (x b o h1 h2 h)
theorem Xt.of {a : Addr} {H H' : Hp} (k : ∀ b o, b ≠ a → H b = some o → H' b = some o) : Xt a H H' := fun b o h _ e => k b o h e
def tPenNew (t : TS) : TS := fun D σ H => t { D with rt := fun v H' => ∃ p c rest ns, v = .ref p ∧ H' p = some (.lst [.ref c, .int 0, .int rest]) ∧ H' c = some (.lst ((ns : List Int).map V.int)) ∧ c ≠ p ∧ D.rt v (upd (upd H' p (PenO p c 0)) c (ScO c ns)) } σ H
theorem pss_penNew {X : Cx} {sts : List Stmt} {t : TS} (h : PSs X sts t) : PSs X sts (tPenNew t) := by
  refine ⟨fun pins s σ H D I hw => thn (h.run pins s σ H _ I hw) fun f s' q => ?_⟩
  match f, q with
  | .next, q => exact q
  | .brk, q => exact q
  | .cont, q => exact q
  | .ret u, q =>
    obtain ⟨v, σ', H', I', r, p, c, rest, ns, e, hp, hc, hn, z⟩ := q
    exact ⟨v, σ', _, Inv.scClose (Inv.penClose I' hp (Int.le_refl 0) (Int.le_refl 0)) (by rw [upd_ne hn]; exact hc), r, z⟩
def spPen (K : PySem.W.Frag) : Sp := fun vs H Q _ => ∃ a ns, vs = [.ref a] ∧ SqL K H a (ns.map V.int) ∧ (ns : List Int).length ≤ 63 ∧ ∀ p H', H p = none → Ex H H' → Pen H' p 0 → Q (.ref p) H'
def spPick : Sp := fun vs H Q _ => ∃ a l n xs, vs = [.ref a, .ref l] ∧ H l = some (.lst xs) ∧ xs ≠ [] ∧ xs.length ≤ 100000 ∧ Pen H a n ∧ n < lim ∧
  ∀ v H', v ∈ xs → Pen H' a (n + 1) → (∀ b o, b ≠ a → H b = some o → H' b = some o) → Q v H'
end L3
end
section
namespace L3
open PySem PySem.Spec PyProof.Rows L2
end L3
end
section
namespace L3
open PySem PySem.Spec PyProof.Rows L2
variable {K : PySem.W.Frag} {σ : L2.St} {H : Hp} {te : TE} {Q : VK}
def flatD : V → PyData
  | .int i => .int i
  | .bl b => .bool b
  | .str z => .str z
  | _ => .none
def fitF : V → Bool
  | .int i => decide (i.natAbs.log2 < 1920)
  | .bl _ => true
  | .non => true
  | _ => false
theorem len_app (a b : Str) : (a ++ b).length = a.length + b.length := by
  rw [← len_codes, ← len_codes, ← len_codes]
  show (a.cps ++ b.cps).toList.length = _
  rw [Array.toList_append, List.length_append]
theorem strOf_len {i : Int} {k : Nat} (hk : 0 < k) (h : i.natAbs < 10 ^ k) : (strOf i).length ≤ k + 1 := by
  by_cases h0 : 0 ≤ i
  · obtain ⟨m, rfl⟩ := Int.eq_ofNat_of_zero_le h0
    have e := strOf_nat m
    have hl := TL.numL_len (n := m) (k := k) hk (by simpa using h)
    rw [← len_codes, e]; omega
  · obtain ⟨m, rfl⟩ : ∃ m : Nat, i = -(m : Int) := ⟨i.natAbs, by omega⟩
    have e := strOf_neg (m := m) (by omega)
    have hl := TL.numL_len (n := m) (k := k) hk (by simpa using h)
    rw [← len_codes, e, List.length_cons]; omega
theorem log_big {n : Nat} (h : n.log2 < 1920) : n < 10 ^ 1000 := by
  by_cases h0 : n = 0
  · rw [h0]; exact Nat.pow_pos (by decide)
  · rw [Nat.log2_lt h0] at h
    refine Nat.lt_of_lt_of_le h ?_
    have e : 2 ^ 1920 = (2 ^ 96) ^ 20 := by rw [← Nat.pow_mul]
    have e' : 10 ^ 1000 = (10 ^ 50) ^ 20 := by rw [← Nat.pow_mul]
    rw [e, e']
    exact Nat.pow_le_pow_left (by decide) 20
theorem fit_shown {x : V} (h : fitF x = true) : (flatD x).shown.length ≤ 1001 := by
  cases x with
  | int i => exact strOf_len (by decide) (log_big (of_decide_eq_true h))
  | bl b => show (if b then Str.ofString "True" else "False").length ≤ _; cases b <;> decide
  | non => show (Str.ofString "None").length ≤ _; decide
  | _ => cases h
end L3
end
section
namespace L3
open PySem PySem.Spec PyProof.Rows L2
/-- what the written part says of the class C, its __init__ at f with the code object cda and the cell cc -/
structure SupF (P : Program) (K : PySem.W.Frag) (mg : Str → Option Value) (C f cda cc : Addr) (scope : Scope) : Prop where
  oex : OexC K C
  cell : ∃ cl cld csl, K.lookup cc = some ⟨cl, cld, .cell (some (.ref C)), csl⟩
  code : ∃ ccl cdd vs ccs file tf, K.lookup cda = some ⟨ccl, cdd, .fields vs, ccs⟩ ∧ vs[2]? = some (.str file tf) ∧ ((P.main.file : Str) == file) = true
  mro : PySem.W.mroIn K C (.ref C) = some true
  noS : mg "super" = none
  top : (P.main.scope.names.lookup ("super" : Str)).isSome = false
  opq : PySem.W.nsIn K cStatics "thirdparty.any" = some none
  sup : PySem.W.ks_superIn K C C "__init__" = some (some (.builtin "ValueError.__init__"))
  sub : PySem.W.subIn K (.ref C) (.type "ValueError") = some true
  sSup : scope.names.lookup ("super" : Str) = some .globalImplicit
  sCls : scope.names.lookup ("__class__" : Str) = some .free
def supF (qual : Str) (params : Arguments) (body : List Stmt) (scope : Scope) (cc cda : Addr) : NdefX.NF := ⟨"__init__", qual, params, body, scope, [("__class__", cc)], cda⟩
theorem okSup {P : Program} {w : World} {K : PySem.W.Frag} {mg : Str → Option Value} {base : Heap} {CX : CXT} {k : Nat} {C f cda cc : Addr} {qual msg : Str} {params : Arguments} {rest : List Stmt} {scope : Scope} {kV doc pm ct oc : Value} {an od : Option Addr} {osl : Array (Option Value)} {N ps : List Str} {sp : Sp}
    {p0 p1 p2 p3 p4 p5 : Pos} {j : Nat} {ar : Arg} {body : List Stmt}
    (hbd : body = .Expr (.Call (.Attribute (.Call (.Name "super" p0) [] [] p1) "__init__" p2) [.Constant (.str msg) j p3] [] p4) p5 :: rest)
    (lk : K.lookup f = some ⟨oc, od, .func (PySem.W.fnX "__init__" qual params body scope [("__class__", cc)] .none kV doc pm an (.ref cda) ct), osl⟩) (hcd : PySem.W.codeIn K (.ref cda) qual = true)
    (T : SupF P K mg C f cda cc scope) (S : NdefX.NScope N ps ["__class__"] scope) (hp : (params.posonlyargs ++ params.args).head? = some ar) (hps : ps.head? = some ar.arg) (hN0 : N[0]? = some ar.arg) (hna : scope.names.lookup ar.arg = some .local)
    (hev : ∀ env : Env, env.scope = scope → ∃ pl, eval (.Call (.Attribute (.Call (.Name "super" p0) [] [] p1) "__init__" p2) [.Constant (.str msg) j p3] [] p4) env = (do
      let ov ← attributeBase (.Call (.Name "super" p0) [] [] p1) "__init__" env (eval (.Call (.Name "super" p0) [] [] p1) env)
      standAt p2.atName
      let (f, first) ← holding [ov] (getMethod ov "__init__" pl)
      callWith p4 f first (backTo p4 (starEach [.Constant (.str msg) j p3] env)) []))
    (len : ∀ vs H Q E, sp vs H Q E → vs.length = ps.length)
    (run : ∀ (A : Around) (outer : List Env) (s : Shared) (H : Hp) (vs : List V) (Q : VK) (E : XK), Room k (A.deeper (NdefX.envF (supF qual params body scope cc cda) f s.heap.objs.size)) → sp vs H Q E →
      ∃ a ws, vs = .ref a :: ws ∧ H a = some (exo a C none) ∧ ∃ t, PSs (NdefX.ncx CX P w K mg base N (supF qual params body scope cc cda) f A outer s H E) rest t ∧ t { nx := fun _ H' => Q .non H', rt := Q } (NdefX.startF N vs [some (.ref C)]) H) :
    FnOk P w K mg base CX (k + 1) f (PySem.W.fnX "__init__" qual params body scope [("__class__", cc)] .none kV doc pm an (.ref cda) ct) ps sp := by
  refine ⟨len, fun A outer s H args us vs Q E hr e0 hb r h => ?_⟩
  have KX : K.In s.heap := e0.mod.kin.keeps fun b o e => (e0.bs b o e).1
  have lim : s.heap.NoLimit := e0.mod.nolimit.keeps fun b o e => (e0.bs b o e).1
  obtain ⟨cl, cld, csl, hcell⟩ := T.cell
  have hl := len _ _ _ _ h
  have cells : NdefX.CellsAt [("__class__", cc)] ["__class__"] [some (.ref C)] s.heap H := by
    have hkb := e0.mod.kin _ _ hcell
    have look : ∀ {y c}, List.lookup y [(("__class__" : Str), cc)] = some c → y = "__class__" ∧ c = cc := fun {y c} e => by
      rw [List.lookup_cons] at e
      by_cases hy : y == ("__class__" : Str)
      · rw [hy] at e; exact ⟨beq_iff_eq.mp hy, (Option.some.inj e).symm⟩
      · rw [Bool.eq_false_iff.mpr hy] at e; cases e
    refine ⟨rfl, fun y c e => ?_, fun x y c e1 e2 => (look e1).1.trans (look e2).1.symm, fun i y hy => ?_⟩
    · rw [(look e).2]
      exact ⟨(e0.bs _ _ hkb).2, _, _, KX _ _ hcell, rfl⟩
    · match i, hy with
      | 0, hy =>
        cases hy
        refine ⟨cc, rfl, fun v hv => ?_⟩
        cases hv
        exact ⟨_, rfl, _, KX _ _ hcell, rfl⟩
  refine PySem.ks_codeAny_call_defAt (fd := PySem.W.fnX "__init__" qual params body scope [("__class__", cc)] .none kV doc pm an (.ref cda) ct) (body := body) hr.depth (KX _ _ lk) rfl lim (PySem.W.codeRec_of KX hcd) rfl hb S.nocell (fun ⟨n, _⟩ hy => S.par n (List.of_mem_zip hy).1) (fun h₁ hns kp => ?_) S.co S.gen S.kind
  obtain ⟨a, ws, hvs, ha, t, ht, hq⟩ := run A outer s H vs Q E (hr.deeper _) h
  have I : Inv (NdefX.ncx CX P w K mg base N (supF qual params body scope cc cda) f A outer s H E) [] (NdefX.startF N vs [some (.ref C)]) H { s with heap := h₁, toks := s.toks + (ps.zip us).length } := NdefX.inv_startN S hr.hd e0 hl r cells hns kp
  subst hbd
  subst hvs
  obtain ⟨nm, q, Nn, bs, bm, sn, sub, ab, col, dd, k0, k1, k2, k3, k5, hC, hbm⟩ := T.oex.cls
  obtain ⟨ccl, cdd, vs2, ccs, file, tf, hcode, hv2, hfile⟩ := T.code
  obtain ⟨t1, hox⟩ := exo_at I.hok ha
  have K1 : K.In h₁ := I.kIn
  obtain ⟨u0, us', rfl, r0, r'⟩ : ∃ u0 us', us = u0 :: us' ∧ RelV (.ref a) u0 ∧ Vals ws us' := by
    cases r with
    | cons r0 r' => exact ⟨_, _, rfl, r0, r'⟩
  obtain rfl : u0 = Value.ref a := r0
  have hps0 : ps[0]? = some ar.arg := by rw [← List.head?_eq_getElem?]; exact hps
  have hv : (ps.zip (Value.ref a :: us')).reverse.lookup ar.arg = some (.ref a) := NdefX.zip_look (i := 0) (by
      have e := S.pre
      have nd := S.nd.sublist (List.take_sublist (ps.length + 1) N)
      rw [show (["__class__"] : List Str).length = 1 from rfl] at e
      rw [e] at nd
      exact (List.nodup_append.mp nd).1) hps0 rfl
  obtain ⟨pl, he⟩ := hev (NdefX.envF (supF qual params [] scope cc cda) f s.heap.objs.size) rfl
  refine PySem.ks_wpAt_execs_cons (PySem.ks_wpAt_Expr_any (PySem.ks_wpAt_MethodCall (pl := pl) ?_ he) (hi := I.quiet))
  refine PySem.ks_wpAt_super_base (f := f) (cc := cda) T.sSup T.sCls (by decide) rfl (K1 _ _ lk) rfl hp rfl (K1 _ _ hcode) rfl hv2 hfile T.top ?_
  have hD : h₁.get? C = some _ := K1 _ _ hC
  obtain ⟨mb, b1, b2⟩ := I.mod.blt
  refine PySem.W.ks_loadName_global S.kind T.sSup (Calls.loadGlobal_builtin (I.mod.glob.keeps I.bk) T.noS (b1.keeps I.bk) ((b2 _ (by decide)).trans (by rfl)) ⟨rfl, ?_⟩)
  refine wpAny_loadName_free S.kind T.sCls rfl ⟨_, K1 _ _ hcell, rfl⟩ ?_
  refine wpAny_loadName_local S.kind hna hns hv ?_
  refine PySem.ks_wpAny_isType_cls hD rfl ⟨rfl, ?_⟩
  refine PySem.ks_wpAny_call_super hD rfl hox rfl (fun c e => nomatch e) (PySem.W.looks_mroIn K1 T.mro) (fun h2 e2 kp2 => ?_)
  have I2 := I.kept (t' := s.toks + (ps.zip (Value.ref a :: us')).length) kp2
  have K2 : K.In h2 := I2.kIn
  have hcl : PySem.W.clsIn K C = some { name := nm, bases := bs, mro := .ref C :: bm, ns := Nn, qualname := q, hasDict := true, slotNames := sn, subclasses := sub, abstract := ab, collection := col, hasDel := false } := by unfold PySem.W.clsIn; rw [hC] <;> rfl
  have hsup := T.sup
  unfold PySem.W.ks_superIn at hsup
  rw [hcl] at hsup
  obtain ⟨t2, ho2⟩ := exo_at I2.hok ha
  have IA : PySem.W.InstAt h2 a _ C none := ⟨ho2, rfl, rfl, trivial⟩
  refine PySem.W.kxs_getMethod PySem.W.kxs_ValueError e2 (PySem.W.looks_opaque K2 T.opq) (l₀ := .ref C :: bm) (fun A Q E s k q => wpAny_bind ((PySem.W.looks_clsIn K2 hcl) A _ E s k (wpAny_pure q))) rfl K2 hsup (IA.type.andThen (PySem.W.looks_subIn K2 T.sub)) (PySem.W.ks_ne K2 IA hcl) (by decide) ?_
  have kp3 : ∀ b o, h2.get? b = some o → (h2.push (PySem.W.kxs_mw "ValueError.__init__" a)).get? b = some o := fun b o e => Heap.get?_push_of_some _ e
  have I3 := I2.kept (t' := s.toks + (ps.zip (Value.ref a :: us')).length + 1) kp3
  have hu : (h2.push (PySem.W.kxs_mw "ValueError.__init__" a)).get? h2.objs.size = some (PySem.W.kxs_mw "ValueError.__init__" a) := Heap.get?_push_at rfl rfl
  generalize h2.push (PySem.W.kxs_mw "ValueError.__init__" a) = h3 at I3 hu ⊢
  generalize h2.objs.size = u at hu ⊢
  refine PySem.W.kxs_callWith (i := "ValueError.__init__") (x := a) rfl (Calls.evalArgs_plain (Calls.spliced_cons (Calls.Constant_str (k := j) (pos := p3) (Calls.spliced_nil ⟨hu, ?_⟩))))
  have I4 := I3.tok (s.toks + (ps.zip (Value.ref a :: us')).length + 1 + 1)
  have K4 : K.In h3 := I4.kIn
  obtain ⟨t4, ho4⟩ := exo_at I4.hok ha
  refine wpAny_call (codeAny_of_tree ?_)
  show wpAny _ _ (callAny (.ref u) ⟨_, []⟩) _ _ _
  simp only [callAny]
  refine wpAny_bind (wpAny_load hu ?_)
  simp only [PySem.W.kxs_mw, show (Value.type "method-wrapper" == Value.type "method" || Value.type "method-wrapper" == Value.type "builtin_function_or_method" || Value.type "method-wrapper" == Value.type "method-wrapper") = true by decide, if_true]
  refine PySem.W.KFB.if_so (by decide) ?_
  refine wpAny_bind (PySem.W.check_bound_init F.excBase_ValueError.toExcCallFacts (K4 _ _ hC) ho4 rfl ?_)
  refine wpAny_bind (wpAny_pure (wpAny_pure ?_))
  refine ⟨plainId_quiet F.excBase_ValueError.init.plain _, codeAny_builtin F.excBase_ValueError.initEntry ?_⟩
  refine PySem.W.exc_init_tree (cls := .ref C) (t0 := t4) (dv := none) (c2 := .none) (c3 := .none) (b4 := .bool false) ho4 (by show 1 ≤ sizeLine; rw [sizeLine_eq]; decide) (fun h5 kp5 hx5 _ => ?_)
  have J := I4.write (t' := s.toks + (ps.zip (Value.ref a :: us')).length + 1 + 1) (x := a) (e := a) (o := exo a C none) (by rw [ha]; exact True.intro) (.inl rfl) kp5 ⟨_, hx5⟩ (exo_ok hx5)
  have eu : upd H a (exo a C none) = H := by
    funext b
    by_cases hb : b = a
    · rw [hb, upd_same, ha]
    · rw [upd_ne hb]
  rw [eu] at J
  refine PySem.wpAt_of_wpAny (wpAny_mono (ht.run [] _ _ H _ J hq) (fun fl s' hs => ?_) fun e s' hs => hs)
  cases fl with
  | ret u =>
    obtain ⟨v, σ', H', J', rv, q⟩ := hs
    exact ⟨v, H', J'.os, J'.bare, J'.base, J'.hok, rv, q⟩
  | next =>
    obtain ⟨σ', H', J', q⟩ := hs
    exact ⟨.non, H', J'.os, J'.bare, J'.base, J'.hok, rfl, q⟩
  | brk =>
    obtain ⟨_, _, _, q⟩ := hs
    exact False.elim q
  | cont =>
    obtain ⟨_, _, _, q⟩ := hs
    exact False.elim q
end L3
namespace L3
open PySem PySem.Spec PyProof.Rows L2
/-- one field, two fields, none -/
def spErr1 (C : Addr) (f : Str) : Sp := fun vs H Q _ => ∃ a v, vs = [.ref a, v] ∧ H a = some (exo a C none) ∧ ∀ dx, H dx = none → dx ≠ a → Q .non (upd (upd H dx (exd dx [(f, v)])) a (exo a C (some dx)))
def spErr2 (C : Addr) (f g : Str) : Sp := fun vs H Q _ => ∃ a v y, vs = [.ref a, v, y] ∧ H a = some (exo a C none) ∧ ∀ dx, H dx = none → dx ≠ a → Q .non (upd (upd (upd H dx (exd dx [(f, v)])) a (exo a C (some dx))) dx (exd dx [(g, y), (f, v)]))
abbrev stSup (msg : Str) (j : Nat) (p0 p1 p2 p3 p4 p5 : Pos) : Stmt := .Expr (.Call (.Attribute (.Call (.Name "super" p0) [] [] p1) "__init__" p2) [.Constant (.str msg) j p3] [] p4) p5
abbrev stFld (f x : Str) (q1 q2 q3 q4 : Pos) : Stmt := .Assign [.Attribute (.Name "self" q1) f q2] (.Name x q3) q4
section
variable {P : Program} {w : World} {K : PySem.W.Frag} {mg : Str → Option Value} {base : Heap} {CX : CXT} {C f cda cc : Addr} {qual msg x y g1 g2 : Str} {params : Arguments} {scope : Scope} {kV doc pm ct oc : Value} {an od : Option Addr} {osl : Array (Option Value)}
  {p0 p1 p2 p3 p4 p5 q1 q2 q3 q4 q5 q6 q7 q8 : Pos} {j : Nat} {ar : Arg} {body : List Stmt}
theorem okErr1 (hbd : body = [stSup msg j p0 p1 p2 p3 p4 p5, stFld g1 x q1 q2 q3 q4])
    (lk : K.lookup f = some ⟨oc, od, .func (PySem.W.fnX "__init__" qual params body scope [("__class__", cc)] .none kV doc pm an (.ref cda) ct), osl⟩) (hcd : PySem.W.codeIn K (.ref cda) qual = true)
    (T : SupF P K mg C f cda cc scope) (S : NdefX.NScope ["self", x, "__class__"] ["self", x] ["__class__"] scope) (hp : (params.posonlyargs ++ params.args).head? = some ar) (har : ar.arg = "self")
    (hev : ∀ env : Env, env.scope = scope → ∃ pl, eval (.Call (.Attribute (.Call (.Name "super" p0) [] [] p1) "__init__" p2) [.Constant (.str msg) j p3] [] p4) env = (do
      let ov ← attributeBase (.Call (.Name "super" p0) [] [] p1) "__init__" env (eval (.Call (.Name "super" p0) [] [] p1) env)
      standAt p2.atName
      let (f, first) ← holding [ov] (getMethod ov "__init__" pl)
      callWith p4 f first (backTo p4 (starEach [.Constant (.str msg) j p3] env)) []))
    (hx : (x == ("__debug__" : Str)) = false) (hx2 : (x == ("__classdict__" : Str)) = false) (n1 : PySem.W.findIn K (.ref C) g1 = some none) (hs : ∀ env : Env, env.scope = scope → swapsWith (.Name x q3) (some (.Attribute (.Name "self" q1) g1 q2)) q4.line env = pure false) :
    FnOk P w K mg base CX 1 f (PySem.W.fnX "__init__" qual params body scope [("__class__", cc)] .none kV doc pm an (.ref cda) ct) ["self", x] (spErr1 C g1) := by
  refine okSup hbd lk hcd T S hp (by rw [har]; rfl) (by rw [har]; rfl) (by rw [har]; exact S.par _ (by simp)) hev (fun vs H Q E h => ?_) (fun A outer s H vs Q E hr h => ?_)
  · obtain ⟨a, v, rfl, _⟩ := h; rfl
  · obtain ⟨a, v, rfl, ha, k⟩ := h
    refine ⟨a, _, rfl, ha, _, pss_one (ps_ost (pe_var (i := 0) rfl (.inl (S.par _ (by simp)))) (pe_var (i := 1) rfl (.inl (S.par _ (by simp))) hx hx2) (hs _ rfl)), ?_⟩
    refine ⟨v, rfl, .ref a, rfl, a, C, rfl, T.oex, n1, .inl ⟨ha, fun dx h1 h2 => ?_⟩⟩
    exact k dx h1 h2
theorem okErr2 (hbd : body = [stSup msg j p0 p1 p2 p3 p4 p5, stFld g1 x q1 q2 q3 q4, stFld g2 y q5 q6 q7 q8])
    (lk : K.lookup f = some ⟨oc, od, .func (PySem.W.fnX "__init__" qual params body scope [("__class__", cc)] .none kV doc pm an (.ref cda) ct), osl⟩) (hcd : PySem.W.codeIn K (.ref cda) qual = true)
    (T : SupF P K mg C f cda cc scope) (S : NdefX.NScope ["self", x, y, "__class__"] ["self", x, y] ["__class__"] scope) (hp : (params.posonlyargs ++ params.args).head? = some ar) (har : ar.arg = "self")
    (hev : ∀ env : Env, env.scope = scope → ∃ pl, eval (.Call (.Attribute (.Call (.Name "super" p0) [] [] p1) "__init__" p2) [.Constant (.str msg) j p3] [] p4) env = (do
      let ov ← attributeBase (.Call (.Name "super" p0) [] [] p1) "__init__" env (eval (.Call (.Name "super" p0) [] [] p1) env)
      standAt p2.atName
      let (f, first) ← holding [ov] (getMethod ov "__init__" pl)
      callWith p4 f first (backTo p4 (starEach [.Constant (.str msg) j p3] env)) []))
    (hx : (x == ("__debug__" : Str)) = false) (hx2 : (x == ("__classdict__" : Str)) = false) (hy : (y == ("__debug__" : Str)) = false) (hy2 : (y == ("__classdict__" : Str)) = false)
    (n1 : PySem.W.findIn K (.ref C) g1 = some none) (n2 : PySem.W.findIn K (.ref C) g2 = some none)
    (hs : ∀ env : Env, env.scope = scope → swapsWith (.Name x q3) (some (.Attribute (.Name "self" q1) g1 q2)) q4.line env = pure false) (hs2 : ∀ env : Env, env.scope = scope → swapsWith (.Name y q7) (some (.Attribute (.Name "self" q5) g2 q6)) q8.line env = pure false) :
    FnOk P w K mg base CX 1 f (PySem.W.fnX "__init__" qual params body scope [("__class__", cc)] .none kV doc pm an (.ref cda) ct) ["self", x, y] (spErr2 C g1 g2) := by
  refine okSup hbd lk hcd T S hp (by rw [har]; rfl) (by rw [har]; rfl) (by rw [har]; exact S.par _ (by simp)) hev (fun vs H Q E h => ?_) (fun A outer s H vs Q E hr h => ?_)
  · obtain ⟨a, v, y, rfl, _⟩ := h; rfl
  · obtain ⟨a, v, y', rfl, ha, k⟩ := h
    refine ⟨a, _, rfl, ha, _, pss_cons (ps_ost (pe_var (i := 0) rfl (.inl (S.par _ (by simp)))) (pe_var (i := 1) rfl (.inl (S.par _ (by simp))) hx hx2) (hs _ rfl))
      (pss_one (ps_ost (pe_var (i := 0) rfl (.inl (S.par _ (by simp)))) (pe_var (i := 2) rfl (.inl (S.par _ (by simp))) hy hy2) (hs2 _ rfl))), ?_⟩
    refine ⟨v, rfl, .ref a, rfl, a, C, rfl, T.oex, n1, .inl ⟨ha, fun dx h1 h2 => ?_⟩⟩
    refine ⟨y', rfl, .ref a, rfl, a, C, rfl, T.oex, n2, .inr ⟨dx, [(g1, v)], upd_same, ?_, (show 1 ≤ 900 by decide), ?_⟩⟩
    · rw [upd_ne h2]; exact upd_same
    · exact k dx h1 h2
end
end L3
end
section
namespace L3
open PySem PySem.Spec PyProof.Rows L2
/-- at a: an error of the class cls, its dict at d -/
def ExV (a : Addr) (cls : Value) (d : Option Addr) : HO := .ext fun h => ∃ oe, h.get? a = some oe ∧ Zc cls d oe ∧ ∃ vs, oe.data = .fields vs
end L3
namespace L3
open PySem PySem.Spec PySem.Calls PyProof.Rows PySem.W
end L3
namespace L3
open PySem PySem.Spec PyProof.Rows L2
/-- a field of a kept error -/
def tXfV (K : PySem.W.Frag) (n : Str) (te : TE) : TE := fun σ H Q => te σ H fun x H1 => ∃ (a C d : Addr) (fs : List (Str × V)) (v : V), x = .ref a ∧ H1 a = some (ExV a (.ref C) (some d)) ∧ H1 d = some (.xd fs) ∧ XfC K C ∧ PySem.W.findIn K (.ref C) n = some none ∧ fs.lookup n = some v ∧ Q v H1
end L3
end
section
namespace L3
open PySem PySem.Spec PySem.Calls PyProof.Rows PySem.W
section
variable {prog : Program} {w : World} {A : Around} {E : Value → Shared → Prop} {s : Shared} {K : Frag} {x y C f g : Addr} {ox oy : Obj} {od oe : Option Obj} {op : Operator} {T : String}
/-- both of one own class -/
theorem bin_same {Q : Value → Shared → Prop} (X : K.In s.heap) (I : InstAt s.heap x ox C od) (J : InstAt s.heap y oy C oe) (hc : selfFirst K C = true) (hs : findIn K (.ref C) (PySem.dunder op.info.2) = some (some (.ref f))) (hf : isFn K (.ref f) = true)
    (h : wpAny (model prog w) A (call (.ref f) [.ref x, .ref y]) (PySem.W.CmpBack Q) E s) : wpAny (model prog w) A (binaryOp1 op.info.2 (.ref x) (.ref y)) (fun r s' => ∃ v, r = some v ∧ Q v s') E s := by
  obtain ⟨cd, rest, hcd, hm⟩ := ksp_first hc
  rcases hi : op.info with ⟨sym, nm'⟩
  rw [hi] at hs
  dsimp only at hs
  have one := ksp_try X I hs hf h
  obtain ⟨hh, g, d, tt, os⟩ := s
  have L1 : Looks (model prog w) hh (typeOf (.ref x)) (.ref C) := I.type
  have L2 : Looks (model prog w) hh (typeOf (.ref y)) (.ref C) := J.type
  have L3 : Looks (model prog w) hh (fillsNumberSlot (.ref C) nm') true := fills_K X hcd hm hs
  have he : (Value.ref C == Value.ref C) = true := beq_self_eq_true _
  dsimp only
  unfold binaryOp1
  refine wpAny_bind (L1.at (wpAny_bind (L2.at (wpAny_bind (L3.at ?_)))))
  simp only [he, if_true]
  ksp_lk
  refine wpAny_mono one (fun r s' hr' => ?_) fun _ _ e => e
  obtain ⟨v, rfl, hq⟩ := hr'
  ksp_lk
  exact ⟨_, rfl, hq⟩
/-- an own one and one of a built-in type -/
theorem bin_own {b : Value} {fo ro rc : Option Value} {Q : Value → Shared → Prop} (X : K.In s.heap) (I : InstAt s.heap x ox C od) (Lb : Looks (model prog w) s.heap (typeOf b) (.type T)) (hc : selfFirst K C = true)
    (hs : findIn K (.ref C) (PySem.dunder op.info.2) = some (some (.ref f))) (hf : isFn K (.ref f) = true) (hr : findIn K (.ref C) (dunderR op.info.2) = some rc) (hp : rc = none ∨ ∃ g : Addr, rc = some (.ref g))
    (h1 : findIn K (.type T) (PySem.dunder op.info.2) = some fo) (h2 : findIn K (.type T) (dunderR op.info.2) = some ro) (hsub : subIn K (.type T) (.ref C) = some false)
    (h : wpAny (model prog w) A (call (.ref f) [.ref x, b]) (PySem.W.CmpBack Q) E s) : wpAny (model prog w) A (binaryOp1 op.info.2 (.ref x) b) (fun r s' => ∃ v, r = some v ∧ Q v s') E s := by
  obtain ⟨cd, rest, hcd, hm⟩ := ksp_first hc
  rcases hi : op.info with ⟨sym, nm'⟩
  rw [hi] at hs hr h1 h2
  dsimp only at hs hr h1 h2
  have one := ksp_try X I hs hf h
  obtain ⟨hh, g, d, tt, os⟩ := s
  have L1 : Looks (model prog w) hh (typeOf (.ref x)) (.ref C) := I.type
  have L2 := Lb
  have L3 : Looks (model prog w) hh (fillsNumberSlot (.ref C) nm') true := fills_K X hcd hm hs
  have L4 : Looks (model prog w) hh (fillsNumberSlot (.type T) nm') ((fo.isSome && !isSeqSlot fo) || (ro.isSome && !isSeqSlot ro)) := ksp_fillsT X h1 h2
  have L5 : Looks (model prog w) hh (isSubtype (.type T) (.ref C)) false := looks_subIn X hsub
  have L6 : Looks (model prog w) hh (numberSlotInPython (.ref C) nm') true := ksp_inPy X hs hr hp
  have L7 : Looks (model prog w) hh (numberSlotInPython (.type T) nm') false := Looks.of_pure rfl
  have L8 : Looks (model prog w) hh (typeLookup (.type T) (dunderR nm')) ro := looks_findIn X h2
  generalize ((fo.isSome && !isSeqSlot fo) || (ro.isSome && !isSeqSlot ro)) = right at L4
  have hne : (Value.ref C == Value.type T) = false := Bool.eq_false_iff.mpr fun q => by cases beq_iff_eq.mp q
  dsimp only
  unfold binaryOp1
  refine wpAny_bind (L1.at (wpAny_bind (L2.at (wpAny_bind (L3.at ?_)))))
  simp only [hne, Bool.false_eq_true, if_false]
  cases right with
  | false =>
    ksp_lk
    refine wpAny_mono one (fun r s' hr' => ?_) fun _ _ e => e
    obtain ⟨v, rfl, hq⟩ := hr'
    ksp_lk
    exact ⟨_, rfl, hq⟩
  | true =>
    ksp_lk
    refine wpAny_mono one (fun r s' hr' => ?_) fun _ _ e => e
    obtain ⟨v, rfl, hq⟩ := hr'
    ksp_lk
    exact ⟨_, rfl, hq⟩
end
end L3
namespace L3
open PySem PySem.Spec PySem.Calls PyProof.Rows PySem.W
section
variable {prog : Program} {w : World} {A : Around} {E : Value → Shared → Prop} {s : Shared} {K : Frag} {x y C f g : Addr} {ox oy : Obj} {od oe : Option Obj} {op : Operator} {T : String}
theorem bin_of1 {a b : Value} {Q : Value → Shared → Prop} (h : wpAny (model prog w) A (binaryOp1 op.info.2 a b) (fun r s' => ∃ v, r = some v ∧ Q v s') E s) : wpAny (model prog w) A (binaryOp op a b) Q E s := by
  rcases hi : op.info with ⟨sym, nm'⟩
  rw [hi] at h
  simp only [binaryOp, hi]
  refine wpAny_holding (wpAny_bind (wpAny_mono h (fun r s' hr' => ?_) fun _ _ e => e))
  obtain ⟨v, rfl, hq⟩ := hr'
  exact wpAny_pure hq
end
end L3
end
section
namespace L3
open PySem PySem.Spec PyProof.Rows L2
section
variable {X : Cx} {CX : CXT} {k : Nat} {C f g : Addr} {fd fd' : FuncData} {ps : List Str} {sp : Sp} {E : XK} {op : Operator}
theorem rel_back {Q : Value → Shared → Prop} {v : V} {u : Value} {s : Shared} (r : RelV v u) (h : Q u s) : PySem.W.CmpBack Q u s := by
  cases u <;> first | exact h | skip
  all_goals (cases v <;> first | (exact False.elim r) | (obtain ⟨_, z⟩ := r; cases z; done) | (obtain ⟨z, _⟩ := r; cases z; done) | (cases r; done))
theorem ins_inst {P : Program} {w : World} {H : Hp} {h : Heap} {a C dx : Addr} {fs : List (Str × V)} (hok : HOk P w H h) (e : H a = some (.ins C dx fs)) : ∃ od, PySem.W.InstAt h a (PySem.W.instObj C dx) C (some od) := by
  obtain ⟨h1, _, h3, h4, mA, hns, _⟩ := (show ObjOk P w H h a (.ins C dx fs) from hok a _ e)
  obtain ⟨od, ho, _⟩ := lookIn_ns hns
  exact ⟨od, h4, rfl, rfl, ho⟩
/-- an operator of two values, its number part -/
def OpR1 (X : Cx) (op : Operator) (r : R2) : Prop := ∀ (pins : List (Addr × Obj)) (s : Shared) (σ : L2.St) (H : Hp) (x y : V) (v u : Value) (Q : VK), Inv X pins σ H s → RelV x v → RelV y u → r x y H Q →
  wpAny (model X.prog X.w) X.A (binaryOp1 op.info.2 v u) (fun r s' => ∃ z, r = some z ∧ EP X pins σ Q z s') X.xe s
theorem OpR1.bin {r : R2} (h : OpR1 X op r) : OpR X (binaryOp op) r := fun pins s σ H x y v u Q I rx ry q => bin_of1 (h pins s σ H x y v u Q I rx ry q)
theorem OpR1.or {r r' : R2} (h : OpR1 X op r) (h' : OpR1 X op r') : OpR1 X op (fun x y H Q => r x y H Q ∨ r' x y H Q) := fun pins s σ H x y v u Q I rx ry q => q.elim (h pins s σ H x y v u Q I rx ry) (h' pins s σ H x y v u Q I rx ry)
end
end L3
namespace L3
open PySem PySem.Spec PySem.Calls PyProof.Rows PySem.W
end L3
namespace L3
open PySem PySem.Spec PyProof.Rows L2
end L3
namespace L3
open PySem PySem.Spec PyProof.Rows L2
end L3
end
section
namespace L3
open PySem PySem.Spec PyProof.Rows L2 LamX
section
variable {P : Program} {w : World} {K : PySem.W.Frag} {mg : Str → Option Value} {base : Heap} {CX : CXT} {x qual : Str} {f : Addr} {fd : FuncData} {N ps : List Str} {k : Nat} {sp : Sp}
theorem funO {st : Stmt} (F : L2.Fun K x qual st f fd) (S : FnScope N ps (defScope st)) (len : ∀ vs H Q E, sp vs H Q E → vs.length = ps.length)
    (body : ∀ (cd : Value) (A : Around) (fr : List Env) (s : Shared) (H : Hp) (vs : List V) (Q : VK) (E : XK), Room k (A.deeper (envOfC qual (defScope st) s.heap.objs.size f cd)) → sp vs H Q E →
      ∃ t, PSs (cxOf CX P w K mg base N qual (defScope st) f cd A fr s H E) (defBody st) t ∧ t { nx := fun _ H' => Q .non H', rt := Q } (L2.start N vs) H) :
    FnOk P w K mg base CX (k + 1) f fd ps sp := by
  obtain ⟨oc, od, kV, doc, pm, an, cd, ct, sl, rfl, lk, hcd⟩ := F.ex
  exact ⟨len, fun A fr s H as us vs Q E hr e0 hb r h => LamX.run_ofS lk hcd S hr e0 hb r (len _ _ _ _ h) fun hr' => body cd A fr s H vs Q E hr' h⟩
/-- a def of the module, called by its name -/
structure FnO (P : Program) (w : World) (K : PySem.W.Frag) (mg : Str → Option Value) (base : Heap) (CX : CXT) (k : Nat) (x : Str) (ps : List Str) (sp : Sp) : Prop where
  ex : ∃ (f : Addr) (fd : FuncData), FnOk P w K mg base CX k f fd ps sp ∧ mg x = some (.ref f) ∧ PySem.W.keepIn K (.ref f) = true ∧ L2.Binds K fd ps []
/-- a class of the module, made by its name -/
structure McO (P : Program) (w : World) (K : PySem.W.Frag) (mg : Str → Option Value) (base : Heap) (CX : CXT) (k : Nat) (x : Str) (C : Addr) (ps : List Str) (sp : Sp) (dvs : List V) : Prop where
  ex : ∃ (f : Addr) (fd : FuncData) (ds : List Value), FnOk P w K mg base CX k f fd ps sp ∧ mg x = some (.ref C) ∧ Mk K C f ∧ L2.Binds K fd ps ds ∧ Vals dvs ds
end
section
variable {X : Cx} {CX : CXT} {k : Nat} {ps : List Str} {sp : Sp} {E : XK} {x : Str} {p pos : Pos} {e : Expr} {es : List Expr} {t : TA}
theorem pe_o {j : Nat} (c : FnO X.prog X.w X.K X.mg X.base CX k x ps sp) (hr : Room j X.A) (hx : Passes CX X E) (ha : PA X (e :: es) t) (hk : k ≤ j := by decide) (gl : Gl X x := by rfl)
    (hdb : (x == ("__debug__" : Str)) = false := by decide) (he : starEach (e :: es) X.env = (false, eval e X.env) :: starEach es X.env := by rfl) (hpl : (backTo pos (starEach es X.env)).any (·.1) = false := by rfl) :
    PE X (.Call (.Name x p) (e :: es) [] pos) (tCall sp [] E t) := by
  obtain ⟨f, fd, F, m, kp, b⟩ := c.ex
  exact pe_call F (hr.mono hk) gl m kp b .nil hx ha hdb he hpl
theorem pe_mko {j : Nat} {C : Addr} {dvs : List V} (c : McO X.prog X.w X.K X.mg X.base CX k x C ps sp dvs) (hr : Room j X.A) (hx : Passes CX X E) (ha : PA X (e :: es) t) (hk : k + 1 ≤ j := by decide) (gl : Gl X x := by rfl)
    (hdb : (x == ("__debug__" : Str)) = false := by decide) (he : starEach (e :: es) X.env = (false, eval e X.env) :: starEach es X.env := by rfl) (hpl : (backTo pos (starEach es X.env)).any (·.1) = false := by rfl) :
    PE X (.Call (.Name x p) (e :: es) [] pos) (tMake C sp dvs E t) := by
  obtain ⟨f, fd, ds, F, m, M, b, hd⟩ := c.ex
  exact pe_make M F (hr.mono hk) gl m b hd hx ha hdb he hpl
/-- nothing leaves -/
theorem passF : Passes (L2.CX X.prog X.w) X (fun _ _ _ => False) := fun _ _ _ _ _ _ _ ⟨_, _, _, _, _, _, _, _, _, _, _, _, z⟩ => z.elim
theorem passT {W : WX} (tk : Takes X W) (hW : ∀ cls d σ H, E cls d H → W cls d σ H) : Passes (L2.CX X.prog X.w) X E := passes_call tk hW
end
structure Er1 (P : Program) (w : World) (K : PySem.W.Frag) (mg : Str → Option Value) (base : Heap) (x : Str) (C : Addr) (g : Str) : Prop where
  oex : OexC K C
  m : mg x = some (.ref C)
  ex : ∃ (f : Addr) (fd : FuncData) (y : Str), PySem.W.findIn K (.ref C) "__init__" = some (some (.ref f)) ∧ PySem.W.typeIn K (.ref f) = some (.type "function") ∧ FnOk P w K mg base CX0 1 f fd ["self", y] (spErr1 C g) ∧ L2.Binds K fd ["self", y] []
def Rz (C : Addr) (g : Str) (v : V) (H : Hp) (E : XK) : Prop := ∀ d H', H d = none → Ex H H' → H' d = some (.xd [(g, v)]) → E (.ref C) (some d) H'
def rMk1 (C : Addr) (g : Str) (vs : List V) (H1 : Hp) (E : XK) : Prop := vs.length ≤ 1000 ∧ ∀ a, H1 a = none → spErr1 C g (.ref a :: (vs ++ [])) (upd H1 a (exo a C none))
  (fun v H2 => v = .non ∧ ∃ (d : Addr) (fs : List (Str × V)), H2 a = some (exo a C (some d)) ∧ H2 d = some (exd d fs) ∧ H1 d = none ∧ E (.ref C) (some d) (upd (del H2 a) d (.xd fs))) (fun _ _ _ => False)
def tRaise1 (C : Addr) (g : Str) (te : TE) (W : WX) : TS := fun _ σ H => te σ H fun v H1 => rMk1 C g [v] H1 (fun cls d H' => W cls d σ H')
theorem ps_raise1 {X : Cx} {W : WX} {x g : Str} {C : Addr} {j : Nat} {e : Expr} {te : TE} {p p1 pos : Pos} (c : Er1 X.prog X.w X.K X.mg X.base x C g) (hr : Room j X.A) (hc : X.calm = true) (tk : Takes X W) (ha : PA X [e] (tCons te tNil)) (hk : 2 ≤ j := by decide) (gl : Gl X x := by rfl)
    (hdb : (x == ("__debug__" : Str)) = false := by decide) (hst : starEach [e] X.env = (false, eval e X.env) :: starEach [] X.env := by rfl) :
    PS X (.Raise (some (.Call (.Name x p) [e] [] p1)) none pos) (tRaise1 C g te W) := by
  obtain ⟨f, fd, y, i1, i2, F, b⟩ := c.ex
  exact ps_raise (pos := pos) hc tk (pmk_oex (p := p) (pos := p1) c.oex i1 i2 F (hr.mono hk) b .nil pass0 gl c.m ha hdb hst)
theorem s_raise1 {C : Addr} {g : Str} {te : TE} {W : WX} {D : Ends} {σ : L2.St} {H : Hp} (h : te σ H fun v H1 => rMk1 C g [v] H1 (fun cls d H' => W cls d σ H')) : tRaise1 C g te W D σ H := h
theorem s_rz {C : Addr} {g : Str} {v : V} {H : Hp} {E : XK} (h : Rz C g v H E) : rMk1 C g [v] H E := by
  refine ⟨(show 1 ≤ 1000 by decide), fun a ha => ⟨a, v, rfl, upd_same, fun dx h1 h2 => ⟨rfl, dx, _, upd_same, ?_, ?_, h dx _ ?_ ?_ upd_same⟩⟩⟩
  · rw [upd_ne h2, upd_same]
  · rw [upd_ne h2] at h1; exact h1
  · rw [upd_ne h2] at h1; exact h1
  · intro b o e
    have n1 : b ≠ a := ne_of_none e ha
    have n2 : b ≠ dx := by
      rw [upd_ne h2] at h1
      exact ne_of_none e h1
    rw [upd_ne n2, del_ne n1, upd_ne n1, upd_ne n2, upd_ne n1]
    exact e
end L3
end
section
namespace L3
open PySem PySem.Spec PyProof.Rows L2 LamX
inductive Od (H : Hp) : V → Str → Prop
  | non : Od H .non (PyData.shown .none)
  | bl (b : Bool) : Od H (.bl b) (PyData.shown (.bool b))
  | str (z : Str) : z.length ≤ 100 → (PyData.str z).shown.length ≤ 1001 → Od H (.str z) (PyData.str z).shown
  | tup {p : Addr} {xs : List V} : H p = some (.tup xs) → xs.all fitF = true → (PyData.tuple (xs.map flatD)).shown.length ≤ 1000 → Od H (.ref p) (PyData.tuple (xs.map flatD)).shown
  | lst {p : Addr} {xs : List V} : H p = some (.lst xs) → xs.all fitF = true → xs.length ≤ 1000 → Od H (.ref p) (PyData.list (xs.map flatD)).shown
  | dic {p : Addr} : H p = some (.dK []) → Od H (.ref p) (PyData.dict []).shown
theorem Od.ex {H H' : Hp} {v : V} {t : Str} (h : Od H v t) (e : Ex H H') : Od H' v t := by
  cases h with
  | non => exact .non
  | bl b => exact .bl b
  | str z h1 h3 => exact .str z h1 h3
  | tup h1 h2 h3 => exact .tup (e _ _ h1) h2 h3
  | lst h1 h2 h3 => exact .lst (e _ _ h1) h2 h3
  | dic h1 => exact .dic (e _ _ h1)
theorem Od.ty {K : PySem.W.Frag} {H : Hp} {v : V} {t : Str} (h : Od H v t) : (∃ b, v = .bl b) ∨ ∃ T, TyX K H v (.type T) ∧ T ∈ ["NoneType", "str", "tuple", "list", "dict"] := by
  cases h with
  | non => exact .inr ⟨_, .base .non, by simp⟩
  | bl b => exact .inl ⟨b, rfl⟩
  | str z _ _ => exact .inr ⟨_, .base (.str z), by simp⟩
  | tup h1 _ _ => exact .inr ⟨_, .base (.tup h1), by simp⟩
  | lst h1 _ _ => exact .inr ⟨_, .base (.lst h1), by simp⟩
  | dic h1 => exact .inr ⟨_, .base (.dK h1), by simp⟩
theorem Od.noInt {K : PySem.W.Frag} {H : Hp} {v : V} {t : Str} (h : Od H v t) : (∃ b, v = .bl b) ∨ ∃ ty, TyA K H v ty ∧ PySem.W.kitOne K ty (.type "int") = some false := by
  rcases h.ty (K := K) with ⟨b, rfl⟩ | ⟨T, h1, h2⟩
  · exact .inl ⟨b, rfl⟩
  · refine .inr ⟨_, .x h1, ?_⟩
    simp only [List.mem_cons, List.not_mem_nil, or_false] at h2
    rcases h2 with rfl | rfl | rfl | rfl | rfl <;> exact kit_ty (by decide +kernel)
end L3
end
section
namespace L3
open PySem PySem.Spec PyProof.Rows L2 LamX
def sgn (b : Int) : Int := if 0 < b then 1 else -1
def rO (a b : Int) : Int := sgn b * a / ((Nat.gcd a.natAbs b.natAbs : Nat) : Int)
def rU' (a b : Int) : Int := sgn b * b / ((Nat.gcd a.natAbs b.natAbs : Nat) : Int)
def flds (o u : Int) : List (Str × V) := putF "under" (.int u) (putF "over" (.int o) [])
def Rt (C : Addr) (H : Hp) (p : Addr) (o u : Int) : Prop := ∃ dx, H p = some (.ins C dx (flds o u))
/-- a number: a fraction or an int -/
def Nm (C : Addr) (H : Hp) (y : V) (o u : Int) : Prop := (∃ q, y = .ref q ∧ Rt C H q o u) ∨ (y = .int o ∧ u = 1)
theorem ins_tbl {C dx : Addr} {fs : List (Str × V)} : ∀ ps, HO.ins C dx fs ≠ .tbl ps := fun _ z => nomatch z
theorem Rt.exN {C : Addr} {H H' : Hp} {p : Addr} {o u : Int} (h : Rt C H p o u) (e : ExtN H H') : Rt C H' p o u := by
  obtain ⟨dx, h⟩ := h
  exact ⟨dx, e _ _ h ins_tbl⟩
theorem Ex.n {H H' : Hp} (e : Ex H H') : ExtN H H' := fun b o h _ => e b o h
theorem Rt.ex {C : Addr} {H H' : Hp} {p : Addr} {o u : Int} (h : Rt C H p o u) (e : Ex H H') : Rt C H' p o u := h.exN e.n
theorem Nm.exN {C : Addr} {H H' : Hp} {y : V} {o u : Int} (h : Nm C H y o u) (e : ExtN H H') : Nm C H' y o u := by
  rcases h with ⟨q, rfl, h⟩ | h
  · exact .inl ⟨q, rfl, h.exN e⟩
  · exact .inr h
theorem Nm.ex {C : Addr} {H H' : Hp} {y : V} {o u : Int} (h : Nm C H y o u) (e : Ex H H') : Nm C H' y o u := h.exN e.n
theorem Od.exN {H H' : Hp} {v : V} {t : Str} (h : Od H v t) (e : ExtN H H') : Od H' v t := by
  cases h with
  | non => exact .non
  | bl b => exact .bl b
  | str z h1 h3 => exact .str z h1 h3
  | tup h1 h2 h3 => exact .tup (e _ _ h1 fun _ z => nomatch z) h2 h3
  | lst h1 h2 h3 => exact .lst (e _ _ h1 fun _ z => nomatch z) h2 h3
  | dic h1 => exact .dic (e _ _ h1 fun _ z => nomatch z)
/-- within bounds -/
structure Bd (o u : Int) : Prop where
  ho : o.natAbs < 2 ^ 1000
  hu : u.natAbs < 2 ^ 1000
  pos : 0 < u
theorem Bd.ne {o u : Int} (b : Bd o u) : u ≠ 0 := by have := b.pos; omega
def spIsI : Sp := fun vs H Q _ => ∃ x, vs = [x] ∧ ((∃ i, x = .int i ∧ Q (.bl true) H) ∨ (∃ t, Od H x t ∧ Q (.bl false) H))
def gAdd (o u o' u' : Int) : Int := o * u' + o' * u
abbrev numTys : List String := ["int", "NoneType", "bool", "str", "tuple", "list", "dict"]
def othersB (K : PySem.W.Frag) (C : Addr) (op : Operator) : Bool := numTys.all fun T =>
  (PySem.W.findIn K (.type T) (PySem.dunder op.info.2)).isSome && ((PySem.W.findIn K (.type T) (dunderR op.info.2)).isSome && decide (PySem.W.subIn K (.type T) (.ref C) = some false))
end L3
end
section
namespace K53H
open PySem PySem.Spec PyProof.Rows L2 L3 LamX
def topS (i : Nat) : Stmt := PySem.Challenge.pw_latechunks_k53_pieces_with_far_begins.main.body.getD i (.Pass ⟨0, 0, 0, 0⟩)
abbrev s_BadRest___init__ : Stmt := inClass (topS 5) 0
abbrev s_BadRule___init__ : Stmt := inClass (topS 6) 0
abbrev s_BadSize___init__ : Stmt := inClass (topS 4) 0
abbrev s_By___and__ : Stmt := inClass (topS 30) 5
abbrev s_By___init__ : Stmt := inClass (topS 30) 0
abbrev s_By___or__ : Stmt := inClass (topS 30) 6
abbrev s_Divided___and__ : Stmt := inClass (topS 27) 6
abbrev s_Divided___call__ : Stmt := inClass (topS 27) 3
abbrev s_Divided___init__ : Stmt := inClass (topS 27) 0
abbrev s_Divided___or__ : Stmt := inClass (topS 27) 7
abbrev s_Divided_wish : Stmt := inClass (topS 27) 2
abbrev s_Fixed___and__ : Stmt := inClass (topS 26) 5
abbrev s_Fixed___call__ : Stmt := inClass (topS 26) 2
abbrev s_Fixed___init__ : Stmt := inClass (topS 26) 0
abbrev s_Fixed___or__ : Stmt := inClass (topS 26) 6
abbrev s_Fixed_wish : Stmt := inClass (topS 26) 1
abbrev s_Greater___and__ : Stmt := inClass (topS 29) 5
abbrev s_Greater___call__ : Stmt := inClass (topS 29) 2
abbrev s_Greater___init__ : Stmt := inClass (topS 29) 0
abbrev s_Greater___or__ : Stmt := inClass (topS 29) 6
abbrev s_Greater_wish : Stmt := inClass (topS 29) 1
abbrev s_Lesser___and__ : Stmt := inClass (topS 28) 5
abbrev s_Lesser___call__ : Stmt := inClass (topS 28) 2
abbrev s_Lesser___init__ : Stmt := inClass (topS 28) 0
abbrev s_Lesser___or__ : Stmt := inClass (topS 28) 6
abbrev s_Lesser_wish : Stmt := inClass (topS 28) 1
abbrev s_TooMany___init__ : Stmt := inClass (topS 8) 0
abbrev s__law_draw : Stmt := topS 53
abbrev s__law_far : Stmt := topS 61
abbrev s__law_modulus : Stmt := topS 59
abbrev s__law_pen : Stmt := topS 52
abbrev s__law_pick : Stmt := topS 54
abbrev s__law_right : Stmt := topS 63
abbrev s__law_row_right : Stmt := topS 62
abbrev s__law_rule : Stmt := topS 57
abbrev s__law_size : Stmt := topS 60
abbrev s__law_wish : Stmt := topS 58
abbrev s_cut_to : Stmt := topS 25
abbrev s_end_of : Stmt := topS 48
abbrev s_first_quotient : Stmt := topS 41
abbrev s_is_integer : Stmt := topS 11
abbrev s_is_joinable : Stmt := topS 31
abbrev s_is_on : Stmt := topS 47
abbrev s_is_size : Stmt := topS 13
abbrev s_is_within : Stmt := topS 12
abbrev s_law : Stmt := topS 64
abbrev s_line_of : Stmt := topS 42
abbrev s_lines_of : Stmt := topS 43
abbrev s_need_joined : Stmt := topS 32
abbrev s_need_rest : Stmt := topS 24
abbrev s_need_rule : Stmt := topS 40
abbrev s_need_sides : Stmt := topS 33
abbrev s_piece_from : Stmt := topS 46
abbrev s_pieces : Stmt := topS 50
abbrev s_pieces_at : Stmt := topS 49
abbrev s_size_at : Stmt := topS 45
abbrev s_turns_of : Stmt := topS 44
abbrev exD (K : PySem.W.Frag) (C : Addr) : Prop := ∃ nm q N bs bm sn sub ab col dd k0 k1 k2 k3 k5, K.lookup C = some (excClassObj nm q C N bs bm true sn sub ab col dd k0 k1 k2 k3 k5 "ValueError.__new__") ∧ PySem.HandSPX.refsVE bm = true
abbrev v2D (vs : Array Value) (f : Str) (t : Tok) : Prop := vs[2]? = some (.str f t)
abbrev w2D (l : PySem.W.OpenLaw) (f : Str) : Prop := ((l.prog.main.file : Str) == f) = true
def AllMk : Prop := ∀ {l : PySem.W.OpenLaw} {w : World} {K : PySem.W.Frag} {h : Heap} {mg : Str → Option Value} {fa AF AD AL AG CR0 CY CL CS CR CM CE  : Addr} (X : K.In h) (G : h.Ns mainGlobals mg) (hfa : mg "law" = some (.ref fa))
    {f1 : Addr} {od1 an1 : Option Addr} {sl1 : Array (Option Value)} {oc1 kV1 dc1 pm1 cd1 ct1 : Value}
    {f2 : Addr} {od2 an2 : Option Addr} {sl2 : Array (Option Value)} {oc2 kV2 dc2 pm2 cd2 ct2 : Value}
    {f3 : Addr} {od3 an3 : Option Addr} {sl3 : Array (Option Value)} {oc3 kV3 dc3 pm3 cd3 ct3 : Value}
    {f4 : Addr} {od4 an4 : Option Addr} {sl4 : Array (Option Value)} {oc4 kV4 dc4 pm4 cd4 ct4 : Value}
    {f5 : Addr} {od5 an5 : Option Addr} {sl5 : Array (Option Value)} {oc5 kV5 dc5 pm5 cd5 ct5 : Value}
    {f6 : Addr} {od6 an6 : Option Addr} {sl6 : Array (Option Value)} {oc6 kV6 dc6 pm6 cd6 ct6 : Value}
    {f7 : Addr} {od7 an7 : Option Addr} {sl7 : Array (Option Value)} {oc7 kV7 dc7 pm7 cd7 ct7 : Value}
    {f8 : Addr} {od8 an8 : Option Addr} {sl8 : Array (Option Value)} {oc8 kV8 dc8 pm8 cd8 ct8 : Value}
    {f9 : Addr} {od9 an9 : Option Addr} {sl9 : Array (Option Value)} {oc9 kV9 dc9 pm9 cd9 ct9 : Value}
    {f10 : Addr} {od10 an10 : Option Addr} {sl10 : Array (Option Value)} {oc10 kV10 dc10 pm10 cd10 ct10 : Value}
    {f11 : Addr} {od11 an11 : Option Addr} {sl11 : Array (Option Value)} {oc11 kV11 dc11 pm11 cd11 ct11 : Value}
    {f12 : Addr} {od12 an12 : Option Addr} {sl12 : Array (Option Value)} {oc12 kV12 dc12 pm12 cd12 ct12 : Value}
    {f13 : Addr} {od13 an13 : Option Addr} {sl13 : Array (Option Value)} {oc13 kV13 dc13 pm13 cd13 ct13 : Value}
    {f14 : Addr} {od14 an14 : Option Addr} {sl14 : Array (Option Value)} {oc14 kV14 dc14 pm14 cd14 ct14 : Value}
    {f15 : Addr} {od15 an15 : Option Addr} {sl15 : Array (Option Value)} {oc15 kV15 dc15 pm15 cd15 ct15 : Value}
    {f16 : Addr} {od16 an16 : Option Addr} {sl16 : Array (Option Value)} {oc16 kV16 dc16 pm16 cd16 ct16 : Value}
    {f17 : Addr} {od17 an17 : Option Addr} {sl17 : Array (Option Value)} {oc17 kV17 dc17 pm17 cd17 ct17 : Value}
    {f18 : Addr} {od18 an18 : Option Addr} {sl18 : Array (Option Value)} {oc18 kV18 dc18 pm18 cd18 ct18 : Value}
    {f19 : Addr} {od19 an19 : Option Addr} {sl19 : Array (Option Value)} {oc19 kV19 dc19 pm19 cd19 ct19 : Value}
    {f20 : Addr} {od20 an20 : Option Addr} {sl20 : Array (Option Value)} {oc20 kV20 dc20 pm20 cd20 ct20 : Value}
    {f21 : Addr} {od21 an21 : Option Addr} {sl21 : Array (Option Value)} {oc21 kV21 dc21 pm21 cd21 ct21 : Value}
    {f22 : Addr} {od22 an22 : Option Addr} {sl22 : Array (Option Value)} {oc22 kV22 dc22 pm22 cd22 ct22 : Value}
    {f23 : Addr} {od23 an23 : Option Addr} {sl23 : Array (Option Value)} {oc23 kV23 dc23 pm23 cd23 ct23 : Value}
    {f24 : Addr} {od24 an24 : Option Addr} {sl24 : Array (Option Value)} {oc24 kV24 dc24 pm24 cd24 ct24 : Value}
    {f25 : Addr} {od25 an25 : Option Addr} {sl25 : Array (Option Value)} {oc25 kV25 dc25 pm25 cd25 ct25 : Value}
    {f26 : Addr} {od26 an26 : Option Addr} {sl26 : Array (Option Value)} {oc26 kV26 dc26 pm26 cd26 ct26 : Value}
    {f27 : Addr} {od27 an27 : Option Addr} {sl27 : Array (Option Value)} {oc27 kV27 dc27 pm27 cd27 ct27 : Value}
    {f28 : Addr} {od28 an28 : Option Addr} {sl28 : Array (Option Value)} {oc28 kV28 dc28 pm28 cd28 ct28 : Value}
    {f29 : Addr} {od29 an29 : Option Addr} {sl29 : Array (Option Value)} {oc29 kV29 dc29 pm29 cd29 ct29 : Value}
    {f30 : Addr} {od30 an30 : Option Addr} {sl30 : Array (Option Value)} {oc30 kV30 dc30 pm30 cd30 ct30 : Value}
    {g_AF___init__ : Addr} {od_AF___init__ an_AF___init__ : Option Addr} {sl_AF___init__ : Array (Option Value)} {oc_AF___init__ kV_AF___init__ dc_AF___init__ pm_AF___init__ cd_AF___init__ ct_AF___init__ : Value}
    {g_AF_wish : Addr} {od_AF_wish an_AF_wish : Option Addr} {sl_AF_wish : Array (Option Value)} {oc_AF_wish kV_AF_wish dc_AF_wish pm_AF_wish cd_AF_wish ct_AF_wish : Value}
    {g_AF___call__ : Addr} {od_AF___call__ an_AF___call__ : Option Addr} {sl_AF___call__ : Array (Option Value)} {oc_AF___call__ kV_AF___call__ dc_AF___call__ pm_AF___call__ cd_AF___call__ ct_AF___call__ : Value}
    {g_AF___and__ : Addr} {od_AF___and__ an_AF___and__ : Option Addr} {sl_AF___and__ : Array (Option Value)} {oc_AF___and__ kV_AF___and__ dc_AF___and__ pm_AF___and__ cd_AF___and__ ct_AF___and__ : Value}
    {g_AF___or__ : Addr} {od_AF___or__ an_AF___or__ : Option Addr} {sl_AF___or__ : Array (Option Value)} {oc_AF___or__ kV_AF___or__ dc_AF___or__ pm_AF___or__ cd_AF___or__ ct_AF___or__ : Value}
    {g_AD___init__ : Addr} {od_AD___init__ an_AD___init__ : Option Addr} {sl_AD___init__ : Array (Option Value)} {oc_AD___init__ kV_AD___init__ dc_AD___init__ pm_AD___init__ cd_AD___init__ ct_AD___init__ : Value}
    {g_AD_wish : Addr} {od_AD_wish an_AD_wish : Option Addr} {sl_AD_wish : Array (Option Value)} {oc_AD_wish kV_AD_wish dc_AD_wish pm_AD_wish cd_AD_wish ct_AD_wish : Value}
    {g_AD___call__ : Addr} {od_AD___call__ an_AD___call__ : Option Addr} {sl_AD___call__ : Array (Option Value)} {oc_AD___call__ kV_AD___call__ dc_AD___call__ pm_AD___call__ cd_AD___call__ ct_AD___call__ : Value}
    {g_AD___and__ : Addr} {od_AD___and__ an_AD___and__ : Option Addr} {sl_AD___and__ : Array (Option Value)} {oc_AD___and__ kV_AD___and__ dc_AD___and__ pm_AD___and__ cd_AD___and__ ct_AD___and__ : Value}
    {g_AD___or__ : Addr} {od_AD___or__ an_AD___or__ : Option Addr} {sl_AD___or__ : Array (Option Value)} {oc_AD___or__ kV_AD___or__ dc_AD___or__ pm_AD___or__ cd_AD___or__ ct_AD___or__ : Value}
    {g_AL___init__ : Addr} {od_AL___init__ an_AL___init__ : Option Addr} {sl_AL___init__ : Array (Option Value)} {oc_AL___init__ kV_AL___init__ dc_AL___init__ pm_AL___init__ cd_AL___init__ ct_AL___init__ : Value}
    {g_AL_wish : Addr} {od_AL_wish an_AL_wish : Option Addr} {sl_AL_wish : Array (Option Value)} {oc_AL_wish kV_AL_wish dc_AL_wish pm_AL_wish cd_AL_wish ct_AL_wish : Value}
    {g_AL___call__ : Addr} {od_AL___call__ an_AL___call__ : Option Addr} {sl_AL___call__ : Array (Option Value)} {oc_AL___call__ kV_AL___call__ dc_AL___call__ pm_AL___call__ cd_AL___call__ ct_AL___call__ : Value}
    {g_AL___and__ : Addr} {od_AL___and__ an_AL___and__ : Option Addr} {sl_AL___and__ : Array (Option Value)} {oc_AL___and__ kV_AL___and__ dc_AL___and__ pm_AL___and__ cd_AL___and__ ct_AL___and__ : Value}
    {g_AL___or__ : Addr} {od_AL___or__ an_AL___or__ : Option Addr} {sl_AL___or__ : Array (Option Value)} {oc_AL___or__ kV_AL___or__ dc_AL___or__ pm_AL___or__ cd_AL___or__ ct_AL___or__ : Value}
    {g_AG___init__ : Addr} {od_AG___init__ an_AG___init__ : Option Addr} {sl_AG___init__ : Array (Option Value)} {oc_AG___init__ kV_AG___init__ dc_AG___init__ pm_AG___init__ cd_AG___init__ ct_AG___init__ : Value}
    {g_AG_wish : Addr} {od_AG_wish an_AG_wish : Option Addr} {sl_AG_wish : Array (Option Value)} {oc_AG_wish kV_AG_wish dc_AG_wish pm_AG_wish cd_AG_wish ct_AG_wish : Value}
    {g_AG___call__ : Addr} {od_AG___call__ an_AG___call__ : Option Addr} {sl_AG___call__ : Array (Option Value)} {oc_AG___call__ kV_AG___call__ dc_AG___call__ pm_AG___call__ cd_AG___call__ ct_AG___call__ : Value}
    {g_AG___and__ : Addr} {od_AG___and__ an_AG___and__ : Option Addr} {sl_AG___and__ : Array (Option Value)} {oc_AG___and__ kV_AG___and__ dc_AG___and__ pm_AG___and__ cd_AG___and__ ct_AG___and__ : Value}
    {g_AG___or__ : Addr} {od_AG___or__ an_AG___or__ : Option Addr} {sl_AG___or__ : Array (Option Value)} {oc_AG___or__ kV_AG___or__ dc_AG___or__ pm_AG___or__ cd_AG___or__ ct_AG___or__ : Value}
    {g_CY___init__ : Addr} {od_CY___init__ an_CY___init__ : Option Addr} {sl_CY___init__ : Array (Option Value)} {oc_CY___init__ kV_CY___init__ dc_CY___init__ pm_CY___init__ cd_CY___init__ ct_CY___init__ : Value}
    {g_CY___and__ : Addr} {od_CY___and__ an_CY___and__ : Option Addr} {sl_CY___and__ : Array (Option Value)} {oc_CY___and__ kV_CY___and__ dc_CY___and__ pm_CY___and__ cd_CY___and__ ct_CY___and__ : Value}
    {g_CY___or__ : Addr} {od_CY___or__ an_CY___or__ : Option Addr} {sl_CY___or__ : Array (Option Value)} {oc_CY___or__ kV_CY___or__ dc_CY___or__ pm_CY___or__ cd_CY___or__ ct_CY___or__ : Value}
    {fZS ccZS cdZS : Addr} {odZS anZS cldZS cddZS : Option Addr} {slZS cslZS ccsZS : Array (Option Value)} {ocZS kVZS dcZS pmZS ctZS clZS cclZS : Value} {vsZS : Array Value} {fileZS : Str} {tfZS : Tok}
    {fZR ccZR cdZR : Addr} {odZR anZR cldZR cddZR : Option Addr} {slZR cslZR ccsZR : Array (Option Value)} {ocZR kVZR dcZR pmZR ctZR clZR cclZR : Value} {vsZR : Array Value} {fileZR : Str} {tfZR : Tok}
    {fZM ccZM cdZM : Addr} {odZM anZM cldZM cddZM : Option Addr} {slZM cslZM ccsZM : Array (Option Value)} {ocZM kVZM dcZM pmZM ctZM clZM cclZM : Value} {vsZM : Array Value} {fileZM : Str} {tfZM : Tok}
    {fZE ccZE cdZE : Addr} {odZE anZE cldZE cddZE : Option Addr} {slZE cslZE ccsZE : Array (Option Value)} {ocZE kVZE dcZE pmZE ctZE clZE cclZE : Value} {vsZE : Array Value} {fileZE : Str} {tfZE : Tok}
    {tMS tMD tMA tMP tMR : Tok}
    (a1 : @Eq _ (PySem.W.nsIn K mainGlobals "is_integer") (some (some (.ref f1))))
    (l1 : @Eq _ (K.lookup f1) (some ⟨oc1, od1, .func (PySem.W.fnOf "is_integer" "is_integer" (defArgs s_is_integer) (defBody s_is_integer) (defScope s_is_integer) .none kV1 dc1 pm1 an1 cd1 ct1), sl1⟩))
    (c1 : @Eq _ (PySem.W.codeIn K cd1 "is_integer") (true))
    (k1 : @Eq _ (PySem.W.keepIn K (.ref f1)) (true))
    (a2 : @Eq _ (PySem.W.nsIn K mainGlobals "is_within") (some (some (.ref f2))))
    (l2 : @Eq _ (K.lookup f2) (some ⟨oc2, od2, .func (PySem.W.fnOf "is_within" "is_within" (defArgs s_is_within) (defBody s_is_within) (defScope s_is_within) .none kV2 dc2 pm2 an2 cd2 ct2), sl2⟩))
    (c2 : @Eq _ (PySem.W.codeIn K cd2 "is_within") (true))
    (k2 : @Eq _ (PySem.W.keepIn K (.ref f2)) (true))
    (a3 : @Eq _ (PySem.W.nsIn K mainGlobals "is_size") (some (some (.ref f3))))
    (l3 : @Eq _ (K.lookup f3) (some ⟨oc3, od3, .func (PySem.W.fnOf "is_size" "is_size" (defArgs s_is_size) (defBody s_is_size) (defScope s_is_size) .none kV3 dc3 pm3 an3 cd3 ct3), sl3⟩))
    (c3 : @Eq _ (PySem.W.codeIn K cd3 "is_size") (true))
    (k3 : @Eq _ (PySem.W.keepIn K (.ref f3)) (true))
    (a4 : @Eq _ (PySem.W.nsIn K mainGlobals "need_rest") (some (some (.ref f4))))
    (l4 : @Eq _ (K.lookup f4) (some ⟨oc4, od4, .func (PySem.W.fnOf "need_rest" "need_rest" (defArgs s_need_rest) (defBody s_need_rest) (defScope s_need_rest) .none kV4 dc4 pm4 an4 cd4 ct4), sl4⟩))
    (c4 : @Eq _ (PySem.W.codeIn K cd4 "need_rest") (true))
    (k4 : @Eq _ (PySem.W.keepIn K (.ref f4)) (true))
    (a5 : @Eq _ (PySem.W.nsIn K mainGlobals "cut_to") (some (some (.ref f5))))
    (l5 : @Eq _ (K.lookup f5) (some ⟨oc5, od5, .func (PySem.W.fnOf "cut_to" "cut_to" (defArgs s_cut_to) (defBody s_cut_to) (defScope s_cut_to) .none kV5 dc5 pm5 an5 cd5 ct5), sl5⟩))
    (c5 : @Eq _ (PySem.W.codeIn K cd5 "cut_to") (true))
    (k5 : @Eq _ (PySem.W.keepIn K (.ref f5)) (true))
    (a6 : @Eq _ (PySem.W.nsIn K mainGlobals "is_joinable") (some (some (.ref f6))))
    (l6 : @Eq _ (K.lookup f6) (some ⟨oc6, od6, .func (PySem.W.fnOf "is_joinable" "is_joinable" (defArgs s_is_joinable) (defBody s_is_joinable) (defScope s_is_joinable) .none kV6 dc6 pm6 an6 cd6 ct6), sl6⟩))
    (c6 : @Eq _ (PySem.W.codeIn K cd6 "is_joinable") (true))
    (k6 : @Eq _ (PySem.W.keepIn K (.ref f6)) (true))
    (a7 : @Eq _ (PySem.W.nsIn K mainGlobals "need_joined") (some (some (.ref f7))))
    (l7 : @Eq _ (K.lookup f7) (some ⟨oc7, od7, .func (PySem.W.fnOf "need_joined" "need_joined" (defArgs s_need_joined) (defBody s_need_joined) (defScope s_need_joined) .none kV7 dc7 pm7 an7 cd7 ct7), sl7⟩))
    (c7 : @Eq _ (PySem.W.codeIn K cd7 "need_joined") (true))
    (k7 : @Eq _ (PySem.W.keepIn K (.ref f7)) (true))
    (a8 : @Eq _ (PySem.W.nsIn K mainGlobals "need_sides") (some (some (.ref f8))))
    (l8 : @Eq _ (K.lookup f8) (some ⟨oc8, od8, .func (PySem.W.fnOf "need_sides" "need_sides" (defArgs s_need_sides) (defBody s_need_sides) (defScope s_need_sides) .none kV8 dc8 pm8 an8 cd8 ct8), sl8⟩))
    (c8 : @Eq _ (PySem.W.codeIn K cd8 "need_sides") (true))
    (k8 : @Eq _ (PySem.W.keepIn K (.ref f8)) (true))
    (a9 : @Eq _ (PySem.W.nsIn K mainGlobals "need_rule") (some (some (.ref f9))))
    (l9 : @Eq _ (K.lookup f9) (some ⟨oc9, od9, .func (PySem.W.fnOf "need_rule" "need_rule" (defArgs s_need_rule) (defBody s_need_rule) (defScope s_need_rule) .none kV9 dc9 pm9 an9 cd9 ct9), sl9⟩))
    (c9 : @Eq _ (PySem.W.codeIn K cd9 "need_rule") (true))
    (k9 : @Eq _ (PySem.W.keepIn K (.ref f9)) (true))
    (a10 : @Eq _ (PySem.W.nsIn K mainGlobals "first_quotient") (some (some (.ref f10))))
    (l10 : @Eq _ (K.lookup f10) (some ⟨oc10, od10, .func (PySem.W.fnOf "first_quotient" "first_quotient" (defArgs s_first_quotient) (defBody s_first_quotient) (defScope s_first_quotient) .none kV10 dc10 pm10 an10 cd10 ct10), sl10⟩))
    (c10 : @Eq _ (PySem.W.codeIn K cd10 "first_quotient") (true))
    (k10 : @Eq _ (PySem.W.keepIn K (.ref f10)) (true))
    (a11 : @Eq _ (PySem.W.nsIn K mainGlobals "line_of") (some (some (.ref f11))))
    (l11 : @Eq _ (K.lookup f11) (some ⟨oc11, od11, .func (PySem.W.fnOf "line_of" "line_of" (defArgs s_line_of) (defBody s_line_of) (defScope s_line_of) .none kV11 dc11 pm11 an11 cd11 ct11), sl11⟩))
    (c11 : @Eq _ (PySem.W.codeIn K cd11 "line_of") (true))
    (k11 : @Eq _ (PySem.W.keepIn K (.ref f11)) (true))
    (a12 : @Eq _ (PySem.W.nsIn K mainGlobals "lines_of") (some (some (.ref f12))))
    (l12 : @Eq _ (K.lookup f12) (some ⟨oc12, od12, .func (PySem.W.fnOf "lines_of" "lines_of" (defArgs s_lines_of) (defBody s_lines_of) (defScope s_lines_of) .none kV12 dc12 pm12 an12 cd12 ct12), sl12⟩))
    (c12 : @Eq _ (PySem.W.codeIn K cd12 "lines_of") (true))
    (k12 : @Eq _ (PySem.W.keepIn K (.ref f12)) (true))
    (a13 : @Eq _ (PySem.W.nsIn K mainGlobals "turns_of") (some (some (.ref f13))))
    (l13 : @Eq _ (K.lookup f13) (some ⟨oc13, od13, .func (PySem.W.fnOf "turns_of" "turns_of" (defArgs s_turns_of) (defBody s_turns_of) (defScope s_turns_of) .none kV13 dc13 pm13 an13 cd13 ct13), sl13⟩))
    (c13 : @Eq _ (PySem.W.codeIn K cd13 "turns_of") (true))
    (k13 : @Eq _ (PySem.W.keepIn K (.ref f13)) (true))
    (a14 : @Eq _ (PySem.W.nsIn K mainGlobals "size_at") (some (some (.ref f14))))
    (l14 : @Eq _ (K.lookup f14) (some ⟨oc14, od14, .func (PySem.W.fnOf "size_at" "size_at" (defArgs s_size_at) (defBody s_size_at) (defScope s_size_at) .none kV14 dc14 pm14 an14 cd14 ct14), sl14⟩))
    (c14 : @Eq _ (PySem.W.codeIn K cd14 "size_at") (true))
    (k14 : @Eq _ (PySem.W.keepIn K (.ref f14)) (true))
    (a15 : @Eq _ (PySem.W.nsIn K mainGlobals "piece_from") (some (some (.ref f15))))
    (l15 : @Eq _ (K.lookup f15) (some ⟨oc15, od15, .func (PySem.W.fnOf "piece_from" "piece_from" (defArgs s_piece_from) (defBody s_piece_from) (defScope s_piece_from) .none kV15 dc15 pm15 an15 cd15 ct15), sl15⟩))
    (c15 : @Eq _ (PySem.W.codeIn K cd15 "piece_from") (true))
    (k15 : @Eq _ (PySem.W.keepIn K (.ref f15)) (true))
    (a16 : @Eq _ (PySem.W.nsIn K mainGlobals "is_on") (some (some (.ref f16))))
    (l16 : @Eq _ (K.lookup f16) (some ⟨oc16, od16, .func (PySem.W.fnOf "is_on" "is_on" (defArgs s_is_on) (defBody s_is_on) (defScope s_is_on) .none kV16 dc16 pm16 an16 cd16 ct16), sl16⟩))
    (c16 : @Eq _ (PySem.W.codeIn K cd16 "is_on") (true))
    (k16 : @Eq _ (PySem.W.keepIn K (.ref f16)) (true))
    (a17 : @Eq _ (PySem.W.nsIn K mainGlobals "end_of") (some (some (.ref f17))))
    (l17 : @Eq _ (K.lookup f17) (some ⟨oc17, od17, .func (PySem.W.fnOf "end_of" "end_of" (defArgs s_end_of) (defBody s_end_of) (defScope s_end_of) .none kV17 dc17 pm17 an17 cd17 ct17), sl17⟩))
    (c17 : @Eq _ (PySem.W.codeIn K cd17 "end_of") (true))
    (k17 : @Eq _ (PySem.W.keepIn K (.ref f17)) (true))
    (a18 : @Eq _ (PySem.W.nsIn K mainGlobals "pieces_at") (some (some (.ref f18))))
    (l18 : @Eq _ (K.lookup f18) (some ⟨oc18, od18, .func (PySem.W.fnOf "pieces_at" "pieces_at" (defArgs s_pieces_at) (defBody s_pieces_at) (defScope s_pieces_at) .none kV18 dc18 pm18 an18 cd18 ct18), sl18⟩))
    (c18 : @Eq _ (PySem.W.codeIn K cd18 "pieces_at") (true))
    (k18 : @Eq _ (PySem.W.keepIn K (.ref f18)) (true))
    (a19 : @Eq _ (PySem.W.nsIn K mainGlobals "pieces") (some (some (.ref f19))))
    (l19 : @Eq _ (K.lookup f19) (some ⟨oc19, od19, .func (PySem.W.fnOf "pieces" "pieces" (defArgs s_pieces) (defBody s_pieces) (defScope s_pieces) .none kV19 dc19 pm19 an19 cd19 ct19), sl19⟩))
    (c19 : @Eq _ (PySem.W.codeIn K cd19 "pieces") (true))
    (k19 : @Eq _ (PySem.W.keepIn K (.ref f19)) (true))
    (a20 : @Eq _ (PySem.W.nsIn K mainGlobals "_law_pen") (some (some (.ref f20))))
    (l20 : @Eq _ (K.lookup f20) (some ⟨oc20, od20, .func (PySem.W.fnOf "_law_pen" "_law_pen" (defArgs s__law_pen) (defBody s__law_pen) (defScope s__law_pen) .none kV20 dc20 pm20 an20 cd20 ct20), sl20⟩))
    (c20 : @Eq _ (PySem.W.codeIn K cd20 "_law_pen") (true))
    (k20 : @Eq _ (PySem.W.keepIn K (.ref f20)) (true))
    (a21 : @Eq _ (PySem.W.nsIn K mainGlobals "_law_draw") (some (some (.ref f21))))
    (l21 : @Eq _ (K.lookup f21) (some ⟨oc21, od21, .func (PySem.W.fnOf "_law_draw" "_law_draw" (defArgs s__law_draw) (defBody s__law_draw) (defScope s__law_draw) .none kV21 dc21 pm21 an21 cd21 ct21), sl21⟩))
    (c21 : @Eq _ (PySem.W.codeIn K cd21 "_law_draw") (true))
    (k21 : @Eq _ (PySem.W.keepIn K (.ref f21)) (true))
    (a22 : @Eq _ (PySem.W.nsIn K mainGlobals "_law_pick") (some (some (.ref f22))))
    (l22 : @Eq _ (K.lookup f22) (some ⟨oc22, od22, .func (PySem.W.fnOf "_law_pick" "_law_pick" (defArgs s__law_pick) (defBody s__law_pick) (defScope s__law_pick) .none kV22 dc22 pm22 an22 cd22 ct22), sl22⟩))
    (c22 : @Eq _ (PySem.W.codeIn K cd22 "_law_pick") (true))
    (k22 : @Eq _ (PySem.W.keepIn K (.ref f22)) (true))
    (a23 : @Eq _ (PySem.W.nsIn K mainGlobals "_law_far") (some (some (.ref f23))))
    (l23 : @Eq _ (K.lookup f23) (some ⟨oc23, od23, .func (PySem.W.fnOf "_law_far" "_law_far" (defArgs s__law_far) (defBody s__law_far) (defScope s__law_far) .none kV23 dc23 pm23 an23 cd23 ct23), sl23⟩))
    (c23 : @Eq _ (PySem.W.codeIn K cd23 "_law_far") (true))
    (k23 : @Eq _ (PySem.W.keepIn K (.ref f23)) (true))
    (a24 : @Eq _ (PySem.W.nsIn K mainGlobals "_law_rule") (some (some (.ref f24))))
    (l24 : @Eq _ (K.lookup f24) (some ⟨oc24, od24, .func (PySem.W.fnOf "_law_rule" "_law_rule" (defArgs s__law_rule) (defBody s__law_rule) (defScope s__law_rule) .none kV24 dc24 pm24 an24 cd24 ct24), sl24⟩))
    (c24 : @Eq _ (PySem.W.codeIn K cd24 "_law_rule") (true))
    (k24 : @Eq _ (PySem.W.keepIn K (.ref f24)) (true))
    (a25 : @Eq _ (PySem.W.nsIn K mainGlobals "_law_wish") (some (some (.ref f25))))
    (l25 : @Eq _ (K.lookup f25) (some ⟨oc25, od25, .func (PySem.W.fnOf "_law_wish" "_law_wish" (defArgs s__law_wish) (defBody s__law_wish) (defScope s__law_wish) .none kV25 dc25 pm25 an25 cd25 ct25), sl25⟩))
    (c25 : @Eq _ (PySem.W.codeIn K cd25 "_law_wish") (true))
    (k25 : @Eq _ (PySem.W.keepIn K (.ref f25)) (true))
    (a26 : @Eq _ (PySem.W.nsIn K mainGlobals "_law_modulus") (some (some (.ref f26))))
    (l26 : @Eq _ (K.lookup f26) (some ⟨oc26, od26, .func (PySem.W.fnOf "_law_modulus" "_law_modulus" (defArgs s__law_modulus) (defBody s__law_modulus) (defScope s__law_modulus) .none kV26 dc26 pm26 an26 cd26 ct26), sl26⟩))
    (c26 : @Eq _ (PySem.W.codeIn K cd26 "_law_modulus") (true))
    (k26 : @Eq _ (PySem.W.keepIn K (.ref f26)) (true))
    (a27 : @Eq _ (PySem.W.nsIn K mainGlobals "_law_size") (some (some (.ref f27))))
    (l27 : @Eq _ (K.lookup f27) (some ⟨oc27, od27, .func (PySem.W.fnOf "_law_size" "_law_size" (defArgs s__law_size) (defBody s__law_size) (defScope s__law_size) .none kV27 dc27 pm27 an27 cd27 ct27), sl27⟩))
    (c27 : @Eq _ (PySem.W.codeIn K cd27 "_law_size") (true))
    (k27 : @Eq _ (PySem.W.keepIn K (.ref f27)) (true))
    (a28 : @Eq _ (PySem.W.nsIn K mainGlobals "_law_row_right") (some (some (.ref f28))))
    (l28 : @Eq _ (K.lookup f28) (some ⟨oc28, od28, .func (PySem.W.fnOf "_law_row_right" "_law_row_right" (defArgs s__law_row_right) (defBody s__law_row_right) (defScope s__law_row_right) .none kV28 dc28 pm28 an28 cd28 ct28), sl28⟩))
    (c28 : @Eq _ (PySem.W.codeIn K cd28 "_law_row_right") (true))
    (k28 : @Eq _ (PySem.W.keepIn K (.ref f28)) (true))
    (a29 : @Eq _ (PySem.W.nsIn K mainGlobals "_law_right") (some (some (.ref f29))))
    (l29 : @Eq _ (K.lookup f29) (some ⟨oc29, od29, .func (PySem.W.fnOf "_law_right" "_law_right" (defArgs s__law_right) (defBody s__law_right) (defScope s__law_right) .none kV29 dc29 pm29 an29 cd29 ct29), sl29⟩))
    (c29 : @Eq _ (PySem.W.codeIn K cd29 "_law_right") (true))
    (k29 : @Eq _ (PySem.W.keepIn K (.ref f29)) (true))
    (a30 : @Eq _ (PySem.W.nsIn K mainGlobals "law") (some (some (.ref f30))))
    (l30 : @Eq _ (K.lookup f30) (some ⟨oc30, od30, .func (PySem.W.fnOf "law" "law" (defArgs s_law) (defBody s_law) (defScope s_law) .none kV30 dc30 pm30 an30 cd30 ct30), sl30⟩))
    (c30 : @Eq _ (PySem.W.codeIn K cd30 "law") (true))
    (k30 : @Eq _ (PySem.W.keepIn K (.ref f30)) (true))
    (a_AF : @Eq _ (PySem.W.nsIn K mainGlobals "Fixed") (some (some (.ref AF))))
    (a_AF___init__ : @Eq _ (PySem.W.findIn K (.ref AF) "__init__") (some (some (.ref g_AF___init__))))
    (l_AF___init__ : @Eq _ (K.lookup g_AF___init__) (some ⟨oc_AF___init__, od_AF___init__, .func (PySem.W.fnOf "__init__" "Fixed.__init__" (defArgs s_Fixed___init__) (defBody s_Fixed___init__) (defScope s_Fixed___init__) .none kV_AF___init__ dc_AF___init__ pm_AF___init__ an_AF___init__ cd_AF___init__ ct_AF___init__), sl_AF___init__⟩))
    (c_AF___init__ : @Eq _ (PySem.W.codeIn K cd_AF___init__ "Fixed.__init__") (true))
    (k_AF___init__ : @Eq _ (PySem.W.keepIn K (.ref g_AF___init__)) (true))
    (i_AF___init__ : @Eq _ (PySem.W.isFn K (.ref g_AF___init__)) (true))
    (a_AF_wish : @Eq _ (PySem.W.findIn K (.ref AF) "wish") (some (some (.ref g_AF_wish))))
    (l_AF_wish : @Eq _ (K.lookup g_AF_wish) (some ⟨oc_AF_wish, od_AF_wish, .func (PySem.W.fnOf "wish" "Fixed.wish" (defArgs s_Fixed_wish) (defBody s_Fixed_wish) (defScope s_Fixed_wish) .none kV_AF_wish dc_AF_wish pm_AF_wish an_AF_wish cd_AF_wish ct_AF_wish), sl_AF_wish⟩))
    (c_AF_wish : @Eq _ (PySem.W.codeIn K cd_AF_wish "Fixed.wish") (true))
    (k_AF_wish : @Eq _ (PySem.W.keepIn K (.ref g_AF_wish)) (true))
    (i_AF_wish : @Eq _ (PySem.W.isFn K (.ref g_AF_wish)) (true))
    (a_AF___call__ : @Eq _ (PySem.W.findIn K (.ref AF) "__call__") (some (some (.ref g_AF___call__))))
    (l_AF___call__ : @Eq _ (K.lookup g_AF___call__) (some ⟨oc_AF___call__, od_AF___call__, .func (PySem.W.fnOf "__call__" "Fixed.__call__" (defArgs s_Fixed___call__) (defBody s_Fixed___call__) (defScope s_Fixed___call__) .none kV_AF___call__ dc_AF___call__ pm_AF___call__ an_AF___call__ cd_AF___call__ ct_AF___call__), sl_AF___call__⟩))
    (c_AF___call__ : @Eq _ (PySem.W.codeIn K cd_AF___call__ "Fixed.__call__") (true))
    (k_AF___call__ : @Eq _ (PySem.W.keepIn K (.ref g_AF___call__)) (true))
    (i_AF___call__ : @Eq _ (PySem.W.isFn K (.ref g_AF___call__)) (true))
    (a_AF___and__ : @Eq _ (PySem.W.findIn K (.ref AF) "__and__") (some (some (.ref g_AF___and__))))
    (l_AF___and__ : @Eq _ (K.lookup g_AF___and__) (some ⟨oc_AF___and__, od_AF___and__, .func (PySem.W.fnOf "__and__" "Fixed.__and__" (defArgs s_Fixed___and__) (defBody s_Fixed___and__) (defScope s_Fixed___and__) .none kV_AF___and__ dc_AF___and__ pm_AF___and__ an_AF___and__ cd_AF___and__ ct_AF___and__), sl_AF___and__⟩))
    (c_AF___and__ : @Eq _ (PySem.W.codeIn K cd_AF___and__ "Fixed.__and__") (true))
    (k_AF___and__ : @Eq _ (PySem.W.keepIn K (.ref g_AF___and__)) (true))
    (i_AF___and__ : @Eq _ (PySem.W.isFn K (.ref g_AF___and__)) (true))
    (a_AF___or__ : @Eq _ (PySem.W.findIn K (.ref AF) "__or__") (some (some (.ref g_AF___or__))))
    (l_AF___or__ : @Eq _ (K.lookup g_AF___or__) (some ⟨oc_AF___or__, od_AF___or__, .func (PySem.W.fnOf "__or__" "Fixed.__or__" (defArgs s_Fixed___or__) (defBody s_Fixed___or__) (defScope s_Fixed___or__) .none kV_AF___or__ dc_AF___or__ pm_AF___or__ an_AF___or__ cd_AF___or__ ct_AF___or__), sl_AF___or__⟩))
    (c_AF___or__ : @Eq _ (PySem.W.codeIn K cd_AF___or__ "Fixed.__or__") (true))
    (k_AF___or__ : @Eq _ (PySem.W.keepIn K (.ref g_AF___or__)) (true))
    (i_AF___or__ : @Eq _ (PySem.W.isFn K (.ref g_AF___or__)) (true))
    (mk_AF : @Eq _ (PySem.W.makesIn K AF) (true))
    (pg_AF : @Eq _ (PySem.W.plainGet K AF Str.empty) (true))
    (hd_AF : @Eq _ (PySem.W.hasDictIn K AF) (true))
    (po_AF : @Eq _ (PySem.W.plainOver K AF) (true))
    (sa_AF : @Eq _ (PySem.W.findIn K (.ref AF) "__setattr__") (some (some (.builtin "object.__setattr__"))))
    (kc_AF : @Eq _ (PySem.W.keepIn K (.ref AF)) (true))
    (ya_AF : @Eq _ (PySem.W.findIn K (.ref AF) "__class__") (some (some (.builtin "object.__class__"))))
    (yb : @Eq _ (PySem.W.specialIn K (.builtin "object.__class__") "__get__") (some (some (.builtin "getset_descriptor.__get__"))))
    (yc : @Eq _ (PySem.W.takesIn K (.builtin "object.__class__")) (some true))
    (yd_AF : @Eq _ (PySem.W.mroIn K AF (.type "object")) (some true))
    (yk_AF : @Eq _ (PySem.W.kitOne K (.ref AF) (.ref AF)) (some true))
    (n_AF_size : @Eq _ (PySem.W.findIn K (.ref AF) "size") (some none))
    (n_AF_modulus : @Eq _ (PySem.W.findIn K (.ref AF) "modulus") (some none))
    (n_AF_parts : @Eq _ (PySem.W.findIn K (.ref AF) "parts") (some none))
    (a_AD : @Eq _ (PySem.W.nsIn K mainGlobals "Divided") (some (some (.ref AD))))
    (a_AD___init__ : @Eq _ (PySem.W.findIn K (.ref AD) "__init__") (some (some (.ref g_AD___init__))))
    (l_AD___init__ : @Eq _ (K.lookup g_AD___init__) (some ⟨oc_AD___init__, od_AD___init__, .func (PySem.W.fnOf "__init__" "Divided.__init__" (defArgs s_Divided___init__) (defBody s_Divided___init__) (defScope s_Divided___init__) .none kV_AD___init__ dc_AD___init__ pm_AD___init__ an_AD___init__ cd_AD___init__ ct_AD___init__), sl_AD___init__⟩))
    (c_AD___init__ : @Eq _ (PySem.W.codeIn K cd_AD___init__ "Divided.__init__") (true))
    (k_AD___init__ : @Eq _ (PySem.W.keepIn K (.ref g_AD___init__)) (true))
    (i_AD___init__ : @Eq _ (PySem.W.isFn K (.ref g_AD___init__)) (true))
    (a_AD_wish : @Eq _ (PySem.W.findIn K (.ref AD) "wish") (some (some (.ref g_AD_wish))))
    (l_AD_wish : @Eq _ (K.lookup g_AD_wish) (some ⟨oc_AD_wish, od_AD_wish, .func (PySem.W.fnOf "wish" "Divided.wish" (defArgs s_Divided_wish) (defBody s_Divided_wish) (defScope s_Divided_wish) .none kV_AD_wish dc_AD_wish pm_AD_wish an_AD_wish cd_AD_wish ct_AD_wish), sl_AD_wish⟩))
    (c_AD_wish : @Eq _ (PySem.W.codeIn K cd_AD_wish "Divided.wish") (true))
    (k_AD_wish : @Eq _ (PySem.W.keepIn K (.ref g_AD_wish)) (true))
    (i_AD_wish : @Eq _ (PySem.W.isFn K (.ref g_AD_wish)) (true))
    (a_AD___call__ : @Eq _ (PySem.W.findIn K (.ref AD) "__call__") (some (some (.ref g_AD___call__))))
    (l_AD___call__ : @Eq _ (K.lookup g_AD___call__) (some ⟨oc_AD___call__, od_AD___call__, .func (PySem.W.fnOf "__call__" "Divided.__call__" (defArgs s_Divided___call__) (defBody s_Divided___call__) (defScope s_Divided___call__) .none kV_AD___call__ dc_AD___call__ pm_AD___call__ an_AD___call__ cd_AD___call__ ct_AD___call__), sl_AD___call__⟩))
    (c_AD___call__ : @Eq _ (PySem.W.codeIn K cd_AD___call__ "Divided.__call__") (true))
    (k_AD___call__ : @Eq _ (PySem.W.keepIn K (.ref g_AD___call__)) (true))
    (i_AD___call__ : @Eq _ (PySem.W.isFn K (.ref g_AD___call__)) (true))
    (a_AD___and__ : @Eq _ (PySem.W.findIn K (.ref AD) "__and__") (some (some (.ref g_AD___and__))))
    (l_AD___and__ : @Eq _ (K.lookup g_AD___and__) (some ⟨oc_AD___and__, od_AD___and__, .func (PySem.W.fnOf "__and__" "Divided.__and__" (defArgs s_Divided___and__) (defBody s_Divided___and__) (defScope s_Divided___and__) .none kV_AD___and__ dc_AD___and__ pm_AD___and__ an_AD___and__ cd_AD___and__ ct_AD___and__), sl_AD___and__⟩))
    (c_AD___and__ : @Eq _ (PySem.W.codeIn K cd_AD___and__ "Divided.__and__") (true))
    (k_AD___and__ : @Eq _ (PySem.W.keepIn K (.ref g_AD___and__)) (true))
    (i_AD___and__ : @Eq _ (PySem.W.isFn K (.ref g_AD___and__)) (true))
    (a_AD___or__ : @Eq _ (PySem.W.findIn K (.ref AD) "__or__") (some (some (.ref g_AD___or__))))
    (l_AD___or__ : @Eq _ (K.lookup g_AD___or__) (some ⟨oc_AD___or__, od_AD___or__, .func (PySem.W.fnOf "__or__" "Divided.__or__" (defArgs s_Divided___or__) (defBody s_Divided___or__) (defScope s_Divided___or__) .none kV_AD___or__ dc_AD___or__ pm_AD___or__ an_AD___or__ cd_AD___or__ ct_AD___or__), sl_AD___or__⟩))
    (c_AD___or__ : @Eq _ (PySem.W.codeIn K cd_AD___or__ "Divided.__or__") (true))
    (k_AD___or__ : @Eq _ (PySem.W.keepIn K (.ref g_AD___or__)) (true))
    (i_AD___or__ : @Eq _ (PySem.W.isFn K (.ref g_AD___or__)) (true))
    (mk_AD : @Eq _ (PySem.W.makesIn K AD) (true))
    (pg_AD : @Eq _ (PySem.W.plainGet K AD Str.empty) (true))
    (hd_AD : @Eq _ (PySem.W.hasDictIn K AD) (true))
    (po_AD : @Eq _ (PySem.W.plainOver K AD) (true))
    (sa_AD : @Eq _ (PySem.W.findIn K (.ref AD) "__setattr__") (some (some (.builtin "object.__setattr__"))))
    (kc_AD : @Eq _ (PySem.W.keepIn K (.ref AD)) (true))
    (ya_AD : @Eq _ (PySem.W.findIn K (.ref AD) "__class__") (some (some (.builtin "object.__class__"))))
    (yd_AD : @Eq _ (PySem.W.mroIn K AD (.type "object")) (some true))
    (yk_AD : @Eq _ (PySem.W.kitOne K (.ref AD) (.ref AD)) (some true))
    (n_AD_x : @Eq _ (PySem.W.findIn K (.ref AD) "x") (some none))
    (n_AD_y : @Eq _ (PySem.W.findIn K (.ref AD) "y") (some none))
    (n_AD_w : @Eq _ (PySem.W.findIn K (.ref AD) "w") (some none))
    (n_AD_modulus : @Eq _ (PySem.W.findIn K (.ref AD) "modulus") (some none))
    (n_AD_parts : @Eq _ (PySem.W.findIn K (.ref AD) "parts") (some none))
    (a_AL : @Eq _ (PySem.W.nsIn K mainGlobals "Lesser") (some (some (.ref AL))))
    (a_AL___init__ : @Eq _ (PySem.W.findIn K (.ref AL) "__init__") (some (some (.ref g_AL___init__))))
    (l_AL___init__ : @Eq _ (K.lookup g_AL___init__) (some ⟨oc_AL___init__, od_AL___init__, .func (PySem.W.fnOf "__init__" "Lesser.__init__" (defArgs s_Lesser___init__) (defBody s_Lesser___init__) (defScope s_Lesser___init__) .none kV_AL___init__ dc_AL___init__ pm_AL___init__ an_AL___init__ cd_AL___init__ ct_AL___init__), sl_AL___init__⟩))
    (c_AL___init__ : @Eq _ (PySem.W.codeIn K cd_AL___init__ "Lesser.__init__") (true))
    (k_AL___init__ : @Eq _ (PySem.W.keepIn K (.ref g_AL___init__)) (true))
    (i_AL___init__ : @Eq _ (PySem.W.isFn K (.ref g_AL___init__)) (true))
    (a_AL_wish : @Eq _ (PySem.W.findIn K (.ref AL) "wish") (some (some (.ref g_AL_wish))))
    (l_AL_wish : @Eq _ (K.lookup g_AL_wish) (some ⟨oc_AL_wish, od_AL_wish, .func (PySem.W.fnOf "wish" "Lesser.wish" (defArgs s_Lesser_wish) (defBody s_Lesser_wish) (defScope s_Lesser_wish) .none kV_AL_wish dc_AL_wish pm_AL_wish an_AL_wish cd_AL_wish ct_AL_wish), sl_AL_wish⟩))
    (c_AL_wish : @Eq _ (PySem.W.codeIn K cd_AL_wish "Lesser.wish") (true))
    (k_AL_wish : @Eq _ (PySem.W.keepIn K (.ref g_AL_wish)) (true))
    (i_AL_wish : @Eq _ (PySem.W.isFn K (.ref g_AL_wish)) (true))
    (a_AL___call__ : @Eq _ (PySem.W.findIn K (.ref AL) "__call__") (some (some (.ref g_AL___call__))))
    (l_AL___call__ : @Eq _ (K.lookup g_AL___call__) (some ⟨oc_AL___call__, od_AL___call__, .func (PySem.W.fnOf "__call__" "Lesser.__call__" (defArgs s_Lesser___call__) (defBody s_Lesser___call__) (defScope s_Lesser___call__) .none kV_AL___call__ dc_AL___call__ pm_AL___call__ an_AL___call__ cd_AL___call__ ct_AL___call__), sl_AL___call__⟩))
    (c_AL___call__ : @Eq _ (PySem.W.codeIn K cd_AL___call__ "Lesser.__call__") (true))
    (k_AL___call__ : @Eq _ (PySem.W.keepIn K (.ref g_AL___call__)) (true))
    (i_AL___call__ : @Eq _ (PySem.W.isFn K (.ref g_AL___call__)) (true))
    (a_AL___and__ : @Eq _ (PySem.W.findIn K (.ref AL) "__and__") (some (some (.ref g_AL___and__))))
    (l_AL___and__ : @Eq _ (K.lookup g_AL___and__) (some ⟨oc_AL___and__, od_AL___and__, .func (PySem.W.fnOf "__and__" "Lesser.__and__" (defArgs s_Lesser___and__) (defBody s_Lesser___and__) (defScope s_Lesser___and__) .none kV_AL___and__ dc_AL___and__ pm_AL___and__ an_AL___and__ cd_AL___and__ ct_AL___and__), sl_AL___and__⟩))
    (c_AL___and__ : @Eq _ (PySem.W.codeIn K cd_AL___and__ "Lesser.__and__") (true))
    (k_AL___and__ : @Eq _ (PySem.W.keepIn K (.ref g_AL___and__)) (true))
    (i_AL___and__ : @Eq _ (PySem.W.isFn K (.ref g_AL___and__)) (true))
    (a_AL___or__ : @Eq _ (PySem.W.findIn K (.ref AL) "__or__") (some (some (.ref g_AL___or__))))
    (l_AL___or__ : @Eq _ (K.lookup g_AL___or__) (some ⟨oc_AL___or__, od_AL___or__, .func (PySem.W.fnOf "__or__" "Lesser.__or__" (defArgs s_Lesser___or__) (defBody s_Lesser___or__) (defScope s_Lesser___or__) .none kV_AL___or__ dc_AL___or__ pm_AL___or__ an_AL___or__ cd_AL___or__ ct_AL___or__), sl_AL___or__⟩))
    (c_AL___or__ : @Eq _ (PySem.W.codeIn K cd_AL___or__ "Lesser.__or__") (true))
    (k_AL___or__ : @Eq _ (PySem.W.keepIn K (.ref g_AL___or__)) (true))
    (i_AL___or__ : @Eq _ (PySem.W.isFn K (.ref g_AL___or__)) (true))
    (mk_AL : @Eq _ (PySem.W.makesIn K AL) (true))
    (pg_AL : @Eq _ (PySem.W.plainGet K AL Str.empty) (true))
    (hd_AL : @Eq _ (PySem.W.hasDictIn K AL) (true))
    (po_AL : @Eq _ (PySem.W.plainOver K AL) (true))
    (sa_AL : @Eq _ (PySem.W.findIn K (.ref AL) "__setattr__") (some (some (.builtin "object.__setattr__"))))
    (kc_AL : @Eq _ (PySem.W.keepIn K (.ref AL)) (true))
    (ya_AL : @Eq _ (PySem.W.findIn K (.ref AL) "__class__") (some (some (.builtin "object.__class__"))))
    (yd_AL : @Eq _ (PySem.W.mroIn K AL (.type "object")) (some true))
    (yk_AL : @Eq _ (PySem.W.kitOne K (.ref AL) (.ref AL)) (some true))
    (n_AL_one : @Eq _ (PySem.W.findIn K (.ref AL) "one") (some none))
    (n_AL_other : @Eq _ (PySem.W.findIn K (.ref AL) "other") (some none))
    (n_AL_modulus : @Eq _ (PySem.W.findIn K (.ref AL) "modulus") (some none))
    (n_AL_parts : @Eq _ (PySem.W.findIn K (.ref AL) "parts") (some none))
    (a_AG : @Eq _ (PySem.W.nsIn K mainGlobals "Greater") (some (some (.ref AG))))
    (a_AG___init__ : @Eq _ (PySem.W.findIn K (.ref AG) "__init__") (some (some (.ref g_AG___init__))))
    (l_AG___init__ : @Eq _ (K.lookup g_AG___init__) (some ⟨oc_AG___init__, od_AG___init__, .func (PySem.W.fnOf "__init__" "Greater.__init__" (defArgs s_Greater___init__) (defBody s_Greater___init__) (defScope s_Greater___init__) .none kV_AG___init__ dc_AG___init__ pm_AG___init__ an_AG___init__ cd_AG___init__ ct_AG___init__), sl_AG___init__⟩))
    (c_AG___init__ : @Eq _ (PySem.W.codeIn K cd_AG___init__ "Greater.__init__") (true))
    (k_AG___init__ : @Eq _ (PySem.W.keepIn K (.ref g_AG___init__)) (true))
    (i_AG___init__ : @Eq _ (PySem.W.isFn K (.ref g_AG___init__)) (true))
    (a_AG_wish : @Eq _ (PySem.W.findIn K (.ref AG) "wish") (some (some (.ref g_AG_wish))))
    (l_AG_wish : @Eq _ (K.lookup g_AG_wish) (some ⟨oc_AG_wish, od_AG_wish, .func (PySem.W.fnOf "wish" "Greater.wish" (defArgs s_Greater_wish) (defBody s_Greater_wish) (defScope s_Greater_wish) .none kV_AG_wish dc_AG_wish pm_AG_wish an_AG_wish cd_AG_wish ct_AG_wish), sl_AG_wish⟩))
    (c_AG_wish : @Eq _ (PySem.W.codeIn K cd_AG_wish "Greater.wish") (true))
    (k_AG_wish : @Eq _ (PySem.W.keepIn K (.ref g_AG_wish)) (true))
    (i_AG_wish : @Eq _ (PySem.W.isFn K (.ref g_AG_wish)) (true))
    (a_AG___call__ : @Eq _ (PySem.W.findIn K (.ref AG) "__call__") (some (some (.ref g_AG___call__))))
    (l_AG___call__ : @Eq _ (K.lookup g_AG___call__) (some ⟨oc_AG___call__, od_AG___call__, .func (PySem.W.fnOf "__call__" "Greater.__call__" (defArgs s_Greater___call__) (defBody s_Greater___call__) (defScope s_Greater___call__) .none kV_AG___call__ dc_AG___call__ pm_AG___call__ an_AG___call__ cd_AG___call__ ct_AG___call__), sl_AG___call__⟩))
    (c_AG___call__ : @Eq _ (PySem.W.codeIn K cd_AG___call__ "Greater.__call__") (true))
    (k_AG___call__ : @Eq _ (PySem.W.keepIn K (.ref g_AG___call__)) (true))
    (i_AG___call__ : @Eq _ (PySem.W.isFn K (.ref g_AG___call__)) (true))
    (a_AG___and__ : @Eq _ (PySem.W.findIn K (.ref AG) "__and__") (some (some (.ref g_AG___and__))))
    (l_AG___and__ : @Eq _ (K.lookup g_AG___and__) (some ⟨oc_AG___and__, od_AG___and__, .func (PySem.W.fnOf "__and__" "Greater.__and__" (defArgs s_Greater___and__) (defBody s_Greater___and__) (defScope s_Greater___and__) .none kV_AG___and__ dc_AG___and__ pm_AG___and__ an_AG___and__ cd_AG___and__ ct_AG___and__), sl_AG___and__⟩))
    (c_AG___and__ : @Eq _ (PySem.W.codeIn K cd_AG___and__ "Greater.__and__") (true))
    (k_AG___and__ : @Eq _ (PySem.W.keepIn K (.ref g_AG___and__)) (true))
    (i_AG___and__ : @Eq _ (PySem.W.isFn K (.ref g_AG___and__)) (true))
    (a_AG___or__ : @Eq _ (PySem.W.findIn K (.ref AG) "__or__") (some (some (.ref g_AG___or__))))
    (l_AG___or__ : @Eq _ (K.lookup g_AG___or__) (some ⟨oc_AG___or__, od_AG___or__, .func (PySem.W.fnOf "__or__" "Greater.__or__" (defArgs s_Greater___or__) (defBody s_Greater___or__) (defScope s_Greater___or__) .none kV_AG___or__ dc_AG___or__ pm_AG___or__ an_AG___or__ cd_AG___or__ ct_AG___or__), sl_AG___or__⟩))
    (c_AG___or__ : @Eq _ (PySem.W.codeIn K cd_AG___or__ "Greater.__or__") (true))
    (k_AG___or__ : @Eq _ (PySem.W.keepIn K (.ref g_AG___or__)) (true))
    (i_AG___or__ : @Eq _ (PySem.W.isFn K (.ref g_AG___or__)) (true))
    (mk_AG : @Eq _ (PySem.W.makesIn K AG) (true))
    (pg_AG : @Eq _ (PySem.W.plainGet K AG Str.empty) (true))
    (hd_AG : @Eq _ (PySem.W.hasDictIn K AG) (true))
    (po_AG : @Eq _ (PySem.W.plainOver K AG) (true))
    (sa_AG : @Eq _ (PySem.W.findIn K (.ref AG) "__setattr__") (some (some (.builtin "object.__setattr__"))))
    (kc_AG : @Eq _ (PySem.W.keepIn K (.ref AG)) (true))
    (ya_AG : @Eq _ (PySem.W.findIn K (.ref AG) "__class__") (some (some (.builtin "object.__class__"))))
    (yd_AG : @Eq _ (PySem.W.mroIn K AG (.type "object")) (some true))
    (yk_AG : @Eq _ (PySem.W.kitOne K (.ref AG) (.ref AG)) (some true))
    (n_AG_one : @Eq _ (PySem.W.findIn K (.ref AG) "one") (some none))
    (n_AG_other : @Eq _ (PySem.W.findIn K (.ref AG) "other") (some none))
    (n_AG_modulus : @Eq _ (PySem.W.findIn K (.ref AG) "modulus") (some none))
    (n_AG_parts : @Eq _ (PySem.W.findIn K (.ref AG) "parts") (some none))
    (a_CY : @Eq _ (PySem.W.nsIn K mainGlobals "By") (some (some (.ref CY))))
    (a_CY___init__ : @Eq _ (PySem.W.findIn K (.ref CY) "__init__") (some (some (.ref g_CY___init__))))
    (l_CY___init__ : @Eq _ (K.lookup g_CY___init__) (some ⟨oc_CY___init__, od_CY___init__, .func (PySem.W.fnOf "__init__" "By.__init__" (defArgs s_By___init__) (defBody s_By___init__) (defScope s_By___init__) .none kV_CY___init__ dc_CY___init__ pm_CY___init__ an_CY___init__ cd_CY___init__ ct_CY___init__), sl_CY___init__⟩))
    (c_CY___init__ : @Eq _ (PySem.W.codeIn K cd_CY___init__ "By.__init__") (true))
    (k_CY___init__ : @Eq _ (PySem.W.keepIn K (.ref g_CY___init__)) (true))
    (i_CY___init__ : @Eq _ (PySem.W.isFn K (.ref g_CY___init__)) (true))
    (a_CY___and__ : @Eq _ (PySem.W.findIn K (.ref CY) "__and__") (some (some (.ref g_CY___and__))))
    (l_CY___and__ : @Eq _ (K.lookup g_CY___and__) (some ⟨oc_CY___and__, od_CY___and__, .func (PySem.W.fnOf "__and__" "By.__and__" (defArgs s_By___and__) (defBody s_By___and__) (defScope s_By___and__) .none kV_CY___and__ dc_CY___and__ pm_CY___and__ an_CY___and__ cd_CY___and__ ct_CY___and__), sl_CY___and__⟩))
    (c_CY___and__ : @Eq _ (PySem.W.codeIn K cd_CY___and__ "By.__and__") (true))
    (k_CY___and__ : @Eq _ (PySem.W.keepIn K (.ref g_CY___and__)) (true))
    (i_CY___and__ : @Eq _ (PySem.W.isFn K (.ref g_CY___and__)) (true))
    (a_CY___or__ : @Eq _ (PySem.W.findIn K (.ref CY) "__or__") (some (some (.ref g_CY___or__))))
    (l_CY___or__ : @Eq _ (K.lookup g_CY___or__) (some ⟨oc_CY___or__, od_CY___or__, .func (PySem.W.fnOf "__or__" "By.__or__" (defArgs s_By___or__) (defBody s_By___or__) (defScope s_By___or__) .none kV_CY___or__ dc_CY___or__ pm_CY___or__ an_CY___or__ cd_CY___or__ ct_CY___or__), sl_CY___or__⟩))
    (c_CY___or__ : @Eq _ (PySem.W.codeIn K cd_CY___or__ "By.__or__") (true))
    (k_CY___or__ : @Eq _ (PySem.W.keepIn K (.ref g_CY___or__)) (true))
    (i_CY___or__ : @Eq _ (PySem.W.isFn K (.ref g_CY___or__)) (true))
    (mk_CY : @Eq _ (PySem.W.makesIn K CY) (true))
    (pg_CY : @Eq _ (PySem.W.plainGet K CY Str.empty) (true))
    (hd_CY : @Eq _ (PySem.W.hasDictIn K CY) (true))
    (po_CY : @Eq _ (PySem.W.plainOver K CY) (true))
    (sa_CY : @Eq _ (PySem.W.findIn K (.ref CY) "__setattr__") (some (some (.builtin "object.__setattr__"))))
    (kc_CY : @Eq _ (PySem.W.keepIn K (.ref CY)) (true))
    (ya_CY : @Eq _ (PySem.W.findIn K (.ref CY) "__class__") (some (some (.builtin "object.__class__"))))
    (yd_CY : @Eq _ (PySem.W.mroIn K CY (.type "object")) (some true))
    (yk_CY : @Eq _ (PySem.W.kitOne K (.ref CY) (.ref CY)) (some true))
    (n_CY_function : @Eq _ (PySem.W.findIn K (.ref CY) "function") (some none))
    (n_CY_modulus : @Eq _ (PySem.W.findIn K (.ref CY) "modulus") (some none))
    (n_CY_parts : @Eq _ (PySem.W.findIn K (.ref CY) "parts") (some none))
    (a_CR0 : @Eq _ (PySem.W.nsIn K mainGlobals "Rule") (some (some (.ref CR0))))
    (a_CL : @Eq _ (PySem.W.nsIn K mainGlobals "LateError") (some (some (.ref CL))))
    (a_lcm : @Eq _ (PySem.W.nsIn K mainGlobals "lcm") (some (some (.builtin "math.lcm"))))
    (aZS : @Eq _ (PySem.W.nsIn K mainGlobals "BadSize") (some (some (.ref CS))))
    (iZS : @Eq _ (PySem.W.findIn K (.ref CS) "__init__") (some (some (.ref fZS))))
    (tZS : @Eq _ (PySem.W.typeIn K (.ref fZS)) (some (.type "function")))
    (lZS : @Eq _ (K.lookup fZS) (some ⟨ocZS, odZS, .func (PySem.W.fnX "__init__" "BadSize.__init__" (defArgs s_BadSize___init__) (defBody s_BadSize___init__) (defScope s_BadSize___init__) [("__class__", ccZS)] .none kVZS dcZS pmZS anZS (.ref cdZS) ctZS), slZS⟩))
    (cZS : @Eq _ (PySem.W.codeIn K (.ref cdZS) "BadSize.__init__") (true))
    (eZS : exD K CS)
    (sZS : @Eq _ (PySem.W.findIn K (.ref CS) "__setattr__") (some (some (.builtin "object.__setattr__"))))
    (xZS : @Eq _ (PySem.W.subIn K (.ref CS) (.type "BaseException")) (some true))
    (yZS : @Eq _ (PySem.W.typeIn K (.ref CS)) (some (.type "type")))
    (kZS : @Eq _ (PySem.W.keepIn K (.ref CS)) (true))
    (qZS : @Eq _ (K.lookup ccZS) (some ⟨clZS, cldZS, .cell (some (.ref CS)), cslZS⟩))
    (uZS : @Eq _ (K.lookup cdZS) (some ⟨cclZS, cddZS, .fields vsZS, ccsZS⟩))
    (vZS : v2D vsZS fileZS tfZS)
    (wZS : w2D l fileZS)
    (mZS : @Eq _ (PySem.W.mroIn K CS (.ref CS)) (some true))
    (pZS : @Eq _ (PySem.W.ks_superIn K CS CS "__init__") (some (some (.builtin "ValueError.__init__"))))
    (bZS : @Eq _ (PySem.W.subIn K (.ref CS) (.type "ValueError")) (some true))
    (zS : @Eq _ (PySem.W.nsIn K mainGlobals "super") (some none))
    (tS : @Eq _ ((l.prog.main.scope.names.lookup ("super" : Str)).isSome) (false))
    (oB : @Eq _ (PySem.W.nsIn K cStatics "thirdparty.any") (some none))
    (nZS_value : @Eq _ (PySem.W.findIn K (.ref CS) "value") (some none))
    (gZS : @Eq _ (PySem.W.findIn K (.ref CS) "__getattribute__") (some (some (.builtin "BaseException.__getattribute__"))))
    (hZS : @Eq _ (PySem.W.findIn K (.ref CS) "__getattr__") (some none))
    (dZS : @Eq _ (PySem.W.hasDictIn K CS) (true))
    (jZS : @Eq _ (PySem.W.findIn K (.ref CS) "__class__") (some (some (.builtin "object.__class__"))))
    (rZS : @Eq _ (PySem.W.mroIn K CS (.type "object")) (some true))
    (k1ZS : @Eq _ (PySem.W.kitOne K (.ref CS) (.ref CS)) (some true))
    (emZS : @Eq _ (PySem.W.exmOne K (.ref CS) (.ref CL)) (some true))
    (aZR : @Eq _ (PySem.W.nsIn K mainGlobals "BadRule") (some (some (.ref CR))))
    (iZR : @Eq _ (PySem.W.findIn K (.ref CR) "__init__") (some (some (.ref fZR))))
    (tZR : @Eq _ (PySem.W.typeIn K (.ref fZR)) (some (.type "function")))
    (lZR : @Eq _ (K.lookup fZR) (some ⟨ocZR, odZR, .func (PySem.W.fnX "__init__" "BadRule.__init__" (defArgs s_BadRule___init__) (defBody s_BadRule___init__) (defScope s_BadRule___init__) [("__class__", ccZR)] .none kVZR dcZR pmZR anZR (.ref cdZR) ctZR), slZR⟩))
    (cZR : @Eq _ (PySem.W.codeIn K (.ref cdZR) "BadRule.__init__") (true))
    (eZR : exD K CR)
    (sZR : @Eq _ (PySem.W.findIn K (.ref CR) "__setattr__") (some (some (.builtin "object.__setattr__"))))
    (xZR : @Eq _ (PySem.W.subIn K (.ref CR) (.type "BaseException")) (some true))
    (yZR : @Eq _ (PySem.W.typeIn K (.ref CR)) (some (.type "type")))
    (kZR : @Eq _ (PySem.W.keepIn K (.ref CR)) (true))
    (qZR : @Eq _ (K.lookup ccZR) (some ⟨clZR, cldZR, .cell (some (.ref CR)), cslZR⟩))
    (uZR : @Eq _ (K.lookup cdZR) (some ⟨cclZR, cddZR, .fields vsZR, ccsZR⟩))
    (vZR : v2D vsZR fileZR tfZR)
    (wZR : w2D l fileZR)
    (mZR : @Eq _ (PySem.W.mroIn K CR (.ref CR)) (some true))
    (pZR : @Eq _ (PySem.W.ks_superIn K CR CR "__init__") (some (some (.builtin "ValueError.__init__"))))
    (bZR : @Eq _ (PySem.W.subIn K (.ref CR) (.type "ValueError")) (some true))
    (nZR_part : @Eq _ (PySem.W.findIn K (.ref CR) "part") (some none))
    (gZR : @Eq _ (PySem.W.findIn K (.ref CR) "__getattribute__") (some (some (.builtin "BaseException.__getattribute__"))))
    (hZR : @Eq _ (PySem.W.findIn K (.ref CR) "__getattr__") (some none))
    (dZR : @Eq _ (PySem.W.hasDictIn K CR) (true))
    (jZR : @Eq _ (PySem.W.findIn K (.ref CR) "__class__") (some (some (.builtin "object.__class__"))))
    (rZR : @Eq _ (PySem.W.mroIn K CR (.type "object")) (some true))
    (k1ZR : @Eq _ (PySem.W.kitOne K (.ref CR) (.ref CR)) (some true))
    (emZR : @Eq _ (PySem.W.exmOne K (.ref CR) (.ref CL)) (some true))
    (aZM : @Eq _ (PySem.W.nsIn K mainGlobals "TooMany") (some (some (.ref CM))))
    (iZM : @Eq _ (PySem.W.findIn K (.ref CM) "__init__") (some (some (.ref fZM))))
    (tZM : @Eq _ (PySem.W.typeIn K (.ref fZM)) (some (.type "function")))
    (lZM : @Eq _ (K.lookup fZM) (some ⟨ocZM, odZM, .func (PySem.W.fnX "__init__" "TooMany.__init__" (defArgs s_TooMany___init__) (defBody s_TooMany___init__) (defScope s_TooMany___init__) [("__class__", ccZM)] .none kVZM dcZM pmZM anZM (.ref cdZM) ctZM), slZM⟩))
    (cZM : @Eq _ (PySem.W.codeIn K (.ref cdZM) "TooMany.__init__") (true))
    (eZM : exD K CM)
    (sZM : @Eq _ (PySem.W.findIn K (.ref CM) "__setattr__") (some (some (.builtin "object.__setattr__"))))
    (xZM : @Eq _ (PySem.W.subIn K (.ref CM) (.type "BaseException")) (some true))
    (yZM : @Eq _ (PySem.W.typeIn K (.ref CM)) (some (.type "type")))
    (kZM : @Eq _ (PySem.W.keepIn K (.ref CM)) (true))
    (qZM : @Eq _ (K.lookup ccZM) (some ⟨clZM, cldZM, .cell (some (.ref CM)), cslZM⟩))
    (uZM : @Eq _ (K.lookup cdZM) (some ⟨cclZM, cddZM, .fields vsZM, ccsZM⟩))
    (vZM : v2D vsZM fileZM tfZM)
    (wZM : w2D l fileZM)
    (mZM : @Eq _ (PySem.W.mroIn K CM (.ref CM)) (some true))
    (pZM : @Eq _ (PySem.W.ks_superIn K CM CM "__init__") (some (some (.builtin "ValueError.__init__"))))
    (bZM : @Eq _ (PySem.W.subIn K (.ref CM) (.type "ValueError")) (some true))
    (nZM_what : @Eq _ (PySem.W.findIn K (.ref CM) "what") (some none))
    (nZM_most : @Eq _ (PySem.W.findIn K (.ref CM) "most") (some none))
    (gZM : @Eq _ (PySem.W.findIn K (.ref CM) "__getattribute__") (some (some (.builtin "BaseException.__getattribute__"))))
    (hZM : @Eq _ (PySem.W.findIn K (.ref CM) "__getattr__") (some none))
    (dZM : @Eq _ (PySem.W.hasDictIn K CM) (true))
    (jZM : @Eq _ (PySem.W.findIn K (.ref CM) "__class__") (some (some (.builtin "object.__class__"))))
    (rZM : @Eq _ (PySem.W.mroIn K CM (.type "object")) (some true))
    (k1ZM : @Eq _ (PySem.W.kitOne K (.ref CM) (.ref CM)) (some true))
    (emZM : @Eq _ (PySem.W.exmOne K (.ref CM) (.ref CL)) (some true))
    (aZE : @Eq _ (PySem.W.nsIn K mainGlobals "BadRest") (some (some (.ref CE))))
    (iZE : @Eq _ (PySem.W.findIn K (.ref CE) "__init__") (some (some (.ref fZE))))
    (tZE : @Eq _ (PySem.W.typeIn K (.ref fZE)) (some (.type "function")))
    (lZE : @Eq _ (K.lookup fZE) (some ⟨ocZE, odZE, .func (PySem.W.fnX "__init__" "BadRest.__init__" (defArgs s_BadRest___init__) (defBody s_BadRest___init__) (defScope s_BadRest___init__) [("__class__", ccZE)] .none kVZE dcZE pmZE anZE (.ref cdZE) ctZE), slZE⟩))
    (cZE : @Eq _ (PySem.W.codeIn K (.ref cdZE) "BadRest.__init__") (true))
    (eZE : exD K CE)
    (sZE : @Eq _ (PySem.W.findIn K (.ref CE) "__setattr__") (some (some (.builtin "object.__setattr__"))))
    (xZE : @Eq _ (PySem.W.subIn K (.ref CE) (.type "BaseException")) (some true))
    (yZE : @Eq _ (PySem.W.typeIn K (.ref CE)) (some (.type "type")))
    (kZE : @Eq _ (PySem.W.keepIn K (.ref CE)) (true))
    (qZE : @Eq _ (K.lookup ccZE) (some ⟨clZE, cldZE, .cell (some (.ref CE)), cslZE⟩))
    (uZE : @Eq _ (K.lookup cdZE) (some ⟨cclZE, cddZE, .fields vsZE, ccsZE⟩))
    (vZE : v2D vsZE fileZE tfZE)
    (wZE : w2D l fileZE)
    (mZE : @Eq _ (PySem.W.mroIn K CE (.ref CE)) (some true))
    (pZE : @Eq _ (PySem.W.ks_superIn K CE CE "__init__") (some (some (.builtin "ValueError.__init__"))))
    (bZE : @Eq _ (PySem.W.subIn K (.ref CE) (.type "ValueError")) (some true))
    (nZE_value : @Eq _ (PySem.W.findIn K (.ref CE) "value") (some none))
    (gZE : @Eq _ (PySem.W.findIn K (.ref CE) "__getattribute__") (some (some (.builtin "BaseException.__getattribute__"))))
    (hZE : @Eq _ (PySem.W.findIn K (.ref CE) "__getattr__") (some none))
    (dZE : @Eq _ (PySem.W.hasDictIn K CE) (true))
    (jZE : @Eq _ (PySem.W.findIn K (.ref CE) "__class__") (some (some (.builtin "object.__class__"))))
    (rZE : @Eq _ (PySem.W.mroIn K CE (.type "object")) (some true))
    (k1ZE : @Eq _ (PySem.W.kitOne K (.ref CE) (.ref CE)) (some true))
    (emZE : @Eq _ (PySem.W.exmOne K (.ref CE) (.ref CL)) (some true))
    (kJ_AF : @Eq _ (PySem.W.kitAny K (.ref AF) [.ref AF, .ref AD, .ref AL, .ref AG]) (some true))
    (kJ_AD : @Eq _ (PySem.W.kitAny K (.ref AD) [.ref AF, .ref AD, .ref AL, .ref AG]) (some true))
    (kJ_AL : @Eq _ (PySem.W.kitAny K (.ref AL) [.ref AF, .ref AD, .ref AL, .ref AG]) (some true))
    (kJ_AG : @Eq _ (PySem.W.kitAny K (.ref AG) [.ref AF, .ref AD, .ref AL, .ref AG]) (some true))
    (kYJ : @Eq _ (PySem.W.kitAny K (.ref CY) [.ref AF, .ref AD, .ref AL, .ref AG]) (some false))
    (kTJ : @Eq _ ((numTys.all fun T => decide (PySem.W.kitAny K (.type T) [.ref AF, .ref AD, .ref AL, .ref AG] = some false))) (true))
    (kE_AFAF : @Eq _ (PySem.W.kitOne K (.ref AF) (.ref AF)) (some true))
    (kE_AFAD : @Eq _ (PySem.W.kitOne K (.ref AF) (.ref AD)) (some false))
    (kE_AFAL : @Eq _ (PySem.W.kitOne K (.ref AF) (.ref AL)) (some false))
    (kE_AFAG : @Eq _ (PySem.W.kitOne K (.ref AF) (.ref AG)) (some false))
    (kE_ADAF : @Eq _ (PySem.W.kitOne K (.ref AD) (.ref AF)) (some false))
    (kE_ADAD : @Eq _ (PySem.W.kitOne K (.ref AD) (.ref AD)) (some true))
    (kE_ADAL : @Eq _ (PySem.W.kitOne K (.ref AD) (.ref AL)) (some false))
    (kE_ADAG : @Eq _ (PySem.W.kitOne K (.ref AD) (.ref AG)) (some false))
    (kE_ALAF : @Eq _ (PySem.W.kitOne K (.ref AL) (.ref AF)) (some false))
    (kE_ALAD : @Eq _ (PySem.W.kitOne K (.ref AL) (.ref AD)) (some false))
    (kE_ALAL : @Eq _ (PySem.W.kitOne K (.ref AL) (.ref AL)) (some true))
    (kE_ALAG : @Eq _ (PySem.W.kitOne K (.ref AL) (.ref AG)) (some false))
    (kE_AGAF : @Eq _ (PySem.W.kitOne K (.ref AG) (.ref AF)) (some false))
    (kE_AGAD : @Eq _ (PySem.W.kitOne K (.ref AG) (.ref AD)) (some false))
    (kE_AGAL : @Eq _ (PySem.W.kitOne K (.ref AG) (.ref AL)) (some false))
    (kE_AGAG : @Eq _ (PySem.W.kitOne K (.ref AG) (.ref AG)) (some true))
    (kYE_AF : @Eq _ (PySem.W.kitOne K (.ref CY) (.ref AF)) (some false))
    (kTE_AF : @Eq _ ((numTys.all fun T => decide (PySem.W.kitOne K (.type T) (.ref AF) = some false))) (true))
    (kR_AF : @Eq _ (PySem.W.kitOne K (.ref AF) (.ref CR0)) (some true))
    (kYE_AD : @Eq _ (PySem.W.kitOne K (.ref CY) (.ref AD)) (some false))
    (kTE_AD : @Eq _ ((numTys.all fun T => decide (PySem.W.kitOne K (.type T) (.ref AD) = some false))) (true))
    (kR_AD : @Eq _ (PySem.W.kitOne K (.ref AD) (.ref CR0)) (some true))
    (kYE_AL : @Eq _ (PySem.W.kitOne K (.ref CY) (.ref AL)) (some false))
    (kTE_AL : @Eq _ ((numTys.all fun T => decide (PySem.W.kitOne K (.type T) (.ref AL) = some false))) (true))
    (kR_AL : @Eq _ (PySem.W.kitOne K (.ref AL) (.ref CR0)) (some true))
    (kYE_AG : @Eq _ (PySem.W.kitOne K (.ref CY) (.ref AG)) (some false))
    (kTE_AG : @Eq _ ((numTys.all fun T => decide (PySem.W.kitOne K (.type T) (.ref AG) = some false))) (true))
    (kR_AG : @Eq _ (PySem.W.kitOne K (.ref AG) (.ref CR0)) (some true))
    (gMS : @Eq _ (PySem.W.nsIn K mainGlobals "MOST_SIZE") (some (some (.int 1000000000000000000000000000000 tMS))))
    (gMD : @Eq _ (PySem.W.nsIn K mainGlobals "MOST_DIVISOR") (some (some (.int 24 tMD))))
    (gMA : @Eq _ (PySem.W.nsIn K mainGlobals "MOST_ADDED") (some (some (.int 1000 tMA))))
    (gMP : @Eq _ (PySem.W.nsIn K mainGlobals "MOST_PARTS") (some (some (.int 6 tMP))))
    (gMR : @Eq _ (PySem.W.nsIn K mainGlobals "MOST_RESIDUES") (some (some (.int 5000 tMR))))
    (sf_AF : @Eq _ (PySem.W.selfFirst K AF) (true))
    (mr_AF : @Eq _ ((PySem.W.clsIn K AF).map (·.mro)) (some [.ref AF, .ref CR0, .type "object"]))
    (o_and_AF : @Eq _ (othersB K AF .BitAnd) (true))
    (u_and_AF : @Eq _ (PySem.W.findIn K (.ref AF) (dunderI (.BitAnd : Operator).info.2)) (some none))
    (r_and_AF : @Eq _ (PySem.W.findIn K (.ref AF) (dunderR (.BitAnd : Operator).info.2)) (some none))
    (o_or_AF : @Eq _ (othersB K AF .BitOr) (true))
    (u_or_AF : @Eq _ (PySem.W.findIn K (.ref AF) (dunderI (.BitOr : Operator).info.2)) (some none))
    (r_or_AF : @Eq _ (PySem.W.findIn K (.ref AF) (dunderR (.BitOr : Operator).info.2)) (some none))
    (ne_AFAD : AF ≠ AD)
    (sb_AFAD : @Eq _ (PySem.W.subIn K (.ref AD) (.ref AF)) (some false))
    (ne_AFAL : AF ≠ AL)
    (sb_AFAL : @Eq _ (PySem.W.subIn K (.ref AL) (.ref AF)) (some false))
    (ne_AFAG : AF ≠ AG)
    (sb_AFAG : @Eq _ (PySem.W.subIn K (.ref AG) (.ref AF)) (some false))
    (ne_AFCY : AF ≠ CY)
    (sb_AFCY : @Eq _ (PySem.W.subIn K (.ref CY) (.ref AF)) (some false))
    (sf_AD : @Eq _ (PySem.W.selfFirst K AD) (true))
    (mr_AD : @Eq _ ((PySem.W.clsIn K AD).map (·.mro)) (some [.ref AD, .ref CR0, .type "object"]))
    (o_and_AD : @Eq _ (othersB K AD .BitAnd) (true))
    (u_and_AD : @Eq _ (PySem.W.findIn K (.ref AD) (dunderI (.BitAnd : Operator).info.2)) (some none))
    (r_and_AD : @Eq _ (PySem.W.findIn K (.ref AD) (dunderR (.BitAnd : Operator).info.2)) (some none))
    (o_or_AD : @Eq _ (othersB K AD .BitOr) (true))
    (u_or_AD : @Eq _ (PySem.W.findIn K (.ref AD) (dunderI (.BitOr : Operator).info.2)) (some none))
    (r_or_AD : @Eq _ (PySem.W.findIn K (.ref AD) (dunderR (.BitOr : Operator).info.2)) (some none))
    (ne_ADAF : AD ≠ AF)
    (sb_ADAF : @Eq _ (PySem.W.subIn K (.ref AF) (.ref AD)) (some false))
    (ne_ADAL : AD ≠ AL)
    (sb_ADAL : @Eq _ (PySem.W.subIn K (.ref AL) (.ref AD)) (some false))
    (ne_ADAG : AD ≠ AG)
    (sb_ADAG : @Eq _ (PySem.W.subIn K (.ref AG) (.ref AD)) (some false))
    (ne_ADCY : AD ≠ CY)
    (sb_ADCY : @Eq _ (PySem.W.subIn K (.ref CY) (.ref AD)) (some false))
    (sf_AL : @Eq _ (PySem.W.selfFirst K AL) (true))
    (mr_AL : @Eq _ ((PySem.W.clsIn K AL).map (·.mro)) (some [.ref AL, .ref CR0, .type "object"]))
    (o_and_AL : @Eq _ (othersB K AL .BitAnd) (true))
    (u_and_AL : @Eq _ (PySem.W.findIn K (.ref AL) (dunderI (.BitAnd : Operator).info.2)) (some none))
    (r_and_AL : @Eq _ (PySem.W.findIn K (.ref AL) (dunderR (.BitAnd : Operator).info.2)) (some none))
    (o_or_AL : @Eq _ (othersB K AL .BitOr) (true))
    (u_or_AL : @Eq _ (PySem.W.findIn K (.ref AL) (dunderI (.BitOr : Operator).info.2)) (some none))
    (r_or_AL : @Eq _ (PySem.W.findIn K (.ref AL) (dunderR (.BitOr : Operator).info.2)) (some none))
    (ne_ALAF : AL ≠ AF)
    (sb_ALAF : @Eq _ (PySem.W.subIn K (.ref AF) (.ref AL)) (some false))
    (ne_ALAD : AL ≠ AD)
    (sb_ALAD : @Eq _ (PySem.W.subIn K (.ref AD) (.ref AL)) (some false))
    (ne_ALAG : AL ≠ AG)
    (sb_ALAG : @Eq _ (PySem.W.subIn K (.ref AG) (.ref AL)) (some false))
    (ne_ALCY : AL ≠ CY)
    (sb_ALCY : @Eq _ (PySem.W.subIn K (.ref CY) (.ref AL)) (some false))
    (sf_AG : @Eq _ (PySem.W.selfFirst K AG) (true))
    (mr_AG : @Eq _ ((PySem.W.clsIn K AG).map (·.mro)) (some [.ref AG, .ref CR0, .type "object"]))
    (o_and_AG : @Eq _ (othersB K AG .BitAnd) (true))
    (u_and_AG : @Eq _ (PySem.W.findIn K (.ref AG) (dunderI (.BitAnd : Operator).info.2)) (some none))
    (r_and_AG : @Eq _ (PySem.W.findIn K (.ref AG) (dunderR (.BitAnd : Operator).info.2)) (some none))
    (o_or_AG : @Eq _ (othersB K AG .BitOr) (true))
    (u_or_AG : @Eq _ (PySem.W.findIn K (.ref AG) (dunderI (.BitOr : Operator).info.2)) (some none))
    (r_or_AG : @Eq _ (PySem.W.findIn K (.ref AG) (dunderR (.BitOr : Operator).info.2)) (some none))
    (ne_AGAF : AG ≠ AF)
    (sb_AGAF : @Eq _ (PySem.W.subIn K (.ref AF) (.ref AG)) (some false))
    (ne_AGAD : AG ≠ AD)
    (sb_AGAD : @Eq _ (PySem.W.subIn K (.ref AD) (.ref AG)) (some false))
    (ne_AGAL : AG ≠ AL)
    (sb_AGAL : @Eq _ (PySem.W.subIn K (.ref AL) (.ref AG)) (some false))
    (ne_AGCY : AG ≠ CY)
    (sb_AGCY : @Eq _ (PySem.W.subIn K (.ref CY) (.ref AG)) (some false))
    (sf_CY : @Eq _ (PySem.W.selfFirst K CY) (true))
    (mr_CY : @Eq _ ((PySem.W.clsIn K CY).map (·.mro)) (some [.ref CY, .ref CR0, .type "object"]))
    (o_and_CY : @Eq _ (othersB K CY .BitAnd) (true))
    (u_and_CY : @Eq _ (PySem.W.findIn K (.ref CY) (dunderI (.BitAnd : Operator).info.2)) (some none))
    (r_and_CY : @Eq _ (PySem.W.findIn K (.ref CY) (dunderR (.BitAnd : Operator).info.2)) (some none))
    (o_or_CY : @Eq _ (othersB K CY .BitOr) (true))
    (u_or_CY : @Eq _ (PySem.W.findIn K (.ref CY) (dunderI (.BitOr : Operator).info.2)) (some none))
    (r_or_CY : @Eq _ (PySem.W.findIn K (.ref CY) (dunderR (.BitOr : Operator).info.2)) (some none))
    (ne_CYAF : CY ≠ AF)
    (sb_CYAF : @Eq _ (PySem.W.subIn K (.ref AF) (.ref CY)) (some false))
    (ne_CYAD : CY ≠ AD)
    (sb_CYAD : @Eq _ (PySem.W.subIn K (.ref AD) (.ref CY)) (some false))
    (ne_CYAL : CY ≠ AL)
    (sb_CYAL : @Eq _ (PySem.W.subIn K (.ref AL) (.ref CY)) (some false))
    (ne_CYAG : CY ≠ AG)
    (sb_CYAG : @Eq _ (PySem.W.subIn K (.ref AG) (.ref CY)) (some false))
    (v_and : @Eq _ (PySem.W.findIn K (.ref CR0) (dunderI (.BitAnd : Operator).info.2)) (some none))
    (x_and : @Eq _ (PySem.W.findIn K (.type "object") (dunderI (.BitAnd : Operator).info.2)) (some none))
    (v_or : @Eq _ (PySem.W.findIn K (.ref CR0) (dunderI (.BitOr : Operator).info.2)) (some none))
    (x_or : @Eq _ (PySem.W.findIn K (.type "object") (dunderI (.BitOr : Operator).info.2)) (some none))
    (km_AF : @Eq _ (PySem.W.keepIn K (.ref g_AF_wish)) (true))
    (km_AD : @Eq _ (PySem.W.keepIn K (.ref g_AD_wish)) (true))
    (km_AL : @Eq _ (PySem.W.keepIn K (.ref g_AL_wish)) (true))
    (km_AG : @Eq _ (PySem.W.keepIn K (.ref g_AG_wish)) (true))
    (kIY_AF : @Eq _ (PySem.W.kitOne K (.ref AF) (.ref CY)) (some false))
    (kIY_AD : @Eq _ (PySem.W.kitOne K (.ref AD) (.ref CY)) (some false))
    (kIY_AL : @Eq _ (PySem.W.kitOne K (.ref AL) (.ref CY)) (some false))
    (kIY_AG : @Eq _ (PySem.W.kitOne K (.ref AG) (.ref CY)) (some false))
    (cq_AF : @Eq _ (PySem.W.fnIn K g_AF___call__) (true))
    (cq_AD : @Eq _ (PySem.W.fnIn K g_AD___call__) (true))
    (cq_AL : @Eq _ (PySem.W.fnIn K g_AL___call__) (true))
    (cq_AG : @Eq _ (PySem.W.fnIn K g_AG___call__) (true))
    (z_isinstance : @Eq _ (PySem.W.nsIn K mainGlobals "isinstance") (some none))
    (z_int : @Eq _ (PySem.W.nsIn K mainGlobals "int") (some none))
    (z_bool : @Eq _ (PySem.W.nsIn K mainGlobals "bool") (some none))
    (z_len : @Eq _ (PySem.W.nsIn K mainGlobals "len") (some none))
    (z_abs : @Eq _ (PySem.W.nsIn K mainGlobals "abs") (some none))
    (z_list : @Eq _ (PySem.W.nsIn K mainGlobals "list") (some none))
    (z_tuple : @Eq _ (PySem.W.nsIn K mainGlobals "tuple") (some none))
    (z_range : @Eq _ (PySem.W.nsIn K mainGlobals "range") (some none))
    (z_repr : @Eq _ (PySem.W.nsIn K mainGlobals "repr") (some none))
    (z_str : @Eq _ (PySem.W.nsIn K mainGlobals "str") (some none))
    (z_min : @Eq _ (PySem.W.nsIn K mainGlobals "min") (some none))
    (z_max : @Eq _ (PySem.W.nsIn K mainGlobals "max") (some none))
    (z_all : @Eq _ (PySem.W.nsIn K mainGlobals "all") (some none))
    (z_enumerate : @Eq _ (PySem.W.nsIn K mainGlobals "enumerate") (some none))
    (z_sorted : @Eq _ (PySem.W.nsIn K mainGlobals "sorted") (some none))
    (hPd0 : ([] : List Addr).Nodup), LawG l w K CX0 18 63 "_law_script" mg fa h
end K53H
namespace L3
open PySem PySem.W
def kmOb (a t : List Addr) (s : SharedT) : List (Option Obj) × List (Option Obj) := (a.map (HandSHeadRun.getT s), t.map (HandSHeadRun.getT s))
theorem kmOb_eq {K : Params → Frag} {a : List Addr} {e : ∀ P, a = (K P).map (·.1)} {t : List Addr} (s : SharedT) : kmOb a t s = (kmHook K a e t).obs s.abs := by
  have h : HandSHeadRun.getT s = s.abs.heap.get? := funext (HandSHeadRun.getT_eq s)
  unfold kmOb
  rw [h]; rfl
open PySem.Calls PyProof.Rows HandSHeadRun in
def RunEqI (r : OpenRow) (q : Program) (H : Hook) (ob : SharedT → H.α) (M : Nat) (loose : List PySem.Str) (w : World) : Prop :=
  (wholeF (fun p => stepQ (denQ tabQ) p w) fenceQ M r.prog).map (fun x => (looksF r.prog x.1.heap x.2.abs, seenQ q loose (importedModules r.prog.main.body) (fun s => xlAt q [] s && recOk r.toRowW.records s) x.2.abs, ob x.2)) = some (true, openGood q loose, H.val w)
open PySem.Calls PyProof.Rows HandSHeadRun in
theorem head_anyI {r : OpenRow} {q : Program} {H : Hook} {ob : SharedT → H.α} {M : Nat} {loose : List PySem.Str} {d : DefRec} {kwd : List (PySem.Str × PySem.Expr)} (ho : ∀ s : SharedT, ob s = H.obs s.abs)
    (run : ∀ w, RunEqI r q H ob M loose w)
    (hdef : defOf q r.name = some (d, kwd)) (hp : r.prog.theDef r.name = some (d.params, d.body, d.scope)) (hk : kwWritten? d.params.kwonlyargs d.params.kw_defaults = some kwd)
    (hwr : (!r.writes || r.records.isEmpty) = true) (k1 : r.wellSaid = true) (ok : (chainsOk q && opensWell r.prog && (frees r.toRowW && r.within.isEmpty)) = true) (hb : r.prog.bare) (hw : r.toRowW.promised)
    (call : WalkO q loose (XL q []) H.says r.toRowW d kwd fun f vs => PySem.call f vs) : r.Holds := by
  have left : LeftO r.prog q loose (fun s => xlAt q [] s && recOk r.toRowW.records s) H.obs H.val M true :=
    left_imp fun w => by
      have z := run w
      have eo : ob = fun s => H.obs s.abs := funext ho
      rw [eo] at z
      rw [wholeQ_eq]
      simp only [seenQ_eq]
      exact z
  exact holds_open (r := r) (q := q) (loose := loose) (XP := XL q []) (YP := H.says) (d := d) (kwd := kwd) left H.of H.keeps (fun s z => xl_of s (Bool.and_eq_true_iff.mp z).1) XL.keeps hdef hp hk (fun s z => recFacts_of (Bool.and_eq_true_iff.mp z).2) hwr k1 ok hb hw call
end L3
open PySem PySem.W PyProof.Rows
section
local macro_rules | `(tactic| o_head $hk) => `(tactic| exact False.elim (by assumption))
/-- writes the part of the heap out, as K53H.mk.heap_1 -/
theorem K53H.mk (f : False) : OpenRow.Holds (OpenLaw.row PySem.Challenge.rw_latechunks_k53_pieces_with_far_begins) := by k_head
end
def K53H.hpA : List Addr := [2, 3, 43, 45, 46, 48, 49, 50, 57, 58, 59, 60, 63, 66, 71, 72, 74, 75, 77, 78, 79, 80, 81, 84, 87, 92, 93, 95, 96, 98, 99, 100, 101, 102, 105, 108, 113, 114, 116, 117, 119, 120, 121, 122, 123, 126, 129, 134, 135, 137, 138, 140, 141, 142, 143, 144, 147, 150, 155, 156, 158, 159, 161, 162, 163, 164, 165, 168, 170, 171, 173, 174, 175, 177, 178, 180, 181, 182, 184, 185, 187, 188, 189, 191, 192, 194, 195, 196, 199, 200, 208, 210, 211, 213, 214, 215, 216, 217, 218, 219, 220, 221, 222, 225, 227, 228, 230, 231, 232, 234, 235, 237, 238, 239, 246, 248, 249, 251, 252, 253, 255, 256, 258, 259, 260, 262, 263, 265, 266, 267, 269, 270, 272, 273, 274, 276, 277, 279, 280, 281, 283, 284, 286, 287, 288, 290, 291, 293, 294, 295, 297, 298, 300, 301, 302, 304, 305, 307, 308, 309, 310, 311, 314, 321, 323, 324, 326, 327, 328, 330, 331, 333, 334, 335, 336, 337, 338, 340, 341, 343, 344, 345, 347, 348, 350, 351, 352, 354, 355, 357, 358, 359, 361, 362, 364, 365, 366, 368, 369, 371, 372, 373, 375, 376, 378, 379, 380, 382, 383, 385, 386, 387, 389, 390, 392, 393, 394, 395, 396, 399, 406, 408, 409, 411, 412, 413, 415, 416, 418, 419, 420, 422, 423, 425, 426, 427, 429, 430, 432, 433, 434, 436, 437, 439, 440, 441, 443, 444, 446, 447, 448, 450, 451, 453, 454, 455, 457, 458, 460, 461, 462, 464, 465, 467, 468, 469, 470, 471, 474, 481, 483, 484, 486, 487, 488, 490, 491, 493, 494, 495, 497, 498, 500, 501, 502, 504, 505, 507, 508, 509, 511, 512, 514, 515, 516, 518, 519, 521, 522, 523, 525, 526, 528, 529, 530, 532, 533, 535, 536, 537, 539, 540, 542, 543, 544, 545, 546, 549, 556, 558, 559, 561, 562, 563, 565, 566, 568, 569, 570, 572, 573, 575, 576, 577, 579, 580, 582, 583, 584, 586, 587, 589, 590, 591, 593, 594, 596, 597, 598, 600, 601, 603, 604, 605, 607, 608, 610, 611, 612, 614, 615, 617, 618, 619, 620, 621, 624, 626, 627, 629, 630, 631, 633, 634, 636, 637, 638, 640, 641, 643, 644, 645, 647, 648, 650, 651, 652, 654, 655, 657, 658, 659, 661, 662, 664, 665, 666, 668, 669, 671, 672, 673, 675, 676, 678, 679, 680, 682, 683, 685, 686, 687, 689, 690, 692, 693, 694, 696, 697, 699, 700, 701, 704, 705, 706, 709, 710, 711, 713, 714, 716, 717, 718, 720, 721, 723, 724, 725, 727, 728, 730, 731, 732, 734, 735, 737, 738, 739, 741, 742, 744, 745, 746, 749, 750, 751, 753, 754, 756, 757, 758, 760, 761, 763, 764, 765, 767, 768, 770, 771, 786, 788, 789, 791, 792, 793, 795, 796, 798, 799, 800, 802, 803, 805, 806, 807, 809, 810, 812, 813, 814, 816, 817, 819, 820, 821, 824, 825, 826, 829, 830, 831, 833, 834, 836, 837]
theorem K53H.hp_eq : ∀ P, K53H.hpA = (K53H.mk.heap_1 P).map (·.1) := (fun _ _ => by kernel_rfl : (False → OpenRow.Holds (OpenLaw.row PySem.Challenge.rw_latechunks_k53_pieces_with_far_begins)) → ∀ P, K53H.hpA = (K53H.mk.heap_1 P).map (·.1)) K53H.mk
theorem K53H.opt3 {α β γ δ : Type} {o : Option α} {f : α → β} {g : α → γ} {h : α → δ} {a : β} {b : γ} {c : δ} (h1 : o.map f = some a) (h2 : o.map g = some b) (h3 : o.map h = some c) : o.map (fun x => (f x, g x, h x)) = some (a, b, c) := by
  cases o with
  | none => cases h1
  | some x => cases h1; cases h2; cases h3; rfl
open PySem.Calls HandSHeadRun
theorem K53H.runC (w : World) : (wholeF (fun p => stepQ (denQ tabQ) p w) fenceQ 30000 (OpenLaw.row PySem.Challenge.rw_latechunks_k53_pieces_with_far_begins).prog).map (fun x => L3.kmOb K53H.hpA [] x.2) = some ((kmHook K53H.mk.heap_1 K53H.hpA K53H.hp_eq []).val w) := by
  kernel_rfl
theorem K53H.run : ∀ w, L3.RunEqI (OpenLaw.row PySem.Challenge.rw_latechunks_k53_pieces_with_far_begins) (view (OpenLaw.row PySem.Challenge.rw_latechunks_k53_pieces_with_far_begins).prog [0, 64]) (kmHook K53H.mk.heap_1 K53H.hpA K53H.hp_eq []) (L3.kmOb K53H.hpA []) 30000 L3.looseN w := fun w => K53H.opt3 (K53H.runA w) (K53H.runB w) (K53H.runC w)
set_option maxRecDepth 100000 in
set_option maxHeartbeats 0 in
theorem K53H.head : K53H.AllMk → PySem.Challenge.rw_latechunks_k53_pieces_with_far_begins.Holds := by
  intro all_mk0
  w_on; o_law; (refine L3.head_anyI (r := (OpenLaw.row PySem.Challenge.rw_latechunks_k53_pieces_with_far_begins)) (q := view (OpenLaw.row PySem.Challenge.rw_latechunks_k53_pieces_with_far_begins).prog [0, 64]) (H := kmHook K53H.mk.heap_1 K53H.hpA K53H.hp_eq []) (ob := L3.kmOb K53H.hpA []) (M := 30000) (loose := L3.looseN) (d := HandSHeadRun.topDef ((OpenLaw.row PySem.Challenge.rw_latechunks_k53_pieces_with_far_begins)).prog 64) (kwd := []) L3.kmOb_eq K53H.run (by kernel_rfl) (by kernel_rfl) (by kernel_rfl) (by rfl) (by first | assumption | decide +kernel) (by decide +kernel) ⟨rfl, rfl, rfl, rfl, rfl, by decide +kernel⟩ ?hw ?hc); (case hw => w_witness2)
  k_fill
  refine L3.walkG (l := PySem.Challenge.rw_latechunks_k53_pieces_with_far_begins) (n := 63) (k := 18) (x := "_law_script") (CX := fun _ => L2.CX0) rfl (by decide) (by kernel_rfl) ⟨rfl, by decide, by decide⟩ (fun w h Y => PySem.W.km_in_of Y) ?F (fun _ _ _ _ _ z => z)
  case F =>
    intro w mg fa h Y KX G hmg0
    have hmg : mg ("law" : PySem.Str) = some (.ref fa) := by
      have e : (HandSHeadRun.topDef ((OpenLaw.row PySem.Challenge.rw_latechunks_k53_pieces_with_far_begins)).prog 64).name = ("law" : PySem.Str) := by kernel_rfl
      rw [← e]
      exact hmg0
    have all_mk := @all_mk0
    unfold K53H.AllMk at all_mk
    clear all_mk0
    refine' all_mk  KX G hmg ?a1 ?l1 ?c1 ?k1 ?a2 ?l2 ?c2 ?k2 ?a3 ?l3 ?c3 ?k3 ?a4 ?l4 ?c4 ?k4 ?a5 ?l5 ?c5 ?k5 ?a6 ?l6 ?c6 ?k6 ?a7 ?l7 ?c7 ?k7 ?a8 ?l8 ?c8 ?k8 ?a9 ?l9 ?c9 ?k9 ?a10 ?l10 ?c10 ?k10 ?a11 ?l11 ?c11 ?k11 ?a12 ?l12 ?c12 ?k12 ?a13 ?l13 ?c13 ?k13 ?a14 ?l14 ?c14 ?k14 ?a15 ?l15 ?c15 ?k15 ?a16 ?l16 ?c16 ?k16 ?a17 ?l17 ?c17 ?k17 ?a18 ?l18 ?c18 ?k18 ?a19 ?l19 ?c19 ?k19 ?a20 ?l20 ?c20 ?k20 ?a21 ?l21 ?c21 ?k21 ?a22 ?l22 ?c22 ?k22 ?a23 ?l23 ?c23 ?k23 ?a24 ?l24 ?c24 ?k24 ?a25 ?l25 ?c25 ?k25 ?a26 ?l26 ?c26 ?k26 ?a27 ?l27 ?c27 ?k27 ?a28 ?l28 ?c28 ?k28 ?a29 ?l29 ?c29 ?k29 ?a30 ?l30 ?c30 ?k30 ?a_AF ?a_AF___init__ ?l_AF___init__ ?c_AF___init__ ?k_AF___init__ ?i_AF___init__ ?a_AF_wish ?l_AF_wish ?c_AF_wish ?k_AF_wish ?i_AF_wish ?a_AF___call__ ?l_AF___call__ ?c_AF___call__ ?k_AF___call__ ?i_AF___call__ ?a_AF___and__ ?l_AF___and__ ?c_AF___and__ ?k_AF___and__ ?i_AF___and__ ?a_AF___or__ ?l_AF___or__ ?c_AF___or__ ?k_AF___or__ ?i_AF___or__ ?mk_AF ?pg_AF ?hd_AF ?po_AF ?sa_AF ?kc_AF ?ya_AF ?yb ?yc ?yd_AF ?yk_AF ?n_AF_size ?n_AF_modulus ?n_AF_parts ?a_AD ?a_AD___init__ ?l_AD___init__ ?c_AD___init__ ?k_AD___init__ ?i_AD___init__ ?a_AD_wish ?l_AD_wish ?c_AD_wish ?k_AD_wish ?i_AD_wish ?a_AD___call__ ?l_AD___call__ ?c_AD___call__ ?k_AD___call__ ?i_AD___call__ ?a_AD___and__ ?l_AD___and__ ?c_AD___and__ ?k_AD___and__ ?i_AD___and__ ?a_AD___or__ ?l_AD___or__ ?c_AD___or__ ?k_AD___or__ ?i_AD___or__ ?mk_AD ?pg_AD ?hd_AD ?po_AD ?sa_AD ?kc_AD ?ya_AD ?yd_AD ?yk_AD ?n_AD_x ?n_AD_y ?n_AD_w ?n_AD_modulus ?n_AD_parts ?a_AL ?a_AL___init__ ?l_AL___init__ ?c_AL___init__ ?k_AL___init__ ?i_AL___init__ ?a_AL_wish ?l_AL_wish ?c_AL_wish ?k_AL_wish ?i_AL_wish ?a_AL___call__ ?l_AL___call__ ?c_AL___call__ ?k_AL___call__ ?i_AL___call__ ?a_AL___and__ ?l_AL___and__ ?c_AL___and__ ?k_AL___and__ ?i_AL___and__ ?a_AL___or__ ?l_AL___or__ ?c_AL___or__ ?k_AL___or__ ?i_AL___or__ ?mk_AL ?pg_AL ?hd_AL ?po_AL ?sa_AL ?kc_AL ?ya_AL ?yd_AL ?yk_AL ?n_AL_one ?n_AL_other ?n_AL_modulus ?n_AL_parts ?a_AG ?a_AG___init__ ?l_AG___init__ ?c_AG___init__ ?k_AG___init__ ?i_AG___init__ ?a_AG_wish ?l_AG_wish ?c_AG_wish ?k_AG_wish ?i_AG_wish ?a_AG___call__ ?l_AG___call__ ?c_AG___call__ ?k_AG___call__ ?i_AG___call__ ?a_AG___and__ ?l_AG___and__ ?c_AG___and__ ?k_AG___and__ ?i_AG___and__ ?a_AG___or__ ?l_AG___or__ ?c_AG___or__ ?k_AG___or__ ?i_AG___or__ ?mk_AG ?pg_AG ?hd_AG ?po_AG ?sa_AG ?kc_AG ?ya_AG ?yd_AG ?yk_AG ?n_AG_one ?n_AG_other ?n_AG_modulus ?n_AG_parts ?a_CY ?a_CY___init__ ?l_CY___init__ ?c_CY___init__ ?k_CY___init__ ?i_CY___init__ ?a_CY___and__ ?l_CY___and__ ?c_CY___and__ ?k_CY___and__ ?i_CY___and__ ?a_CY___or__ ?l_CY___or__ ?c_CY___or__ ?k_CY___or__ ?i_CY___or__ ?mk_CY ?pg_CY ?hd_CY ?po_CY ?sa_CY ?kc_CY ?ya_CY ?yd_CY ?yk_CY ?n_CY_function ?n_CY_modulus ?n_CY_parts ?a_CR0 ?a_CL ?a_lcm ?aZS ?iZS ?tZS ?lZS ?cZS ?eZS ?sZS ?xZS ?yZS ?kZS ?qZS ?uZS ?vZS ?wZS ?mZS ?pZS ?bZS ?zS ?tS ?oB ?nZS_value ?gZS ?hZS ?dZS ?jZS ?rZS ?k1ZS ?emZS ?aZR ?iZR ?tZR ?lZR ?cZR ?eZR ?sZR ?xZR ?yZR ?kZR ?qZR ?uZR ?vZR ?wZR ?mZR ?pZR ?bZR ?nZR_part ?gZR ?hZR ?dZR ?jZR ?rZR ?k1ZR ?emZR ?aZM ?iZM ?tZM ?lZM ?cZM ?eZM ?sZM ?xZM ?yZM ?kZM ?qZM ?uZM ?vZM ?wZM ?mZM ?pZM ?bZM ?nZM_what ?nZM_most ?gZM ?hZM ?dZM ?jZM ?rZM ?k1ZM ?emZM ?aZE ?iZE ?tZE ?lZE ?cZE ?eZE ?sZE ?xZE ?yZE ?kZE ?qZE ?uZE ?vZE ?wZE ?mZE ?pZE ?bZE ?nZE_value ?gZE ?hZE ?dZE ?jZE ?rZE ?k1ZE ?emZE ?kJ_AF ?kJ_AD ?kJ_AL ?kJ_AG ?kYJ ?kTJ ?kE_AFAF ?kE_AFAD ?kE_AFAL ?kE_AFAG ?kE_ADAF ?kE_ADAD ?kE_ADAL ?kE_ADAG ?kE_ALAF ?kE_ALAD ?kE_ALAL ?kE_ALAG ?kE_AGAF ?kE_AGAD ?kE_AGAL ?kE_AGAG ?kYE_AF ?kTE_AF ?kR_AF ?kYE_AD ?kTE_AD ?kR_AD ?kYE_AL ?kTE_AL ?kR_AL ?kYE_AG ?kTE_AG ?kR_AG ?gMS ?gMD ?gMA ?gMP ?gMR ?sf_AF ?mr_AF ?o_and_AF ?u_and_AF ?r_and_AF ?o_or_AF ?u_or_AF ?r_or_AF ?ne_AFAD ?sb_AFAD ?ne_AFAL ?sb_AFAL ?ne_AFAG ?sb_AFAG ?ne_AFCY ?sb_AFCY ?sf_AD ?mr_AD ?o_and_AD ?u_and_AD ?r_and_AD ?o_or_AD ?u_or_AD ?r_or_AD ?ne_ADAF ?sb_ADAF ?ne_ADAL ?sb_ADAL ?ne_ADAG ?sb_ADAG ?ne_ADCY ?sb_ADCY ?sf_AL ?mr_AL ?o_and_AL ?u_and_AL ?r_and_AL ?o_or_AL ?u_or_AL ?r_or_AL ?ne_ALAF ?sb_ALAF ?ne_ALAD ?sb_ALAD ?ne_ALAG ?sb_ALAG ?ne_ALCY ?sb_ALCY ?sf_AG ?mr_AG ?o_and_AG ?u_and_AG ?r_and_AG ?o_or_AG ?u_or_AG ?r_or_AG ?ne_AGAF ?sb_AGAF ?ne_AGAD ?sb_AGAD ?ne_AGAL ?sb_AGAL ?ne_AGCY ?sb_AGCY ?sf_CY ?mr_CY ?o_and_CY ?u_and_CY ?r_and_CY ?o_or_CY ?u_or_CY ?r_or_CY ?ne_CYAF ?sb_CYAF ?ne_CYAD ?sb_CYAD ?ne_CYAL ?sb_CYAL ?ne_CYAG ?sb_CYAG ?v_and ?x_and ?v_or ?x_or ?km_AF ?km_AD ?km_AL ?km_AG ?kIY_AF ?kIY_AD ?kIY_AL ?kIY_AG ?cq_AF ?cq_AD ?cq_AL ?cq_AG ?z_isinstance ?z_int ?z_bool ?z_len ?z_abs ?z_list ?z_tuple ?z_range ?z_repr ?z_str ?z_min ?z_max ?z_all ?z_enumerate ?z_sorted ?hPd0
    (case a1 => k_is)
    (case l1 => k_is)
    (case c1 => k_is)
    (case k1 => k_is)
    (case a2 => k_is)
    (case l2 => k_is)
    (case c2 => k_is)
    (case k2 => k_is)
    (case a3 => k_is)
    (case l3 => k_is)
    (case c3 => k_is)
    (case k3 => k_is)
    (case a4 => k_is)
    (case l4 => k_is)
    (case c4 => k_is)
    (case k4 => k_is)
    (case a5 => k_is)
    (case l5 => k_is)
    (case c5 => k_is)
    (case k5 => k_is)
    (case a6 => k_is)
    (case l6 => k_is)
    (case c6 => k_is)
    (case k6 => k_is)
    (case a7 => k_is)
    (case l7 => k_is)
    (case c7 => k_is)
    (case k7 => k_is)
    (case a8 => k_is)
    (case l8 => k_is)
    (case c8 => k_is)
    (case k8 => k_is)
    (case a9 => k_is)
    (case l9 => k_is)
    (case c9 => k_is)
    (case k9 => k_is)
    (case a10 => k_is)
    (case l10 => k_is)
    (case c10 => k_is)
    (case k10 => k_is)
    (case a11 => k_is)
    (case l11 => k_is)
    (case c11 => k_is)
    (case k11 => k_is)
    (case a12 => k_is)
    (case l12 => k_is)
    (case c12 => k_is)
    (case k12 => k_is)
    (case a13 => k_is)
    (case l13 => k_is)
    (case c13 => k_is)
    (case k13 => k_is)
    (case a14 => k_is)
    (case l14 => k_is)
    (case c14 => k_is)
    (case k14 => k_is)
    (case a15 => k_is)
    (case l15 => k_is)
    (case c15 => k_is)
    (case k15 => k_is)
    (case a16 => k_is)
    (case l16 => k_is)
    (case c16 => k_is)
    (case k16 => k_is)
    (case a17 => k_is)
    (case l17 => k_is)
    (case c17 => k_is)
    (case k17 => k_is)
    (case a18 => k_is)
    (case l18 => k_is)
    (case c18 => k_is)
    (case k18 => k_is)
    (case a19 => k_is)
    (case l19 => k_is)
    (case c19 => k_is)
    (case k19 => k_is)
    (case a20 => k_is)
    (case l20 => k_is)
    (case c20 => k_is)
    (case k20 => k_is)
    (case a21 => k_is)
    (case l21 => k_is)
    (case c21 => k_is)
    (case k21 => k_is)
    (case a22 => k_is)
    (case l22 => k_is)
    (case c22 => k_is)
    (case k22 => k_is)
    (case a23 => k_is)
    (case l23 => k_is)
    (case c23 => k_is)
    (case k23 => k_is)
    (case a24 => k_is)
    (case l24 => k_is)
    (case c24 => k_is)
    (case k24 => k_is)
    (case a25 => k_is)
    (case l25 => k_is)
    (case c25 => k_is)
    (case k25 => k_is)
    (case a26 => k_is)
    (case l26 => k_is)
    (case c26 => k_is)
    (case k26 => k_is)
    (case a27 => k_is)
    (case l27 => k_is)
    (case c27 => k_is)
    (case k27 => k_is)
    (case a28 => k_is)
    (case l28 => k_is)
    (case c28 => k_is)
    (case k28 => k_is)
    (case a29 => k_is)
    (case l29 => k_is)
    (case c29 => k_is)
    (case k29 => k_is)
    (case a30 => k_is)
    (case l30 => k_is)
    (case c30 => k_is)
    (case k30 => k_is)
    (case a_AF => k_is)
    (case a_AF___init__ => k_is)
    (case l_AF___init__ => k_is)
    (case c_AF___init__ => k_is)
    (case k_AF___init__ => k_is)
    (case i_AF___init__ => k_is)
    (case a_AF_wish => k_is)
    (case l_AF_wish => k_is)
    (case c_AF_wish => k_is)
    (case k_AF_wish => k_is)
    (case i_AF_wish => k_is)
    (case a_AF___call__ => k_is)
    (case l_AF___call__ => k_is)
    (case c_AF___call__ => k_is)
    (case k_AF___call__ => k_is)
    (case i_AF___call__ => k_is)
    (case a_AF___and__ => k_is)
    (case l_AF___and__ => k_is)
    (case c_AF___and__ => k_is)
    (case k_AF___and__ => k_is)
    (case i_AF___and__ => k_is)
    (case a_AF___or__ => k_is)
    (case l_AF___or__ => k_is)
    (case c_AF___or__ => k_is)
    (case k_AF___or__ => k_is)
    (case i_AF___or__ => k_is)
    (case pg_AF => k_is)
    (case hd_AF => k_is)
    (case po_AF => k_is)
    (case sa_AF => k_is)
    (case kc_AF => k_is)
    (case ya_AF => k_is)
    (case yb => k_is)
    (case yc => k_is)
    (case yd_AF => k_is)
    (case yk_AF => kernel_rfl)
    (case n_AF_size => k_is)
    (case n_AF_modulus => k_is)
    (case n_AF_parts => k_is)
    (case a_AD => k_is)
    (case a_AD___init__ => k_is)
    (case l_AD___init__ => k_is)
    (case c_AD___init__ => k_is)
    (case k_AD___init__ => k_is)
    (case i_AD___init__ => k_is)
    (case a_AD_wish => k_is)
    (case l_AD_wish => k_is)
    (case c_AD_wish => k_is)
    (case k_AD_wish => k_is)
    (case i_AD_wish => k_is)
    (case a_AD___call__ => k_is)
    (case l_AD___call__ => k_is)
    (case c_AD___call__ => k_is)
    (case k_AD___call__ => k_is)
    (case i_AD___call__ => k_is)
    (case a_AD___and__ => k_is)
    (case l_AD___and__ => k_is)
    (case c_AD___and__ => k_is)
    (case k_AD___and__ => k_is)
    (case i_AD___and__ => k_is)
    (case a_AD___or__ => k_is)
    (case l_AD___or__ => k_is)
    (case c_AD___or__ => k_is)
    (case k_AD___or__ => k_is)
    (case i_AD___or__ => k_is)
    (case pg_AD => k_is)
    (case hd_AD => k_is)
    (case po_AD => k_is)
    (case sa_AD => k_is)
    (case kc_AD => k_is)
    (case ya_AD => k_is)
    (case yd_AD => k_is)
    (case yk_AD => kernel_rfl)
    (case n_AD_x => k_is)
    (case n_AD_y => k_is)
    (case n_AD_w => k_is)
    (case n_AD_modulus => k_is)
    (case n_AD_parts => k_is)
    (case a_AL => k_is)
    (case a_AL___init__ => k_is)
    (case l_AL___init__ => k_is)
    (case c_AL___init__ => k_is)
    (case k_AL___init__ => k_is)
    (case i_AL___init__ => k_is)
    (case a_AL_wish => k_is)
    (case l_AL_wish => k_is)
    (case c_AL_wish => k_is)
    (case k_AL_wish => k_is)
    (case i_AL_wish => k_is)
    (case a_AL___call__ => k_is)
    (case l_AL___call__ => k_is)
    (case c_AL___call__ => k_is)
    (case k_AL___call__ => k_is)
    (case i_AL___call__ => k_is)
    (case a_AL___and__ => k_is)
    (case l_AL___and__ => k_is)
    (case c_AL___and__ => k_is)
    (case k_AL___and__ => k_is)
    (case i_AL___and__ => k_is)
    (case a_AL___or__ => k_is)
    (case l_AL___or__ => k_is)
    (case c_AL___or__ => k_is)
    (case k_AL___or__ => k_is)
    (case i_AL___or__ => k_is)
    (case pg_AL => k_is)
    (case hd_AL => k_is)
    (case po_AL => k_is)
    (case sa_AL => k_is)
    (case kc_AL => k_is)
    (case ya_AL => k_is)
    (case yd_AL => k_is)
    (case yk_AL => kernel_rfl)
    (case n_AL_one => k_is)
    (case n_AL_other => k_is)
    (case n_AL_modulus => k_is)
    (case n_AL_parts => k_is)
    (case a_AG => k_is)
    (case a_AG___init__ => k_is)
    (case l_AG___init__ => k_is)
    (case c_AG___init__ => k_is)
    (case k_AG___init__ => k_is)
    (case i_AG___init__ => k_is)
    (case a_AG_wish => k_is)
    (case l_AG_wish => k_is)
    (case c_AG_wish => k_is)
    (case k_AG_wish => k_is)
    (case i_AG_wish => k_is)
    (case a_AG___call__ => k_is)
    (case l_AG___call__ => k_is)
    (case c_AG___call__ => k_is)
    (case k_AG___call__ => k_is)
    (case i_AG___call__ => k_is)
    (case a_AG___and__ => k_is)
    (case l_AG___and__ => k_is)
    (case c_AG___and__ => k_is)
    (case k_AG___and__ => k_is)
    (case i_AG___and__ => k_is)
    (case a_AG___or__ => k_is)
    (case l_AG___or__ => k_is)
    (case c_AG___or__ => k_is)
    (case k_AG___or__ => k_is)
    (case i_AG___or__ => k_is)
    (case pg_AG => k_is)
    (case hd_AG => k_is)
    (case po_AG => k_is)
    (case sa_AG => k_is)
    (case kc_AG => k_is)
    (case ya_AG => k_is)
    (case yd_AG => k_is)
    (case yk_AG => kernel_rfl)
    (case n_AG_one => k_is)
    (case n_AG_other => k_is)
    (case n_AG_modulus => k_is)
    (case n_AG_parts => k_is)
    (case a_CY => k_is)
    (case a_CY___init__ => k_is)
    (case l_CY___init__ => k_is)
    (case c_CY___init__ => k_is)
    (case k_CY___init__ => k_is)
    (case i_CY___init__ => k_is)
    (case a_CY___and__ => k_is)
    (case l_CY___and__ => k_is)
    (case c_CY___and__ => k_is)
    (case k_CY___and__ => k_is)
    (case i_CY___and__ => k_is)
    (case a_CY___or__ => k_is)
    (case l_CY___or__ => k_is)
    (case c_CY___or__ => k_is)
    (case k_CY___or__ => k_is)
    (case i_CY___or__ => k_is)
    (case pg_CY => k_is)
    (case hd_CY => k_is)
    (case po_CY => k_is)
    (case sa_CY => k_is)
    (case kc_CY => k_is)
    (case ya_CY => k_is)
    (case yd_CY => k_is)
    (case yk_CY => kernel_rfl)
    (case n_CY_function => k_is)
    (case n_CY_modulus => k_is)
    (case n_CY_parts => k_is)
    (case a_CR0 => k_is)
    (case a_CL => k_is)
    (case a_lcm => k_is)
    (case aZS => k_is)
    (case iZS => k_is)
    (case tZS => k_is)
    (case lZS => k_is)
    (case cZS => k_is)
    (case eZS => exact ⟨_, _, _, _, _, _, _, _, _, _, _, _, _, _, _, by k_is, by decide +kernel⟩)
    (case sZS => k_is)
    (case xZS => k_is)
    (case yZS => k_is)
    (case kZS => k_is)
    (case qZS => k_is)
    (case uZS => k_is)
    (case vZS => rfl)
    (case wZS => first | rfl | decide +kernel)
    (case mZS => k_is)
    (case pZS => first | k_is | kernel_rfl)
    (case bZS => k_is)
    (case zS => k_is)
    (case tS => first | rfl | decide +kernel | kernel_rfl)
    (case oB => k_is)
    (case nZS_value => k_is)
    (case gZS => k_is)
    (case hZS => k_is)
    (case dZS => k_is)
    (case jZS => k_is)
    (case rZS => k_is)
    (case k1ZS => kernel_rfl)
    (case emZS => kernel_rfl)
    (case aZR => k_is)
    (case iZR => k_is)
    (case tZR => k_is)
    (case lZR => k_is)
    (case cZR => k_is)
    (case eZR => exact ⟨_, _, _, _, _, _, _, _, _, _, _, _, _, _, _, by k_is, by decide +kernel⟩)
    (case sZR => k_is)
    (case xZR => k_is)
    (case yZR => k_is)
    (case kZR => k_is)
    (case qZR => k_is)
    (case uZR => k_is)
    (case vZR => rfl)
    (case wZR => first | rfl | decide +kernel)
    (case mZR => k_is)
    (case pZR => first | k_is | kernel_rfl)
    (case bZR => k_is)
    (case nZR_part => k_is)
    (case gZR => k_is)
    (case hZR => k_is)
    (case dZR => k_is)
    (case jZR => k_is)
    (case rZR => k_is)
    (case k1ZR => kernel_rfl)
    (case emZR => kernel_rfl)
    (case aZM => k_is)
    (case iZM => k_is)
    (case tZM => k_is)
    (case lZM => k_is)
    (case cZM => k_is)
    (case eZM => exact ⟨_, _, _, _, _, _, _, _, _, _, _, _, _, _, _, by k_is, by decide +kernel⟩)
    (case sZM => k_is)
    (case xZM => k_is)
    (case yZM => k_is)
    (case kZM => k_is)
    (case qZM => k_is)
    (case uZM => k_is)
    (case vZM => rfl)
    (case wZM => first | rfl | decide +kernel)
    (case mZM => k_is)
    (case pZM => first | k_is | kernel_rfl)
    (case bZM => k_is)
    (case nZM_what => k_is)
    (case nZM_most => k_is)
    (case gZM => k_is)
    (case hZM => k_is)
    (case dZM => k_is)
    (case jZM => k_is)
    (case rZM => k_is)
    (case k1ZM => kernel_rfl)
    (case emZM => kernel_rfl)
    (case aZE => k_is)
    (case iZE => k_is)
    (case tZE => k_is)
    (case lZE => k_is)
    (case cZE => k_is)
    (case eZE => exact ⟨_, _, _, _, _, _, _, _, _, _, _, _, _, _, _, by k_is, by decide +kernel⟩)
    (case sZE => k_is)
    (case xZE => k_is)
    (case yZE => k_is)
    (case kZE => k_is)
    (case qZE => k_is)
    (case uZE => k_is)
    (case vZE => rfl)
    (case wZE => first | rfl | decide +kernel)
    (case mZE => k_is)
    (case pZE => first | k_is | kernel_rfl)
    (case bZE => k_is)
    (case nZE_value => k_is)
    (case gZE => k_is)
    (case hZE => k_is)
    (case dZE => k_is)
    (case jZE => k_is)
    (case rZE => k_is)
    (case k1ZE => kernel_rfl)
    (case emZE => kernel_rfl)
    (case kJ_AF => kernel_rfl)
    (case kJ_AD => kernel_rfl)
    (case kJ_AL => kernel_rfl)
    (case kJ_AG => kernel_rfl)
    (case kYJ => kernel_rfl)
    (case kTJ => kernel_rfl)
    (case kE_AFAF => kernel_rfl)
    (case kE_AFAD => kernel_rfl)
    (case kE_AFAL => kernel_rfl)
    (case kE_AFAG => kernel_rfl)
    (case kE_ADAF => kernel_rfl)
    (case kE_ADAD => kernel_rfl)
    (case kE_ADAL => kernel_rfl)
    (case kE_ADAG => kernel_rfl)
    (case kE_ALAF => kernel_rfl)
    (case kE_ALAD => kernel_rfl)
    (case kE_ALAL => kernel_rfl)
    (case kE_ALAG => kernel_rfl)
    (case kE_AGAF => kernel_rfl)
    (case kE_AGAD => kernel_rfl)
    (case kE_AGAL => kernel_rfl)
    (case kE_AGAG => kernel_rfl)
    (case kYE_AF => kernel_rfl)
    (case kTE_AF => kernel_rfl)
    (case kR_AF => kernel_rfl)
    (case kYE_AD => kernel_rfl)
    (case kTE_AD => kernel_rfl)
    (case kR_AD => kernel_rfl)
    (case kYE_AL => kernel_rfl)
    (case kTE_AL => kernel_rfl)
    (case kR_AL => kernel_rfl)
    (case kYE_AG => kernel_rfl)
    (case kTE_AG => kernel_rfl)
    (case kR_AG => kernel_rfl)
    (case gMS => k_is)
    (case gMD => k_is)
    (case gMA => k_is)
    (case gMP => k_is)
    (case gMR => k_is)
    (case sf_AF => k_is)
    (case mr_AF => kernel_rfl)
    (case o_and_AF => kernel_rfl)
    (case u_and_AF => first | k_is | kernel_rfl)
    (case r_and_AF => first | k_is | kernel_rfl)
    (case o_or_AF => kernel_rfl)
    (case u_or_AF => first | k_is | kernel_rfl)
    (case r_or_AF => first | k_is | kernel_rfl)
    (case ne_AFAD => decide)
    (case sb_AFAD => first | k_is | kernel_rfl)
    (case ne_AFAL => decide)
    (case sb_AFAL => first | k_is | kernel_rfl)
    (case ne_AFAG => decide)
    (case sb_AFAG => first | k_is | kernel_rfl)
    (case ne_AFCY => decide)
    (case sb_AFCY => first | k_is | kernel_rfl)
    (case sf_AD => k_is)
    (case mr_AD => kernel_rfl)
    (case o_and_AD => kernel_rfl)
    (case u_and_AD => first | k_is | kernel_rfl)
    (case r_and_AD => first | k_is | kernel_rfl)
    (case o_or_AD => kernel_rfl)
    (case u_or_AD => first | k_is | kernel_rfl)
    (case r_or_AD => first | k_is | kernel_rfl)
    (case ne_ADAF => decide)
    (case sb_ADAF => first | k_is | kernel_rfl)
    (case ne_ADAL => decide)
    (case sb_ADAL => first | k_is | kernel_rfl)
    (case ne_ADAG => decide)
    (case sb_ADAG => first | k_is | kernel_rfl)
    (case ne_ADCY => decide)
    (case sb_ADCY => first | k_is | kernel_rfl)
    (case sf_AL => k_is)
    (case mr_AL => kernel_rfl)
    (case o_and_AL => kernel_rfl)
    (case u_and_AL => first | k_is | kernel_rfl)
    (case r_and_AL => first | k_is | kernel_rfl)
    (case o_or_AL => kernel_rfl)
    (case u_or_AL => first | k_is | kernel_rfl)
    (case r_or_AL => first | k_is | kernel_rfl)
    (case ne_ALAF => decide)
    (case sb_ALAF => first | k_is | kernel_rfl)
    (case ne_ALAD => decide)
    (case sb_ALAD => first | k_is | kernel_rfl)
    (case ne_ALAG => decide)
    (case sb_ALAG => first | k_is | kernel_rfl)
    (case ne_ALCY => decide)
    (case sb_ALCY => first | k_is | kernel_rfl)
    (case sf_AG => k_is)
    (case mr_AG => kernel_rfl)
    (case o_and_AG => kernel_rfl)
    (case u_and_AG => first | k_is | kernel_rfl)
    (case r_and_AG => first | k_is | kernel_rfl)
    (case o_or_AG => kernel_rfl)
    (case u_or_AG => first | k_is | kernel_rfl)
    (case r_or_AG => first | k_is | kernel_rfl)
    (case ne_AGAF => decide)
    (case sb_AGAF => first | k_is | kernel_rfl)
    (case ne_AGAD => decide)
    (case sb_AGAD => first | k_is | kernel_rfl)
    (case ne_AGAL => decide)
    (case sb_AGAL => first | k_is | kernel_rfl)
    (case ne_AGCY => decide)
    (case sb_AGCY => first | k_is | kernel_rfl)
    (case sf_CY => k_is)
    (case mr_CY => kernel_rfl)
    (case o_and_CY => kernel_rfl)
    (case u_and_CY => first | k_is | kernel_rfl)
    (case r_and_CY => first | k_is | kernel_rfl)
    (case o_or_CY => kernel_rfl)
    (case u_or_CY => first | k_is | kernel_rfl)
    (case r_or_CY => first | k_is | kernel_rfl)
    (case ne_CYAF => decide)
    (case sb_CYAF => first | k_is | kernel_rfl)
    (case ne_CYAD => decide)
    (case sb_CYAD => first | k_is | kernel_rfl)
    (case ne_CYAL => decide)
    (case sb_CYAL => first | k_is | kernel_rfl)
    (case ne_CYAG => decide)
    (case sb_CYAG => first | k_is | kernel_rfl)
    (case v_and => first | k_is | kernel_rfl)
    (case x_and => first | k_is | kernel_rfl)
    (case v_or => first | k_is | kernel_rfl)
    (case x_or => first | k_is | kernel_rfl)
    (case km_AF => k_is)
    (case km_AD => k_is)
    (case km_AL => k_is)
    (case km_AG => k_is)
    (case kIY_AF => kernel_rfl)
    (case kIY_AD => kernel_rfl)
    (case kIY_AL => kernel_rfl)
    (case kIY_AG => kernel_rfl)
    (case cq_AF => first | k_is | kernel_rfl)
    (case cq_AD => first | k_is | kernel_rfl)
    (case cq_AL => first | k_is | kernel_rfl)
    (case cq_AG => first | k_is | kernel_rfl)
    (case z_isinstance => k_is)
    (case z_int => k_is)
    (case z_bool => k_is)
    (case z_len => k_is)
    (case z_abs => k_is)
    (case z_list => k_is)
    (case z_tuple => k_is)
    (case z_range => k_is)
    (case z_repr => k_is)
    (case z_str => k_is)
    (case z_min => k_is)
    (case z_max => k_is)
    (case z_all => k_is)
    (case z_enumerate => k_is)
    (case z_sorted => k_is)
    (case hPd0 => exact List.nodup_nil)
    (case mk_AF => k_is)
    (case mk_AD => k_is)
    (case mk_AL => k_is)
    (case mk_AG => k_is)
    (case mk_CY => k_is)
end
section
namespace L3
open PySem PySem.Spec PyProof.Rows L2 LamX
namespace KX
variable {X : Cx} {K : PySem.W.Frag} (hK : X.K = K)
include hK
theorem tup {es : List Expr} {k : Nat} {t : TGs} {n : Nat} {pos : Pos} (hc : X.calm = true) (h : PGs X es t)
    (hn : (assignEach es X.env).length = n := by rfl) (hst : (assignEach es X.env).findIdx? (·.1) = none := by rfl) : PG X (.Tuple es k pos) (gTup K n t) := by subst hK; exact pg_tup hc h hn hst
end KX
section
variable {K : PySem.W.Frag} {σ : L2.St} {H : Hp} {Q : VK} {D : Ends} {C : Addr} {o u : Int} {te ta : TE}
theorem s_par3 {i j l : Nat} {tt : TA} (h : tt σ H fun vs H1 => ∃ u v w, vs = [u, v, w] ∧ D.nx (((σ.set i (some u)).set j (some v)).set l (some w)) H1) : tPar3 i j l tt D σ H := h
theorem s_trip {R : V → V → V → Prop} {x y z : V} (h : R x y z) : ∃ u v w, [x, y, z] = [u, v, w] ∧ R u v w := ⟨x, y, z, rfl, h⟩
theorem s_aug {i : Nat} {ti : TIp} {x : V} (e : σ[i]? = some (some x)) (h : te σ H fun y H1 => ti x y H1 fun z H2 => D.nx (σ.set i (some z)) H2) : tAug i te ti D σ H := ⟨x, e, h⟩
theorem s_asgT' {n : Nat} {tg : TGs} (h : te σ H fun x H1 => gTup K n tg x σ H1 D.nx) : tAsg te (gTup K n tg) D σ H := h
theorem s_gT {a : Addr} {xs : List V} {n : Nat} {tg : TGs} {R : L2.St → Hp → Prop} (e : H a = some (.tup xs)) (hn : xs.length = n) (h : tg xs σ H R) : gTup K n tg (.ref a) σ H R := ⟨a, xs, rfl, .inl (.inl e), hn, h⟩
theorem s_gC {i : Nat} {v : V} {r : List V} {tg : TGs} {R : L2.St → Hp → Prop} (h : tg r (σ.set i (some v)) H R) : gCons (gName i) tg (v :: r) σ H R := ⟨v, r, rfl, h⟩
theorem s_gN {R : L2.St → Hp → Prop} (h : R σ H) : gNil [] σ H R := ⟨rfl, h⟩
theorem s_fldG {f : Str} (h : ta σ H fun x H1 => ∃ a C dx fs v, x = .ref a ∧ H1 a = some (.ins C dx fs) ∧ Cls K C ∧ NoAttr K C f ∧ fs.lookup f = some v ∧ Q v H1) : tFld K ta f σ H Q := h
theorem s_mulW {i j : Int} {k l : Nat} (hi : i.natAbs < 2 ^ k) (hj : j.natAbs < 2 ^ l) (hk : 0 < k) (hl : 0 < l) (hkl : k + l ≤ 900000) (h : Q (.int (i * j)) H) : rMulU (.int i) (.int j) H Q := s_mulI (wide_mul hi hj hk hl (by omega)).ok h
theorem s_xfV {n : Str} (h : te σ H fun x H1 => ∃ (a C d : Addr) (fs : List (Str × V)) (v : V), x = .ref a ∧ H1 a = some (ExV a (.ref C) (some d)) ∧ H1 d = some (.xd fs) ∧ XfC K C ∧ PySem.W.findIn K (.ref C) n = some none ∧ fs.lookup n = some v ∧ Q v H1) : tXfV K n te σ H Q := h
/-- a def's data stay -/
theorem Dp.exN {H' : Hp} (e : ExtN H H') : ∀ (d : PyData) (v : V), (∀ a xs, SqL K H a xs → SqL K H' a xs) → (∀ a xs, SqT K H a xs → SqT K H' a xs) → Dp K H v d → Dp K H' v d := by
  intro d v h1 h2 h
  induction h using Dp.rec (motive_2 := fun vs ds _ => DpAll K H' vs ds) with
  | non => exact .non
  | bl b => exact .bl b
  | int i => exact .int i
  | str z => exact .str z
  | lst a _ b => exact .lst (h1 _ _ a) b
  | tup a _ b => exact .tup (h2 _ _ a) b
  | nil => exact .nil
  | cons _ _ a b => exact .cons a b
theorem penO_tbl {a c : Addr} {n : Nat} : ∀ ps, PenO a c n ≠ .tbl ps := fun _ z => by unfold PenO at z; cases z
theorem scO_tbl {c : Addr} {ns : List Int} : ∀ ps, ScO c ns ≠ .tbl ps := fun _ z => by unfold ScO at z; cases z
theorem Pen.exN {H' : Hp} {a : Addr} {n : Nat} (p : Pen H a n) (e : ExtN H H') : Pen H' a n := by
  obtain ⟨c, ns, h1, h2, h3⟩ := p
  exact ⟨c, ns, e _ _ h1 penO_tbl, e _ _ h2 scO_tbl, h3⟩
theorem Pen.ex {H' : Hp} {a : Addr} {n : Nat} (p : Pen H a n) (e : Ex H H') : Pen H' a n := Pen.exN p e.n
theorem Pen.at {a : Addr} {n : Nat} (p : Pen H a n) : ∃ c, H a = some (PenO a c n) := by
  obtain ⟨c, ns, h1, _⟩ := p
  exact ⟨c, h1⟩
theorem Wo.exN {T : List (Addr × Str)} {H' : Hp} {a : Addr} {n : Nat} (w : Wo T H a n) (e : ExtN H H') (t : Tabs T H') : Wo T H' a n := ⟨Pen.exN w.pen e, t⟩
/-- a tuple of two ints -/
def Pr (H : Hp) (v : V) (a b : Int) : Prop := ∃ p, v = .ref p ∧ H p = some (.tup [.int a, .int b])
theorem Pr.exN {H' : Hp} {v : V} {a b : Int} (h : Pr H v a b) (e : ExtN H H') : Pr H' v a b := by
  obtain ⟨p, rfl, h⟩ := h
  exact ⟨p, rfl, e _ _ h fun _ z => nomatch z⟩
theorem Pr.ex {H' : Hp} {v : V} {a b : Int} (h : Pr H v a b) (e : Ex H H') : Pr H' v a b := h.exN e.n
theorem Pr.dp {v : V} {a b : Int} (h : Pr H v a b) : Dp K H v (.tuple [.int a, .int b]) := by
  obtain ⟨p, rfl, h⟩ := h
  exact .tup (.inl (.inl h)) (.cons (.int a) (.cons (.int b) .nil))
end
end L3
end
section
namespace L3
open PySem PySem.Spec PyProof.Rows L2 LamX
section
variable {K : PySem.W.Frag} {σ : L2.St} {H H' : Hp} {Q : VK} {C CB : Addr}
inductive Prs (H : Hp) : List V → List (Int × Int) → Prop
  | nil : Prs H [] []
  | cons {v : V} {vs : List V} {q : Int × Int} {qs : List (Int × Int)} : Pr H v q.1 q.2 → Prs H vs qs → Prs H (v :: vs) (q :: qs)
theorem Prs.exN {vs : List V} {qs : List (Int × Int)} (h : Prs H vs qs) (e : ExtN H H') : Prs H' vs qs := by
  induction h with
  | nil => exact .nil
  | cons a _ b => exact .cons (a.exN e) b
theorem Prs.ex {vs : List V} {qs : List (Int × Int)} (h : Prs H vs qs) (e : Ex H H') : Prs H' vs qs := h.exN e.n
theorem Pr.up {v : V} {a b : Int} {D : Addr} {xs zs : List V} (h : Pr H v a b) (hd : H D = some (.lst xs)) : Pr (upd H D (.lst zs)) v a b := by
  obtain ⟨p, rfl, h⟩ := h
  refine ⟨p, rfl, ?_⟩
  rw [upd_ne (ne_of h hd (by intro z; cases z))]
  exact h
theorem Prs.up {vs : List V} {qs : List (Int × Int)} {D : Addr} {xs zs : List V} (h : Prs H vs qs) (hd : H D = some (.lst xs)) : Prs (upd H D (.lst zs)) vs qs := by
  induction h with
  | nil => exact .nil
  | cons a _ b => exact .cons (a.up hd) b
theorem Prs.get {vs : List V} {qs : List (Int × Int)} (h : Prs H vs qs) : ∀ {i : Nat} {x : V}, vs[i]? = some x → ∃ q, qs[i]? = some q ∧ Pr H x q.1 q.2 := by
  induction h with
  | nil => intro i x e; simp at e
  | cons a _ b =>
    intro i x e
    cases i with
    | zero => cases e; exact ⟨_, rfl, a⟩
    | succ i => exact b (by simpa using e)
theorem Prs.length {vs : List V} {qs : List (Int × Int)} (h : Prs H vs qs) : vs.length = qs.length := by
  induction h with
  | nil => rfl
  | cons _ _ b => simp [b]
theorem Prs.snoc {vs : List V} {qs : List (Int × Int)} {v : V} {q : Int × Int} (h : Prs H vs qs) (a : Pr H v q.1 q.2) : Prs H (vs ++ [v]) (qs ++ [q]) := by
  induction h with
  | nil => exact .cons a .nil
  | cons b _ c => exact .cons b c
def prD (qs : List (Int × Int)) : List PyData := qs.map fun q => .tuple [.int q.1, .int q.2]
theorem Prs.dp {vs : List V} {qs : List (Int × Int)} (h : Prs H vs qs) : DpAll K H vs (prD qs) := by
  induction h with
  | nil => exact .nil
  | cons a _ b => exact .cons a.dp b
theorem s_lcL {te ta : TE} {g : TG} {tt : TT} {vs : List Nat} (h : ta σ H fun x H1 => ∃ a, x = .ref a ∧ (∃ xs, SqL K H1 a xs) ∧ LC (Itl K a) g tt te vs σ H1 Q) : tLc (iList K ta) g tt te vs σ H Q := h
/-- so far heard: the list l of equal pairs; the fraction m, the other value v with its text tx; the pen -/
structure Sx (Tt : List (Addr × Str)) (C l m p : Addr) (n : Nat) (o u : Int) (v : V) (tx : Str) (H : Hp) (xs : List V) : Prop where
  lst : H l = some (.lst xs)
  els : ∀ x ∈ xs, ∃ r, x = .ref r ∧ H r = some (.tup [.str "ratio", .str tx])
  rt : Rt C H m o u
  od : Od H v tx
  ne : v ≠ .ref l
  wo : Wo Tt H p n
  few : xs.length ≤ 1000
theorem Sx.exN {Tt : List (Addr × Str)} {l m p : Addr} {n : Nat} {o u : Int} {v : V} {tx : Str} {xs : List V} (S : Sx Tt C l m p n o u v tx H xs) (e : ExtN H H') (t : Tabs Tt H') : Sx Tt C l m p n o u v tx H' xs := by
  refine ⟨e _ _ S.lst (fun _ z => nomatch z), fun x hx => ?_, S.rt.exN e, S.od.exN e, S.ne, S.wo.exN e t, S.few⟩
  obtain ⟨r, h1, h2⟩ := S.els x hx
  exact ⟨r, h1, e _ _ h2 fun _ z => nomatch z⟩
theorem Od.up {v : V} {tx : Str} {l : Addr} {o : HO} (h : Od H v tx) (hn : v ≠ .ref l) : Od (upd H l o) v tx := by
  cases h with
  | non => exact .non
  | bl b => exact .bl b
  | str z h1 h3 => exact .str z h1 h3
  | tup h1 h2 h3 => exact .tup (by rw [upd_ne (fun z => hn (by rw [z]))]; exact h1) h2 h3
  | lst h1 h2 h3 => exact .lst (by rw [upd_ne (fun z => hn (by rw [z]))]; exact h1) h2 h3
  | dic h1 => exact .dic (by rw [upd_ne (fun z => hn (by rw [z]))]; exact h1)
theorem Od.keep {p : Addr} {v : V} {tx : Str} (h : Od H v tx) (hn : v ≠ .ref p) (k : ∀ b o, b ≠ p → H b = some o → H' b = some o) : Od H' v tx := by
  cases h with
  | non => exact .non
  | bl b => exact .bl b
  | str z h1 h3 => exact .str z h1 h3
  | tup h1 h2 h3 => exact .tup (k _ _ (fun z => hn (by rw [z])) h1) h2 h3
  | lst h1 h2 h3 => exact .lst (k _ _ (fun z => hn (by rw [z])) h1) h2 h3
  | dic h1 => exact .dic (k _ _ (fun z => hn (by rw [z])) h1)
theorem scO_lst {c : Addr} {ns : List Int} {xs : List V} : ScO c ns ≠ .lst xs := fun z => by unfold ScO at z; cases z
theorem penO_lst {a c : Addr} {n : Nat} {xs : List V} : PenO a c n ≠ .lst xs := fun z => by unfold PenO at z; cases z
theorem Wo.up {Tt : List (Addr × Str)} {p l : Addr} {n : Nat} {xs zs : List V} (w : Wo Tt H p n) (hl : H l = some (.lst xs)) : Wo Tt (upd H l (.lst zs)) p n := by
  obtain ⟨c, ns, h1, h2, h3⟩ := w.pen
  refine ⟨⟨c, ns, ?_, ?_, h3⟩, fun t ht => ?_⟩
  · rw [upd_ne (ne_of h1 hl penO_lst)]; exact h1
  · rw [upd_ne (ne_of h2 hl scO_lst)]; exact h2
  · obtain ⟨ps, g1, g2, g3⟩ := w.tabs t ht
    refine ⟨ps, by rw [upd_ne (ne_of g1 hl (by intro z; cases z))]; exact g1, g2, fun pos cv hc => ?_⟩
    obtain ⟨c, e1, e2⟩ := g3 pos cv hc
    exact ⟨c, e1, by rw [upd_ne (ne_of e2 hl (by intro z; unfold CodeO at z; cases z))]; exact e2⟩
theorem Sx.app {Tt : List (Addr × Str)} {l m p : Addr} {n : Nat} {o u : Int} {v : V} {tx : Str} {xs : List V} {r : Addr} (S : Sx Tt C l m p n o u v tx H xs) (h : H r = some (.tup [.str "ratio", .str tx])) (hf : xs.length < 1000) :
    Sx Tt C l m p n o u v tx (upd H l (.lst (xs ++ [.ref r]))) (xs ++ [.ref r]) := by
  have go : ∀ b zs, H b = some (.tup zs) → upd H l (.lst (xs ++ [.ref r])) b = some (.tup zs) := fun b zs e => by
    rw [upd_ne (ne_of e S.lst (by intro z; cases z))]; exact e
  refine ⟨upd_same, fun x hx => ?_, ?_, S.od.up S.ne, S.ne, S.wo.up S.lst, by simp; omega⟩
  · rcases List.mem_append.mp hx with hx | hx
    · obtain ⟨r', h1, h2⟩ := S.els x hx
      exact ⟨r', h1, go _ _ h2⟩
    · rw [List.mem_singleton.mp hx]
      exact ⟨r, rfl, go _ _ h⟩
  · obtain ⟨dx, e⟩ := S.rt
    exact ⟨dx, by rw [upd_ne (ne_of e S.lst (by intro z; cases z))]; exact e⟩
theorem Sx.dp {Tt : List (Addr × Str)} {l m p : Addr} {n : Nat} {o u : Int} {v : V} {tx : Str} : ∀ {xs : List V}, (∀ x ∈ xs, ∃ r, x = .ref r ∧ H r = some (.tup [.str "ratio", .str tx])) → DpAll K H xs (List.replicate xs.length (.tuple [.str "ratio", .str tx]))
  | [], _ => .nil
  | x :: r, h => by
    obtain ⟨q, rfl, hq⟩ := h x List.mem_cons_self
    exact .cons (.tup (.inl (.inl hq)) (.cons (.str _) (.cons (.str _) .nil))) (Sx.dp (Tt := Tt) (l := l) (m := m) (p := p) (n := n) (o := o) (u := u) (v := v) fun y hy => h y (List.mem_cons_of_mem _ hy))
end
end L3
end
section
namespace L3
open PySem PySem.Spec PySem.Calls PyProof.Rows PySem.W
end L3
end
section
namespace L3
open PySem PySem.Spec PySem.Calls PyProof.Rows PySem.W
end L3
namespace L3
open PySem PySem.Spec PyProof.Rows L2 LamX
/-- what the written part says of the class, for its comparisons -/
structure CmpF (K : PySem.W.Frag) (C : Addr) : Prop where
  notF : (numTys.all fun T => PySem.W.notFirst K C (.type T)) = true
  notC : PySem.W.notFirst K C (.ref C) = true
  subs : (numTys.all fun T => decide (PySem.W.subIn K (.ref C) (.type T) = some false)) = true
  ob : PySem.W.mroIn K C (.type "object") = some true
  ne : PySem.W.findIn K (.ref C) "__ne__" = some (some (.builtin "object.__ne__"))
theorem CmpF.sub {K : PySem.W.Frag} {C : Addr} (F : CmpF K C) {T : String} (h : T ∈ numTys) : PySem.W.subIn K (.ref C) (.type T) = some false := of_decide_eq_true (List.all_eq_true.mp F.subs T h)
end L3
end
section
namespace L3
open PySem PySem.Spec PyProof.Rows L2 LamX
section
variable {C CB : Addr} {H H' : Hp} {Q : VK} {x y : V} {o u o' u' : Int} {E : XK}
theorem Rz.ex {g : Str} {v : V} (h : Rz C g v H E) (e : Ex H H') : Rz C g v H' E := fun d H2 hd e2 hx => h d H2 (e.free hd) (e.trans e2) hx
end
end L3
end
section
namespace L3
open PySem PySem.Spec PyProof.Rows L2 LamX
def LamO (f : Addr) (env : Env) (params : Arguments) (body : Expr) (scope : Scope) (c' : Addr) : HO := .ext fun h => ∃ pm ctv, h.get? f = some (PySem.W.kla_obj "<lambda>" (env.qual ++ "<lambda>") params body scope (cloFrom env.cells scope.names []) pm c' ctv)
end L3
end
section
namespace L3
open PySem PySem.Spec PySem.Calls PyProof.Rows PySem.W
open PySem.MeetsSeq2
open PySem.AutoSeq1 (wpAny_loadPart')
end L3
namespace L3
open PySem PySem.Spec PyProof.Rows L2 LamX L2H
end L3
end
section
namespace L3
open PySem PySem.Spec PyProof.Rows L2 LamX ClX
def tSt (C : Addr) (sp : Sp) (E : XK) (ta : TE) (t : TA) : TE := fun σ H Q => ta σ H fun x H1 => x = .ref C ∧ t σ H1 fun vs H2 => sp vs H2 Q E
end L3
end
section
namespace L3
open PySem PySem.Spec PyProof.Rows L2 LamX L2H
end L3
end
section
namespace L3
open PySem PySem.Spec PyProof.Rows L2 LamX
section
variable {C CB : Addr} {H H' : Hp} {Q : VK} {E : XK}
/-- no integer: another value or a fraction -/
def OdR (C : Addr) (H : Hp) (x : V) : Prop := (∃ t, Od H x t) ∨ ∃ q o u, x = .ref q ∧ Rt C H q o u
theorem OdR.exN {x : V} (h : OdR C H x) (e : ExtN H H') : OdR C H' x := by
  rcases h with ⟨t, h⟩ | ⟨q, o, u, rfl, h⟩
  · exact .inl ⟨t, h.exN e⟩
  · exact .inr ⟨q, o, u, rfl, h.exN e⟩
end
end L3
end
section
namespace L3
open PySem PySem.Spec PyProof.Rows L2 LamX
namespace KX
variable {X : Cx} {K : PySem.W.Frag} (hK : X.K = K)
include hK
theorem isiTT : CallR X (.builtin "isinstance") (rIsiT K) := by subst hK; exact call_isiT
end KX
section
variable {K : PySem.W.Frag} {C CB : Addr} {H H' : Hp} {Q : VK} {E : XK}
theorem kit_lt {a : String} {b1 b2 : Bool} (h1 : kitB a "list" = some b1) (h2 : kitB a "tuple" = some b2) : PySem.W.kitAny K (.type a) [.type "list", .type "tuple"] = some (b1 || b2) := by
  have e1 := kit_ty (K := K) h1
  have e2 := kit_ty (K := K) h2
  unfold PySem.W.kitAny
  unfold PySem.W.kitAny
  unfold PySem.W.kitAny
  rw [e1, e2]
  cases b1 <;> cases b2 <;> rfl
theorem s_lenT {R : Nat → Prop} {p : Addr} {xs : List V} (hp : H p = some (.tup xs)) (h : R xs.length) : ∃ x n, [V.ref p] = [x] ∧ LenV K x H n ∧ R n := ⟨_, _, rfl, .inr ⟨xs, .inl (.inl hp), rfl⟩, h⟩
inductive Nms (C : Addr) (H : Hp) : List V → List (Int × Int) → Prop
  | nil : Nms C H [] []
  | cons {v : V} {vs : List V} {q : Int × Int} {qs : List (Int × Int)} : Nm C H v q.1 q.2 → Bd q.1 q.2 → Nms C H vs qs → Nms C H (v :: vs) (q :: qs)
theorem Nm.ex' {v : V} {o u : Int} (h : Nm C H v o u) (e : Ex H H') : Nm C H' v o u := by
  rcases h with ⟨q, rfl, r⟩ | h
  · exact .inl ⟨q, rfl, r.ex e⟩
  · exact .inr h
theorem Nms.ex {vs : List V} {qs : List (Int × Int)} (h : Nms C H vs qs) (e : Ex H H') : Nms C H' vs qs := by
  induction h with
  | nil => exact .nil
  | cons a b _ ih => exact .cons (a.ex' e) b ih
theorem Nms.length {vs : List V} {qs : List (Int × Int)} (h : Nms C H vs qs) : vs.length = qs.length := by
  induction h with
  | nil => rfl
  | cons _ _ _ b => simp [b]
theorem Nms.get {vs : List V} {qs : List (Int × Int)} (h : Nms C H vs qs) : ∀ {i : Nat} {x : V}, vs[i]? = some x → ∃ q, qs[i]? = some q ∧ Nm C H x q.1 q.2 ∧ Bd q.1 q.2 := by
  induction h with
  | nil => intro i x e; simp at e
  | cons a b _ ih =>
    intro i x e
    cases i with
    | zero => cases e; exact ⟨_, rfl, a, b⟩
    | succ i => exact ih (by simpa using e)
/-- no list, no tuple; or an empty one -/
inductive NoLT (H : Hp) : V → Prop
  | non : NoLT H .non
  | bl (b : Bool) : NoLT H (.bl b)
  | int (i : Int) : NoLT H (.int i)
  | str (z : Str) : NoLT H (.str z)
  | dic {p : Addr} {kvs : List (Key × V)} : H p = some (.dK kvs) → NoLT H (.ref p)
theorem NoLT.ty {v : V} (h : NoLT H v) : ∃ t, TyX K H v t ∧ PySem.W.kitAny K t [.type "list", .type "tuple"] = some false := by
  cases h with
  | non => exact ⟨_, .base .non, kit_lt (b1 := false) (b2 := false) (by decide +kernel) (by decide +kernel)⟩
  | bl b => exact ⟨_, .base (.bl b), kit_lt (b1 := false) (b2 := false) (by decide +kernel) (by decide +kernel)⟩
  | int b => exact ⟨_, .base (.int b), kit_lt (b1 := false) (b2 := false) (by decide +kernel) (by decide +kernel)⟩
  | str b => exact ⟨_, .base (.str b), kit_lt (b1 := false) (b2 := false) (by decide +kernel) (by decide +kernel)⟩
  | dic h => exact ⟨_, .base (.dK h), kit_lt (b1 := false) (b2 := false) (by decide +kernel) (by decide +kernel)⟩
theorem NoLT.ex {v : V} (h : NoLT H v) (e : Ex H H') : NoLT H' v := by
  cases h with
  | non => exact .non
  | bl b => exact .bl b
  | int b => exact .int b
  | str b => exact .str b
  | dic h => exact .dic (e _ _ h)
variable {g : TG} {tb : TS} {D : Ends} {σ : L2.St} {tl : TE}
def ForL (K : PySem.W.Frag) (a : Addr) (g : TG) (tb : TS) (D : Ends) (σ : L2.St) (H : Hp) : Prop := ∃ W : Nat → Nat → L2.St → Hp → Prop, (∃ m, W 0 m σ H) ∧ ∀ (i m : Nat) (σ : L2.St) (H : Hp), W i m σ H → (Itl K a).stop i H ∧ D.nx σ H ∨ (Itl K a).go i H ∧
  ∃ N, (∀ (σ' : L2.St) (H' : Hp), N σ' H' → ∃ m', m' < m ∧ W (i + 1) m' σ' H') ∧ ∀ (x : V) (H' : Hp), (Itl K a).yld i H x H' → g x σ H' fun σ2 H2 => tb { nx := N, rt := D.rt, bk := D.nx, ct := N } σ2 H2
def ForT (K : PySem.W.Frag) (a : Addr) (g : TG) (tb : TS) (D : Ends) (σ : L2.St) (H : Hp) : Prop := ∃ W : Nat → Nat → L2.St → Hp → Prop, (∃ m, W 0 m σ H) ∧ ∀ (i m : Nat) (σ : L2.St) (H : Hp), W i m σ H → (Itt K a).stop i H ∧ D.nx σ H ∨ (Itt K a).go i H ∧
  ∃ N, (∀ (σ' : L2.St) (H' : Hp), N σ' H' → ∃ m', m' < m ∧ W (i + 1) m' σ' H') ∧ ∀ (x : V) (H' : Hp), (Itt K a).yld i H x H' → g x σ H' fun σ2 H2 => tb { nx := N, rt := D.rt, bk := D.nx, ct := N } σ2 H2
theorem s_forL (h : tl σ H fun x H1 => ∃ a, x = .ref a ∧ (∃ xs, SqL K H1 a xs) ∧ ForL K a g tb D σ H1) : tFor (iList K tl) g tb D σ H := h
theorem s_forT (h : tl σ H fun x H1 => ∃ a, x = .ref a ∧ (∃ xs, SqT K H1 a xs) ∧ ForT K a g tb D σ H1) : tFor (iTup K tl) g tb D σ H := h
theorem s_fL {a : Addr} {xs : List V} (ha : H a = some (.lst xs)) (Pv : Nat → L2.St → Hp → Prop) (h0 : Pv 0 σ H) (hs : ∀ i σ H, Pv i σ H → H a = some (.lst xs))
    (hb : ∀ i x σ H, xs[i]? = some x → Pv i σ H → g x σ H fun σ2 H2 => tb { nx := Pv (i + 1), rt := D.rt, bk := D.nx, ct := Pv (i + 1) } σ2 H2) (he : ∀ σ H, Pv xs.length σ H → D.nx σ H) :
    ∃ a', V.ref a = .ref a' ∧ (∃ xs, SqL K H a' xs) ∧ ForL K a' g tb D σ H := ⟨a, rfl, ⟨xs, .inl (.inl ha)⟩, for_list Pv h0 (fun i σ H _ h => .inl (.inl (hs i σ H h))) hb he⟩
theorem s_fT {a : Addr} {xs : List V} (ha : H a = some (.tup xs)) (Pv : Nat → L2.St → Hp → Prop) (h0 : Pv 0 σ H) (hs : ∀ i σ H, Pv i σ H → H a = some (.tup xs))
    (hb : ∀ i x σ H, xs[i]? = some x → Pv i σ H → g x σ H fun σ2 H2 => tb { nx := Pv (i + 1), rt := D.rt, bk := D.nx, ct := Pv (i + 1) } σ2 H2) (he : ∀ σ H, Pv xs.length σ H → D.nx σ H) :
    ∃ a', V.ref a = .ref a' ∧ (∃ xs, SqT K H a' xs) ∧ ForT K a' g tb D σ H := ⟨a, rfl, ⟨xs, .inl (.inl ha)⟩, for_tup Pv h0 (fun i σ H _ h => .inl (.inl (hs i σ H h))) hb he⟩
theorem s_gNm {i : Nat} {v : V} {R : L2.St → Hp → Prop} (h : R (σ.set i (some v)) H) : gName i v σ H R := h
end
end L3
end
section
namespace L3
open PySem PySem.Spec PyProof.Rows L2 LamX
end L3
end
section
namespace L3
open PySem PySem.Spec PyProof.Rows L2 LamX
section
variable {K : PySem.W.Frag} {σ : L2.St} {H H' : Hp} {Q : VK} {C CB : Addr}
inductive Vl (H : Hp) : V → Str → Prop
  | od {v : V} {t : Str} : Od H v t → Vl H v t
  | int (i : Int) : i.natAbs.log2 < 1920 → (PyData.int i).shown.length ≤ 1001 → Vl H (.int i) (PyData.int i).shown
  | d12 {p : Addr} : H p = some (.dK [(.inl 1, .int 2)]) → Vl H (.ref p) (PyData.dict [(.int 1, .int 2)]).shown
theorem Vl.exN {v : V} {t : Str} (h : Vl H v t) (e : ExtN H H') : Vl H' v t := by
  cases h with
  | od h => exact .od (h.exN e)
  | int i h2 h3 => exact .int i h2 h3
  | d12 h => exact .d12 (e _ _ h fun _ z => nomatch z)
theorem Vl.ex {v : V} {t : Str} (h : Vl H v t) (e : Ex H H') : Vl H' v t := h.exN e.n
theorem Vl.up {v : V} {t : Str} {l : Addr} {o : HO} (h : Vl H v t) (hn : v ≠ .ref l) : Vl (upd H l o) v t := by
  cases h with
  | od h => exact .od (h.up hn)
  | int i h2 h3 => exact .int i h2 h3
  | d12 h => exact .d12 (by rw [upd_ne (fun z => hn (by rw [z]))]; exact h)
theorem Vl.keep {p : Addr} {v : V} {t : Str} (h : Vl H v t) (hn : v ≠ .ref p) (k : ∀ b o, b ≠ p → H b = some o → H' b = some o) : Vl H' v t := by
  cases h with
  | od h => exact .od (h.keep hn k)
  | int i h2 h3 => exact .int i h2 h3
  | d12 h => exact .d12 (k _ _ (fun z => hn (by rw [z])) h)
/-- what lies nowhere yet is none of these -/
theorem Vl.new {v : V} {t : Str} {l : Addr} (h : Vl H v t) (hl : H l = none) : v ≠ .ref l := fun z => by
  subst z
  cases h with
  | od h =>
    cases h with
    | tup q _ _ => rw [hl] at q; cases q
    | lst q _ _ => rw [hl] at q; cases q
    | dic q => rw [hl] at q; cases q
  | d12 q => rw [hl] at q; cases q
/-- the heard pairs -/
inductive Hrd (H : Hp) : List V → List Str → Prop
  | nil : Hrd H [] []
  | cons {r : Addr} {vs : List V} {t : Str} {ts : List Str} : H r = some (.tup [.str "ratio", .str t]) → Hrd H vs ts → Hrd H (.ref r :: vs) (t :: ts)
theorem Hrd.exN {vs : List V} {ts : List Str} (h : Hrd H vs ts) (e : ExtN H H') : Hrd H' vs ts := by
  induction h with
  | nil => exact .nil
  | cons a _ b => exact .cons (e _ _ a fun _ z => nomatch z) b
theorem Hrd.up {vs : List V} {ts : List Str} {l : Addr} {xs zs : List V} (h : Hrd H vs ts) (hl : H l = some (.lst xs)) : Hrd (upd H l (.lst zs)) vs ts := by
  induction h with
  | nil => exact .nil
  | cons a _ b => exact .cons (by rw [upd_ne (ne_of a hl (by intro z; cases z))]; exact a) b
theorem Hrd.snoc {vs : List V} {ts : List Str} {r : Addr} {t : Str} (h : Hrd H vs ts) (a : H r = some (.tup [.str "ratio", .str t])) : Hrd H (vs ++ [.ref r]) (ts ++ [t]) := by
  induction h with
  | nil => exact .cons a .nil
  | cons b _ c => exact .cons b c
theorem Hrd.length {vs : List V} {ts : List Str} (h : Hrd H vs ts) : vs.length = ts.length := by
  induction h with
  | nil => rfl
  | cons _ _ b => simp [b]
def hrD (ts : List Str) : List PyData := ts.map fun t => .tuple [.str "ratio", .str t]
theorem Hrd.dp {vs : List V} {ts : List Str} (h : Hrd H vs ts) : DpAll K H vs (hrD ts) := by
  induction h with
  | nil => exact .nil
  | cons a _ b => exact .cons (.tup (.inl (.inl a)) (.cons (.str _) (.cons (.str _) .nil))) b
/-- so far heard: the list l; what is known of some values; the pen -/
structure Sy (Tt : List (Addr × Str)) (l p : Addr) (n : Nat) (Pv : Hp → Prop) (H : Hp) (xs : List V) (ts : List Str) : Prop where
  lst : H l = some (.lst xs)
  els : Hrd H xs ts
  pv : Pv H
  wo : Wo Tt H p n
  few : xs.length ≤ 1000
structure Clo (l : Addr) (Pv : Hp → Prop) : Prop where
  ext : ∀ H H', Pv H → ExtN H H' → Pv H'
  upd : ∀ H zs, Pv H → Pv (upd H l (.lst zs))
theorem Sy.exN {Tt : List (Addr × Str)} {l p : Addr} {n : Nat} {Pv : Hp → Prop} {xs : List V} {ts : List Str} (S : Sy Tt l p n Pv H xs ts) (c : Clo l Pv) (e : ExtN H H') (t : Tabs Tt H') : Sy Tt l p n Pv H' xs ts :=
  ⟨e _ _ S.lst (fun _ z => nomatch z), S.els.exN e, c.ext _ _ S.pv e, S.wo.exN e t, S.few⟩
theorem Sy.app {Tt : List (Addr × Str)} {l p : Addr} {n : Nat} {Pv : Hp → Prop} {xs : List V} {ts : List Str} {r : Addr} {tx : Str} (S : Sy Tt l p n Pv H xs ts) (c : Clo l Pv) (h : H r = some (.tup [.str "ratio", .str tx])) (hf : xs.length < 1000) :
    Sy Tt l p n Pv (upd H l (.lst (xs ++ [.ref r]))) (xs ++ [.ref r]) (ts ++ [tx]) :=
  ⟨upd_same, (S.els.up S.lst).snoc (by rw [upd_ne (ne_of h S.lst (by intro z; cases z))]; exact h), c.upd _ _ S.pv, S.wo.up S.lst, by simp; omega⟩
/-- no list or tuple of numbers -/
def Lt (H : Hp) (v : V) : Prop := NoLT H v ∨ ∃ a, v = .ref a ∧ (H a = some (.lst []) ∨ H a = some (.tup []))
theorem Lt.map {v : V} {G : Hp} (h : Lt H v) (f : ∀ a o, v = .ref a → H a = some o → (∀ ps, o ≠ .tbl ps) → G a = some o) : Lt G v := by
  rcases h with h | ⟨a, rfl, h⟩
  · cases h with
    | non => exact .inl .non
    | bl b => exact .inl (.bl b)
    | int i => exact .inl (.int i)
    | str z => exact .inl (.str z)
    | dic h => exact .inl (.dic (f _ _ rfl h fun _ z => nomatch z))
  · exact .inr ⟨a, rfl, h.imp (fun h => f _ _ rfl h fun _ z => nomatch z) (fun h => f _ _ rfl h fun _ z => nomatch z)⟩
theorem Lt.exN {v : V} (h : Lt H v) (e : ExtN H H') : Lt H' v := h.map fun a o _ h n => e a o h n
theorem Lt.up {v : V} {l : Addr} {o : HO} (h : Lt H v) (hn : v ≠ .ref l) : Lt (upd H l o) v := h.map fun a o e h _ => by rw [upd_ne (fun z => hn (by rw [e, z]))]; exact h
theorem Lt.keep {p : Addr} {v : V} (h : Lt H v) (hn : v ≠ .ref p) (k : ∀ b o, b ≠ p → H b = some o → H' b = some o) : Lt H' v := h.map fun a o e h _ => k a o (fun z => hn (by rw [e, z])) h
end
end L3
end
section
namespace L3
open PySem PySem.Spec PyProof.Rows L2 LamX ClX
structure Er2 (P : Program) (w : World) (K : PySem.W.Frag) (mg : Str → Option Value) (base : Heap) (x : Str) (C : Addr) (g g2 : Str) : Prop where
  oex : OexC K C
  m : mg x = some (.ref C)
  ex : ∃ (f : Addr) (fd : FuncData) (y y2 : Str), PySem.W.findIn K (.ref C) "__init__" = some (some (.ref f)) ∧ PySem.W.typeIn K (.ref f) = some (.type "function") ∧ FnOk P w K mg base CX0 1 f fd ["self", y, y2] (spErr2 C g g2) ∧ L2.Binds K fd ["self", y, y2] []
def Rz2 (C : Addr) (g g2 : Str) (v v2 : V) (H : Hp) (E : XK) : Prop := ∀ d H', H d = none → Ex H H' → H' d = some (.xd [(g2, v2), (g, v)]) → E (.ref C) (some d) H'
theorem Rz2.ex {C : Addr} {g g2 : Str} {v v2 : V} {H H' : Hp} {E : XK} (h : Rz2 C g g2 v v2 H E) (e : Ex H H') : Rz2 C g g2 v v2 H' E := fun d H2 hd e2 hx => h d H2 (e.free hd) (e.trans e2) hx
def rMk2 (C : Addr) (g g2 : Str) (vs : List V) (H1 : Hp) (E : XK) : Prop := vs.length ≤ 1000 ∧ ∀ a, H1 a = none → spErr2 C g g2 (.ref a :: (vs ++ [])) (upd H1 a (exo a C none))
  (fun v H2 => v = .non ∧ ∃ (d : Addr) (fs : List (Str × V)), H2 a = some (exo a C (some d)) ∧ H2 d = some (exd d fs) ∧ H1 d = none ∧ E (.ref C) (some d) (upd (del H2 a) d (.xd fs))) (fun _ _ _ => False)
def tRaise2 (C : Addr) (g g2 : Str) (te te2 : TE) (W : WX) : TS := fun _ σ H => te σ H fun v H1 => te2 σ H1 fun v2 H2 => rMk2 C g g2 [v, v2] H2 (fun cls d H' => W cls d σ H')
theorem ps_raise2 {X : Cx} {W : WX} {x g g2 : Str} {C : Addr} {j : Nat} {e e2 : Expr} {te te2 : TE} {p p1 pos : Pos} (c : Er2 X.prog X.w X.K X.mg X.base x C g g2) (hr : Room j X.A) (hc : X.calm = true) (tk : Takes X W) (ha : PA X [e, e2] (tCons te (tCons te2 tNil))) (hk : 2 ≤ j := by decide) (gl : Gl X x := by rfl)
    (hdb : (x == ("__debug__" : Str)) = false := by decide) (hst : starEach [e, e2] X.env = (false, eval e X.env) :: starEach [e2] X.env := by rfl) (hpl : (backTo p1 (starEach [e2] X.env)).any (·.1) = false := by rfl) :
    PS X (.Raise (some (.Call (.Name x p) [e, e2] [] p1)) none pos) (tRaise2 C g g2 te te2 W) := by
  obtain ⟨f, fd, y, y2, i1, i2, F, b⟩ := c.ex
  exact ps_raise (pos := pos) hc tk (pmk_oex (p := p) (pos := p1) c.oex i1 i2 F (hr.mono hk) b .nil pass0 gl c.m ha hdb hst hpl)
theorem s_raise2 {C : Addr} {g g2 : Str} {te te2 : TE} {W : WX} {D : Ends} {σ : L2.St} {H : Hp} (h : te σ H fun v H1 => te2 σ H1 fun v2 H2 => rMk2 C g g2 [v, v2] H2 (fun cls d H' => W cls d σ H')) : tRaise2 C g g2 te te2 W D σ H := h
theorem s_rz2 {C : Addr} {g g2 : Str} {v v2 : V} {H : Hp} {E : XK} (h : Rz2 C g g2 v v2 H E) : rMk2 C g g2 [v, v2] H E := by
  refine ⟨(show 2 ≤ 1000 by decide), fun a ha => ⟨a, v, v2, rfl, upd_same, fun dx h1 h2 => ⟨rfl, dx, [(g2, v2), (g, v)], ?_, upd_same, ?_, h dx _ ?_ ?_ upd_same⟩⟩⟩
  · rw [upd_ne (Ne.symm h2), upd_same]
  · rw [upd_ne h2] at h1; exact h1
  · rw [upd_ne h2] at h1; exact h1
  · intro b o e
    have n1 : b ≠ a := ne_of_none e ha
    have n2 : b ≠ dx := by
      rw [upd_ne h2] at h1
      exact ne_of_none e h1
    rw [upd_ne n2, del_ne n1, upd_ne n2, upd_ne n1, upd_ne n2, upd_ne n1]
    exact e
end L3
end
section
namespace L3
open PySem PySem.Spec PySem.Calls PyProof.Rows PySem.W PySem.TypeEq
end L3
namespace L3
open PySem PySem.Spec PyProof.Rows L2 LamX
/-- two functions made by lambdas -/
def FnAt (H : Hp) (f : Addr) : Prop := H f = some (FnV f)
theorem FnAt.exN {H H' : Hp} {f : Addr} (h : FnAt H f) (e : ExtN H H') : FnAt H' f := e _ _ h fun _ z => by unfold FnV at z; cases z
end L3
end
section
namespace L3
open PySem PySem.Spec PyProof.Rows L2 LamX
/-- a number within, or anything else -/
def InB (v : V) (a b : Int) : Prop := ∃ i, v = .int i ∧ a ≤ i ∧ i ≤ b
def OutB (H : Hp) (v : V) (a b : Int) : Prop := (∃ t, Od H v t) ∨ ∃ i, v = .int i ∧ ¬ (a ≤ i ∧ i ≤ b)
theorem OutB.exN {H H' : Hp} {v : V} {a b : Int} (h : OutB H v a b) (e : ExtN H H') : OutB H' v a b := h.imp (fun ⟨t, h⟩ => ⟨t, h.exN e⟩) id
/-- a number or another value -/
def Kv (H : Hp) (v : V) : Prop := (∃ i, v = .int i) ∨ ∃ t, Od H v t
theorem Kv.exN {H H' : Hp} {v : V} (h : Kv H v) (e : ExtN H H') : Kv H' v := h.imp id fun ⟨t, h⟩ => ⟨t, h.exN e⟩
theorem Kv.ex {H H' : Hp} {v : V} (h : Kv H v) (e : Ex H H') : Kv H' v := h.exN e.n
theorem Kv.keep {H H' : Hp} {p : Addr} {v : V} (h : Kv H v) (hn : v ≠ .ref p) (k : ∀ b o, b ≠ p → H b = some o → H' b = some o) : Kv H' v := h.imp id fun ⟨t, h⟩ => ⟨t, h.keep hn k⟩
def spWithin : Sp := fun vs H Q _ => ∃ x a b, vs = [x, .int a, .int b] ∧ ((InB x a b ∧ Q (.bl true) H) ∨ (OutB H x a b ∧ Q (.bl false) H))
def spSize : Sp := fun vs H Q _ => ∃ x, vs = [x] ∧ ((InB x 1 (10 ^ 30) ∧ Q (.bl true) H) ∨ (OutB H x 1 (10 ^ 30) ∧ Q (.bl false) H))
def fxF (i : Int) (t : Addr) : List (Str × V) := putF "modulus" (.int 1) (putF "parts" (.ref t) (putF "size" (.int i) []))
def Fx (C : Addr) (H : Hp) (q : Addr) (i : Int) : Prop := ∃ dx t, H q = some (.ins C dx (fxF i t)) ∧ H t = some (.tup [.ref q])
def dvF (x y w : Int) (t : Addr) : List (Str × V) := putF "modulus" (.int w) (putF "parts" (.ref t) (putF "w" (.int w) (putF "y" (.int y) (putF "x" (.int x) []))))
def Dv (C : Addr) (H : Hp) (q : Addr) (x y w : Int) : Prop := ∃ dx t, H q = some (.ins C dx (dvF x y w t)) ∧ H t = some (.tup [.ref q])
def byF (f t : Addr) : List (Str × V) := putF "modulus" (.int 1) (putF "parts" (.ref t) (putF "function" (.ref f) []))
def Byr (C : Addr) (H : Hp) (q f : Addr) : Prop := ∃ dx t, H q = some (.ins C dx (byF f t)) ∧ H t = some (.tup [])
section
variable {C CS CR : Addr} {H H' : Hp} {Q : VK} {E : XK}
theorem Fx.exN {q : Addr} {i : Int} (h : Fx C H q i) (e : ExtN H H') : Fx C H' q i := by
  obtain ⟨dx, t, a, b⟩ := h
  exact ⟨dx, t, e _ _ a (fun _ z => nomatch z), e _ _ b (fun _ z => nomatch z)⟩
theorem Fx.ex {q : Addr} {i : Int} (h : Fx C H q i) (e : Ex H H') : Fx C H' q i := h.exN e.n
theorem Dv.exN {q : Addr} {x y w : Int} (h : Dv C H q x y w) (e : ExtN H H') : Dv C H' q x y w := by
  obtain ⟨dx, t, a, b⟩ := h
  exact ⟨dx, t, e _ _ a (fun _ z => nomatch z), e _ _ b (fun _ z => nomatch z)⟩
theorem Dv.ex {q : Addr} {x y w : Int} (h : Dv C H q x y w) (e : Ex H H') : Dv C H' q x y w := h.exN e.n
theorem Byr.exN {q f : Addr} (h : Byr C H q f) (e : ExtN H H') : Byr C H' q f := by
  obtain ⟨dx, t, a, b⟩ := h
  exact ⟨dx, t, e _ _ a (fun _ z => nomatch z), e _ _ b (fun _ z => nomatch z)⟩
/-- what a made instance leaves: itself, its dict, its tuple -/
def MkT (C : Addr) (fs : Addr → List (Str × V)) (tv : List V) (p dx : Addr) (H : Hp) (Q : VK) : Prop := ∀ t H', H t = none → t ≠ p → (∀ c o, c ≠ p → H c = some o → H' c = some o) → H' t = some (.tup tv) → H' p = some (.ins C dx (fs t)) → Q .non H'
theorem mkt {fs : Addr → List (Str × V)} {tv : List V} {p dx : Addr} (hp : H p = none) (hd : H dx = none) (hn : dx ≠ p) (h : ∀ t H', H t = none → Ex H H' → H' p = some (.ins C dx (fs t)) → H' t = some (.tup tv) → Q (.ref p) H') :
    MkT C fs tv p dx (upd (upd H dx (.own p)) p (.ins C dx [])) (fun v H2 => v = .non ∧ ap Q (.ref p) H2) := fun t H' ht htp hk h1 h2 => by
  have ht' : H t = none := by
    rw [upd_ne htp] at ht
    by_cases z : t = dx
    · rw [z]; exact hd
    · rw [upd_ne z] at ht; exact ht
  refine ⟨rfl, h t H' ht' (fun c o e => ?_) h2 h1⟩
  exact hk c o (ne_of_none e hp) (by rw [upd_ne (ne_of_none e hp), upd_ne (ne_of_none e hd)]; exact e)
def spFx (C CS : Addr) : Sp := fun vs H Q E => ∃ p dx x, vs = [.ref p, x] ∧ H p = some (.ins C dx []) ∧
  ((∃ i, x = .int i ∧ (1 ≤ i ∧ i ≤ 10 ^ 30) ∧ MkT C (fxF i) [.ref p] p dx H Q) ∨ (OutB H x 1 (10 ^ 30) ∧ Rz CS "value" x H E))
def WrD (H : Hp) (a b c : V) (z : Str) : Prop := (OutB H a 0 24 ∧ z = "x") ∨ (InB a 0 24 ∧ OutB H b (-1000) 1000 ∧ z = "y") ∨ (InB a 0 24 ∧ InB b (-1000) 1000 ∧ OutB H c 1 24 ∧ z = "w")
theorem WrD.exN {a b c : V} {z : Str} (h : WrD H a b c z) (e : ExtN H H') : WrD H' a b c z := by
  rcases h with ⟨h, r⟩ | ⟨i, h, r⟩ | ⟨i, j, h, r⟩
  · exact .inl ⟨h.exN e, r⟩
  · exact .inr (.inl ⟨i, h.exN e, r⟩)
  · exact .inr (.inr ⟨i, j, h.exN e, r⟩)
def spDv (C CR : Addr) : Sp := fun vs H Q E => ∃ p dx a b c, vs = [.ref p, a, b, c] ∧ H p = some (.ins C dx []) ∧
  ((∃ x y w, a = .int x ∧ b = .int y ∧ c = .int w ∧ (0 ≤ x ∧ x ≤ 24) ∧ (-1000 ≤ y ∧ y ≤ 1000) ∧ (1 ≤ w ∧ w ≤ 24) ∧ MkT C (dvF x y w) [.ref p] p dx H Q) ∨ (∃ z, WrD H a b c z ∧ Rz CR "part" (.str z) H E))
def spBy (C : Addr) : Sp := fun vs H Q _ => ∃ p dx f, vs = [.ref p, .ref f] ∧ H p = some (.ins C dx []) ∧ MkT C (byF f) [] p dx H Q
theorem s_mkFx {dvs : List V} {i : Int} (hi : 1 ≤ i ∧ i ≤ 10 ^ 30) (h : ∀ q H', H q = none → Ex H H' → Fx C H' q i → Q (.ref q) H') : ∀ p dx, H p = none → H dx = none → dx ≠ p → spFx C CS (.ref p :: ([.int i] ++ [])) (upd (upd H dx (.own p)) p (.ins C dx [])) (fun v H2 => v = .non ∧ ap Q (.ref p) H2) E := fun p dx hp hd hn =>
  ⟨p, dx, _, rfl, upd_same, .inl ⟨i, rfl, hi, mkt hp hd hn fun t H' ht e h1 h2 => h p H' hp e ⟨dx, t, h1, h2⟩⟩⟩
theorem s_mkDv {x y w : Int} (hx : 0 ≤ x ∧ x ≤ 24) (hy : -1000 ≤ y ∧ y ≤ 1000) (hw : 1 ≤ w ∧ w ≤ 24) (h : ∀ q H', H q = none → Ex H H' → Dv C H' q x y w → Q (.ref q) H') : ∀ p dx, H p = none → H dx = none → dx ≠ p → spDv C CR (.ref p :: ([.int x, .int y, .int w] ++ [])) (upd (upd H dx (.own p)) p (.ins C dx [])) (fun v H2 => v = .non ∧ ap Q (.ref p) H2) E := fun p dx hp hd hn =>
  ⟨p, dx, _, _, _, rfl, upd_same, .inl ⟨x, y, w, rfl, rfl, rfl, hx, hy, hw, mkt hp hd hn fun t H' ht e h1 h2 => h p H' hp e ⟨dx, t, h1, h2⟩⟩⟩
end
end L3
end
section
namespace L3
open PySem PySem.Spec PyProof.Rows L2 LamX
section
variable {K : PySem.W.Frag} {σ : L2.St} {H H' : Hp} {Q : VK} {C CR CS CF CD : Addr}
/-- the list of other values -/
def OddL (H : Hp) (l : Addr) : Prop := ∃ t e d, H l = some (.lst [.non, .bl true, .str "1", .ref t, .ref e, .ref d, .bl false]) ∧ H t = some (.tup [.int 1]) ∧ H e = some (.lst []) ∧ H d = some (.dK [])
theorem OddL.ex {l : Addr} (h : OddL H l) (e : Ex H H') : OddL H' l := by
  obtain ⟨t, a, d, h1, h2, h3, h4⟩ := h
  exact ⟨t, a, d, e _ _ h1, e _ _ h2, e _ _ h3, e _ _ h4⟩
theorem OddL.keep {l p : Addr} {n : Nat} (h : OddL H l) (hp : Pen H p n) (k : ∀ b o, b ≠ p → H b = some o → H' b = some o) : OddL H' l := by
  obtain ⟨t, a, d, h1, h2, h3, h4⟩ := h
  have nn : ∀ {q : Addr} {o : HO}, H q = some o → (∀ c n, o ≠ PenO p c n) → H' q = some o := fun {q o} e z => k _ _ (hp.ne e z) e
  exact ⟨t, a, d, nn h1 (fun c n z => by unfold PenO at z; cases z), nn h2 (fun c n z => by unfold PenO at z; cases z), nn h3 (fun c n z => by unfold PenO at z; cases z), nn h4 (fun c n z => by unfold PenO at z; cases z)⟩
theorem Byr.ex {q f : Addr} (h : Byr C H q f) (e : Ex H H') : Byr C H' q f := h.exN e.n
theorem FnAt.ex {f : Addr} (h : FnAt H f) (e : Ex H H') : FnAt H' f := h.exN e.n
end
end L3
end
section
namespace L3
open PySem PySem.Spec PySem.HandSPX
end L3
end
section
namespace L3
open PySem PySem.Spec PyProof.Rows L2 LamX
def LamF (f : Addr) (q : Str) (params : Arguments) (body : Expr) (scope : Scope) (c' : Addr) : HO := .ext fun h => ∃ pm ctv, h.get? f = some (PySem.W.kla_obj "<lambda>" q params body scope [] pm c' ctv)
/-- what is promised of such a lambda, wherever it is called -/
structure Lam1 (P : Program) (w : World) (K : PySem.W.Frag) (mg : Str → Option Value) (base : Heap) (k : Nat) (x : Str) (q : Str) (params : Arguments) (body : Expr) (scope : Scope) (sp : Sp) : Prop where
  bind : ∀ (pm cv ctv u : Value), bindArgs (PySem.W.kla_fn "<lambda>" q params body scope [] pm cv ctv) ⟨[u], []⟩ = pure [(x, u)]
  sc : FnScope [x] [x] scope
  body : ∀ (A : Around) (outer : List Env) (s : Shared) (H : Hp) (E : XK) (f c' : Addr) (v : V) (Q : VK), Room k (A.deeper (envOfC q scope s.heap.objs.size f (.ref c'))) → sp [v] H Q E → ∃ t, PE (cxOf CX0 P w K mg base [x] q scope f (.ref c') A outer s H E) body t ∧ t [some v] H Q
def LamAt (P : Program) (w : World) (K : PySem.W.Frag) (mg : Str → Option Value) (base : Heap) (k : Nat) (H : Hp) (f : Addr) (sp : Sp) : Prop :=
  ∃ (x q : Str) (params : Arguments) (body : Expr) (scope : Scope) (c' : Addr), H f = some (LamF f q params body scope c') ∧ H c' = some (CodeO c' q) ∧ Lam1 P w K mg base k x q params body scope sp
theorem LamAt.exN {P : Program} {w : World} {K : PySem.W.Frag} {mg : Str → Option Value} {base : Heap} {k : Nat} {H H' : Hp} {f : Addr} {sp : Sp} (h : LamAt P w K mg base k H f sp) (e : ExtN H H') : LamAt P w K mg base k H' f sp := by
  obtain ⟨x, q, params, body, scope, c', h1, h2, h3⟩ := h
  exact ⟨x, q, params, body, scope, c', e _ _ h1 (fun _ z => by unfold LamF at z; cases z), e _ _ h2 codeO_ne, h3⟩
theorem LamAt.keep {P : Program} {w : World} {K : PySem.W.Frag} {mg : Str → Option Value} {base : Heap} {k : Nat} {H H' : Hp} {f : Addr} {sp : Sp} (h : LamAt P w K mg base k H f sp) (e : ∀ b o, H b = some o → (∃ f q a b s c, o = LamF f q a b s c) ∨ (∃ c q, o = CodeO c q) → H' b = some o) : LamAt P w K mg base k H' f sp := by
  obtain ⟨x, q, params, body, scope, c', h1, h2, h3⟩ := h
  exact ⟨x, q, params, body, scope, c', e _ _ h1 (.inl ⟨_, _, _, _, _, _, rfl⟩), e _ _ h2 (.inr ⟨_, _, rfl⟩), h3⟩
def tCallF (P : Program) (w : World) (K : PySem.W.Frag) (mg : Str → Option Value) (base : Heap) (k : Nat) (tf : TE) (ta : TA) : TE := fun σ H Q =>
  tf σ H fun fv H1 => ∃ (f : Addr) (sp : Sp), fv = .ref f ∧ LamAt P w K mg base k H1 f sp ∧ ta σ H1 fun vs H2 => ∃ v, vs = [v] ∧ LamAt P w K mg base k H2 f sp ∧ sp [v] H2 Q (fun _ _ _ => False)
end L3
end
section
namespace L3
open PySem PySem.Spec PyProof.Rows L2 LamX
def ErAt (H : Hp) (a C : Addr) (fs : List (Str × V)) : Prop := (∃ d, H a = some (exo a C (some d)) ∧ H d = some (exd d fs)) ∨ (fs = [] ∧ H a = some (exo a C none))
theorem exo_tbl {e C : Addr} {d : Option Addr} : ∀ ps, exo e C d ≠ .tbl ps := fun _ z => by unfold exo at z; cases z
theorem exd_tbl {d : Addr} {fs : List (Str × V)} : ∀ ps, exd d fs ≠ .tbl ps := fun _ z => by unfold exd at z; cases z
theorem ErAt.exN {H H' : Hp} {a C : Addr} {fs : List (Str × V)} (h : ErAt H a C fs) (e : ExtN H H') : ErAt H' a C fs := by
  rcases h with ⟨d, h1, h2⟩ | ⟨h1, h2⟩
  · exact .inl ⟨d, e _ _ h1 exo_tbl, e _ _ h2 exd_tbl⟩
  · exact .inr ⟨h1, e _ _ h2 exo_tbl⟩
def tLstN (t : TA) : TE := fun σ H Q => t σ H fun xs H1 => xs.length ≤ sizeLine ∧ ∀ p, H1 p = none → p ≠ sysModules → ap Q (.ref p) (upd H1 p (.lst xs))
def litB : V → Bool
  | .int _ => true
  | .bl _ => true
  | .str _ => true
  | .non => true
  | _ => false
def litD : V → PyData
  | .int i => .int i
  | .bl b => .bool b
  | .str z => .str z
  | _ => .none
inductive Vd (H : Hp) : V → PyData → Prop
  | non : Vd H .non .none
  | bl (b : Bool) : Vd H (.bl b) (.bool b)
  | int (i : Int) : Vd H (.int i) (.int i)
  | str (z : Str) : Vd H (.str z) (.str z)
  | tup {p : Addr} {xs : List V} : H p = some (.tup xs) → xs.all litB = true → Vd H (.ref p) (.tuple (xs.map litD))
  | lst {p : Addr} {xs : List V} : H p = some (.lst xs) → p ≠ sysModules → xs.all litB = true → Vd H (.ref p) (.list (xs.map litD))
  | d0 {p : Addr} : H p = some (.dK []) → Vd H (.ref p) (.dict [])
  | d1 {p : Addr} {k v : Str} : H p = some (.dK [(.inr k, .str v)]) → Vd H (.ref p) (.dict [(.str k, .str v)])
theorem Vd.map {H H' : Hp} {v : V} {d : PyData} (h : Vd H v d) (f : ∀ a o, v = .ref a → H a = some o → (∀ ps, o ≠ .tbl ps) → H' a = some o) : Vd H' v d := by
  cases h with
  | non => exact .non
  | bl b => exact .bl b
  | int i => exact .int i
  | str z => exact .str z
  | tup h1 h2 => exact .tup (f _ _ rfl h1 fun _ z => nomatch z) h2
  | lst h1 h2 h3 => exact .lst (f _ _ rfl h1 fun _ z => nomatch z) h2 h3
  | d0 h1 => exact .d0 (f _ _ rfl h1 fun _ z => nomatch z)
  | d1 h1 => exact .d1 (f _ _ rfl h1 fun _ z => nomatch z)
theorem Vd.exN {H H' : Hp} {v : V} {d : PyData} (h : Vd H v d) (e : ExtN H H') : Vd H' v d := h.map fun a o _ h n => e a o h n
theorem Vd.ex {H H' : Hp} {v : V} {d : PyData} (h : Vd H v d) (e : Ex H H') : Vd H' v d := h.exN e.n
inductive VdAll (H : Hp) : List V → List PyData → Prop
  | nil : VdAll H [] []
  | cons {v : V} {d : PyData} {vs : List V} {ds : List PyData} : Vd H v d → VdAll H vs ds → VdAll H (v :: vs) (d :: ds)
theorem VdAll.exN {H H' : Hp} {vs : List V} {ds : List PyData} (h : VdAll H vs ds) (e : ExtN H H') : VdAll H' vs ds := by
  induction h with
  | nil => exact .nil
  | cons a _ b => exact .cons (a.exN e) b
end L3
end
section
namespace L3
open PySem PySem.Spec PyProof.Rows L2 LamX
section
variable {σ : L2.St} {H : Hp} {te : TE} {Q : VK} {K : PySem.W.Frag}
def spTell (K : PySem.W.Frag) (gs : List Str) : Sp := fun xs H Q _ => ∃ a C fs vs, xs = [.ref a] ∧ ErAt H a C fs ∧ XfC K C ∧ (∀ g ∈ gs, PySem.W.findIn K (.ref C) g = some none) ∧ gs.map (fun g => fs.lookup g) = vs.map some ∧ vs.length ≤ 1000 ∧
  ∀ p H', p ≠ sysModules → H p = none → Ex H H' → H' p = some (.lst vs) → Q (.ref p) H'
def spKind (K : PySem.W.Frag) (C : Addr) : Sp := fun xs H Q _ => ∃ a D fs b, xs = [.ref a] ∧ ErAt H a D fs ∧ ExcC K D ∧ PySem.W.kitOne K (.ref D) (.ref C) = some b ∧ Q (.bl b) H
/-- one row: an error, what tells it, what is due, its number -/
def Row (Lm : Hp → Addr → Sp → Prop) (K : PySem.W.Frag) (cs : List Addr) (v1 v2 : V) (H : Hp) (v : V) : Prop := ∃ t e f l j fs gs vs, v = .ref t ∧ H t = some (.tup [.ref e, .ref f, .ref l, .int ((j : Nat) : Int)]) ∧ j < 26 ∧ ErAt H e (cs.getD j 0) fs ∧ Lm H f (spTell K gs) ∧ H l = some (.lst vs) ∧ l ≠ sysModules ∧
  (∀ g ∈ gs, PySem.W.findIn K (.ref (cs.getD j 0)) g = some none) ∧ gs.map (fun g => fs.lookup g) = vs.map some ∧ (∀ x ∈ vs, x = v1 ∨ x = v2) ∧ vs.length ≤ 2
theorem Row.exN {Lm : Hp → Addr → Sp → Prop} (hL : ∀ H H' f sp, Lm H f sp → ExtN H H' → Lm H' f sp) {cs : List Addr} {v1 v2 : V} {H H' : Hp} {v : V} (h : Row Lm K cs v1 v2 H v) (e : ExtN H H') : Row Lm K cs v1 v2 H' v := by
  obtain ⟨t, e0, f, l, j, fs, gs, vs, h1, h2, h3, h4, h5, h6, h7⟩ := h
  exact ⟨t, e0, f, l, j, fs, gs, vs, h1, e _ _ h2 (fun _ z => nomatch z), h3, h4.exN e, hL _ _ _ _ h5 e, e _ _ h6 (fun _ z => nomatch z), h7⟩
end
section
variable {σ : L2.St} {H : Hp} {Q : VK} {K : PySem.W.Frag}
theorem s_lstN {t : TA} (h : t σ H fun xs H1 => xs.length ≤ sizeLine ∧ ∀ p, H1 p = none → p ≠ sysModules → ap Q (.ref p) (upd H1 p (.lst xs))) : tLstN t σ H Q := h
theorem s_callF {P : Program} {w : World} {mg : Str → Option Value} {base : Heap} {k : Nat} {tf : TE} {ta : TA} (h : tf σ H fun fv H1 => ∃ (f : Addr) (sp : Sp), fv = .ref f ∧ LamAt P w K mg base k H1 f sp ∧ ta σ H1 fun vs H2 => ∃ v, vs = [v] ∧ LamAt P w K mg base k H2 f sp ∧ sp [v] H2 Q (fun _ _ _ => False)) : tCallF P w K mg base k tf ta σ H Q := h
def KindsAt (Lm : Hp → Addr → Sp → Prop) (K : PySem.W.Frag) (cs : List Addr) (H : Hp) (l : Addr) : Prop := ∃ xs, H l = some (.lst xs) ∧ xs.length = 26 ∧ ∀ j, j < 26 → ∃ f, xs[j]? = some (.ref f) ∧ Lm H f (spKind K (cs.getD j 0))
theorem KindsAt.exN {Lm : Hp → Addr → Sp → Prop} (hL : ∀ H H' f sp, Lm H f sp → ExtN H H' → Lm H' f sp) {cs : List Addr} {H H' : Hp} {l : Addr} (h : KindsAt Lm K cs H l) (e : ExtN H H') : KindsAt Lm K cs H' l := by
  obtain ⟨xs, h1, h2, h3⟩ := h
  exact ⟨xs, e _ _ h1 (fun _ z => nomatch z), h2, fun j hj => (h3 j hj).imp fun f h => ⟨h.1, hL _ _ _ _ h.2 e⟩⟩
end
end L3
end
section
namespace L3
open PySem PySem.Spec PyProof.Rows L2 LamX
inductive Pq (K : PySem.W.Frag) (H : Hp) : V → V → Bool → Prop
  | dat {x y : V} {d e : PyData} : Dp K H x d → Dp K H y e → SeqAt.shaped d = true → SeqAt.shaped e = true → Pq K H x y (PyData.eqv d e)
  | d0 {p : Addr} : H p = some (.dK []) → Pq K H (.ref p) (.ref p) true
  | d1 {p : Addr} {k v : Str} : H p = some (.dK [(.inr k, .str v)]) → Pq K H (.ref p) (.ref p) true
end L3
end
section
namespace L3
open PySem PySem.Spec PyProof.Rows L2 LamX
section
variable {K : PySem.W.Frag} {σ : L2.St} {H H' : Hp} {Q : VK} {C : Addr}
def PaAt (H : Hp) (q C : Addr) (fs : List (Str × V)) : Prop := ∃ dx, H q = some (.ins C dx fs)
theorem PaAt.exN {q : Addr} {fs : List (Str × V)} (h : PaAt H q C fs) (e : ExtN H H') : PaAt H' q C fs := h.imp fun _ h => e _ _ h fun _ z => nomatch z
theorem PaAt.ex {q : Addr} {fs : List (Str × V)} (h : PaAt H q C fs) (e : Ex H H') : PaAt H' q C fs := h.exN e.n
end
section
variable {K : PySem.W.Frag} {σ : L2.St} {H H' : Hp} {Q : VK} {C : Addr}
theorem Pq.ex {x y : V} {b : Bool} (h : Pq K H x y b) (e : Ex H H') : Pq K H' x y b := by
  have sl : ∀ a xs, SqL K H a xs → SqL K H' a xs := fun a xs h => by
    rcases h with (h | ⟨o, h⟩) | h
    · exact .inl (.inl (e _ _ h))
    · exact .inl (.inr ⟨o, e _ _ h⟩)
    · exact .inr h
  have st : ∀ a xs, SqT K H a xs → SqT K H' a xs := fun a xs h => by
    rcases h with (h | ⟨o, h⟩) | h
    · exact .inl (.inl (e _ _ h))
    · exact .inl (.inr ⟨o, e _ _ h⟩)
    · exact .inr h
  cases h with
  | dat h1 h2 h3 h4 => exact .dat (Dp.exN e.n _ _ sl st h1) (Dp.exN e.n _ _ sl st h2) h3 h4
  | d0 h => exact .d0 (e _ _ h)
  | d1 h => exact .d1 (e _ _ h)
def spTellP (K : PySem.W.Frag) (gs : List Str) : Sp := fun xs H Q _ => ∃ a C fs vs, xs = [.ref a] ∧ PaAt H a C fs ∧ Cls K C ∧ (∀ g ∈ gs, NoAttr K C g) ∧ gs.map (fun g => fs.lookup g) = vs.map some ∧
  ∀ p H', p ≠ sysModules → H p = none → Ex H H' → H' p = some (.lst vs) → Q (.ref p) H'
structure RowD where
  c : Nat
  fs : List (Str × V)
  gs : List Str
  vs : List V
  B : V
def RowAt (Lm : Hp → Addr → Sp → Prop) (K : PySem.W.Frag) (cs : List Addr) (H : Hp) (x : V) (r : RowD) : Prop := ∃ t e f l, x = .ref t ∧ H t = some (.tup [.ref e, .ref f, .ref l, r.B]) ∧ PaAt H e (cs.getD r.c 0) r.fs ∧ Lm H f (spTellP K r.gs) ∧ H l = some (.lst r.vs) ∧ l ≠ sysModules
theorem RowAt.exN {Lm : Hp → Addr → Sp → Prop} (hL : ∀ H H' f sp, Lm H f sp → ExtN H H' → Lm H' f sp) {cs : List Addr} {x : V} {r : RowD} (h : RowAt Lm K cs H x r) (e : ExtN H H') : RowAt Lm K cs H' x r := by
  obtain ⟨t, e0, f, l, h1, h2, h3, h4, h5, h6⟩ := h
  exact ⟨t, e0, f, l, h1, e _ _ h2 (fun _ z => nomatch z), h3.exN e, hL _ _ _ _ h4 e, e _ _ h5 (fun _ z => nomatch z), h6⟩
end
end L3
end
section
namespace L3
open PySem PySem.Calls PyProof.Rows
end L3
namespace L3
open PySem PySem.Spec PyProof.Rows L2 LamX StX RZ
section
variable {K : PySem.W.Frag} {σ : L2.St} {H : Hp} {Q : VK} {te ta : TE} {t : TA} {C : Addr} {sp : Sp} {E : XK}
theorem s_star {R : List V → Hp → Prop} (h : te σ H fun x H1 => ∃ p xs, x = V.ref p ∧ (SqT K H1 p xs ∨ SqL K H1 p xs) ∧ t σ H1 fun ys H2 => R (xs ++ ys) H2) : tStar K te t σ H R := h
theorem s_mkCR (h : t σ H fun vs H1 => ∀ x dx, H1 x = none → H1 dx = none → dx ≠ x → sp (V.ref x :: vs) (upd (upd H1 dx (.own x)) x (.ins C dx [])) (fun v H2 => v = .non ∧ ap Q (.ref x) H2) E) : tMakeR C sp E t σ H Q := h
end
theorem TyA.exN {K : PySem.W.Frag} {H H' : Hp} {v : V} {t : Value} (h : TyA K H v t) (e : ExtN H H') : TyA K H' v t := by
  cases h with
  | x h =>
    refine .x ?_
    cases h with
    | base h =>
      refine .base ?_
      cases h with
      | non => exact .non
      | bl b => exact .bl b
      | int i => exact .int i
      | str z => exact .str z
      | flt z => exact .flt z
      | lst h => exact .lst (e _ _ h fun _ z => nomatch z)
      | frz h => exact .frz (e _ _ h fun _ z => nomatch z)
      | tup h => exact .tup (e _ _ h fun _ z => nomatch z)
      | dK h => exact .dK (e _ _ h fun _ z => nomatch z)
      | dT h => exact .dT (e _ _ h fun _ z => nomatch z)
      | ins h a b c d f => exact .ins (e _ _ h fun _ z => nomatch z) a b c d f
    | byt b => exact .byt b
    | set h => exact .set (e _ _ h fun _ z => nomatch z)
    | kList h c => exact .kList h c
    | kTuple h c => exact .kTuple h c
    | kDict h c => exact .kDict h c
    | fTuple h => exact .fTuple (e _ _ h fun _ z => nomatch z)
    | fDict h => exact .fDict (e _ _ h fun _ z => nomatch z)
  | fn h => exact .fn (e _ _ h fun _ z => by unfold FnV at z; cases z)
/-- a value that is no number -/
def NI (K : PySem.W.Frag) (H : Hp) (v : V) : Prop := (∃ b, v = .bl b) ∨ ∃ ty, TyA K H v ty ∧ PySem.W.kitOne K ty (.type "int") = some false
/-- a value that is none of a class -/
def NC (K : PySem.W.Frag) (H : Hp) (u : Value) (v : V) : Prop := ∃ ty, TyA K H v ty ∧ PySem.W.kitOne K ty u = some false
theorem NI.exN {K : PySem.W.Frag} {H H' : Hp} {v : V} (h : NI K H v) (e : ExtN H H') : NI K H' v := h.imp id fun ⟨ty, a, b⟩ => ⟨ty, a.exN e, b⟩
theorem NC.exN {K : PySem.W.Frag} {H H' : Hp} {u : Value} {v : V} (h : NC K H u v) (e : ExtN H H') : NC K H' u v := by
  obtain ⟨ty, a, b⟩ := h
  exact ⟨ty, a.exN e, b⟩
/-- no number, or one beyond its bounds -/
def OutS (K : PySem.W.Frag) (H : Hp) (x : V) (a b : Int) : Prop := NI K H x ∨ ∃ i, x = .int i ∧ ¬ (a ≤ i ∧ i ≤ b)
theorem OutS.exN {K : PySem.W.Frag} {H H' : Hp} {x : V} {a b : Int} (h : OutS K H x a b) (e : ExtN H H') : OutS K H' x a b := h.imp (fun h => h.exN e) id
section
variable {K : PySem.W.Frag} {σ : L2.St} {H : Hp} {Q : VK}
theorem s_lcZ {te : TE} {g : TG} {tt : TT} {vs : List Nat} {ta : TA} (h : ta σ H fun ws H1 => ∃ a b xs ys, ws = [.ref a, .ref b] ∧ ((SqL K H1 a xs ∧ SqL K H1 b ys ∧ LC (Itz K a b) g tt te vs σ H1 Q) ∨ (SqT K H1 a xs ∧ SqT K H1 b ys ∧ LC (ItzT K a b) g tt te vs σ H1 Q))) : tLc (iZipA K ta) g tt te vs σ H Q := h
end
def siz (n : Int) : Prop := 1 ≤ n ∧ n ≤ 10 ^ 30
def endsF : Int → List Int → List Int
  | _, [] => []
  | a, n :: r => (a + n) :: endsF (a + n) r
def endsOf (ns : List Int) : List Int := endsF 0 ns
theorem endsF_len : ∀ (ns : List Int) (a : Int), (endsF a ns).length = ns.length
  | [], _ => rfl
  | n :: r, a => by rw [endsF, List.length_cons, endsF_len r, List.length_cons]
theorem endsF_snoc : ∀ (ns : List Int) (a n : Int), endsF a (ns ++ [n]) = endsF a ns ++ [a + ns.sum + n]
  | [], a, n => by simp [endsF]
  | m :: r, a, n => by
    rw [List.cons_append, endsF, endsF, endsF_snoc r, List.cons_append, List.sum_cons, Int.add_assoc a m]
theorem endsOf_len (ns : List Int) : (endsOf ns).length = ns.length := endsF_len ns 0
theorem endsOf_snoc (ns : List Int) (n : Int) : endsOf (ns ++ [n]) = endsOf ns ++ [ns.sum + n] := by
  have := endsF_snoc ns 0 n
  rw [Int.zero_add] at this
  exact this
theorem take_snoc {α : Type} {l : List α} {i : Nat} {x : α} (h : l[i]? = some x) : l.take (i + 1) = l.take i ++ [x] := by
  rw [List.take_add_one, h]; rfl
def restsOf (ns : List Int) : List Int := (List.range ns.length).map fun i => ns.sum - (endsOf ns).getD i 0 + ns.getD i 0
def ckF (t1 t2 t3 : Addr) (tot : Int) : List (Str × V) := putF "rests" (.ref t3) (putF "total" (.int tot) (putF "ends" (.ref t2) (putF "sizes" (.ref t1) [])))
def Ck (C : Addr) (H : Hp) (q : Addr) (ns : List Int) : Prop := ∃ dx t1 t2 t3, H q = some (.ins C dx (ckF t1 t2 t3 ns.sum)) ∧ H t1 = some (.tup (ns.map V.int)) ∧ H t2 = some (.tup ((endsOf ns).map V.int)) ∧ H t3 = some (.tup ((restsOf ns).map V.int))
theorem Ck.exN {C : Addr} {H H' : Hp} {q : Addr} {ns : List Int} (h : Ck C H q ns) (e : ExtN H H') : Ck C H' q ns := by
  obtain ⟨dx, t1, t2, t3, a, b, c, d⟩ := h
  exact ⟨dx, t1, t2, t3, e _ _ a (fun _ z => nomatch z), e _ _ b (fun _ z => nomatch z), e _ _ c (fun _ z => nomatch z), e _ _ d (fun _ z => nomatch z)⟩
theorem Ck.ex {C : Addr} {H H' : Hp} {q : Addr} {ns : List Int} (h : Ck C H q ns) (e : Ex H H') : Ck C H' q ns := h.exN e.n
theorem Rz.ex' {C : Addr} {g : Str} {v : V} {H H' : Hp} {E : XK} (h : Rz C g v H E) (e : Ex H H') : Rz C g v H' E := fun d H2 hd e2 hx => h d H2 (e.free hd) (e.trans e2) hx
/-- what Chunks(*xs) comes to -/
def CkG (K : PySem.W.Frag) (CB CM : Addr) (H : Hp) (xs : List V) (G : List Int → Prop) (E : XK) : Prop := xs.length ≤ 100000 ∧
  ((∃ ns : List Int, xs = ns.map V.int ∧ (∀ n ∈ ns, siz n) ∧ ((ns.length ≤ 5000 ∧ G ns) ∨ (5000 < ns.length ∧ Rz2 CM "what" "most" (.str "chunks") (.int 5000) H E))) ∨
   ∃ (ns : List Int) (z : V) (rest : List V), xs = ns.map V.int ++ z :: rest ∧ (∀ n ∈ ns, siz n) ∧ OutS K H z 1 (10 ^ 30) ∧ Rz CB "value" z H E)
theorem CkG.ex {K : PySem.W.Frag} {CB CM : Addr} {H H' : Hp} {xs : List V} {G G' : List Int → Prop} {E : XK} (h : CkG K CB CM H xs G E) (e : Ex H H') (g : ∀ ns, G ns → G' ns) : CkG K CB CM H' xs G' E := by
  obtain ⟨h0, ⟨ns, h1, h2, h3⟩ | ⟨ns, z, rest, h1, h2, h3, h4⟩⟩ := h
  · exact ⟨h0, .inl ⟨ns, h1, h2, h3.imp (fun ⟨a, b⟩ => ⟨a, g _ b⟩) fun ⟨a, b⟩ => ⟨a, b.ex e⟩⟩⟩
  · exact ⟨h0, .inr ⟨ns, z, rest, h1, h2, h3.exN e.n, h4.ex' e⟩⟩
end L3
end
section
namespace L3
open PySem PySem.Spec PyProof.Rows L2 LamX
structure ClT (K : PySem.W.Frag) (mg : Str → Option Value) (x : Str) (C : Addr) : Prop where
  g : ∃ u, mg x = some u ∧ RelV (.ref C) u
  cl : Cls K C
  kC : PySem.W.kitOne K (.ref C) (.ref C) = some true
  ha : PySem.W.findIn K (.ref C) "__class__" = some (some (.builtin "object.__class__"))
  hn : PySem.W.specialIn K (.builtin "object.__class__") "__get__" = some (some (.builtin "getset_descriptor.__get__"))
  htk : PySem.W.takesIn K (.builtin "object.__class__") = some true
  hm : PySem.W.mroIn K C (.type "object") = some true
theorem ClT.ty {K : PySem.W.Frag} {mg : Str → Option Value} {x : Str} {C : Addr} (T : ClT K mg x C) {H : Hp} {p dx : Addr} {fs : List (Str × V)} (e : H p = some (.ins C dx fs)) : TyA K H (.ref p) (.ref C) := .x (.base (.ins e T.cl T.ha T.hn T.htk T.hm))
/-- neither a list nor a tuple -/
def NLT (K : PySem.W.Frag) (H : Hp) (v : V) : Prop := ∃ t, TyX K H v t ∧ PySem.W.kitAny K t [.type "list", .type "tuple"] = some false
theorem TyX.exN {K : PySem.W.Frag} {H H' : Hp} {v : V} {t : Value} (h : TyX K H v t) (e : ExtN H H') : TyX K H' v t := by
  cases h with
  | base h =>
    refine .base ?_
    cases h with
    | non => exact .non
    | bl b => exact .bl b
    | int i => exact .int i
    | str z => exact .str z
    | flt z => exact .flt z
    | lst h => exact .lst (e _ _ h fun _ z => nomatch z)
    | frz h => exact .frz (e _ _ h fun _ z => nomatch z)
    | tup h => exact .tup (e _ _ h fun _ z => nomatch z)
    | dK h => exact .dK (e _ _ h fun _ z => nomatch z)
    | dT h => exact .dT (e _ _ h fun _ z => nomatch z)
    | ins h a b c d f => exact .ins (e _ _ h fun _ z => nomatch z) a b c d f
  | byt b => exact .byt b
  | set h => exact .set (e _ _ h fun _ z => nomatch z)
  | kList h c => exact .kList h c
  | kTuple h c => exact .kTuple h c
  | kDict h c => exact .kDict h c
  | fTuple h => exact .fTuple (e _ _ h fun _ z => nomatch z)
  | fDict h => exact .fDict (e _ _ h fun _ z => nomatch z)
theorem NLT.exN {K : PySem.W.Frag} {H H' : Hp} {v : V} (h : NLT K H v) (e : ExtN H H') : NLT K H' v := by
  obtain ⟨t, a, b⟩ := h
  exact ⟨t, L3.TyX.exN a e, b⟩
section
variable {K : PySem.W.Frag} {H H' : Hp} {Q : VK} {C CB CM : Addr} {E : XK}
theorem get_int {ns : List Int} {i : Nat} {x : V} (h : (ns.map V.int)[i]? = some x) : ∃ n, ns[i]? = some n ∧ x = .int n := by
  rw [List.getElem?_map] at h
  cases e : ns[i]? with
  | none => rw [e] at h; cases h
  | some n => rw [e] at h; cases h; exact ⟨n, rfl, rfl⟩
theorem sz100k {n : Nat} (h : n ≤ 100000) : n < sizeLine := Nat.lt_of_le_of_lt h (by decide)
theorem endsOf_take (ns : List Int) : ∀ i, i ≤ ns.length → endsOf (ns.take i) = (endsOf ns).take i := by
  have h : ∀ (ns : List Int) (a : Int) (i : Nat), endsF a (ns.take i) = (endsF a ns).take i := by
    intro ns
    induction ns with
    | nil => intro a i; simp [endsF]
    | cons n r ih =>
      intro a i
      cases i with
      | zero => rfl
      | succ i => rw [List.take_succ_cons, endsF, endsF, List.take_succ_cons, ih]
  exact fun i _ => h ns 0 i
theorem endsOf_get {ns : List Int} {i : Nat} (h : i < ns.length) : (endsOf ns)[i]? = some ((ns.take (i + 1)).sum) := by
  have hx : ns[i]? = some ns[i] := List.getElem?_eq_getElem h
  have e1 := endsOf_take ns (i + 1) (by omega)
  rw [take_snoc hx, endsOf_snoc] at e1
  have e2 : (endsOf (ns.take i) ++ [(ns.take i).sum + ns[i]])[i]? = some ((ns.take i).sum + ns[i]) := by
    rw [List.getElem?_append_right (by rw [endsOf_len, List.length_take]; omega), endsOf_len, List.length_take, Nat.min_eq_left (by omega), Nat.sub_self]; rfl
  rw [e1, List.getElem?_take, if_pos (by omega)] at e2
  rw [e2, take_snoc hx, List.sum_append, List.sum_cons, List.sum_nil, Int.add_zero]
end
end L3
end
section
namespace L3
open PySem PySem.Spec PyProof.Rows L2 NumText
theorem join_mem {S : List Nat} : ∀ {ps : List (List Nat)} {p : List Nat}, p ∈ ps → (∀ c ∈ p, c ∈ TL.joinL S ps) ∧ p.length ≤ (TL.joinL S ps).length
  | [], _, h => by cases h
  | [q], p, h => by rw [List.mem_singleton.mp h]; exact ⟨fun c hc => hc, Nat.le_refl _⟩
  | q :: r :: rs, p, h => by
    show (∀ c ∈ p, c ∈ q ++ (S ++ TL.joinL S (r :: rs))) ∧ p.length ≤ (q ++ (S ++ TL.joinL S (r :: rs))).length
    rcases List.mem_cons.mp h with rfl | h
    · exact ⟨fun c hc => List.mem_append_left _ hc, by simp⟩
    · obtain ⟨a, b⟩ := join_mem (S := S) h
      exact ⟨fun c hc => List.mem_append_right _ (List.mem_append_right _ (a c hc)), by simp; omega⟩
def Pg (n : Nat) (z : Str) : Prop := z.length ≤ n ∧ ∀ c ∈ z.cps.toList, c < 1114112
theorem Pg.mono {n m : Nat} {z : Str} (h : Pg n z) (hm : n ≤ m) : Pg m z := ⟨Nat.le_trans h.1 hm, h.2⟩
theorem Pg.app {n m : Nat} {a b : Str} (h1 : Pg n a) (h2 : Pg m b) : Pg (n + m) (a ++ b) := by
  refine ⟨by rw [len_app]; have := h1.1; have := h2.1; omega, fun c hc => ?_⟩
  have e : (a ++ b).cps.toList = a.cps.toList ++ b.cps.toList := TL.tl_append a b
  rw [e] at hc
  rcases List.mem_append.mp hc with hc | hc
  · exact h1.2 c hc
  · exact h2.2 c hc
end L3
end
section
namespace L3
open PySem PySem.Spec PyProof.Rows L2 LamX ClX
/-- no text: another value, or a fraction -/
inductive NoS (C : Addr) (H : Hp) : V → Prop
  | non : NoS C H .non
  | bl (b : Bool) : NoS C H (.bl b)
  | int (i : Int) : NoS C H (.int i)
  | tup {p : Addr} {xs : List V} : H p = some (.tup xs) → NoS C H (.ref p)
  | lst {p : Addr} {xs : List V} : H p = some (.lst xs) → NoS C H (.ref p)
  | dic {p : Addr} {kvs : List (Key × V)} : H p = some (.dK kvs) → NoS C H (.ref p)
  | rt {p : Addr} {o u : Int} : Rt C H p o u → NoS C H (.ref p)
theorem NoS.exN {C : Addr} {H H' : Hp} {v : V} (h : NoS C H v) (e : ExtN H H') : NoS C H' v := by
  cases h with
  | non => exact .non
  | bl b => exact .bl b
  | int b => exact .int b
  | tup h => exact .tup (e _ _ h fun _ z => nomatch z)
  | lst h => exact .lst (e _ _ h fun _ z => nomatch z)
  | dic h => exact .dic (e _ _ h fun _ z => nomatch z)
  | rt h => exact .rt (h.exN e)
end L3
namespace L3
open PySem PySem.Spec PyProof.Rows L2 LamX ClX
end L3
end
section
namespace L3
open PySem PySem.NumText PySem.Spec PyProof.Rows L2
theorem splC_facts (s : Nat) : ∀ (l acc : List Nat), s ∉ acc → TL.spl [s] 0 acc l ≠ [] ∧ TL.joinL [s] (TL.spl [s] 0 acc l) = acc ++ l ∧ ∀ p ∈ TL.spl [s] 0 acc l, s ∉ p
  | [], acc, h => by
    rw [TL.spl_nil]
    refine ⟨by simp, by simp [TL.joinL], fun p hp => ?_⟩
    rw [List.mem_singleton.mp hp]; exact h
  | c :: r, acc, h => by
    by_cases hc : c = s
    · subst hc
      rw [TL.spl_hit (by unfold TL.pre; simp)]
      obtain ⟨n1, n2, n3⟩ := splC_facts c r [] (by simp)
      refine ⟨by simp, ?_, fun p hp => ?_⟩
      · show TL.joinL [c] (acc :: TL.spl [c] 0 [] r) = _
        cases hs : TL.spl [c] 0 [] r with
        | nil => exact absurd hs n1
        | cons q qs =>
          rw [hs] at n2
          show acc ++ ([c] ++ TL.joinL [c] (q :: qs)) = _
          rw [n2]; simp
      · rcases List.mem_cons.mp hp with rfl | hp
        · exact h
        · exact n3 p hp
    · rw [TL.spl_miss (by unfold TL.pre; simp [hc])]
      obtain ⟨n1, n2, n3⟩ := splC_facts s r (acc ++ [c]) (by
        intro z
        rcases List.mem_append.mp z with z | z
        · exact h z
        · rw [List.mem_singleton] at z; exact hc z.symm)
      exact ⟨n1, by rw [n2]; simp, n3⟩
abbrev wds (z : Str) : List Str := Txt.split z " "
theorem wds_codes (z : Str) : (wds z).map TL.tl = TL.spl [32] 0 [] z.cps.toList := by
  have e : TL.tl (" " : Str) = [32] := by decide +kernel
  have := TL.split_spl z " " (by rw [e]; simp) (TL.kind_ok (by decide +kernel))
  rw [e] at this
  exact this
theorem wds_facts (z : Str) : wds z ≠ [] ∧ TL.joinL [32] ((wds z).map TL.tl) = z.cps.toList ∧ ∀ p ∈ wds z, 32 ∉ p.cps.toList ∧ p.length ≤ z.length ∧ ∀ c ∈ p.cps.toList, c ∈ z.cps.toList := by
  obtain ⟨a, b, c⟩ := splC_facts 32 z.cps.toList [] (by simp)
  rw [← wds_codes] at a b c
  rw [List.nil_append] at b
  refine ⟨fun q => a (by rw [q]; rfl), b, fun p hp => ?_⟩
  have hm : TL.tl p ∈ (wds z).map TL.tl := List.mem_map.mpr ⟨p, hp, rfl⟩
  obtain ⟨m1, m2⟩ := join_mem (S := [32]) hm
  rw [b] at m1 m2
  refine ⟨c _ hm, ?_, m1⟩
  rw [← len_codes, ← len_codes z]
  exact m2
theorem wds_of {z : Str} (ps : List (List Nat)) (hne : ps ≠ []) (h : z.cps.toList = TL.joinL [32] ps) (hp : ∀ p ∈ ps, 32 ∉ p) : (wds z).map TL.tl = ps := by
  rw [wds_codes, h]
  exact TL.spl_join hne hp
/-- joined, then cut -/
theorem wds_join {ps : List Str} (hne : ps ≠ []) (hp : ∀ p ∈ ps, 32 ∉ p.cps.toList) : wds (Txt.join " " ps) = ps := by
  refine TL.map_tl_inj (wds_of (ps.map TL.tl) (by simpa using hne) ?_ fun p h => ?_)
  · have e : TL.tl (" " : Str) = [32] := by decide +kernel
    show TL.tl (Txt.join " " ps) = _
    rw [TL.join_eq, TL.tl_join, e]
  · obtain ⟨q, hq, rfl⟩ := List.mem_map.mp h
    exact hp q hq
end L3
end
section
namespace L3
open PySem PySem.NumText PySem.Spec PyProof.Rows L2 LamX RZ
section
variable {K : PySem.W.Frag} {σ : L2.St} {H : Hp} {Q : VK} {g : TG} {tb : TS} {D : Ends} {ta to te : TE} {t : TA}
/-- a walk over anything -/
def ForJ (J : It) (g : TG) (tb : TS) (D : Ends) (σ : L2.St) (H : Hp) : Prop := ∃ W : Nat → Nat → L2.St → Hp → Prop, (∃ m, W 0 m σ H) ∧ ∀ (i m : Nat) (σ : L2.St) (H : Hp), W i m σ H → J.stop i H ∧ D.nx σ H ∨ J.go i H ∧
  ∃ N, (∀ (σ' : L2.St) (H' : Hp), N σ' H' → ∃ m', m' < m ∧ W (i + 1) m' σ' H') ∧ ∀ (x : V) (H' : Hp), J.yld i H x H' → g x σ H' fun σ2 H2 => tb { nx := N, rt := D.rt, bk := D.nx, ct := N } σ2 H2
theorem s_forE (h : t σ H fun ws H1 => ∃ a xs, ws = [.ref a] ∧ SqL K H1 a xs ∧ ForJ (Ite K a) g tb D σ H1) : tFor (iEnum K t) g tb D σ H := h
theorem s_forZ (h : t σ H fun ws H1 => ∃ a b xs ys, ws = [.ref a, .ref b] ∧ ((SqL K H1 a xs ∧ SqL K H1 b ys ∧ ForJ (Itz K a b) g tb D σ H1) ∨ (SqT K H1 a xs ∧ SqT K H1 b ys ∧ ForJ (ItzT K a b) g tb D σ H1))) : tFor (iZipA K t) g tb D σ H := h
/-- for i, x in enumerate(xs) -/
theorem forEn {a : Addr} {xs : List V} (Pv : Nat → L2.St → Hp → Prop) (h0 : Pv 0 σ H) (hs : ∀ i σ H, Pv i σ H → H a = some (.lst xs))
    (hb : ∀ (i : Nat) x T σ H, xs[i]? = some x → Pv i σ H → H T = none → ∀ H1, Ex H H1 → (∀ b, b ≠ T → H1 b = H b) → H1 T = some (.tup [.int (i : Int), x]) → g (.ref T) σ H1 fun σ2 H2 => tb { nx := Pv (i + 1), rt := D.rt, bk := D.nx, ct := Pv (i + 1) } σ2 H2)
    (he : ∀ σ H, Pv xs.length σ H → D.nx σ H) : ForJ (Ite K a) g tb D σ H :=
  for_it walk_enum Pv h0 (fun i σ H _ h => .inl (.inl (hs i σ H h))) (fun i x σ H1 H2 hi hp hy => by
    obtain ⟨T, x', y', rfl, hT, rfl, hx, hy⟩ := hy
    cases hx
    exact hb i y' T σ H1 hy hp hT _ (ex_new hT) (fun b hb => upd_ne hb) upd_same) he
theorem s_orT (h : ta σ H fun x H1 => ∃ k, TruV K x H1 k ∧ if k = true then Q x H1 else te σ H1 Q) : tOrT K ta te σ H Q := h
end
section
variable {K : PySem.W.Frag} {σ : L2.St} {H : Hp} {Q : VK}
theorem s_lcTp {te ta : TE} {g : TG} {tt : TT} {vs : List Nat} (h : ta σ H fun x H1 => ∃ a, x = .ref a ∧ (∃ xs, SqT K H1 a xs) ∧ LC (Itt K a) g tt te vs σ H1 Q) : tLc (iTup K ta) g tt te vs σ H Q := h
end
theorem eqv_ints : ∀ ns ms : List Int, PyData.eqvAll (ns.map PyData.int) (ms.map PyData.int) = decide (ns = ms)
  | [], [] => rfl
  | [], _ :: _ => rfl
  | _ :: _, [] => rfl
  | n :: r, m :: s => by
    have ih := eqv_ints r s
    simp only [List.map_cons]
    first
      | (unfold PyData.eqvAll; rw [ih]; rw [show PyData.eqv (.int n) (.int m) = decide (n = m) by first | rfl | (simp [PyData.eqv])]; by_cases h1 : n = m <;> by_cases h2 : r = s <;> simp [h1, h2])
end L3
end
section
namespace L3
open PySem PySem.NumText PySem.Spec PyProof.Rows L2 LamX RZ
section
variable {σ : L2.St} {H : Hp} {g : TG} {tb : TS} {D : Ends}
theorem s_forR1 {tr : TA} (h : tr σ H fun ws H1 => ∃ j : Int, ws = [.int j] ∧ -(2 ^ 62) ≤ j ∧ j < 2 ^ 62 ∧ ForJ (Itr 0 j.toNat) g tb D σ H1) : tFor (iRng1 tr) g tb D σ H := h
theorem forRg {lo : Int} {n : Nat} (Pv : Nat → L2.St → Hp → Prop) (h0 : Pv 0 σ H)
    (hb : ∀ (i : Nat) σ H, i < n → Pv i σ H → g (.int (lo + (i : Int))) σ H fun σ2 H2 => tb { nx := Pv (i + 1), rt := D.rt, bk := D.nx, ct := Pv (i + 1) } σ2 H2)
    (he : ∀ σ H, Pv n σ H → D.nx σ H) : ForJ (Itr lo n) g tb D σ H :=
  for_it walk_range Pv h0 (fun i σ H _ h => trivial) (fun i x σ H1 H2 hi hp hy => by
    obtain ⟨rfl, rfl⟩ := hy
    exact hb i σ _ hi hp) he
end
theorem joinL_len (S : List Nat) : ∀ ps : List (List Nat), (TL.joinL S ps).length ≤ (ps.map (·.length)).sum + ps.length * S.length
  | [] => by simp [TL.joinL]
  | [p] => by simp [TL.joinL]
  | p :: q :: r => by
    have ih := joinL_len S (q :: r)
    show (p ++ (S ++ TL.joinL S (q :: r))).length ≤ _
    simp only [List.length_append, List.map_cons, List.sum_cons, List.length_cons] at ih ⊢
    simp only [Nat.add_mul, Nat.one_mul] at ih ⊢
    omega
theorem join_len (a : Str) (ys : List Str) : (Txt.join a ys).length ≤ (ys.map (·.length)).sum + ys.length * a.length := by
  have h := joinL_len (TL.tl a) (ys.map TL.tl)
  have e : TL.tl (Txt.join a ys) = TL.joinL (TL.tl a) (ys.map TL.tl) := by rw [TL.join_eq, TL.tl_join]
  rw [← e, List.map_map, List.length_map] at h
  have e2 : (ys.map ((·.length) ∘ TL.tl)) = ys.map (·.length) := List.map_congr_left fun x _ => (TL.len_tl x).symm
  rw [e2, ← TL.len_tl, ← TL.len_tl] at h
  exact h
theorem sum_le {m : Nat} : ∀ {ys : List Str}, (∀ y ∈ ys, y.length ≤ m) → (ys.map (·.length)).sum ≤ m * ys.length
  | [], _ => by simp
  | y :: r, h => by
    have := sum_le fun y hy => h y (List.mem_cons_of_mem _ hy)
    have := h y List.mem_cons_self
    simp only [List.map_cons, List.sum_cons, List.length_cons, Nat.mul_add, Nat.mul_one]
    omega
theorem joinL_mem (S : List Nat) (c : Nat) : ∀ ps : List (List Nat), c ∈ TL.joinL S ps → c ∈ S ∨ ∃ p ∈ ps, c ∈ p
  | [], h => nomatch h
  | [p], h => .inr ⟨p, List.mem_singleton_self p, h⟩
  | p :: q :: r, h => by
    have h : c ∈ p ++ (S ++ TL.joinL S (q :: r)) := h
    rcases List.mem_append.mp h with h | h
    · exact .inr ⟨p, List.mem_cons_self, h⟩
    · rcases List.mem_append.mp h with h | h
      · exact .inl h
      · exact (joinL_mem S c (q :: r) h).imp id fun ⟨x, hx, hc⟩ => ⟨x, List.mem_cons_of_mem _ hx, hc⟩
theorem join_codes {a : Str} {ys : List Str} {c : Nat} (h : c ∈ (Txt.join a ys).cps.toList) : c ∈ a.cps.toList ∨ ∃ y ∈ ys, c ∈ y.cps.toList := by
  have e : TL.tl (Txt.join a ys) = TL.joinL (TL.tl a) (ys.map TL.tl) := by rw [TL.join_eq, TL.tl_join]
  have h : c ∈ TL.tl (Txt.join a ys) := h
  rw [e] at h
  refine (joinL_mem _ c _ h).imp id fun ⟨p, hp, hc⟩ => ?_
  obtain ⟨y, hy, rfl⟩ := List.mem_map.mp hp
  exact ⟨y, hy, hc⟩
/-- a plain text of at most m signs -/
def Pt (m : Nat) (z : Str) : Prop := z.length ≤ m ∧ ∀ c ∈ z.cps.toList, c < 1114112
def ptB (m : Nat) (z : Str) : Bool := decide (z.length ≤ m) && z.cps.toList.all fun c => decide (c < 1114112)
theorem pt_of {m : Nat} {z : Str} (h : ptB m z = true) : Pt m z := by
  unfold ptB at h
  simp only [Bool.and_eq_true, decide_eq_true_eq, List.all_eq_true] at h
  exact h
theorem pt_join {m n : Nat} {ys : List Str} (h : ∀ y ∈ ys, Pt m y) (hn : ys.length ≤ n) : Pt (m * n + n) (Txt.join " " ys) := by
  refine ⟨?_, fun c hc => ?_⟩
  · have h1 := join_len " " ys
    have h2 := sum_le fun y hy => (h y hy).1
    have h3 : m * ys.length ≤ m * n := Nat.mul_le_mul_left _ hn
    have e : (" " : Str).length = 1 := by decide +kernel
    rw [e] at h1
    omega
  · rcases join_codes hc with hc | ⟨y, hy, hc⟩
    · have e : (" " : Str).cps.toList = [32] := by decide +kernel
      rw [e, List.mem_singleton] at hc
      omega
    · exact (h y hy).2 c hc
theorem strOkO (s : String) : PyData.strOk (Str.ofString s) = true := by
  unfold PyData.strOk
  have e := ofString_codes s
  rw [← Array.all_toList, e, List.all_map]
  refine List.all_eq_true.mpr fun c _ => ?_
  show decide (c.toNat < 0x110000) = true
  refine decide_eq_true ?_
  rcases c.valid with h | ⟨_, h⟩
  · exact Nat.lt_trans h (by decide)
  · exact h
theorem strOkI (i : Int) : PyData.strOk (PyData.int i).shown = true := by
  show PyData.strOk (Str.ofString (toString i)) = true
  exact strOkO _
section
variable {K : PySem.W.Frag} {H : Hp} {Q : VK}
theorem log_le {n k : Nat} (h : n ≤ k) (hk : k < 2 ^ 1920) : n.log2 < 1920 := by
  rcases Nat.eq_zero_or_pos n with rfl | hp
  · decide
  · exact (Nat.log2_lt (by omega)).mpr (Nat.lt_of_le_of_lt h hk)
end
section
variable {K : PySem.W.Frag} {σ : L2.St} {H H' : Hp} {Q : VK} {C : Addr}
theorem s_stC {sp : Sp} {E : XK} {t : TA} (h : t σ H fun vs H2 => sp vs H2 Q E) : tSt C sp E (tC (.ref C)) t σ H Q := ⟨rfl, h⟩
theorem s_cmC {sp : Sp} {E : XK} {t : TA} (h : t σ H fun vs H2 => sp (.ref C :: vs) H2 Q E) : ClX.tCMeth C sp E (tC (.ref C)) t σ H Q := ⟨rfl, h⟩
theorem Ck.keep {q a : Addr} {n : Nat} {ns : List Int} (h : Ck C H q ns) (p : Pen H a n) (k : ∀ b o, b ≠ a → H b = some o → H' b = some o) : Ck C H' q ns := by
  obtain ⟨dx, t1, t2, t3, a1, b, c, d⟩ := h
  have nn : ∀ {q : Addr} {o : HO}, H q = some o → (∀ c n, o ≠ PenO a c n) → H' q = some o := fun {q o} e z => k _ _ (p.ne e z) e
  exact ⟨dx, t1, t2, t3, nn a1 (fun c n z => by unfold PenO at z; cases z), nn b (fun c n z => by unfold PenO at z; cases z), nn c (fun c n z => by unfold PenO at z; cases z), nn d (fun c n z => by unfold PenO at z; cases z)⟩
theorem tup_keep {q a : Addr} {n : Nat} {xs : List V} (h : H q = some (.tup xs)) (p : Pen H a n) (k : ∀ b o, b ≠ a → H b = some o → H' b = some o) : H' q = some (.tup xs) := k _ _ (p.ne h (fun c n z => by unfold PenO at z; cases z)) h
end
theorem _root_.L2.SqL.exL {K : PySem.W.Frag} {H H' : Hp} {a : Addr} {xs : List V} (h : SqL K H a xs) (e : Ex H H') : SqL K H' a xs := by
  rcases h with (h | ⟨o, h⟩) | h
  · exact .inl (.inl (e _ _ h))
  · exact .inl (.inr ⟨o, e _ _ h⟩)
  · exact .inr h
theorem _root_.L2.SqT.exT {K : PySem.W.Frag} {H H' : Hp} {a : Addr} {xs : List V} (h : SqT K H a xs) (e : Ex H H') : SqT K H' a xs := by
  rcases h with (h | ⟨o, h⟩) | h
  · exact .inl (.inl (e _ _ h))
  · exact .inl (.inr ⟨o, e _ _ h⟩)
  · exact .inr h
theorem _root_.L2.Dp.ex' {K : PySem.W.Frag} {H H' : Hp} {v : V} {d : PyData} (h : Dp K H v d) (e : Ex H H') : Dp K H' v d := L3.Dp.exN e.n d v (fun a xs h => h.exL e) (fun a xs h => h.exT e) h
theorem KX.join {X : Cx} {K : PySem.W.Frag} {o e : Expr} {to te : TE} {apos pos : Pos} (hK : X.K = K) (ho : PE X o to) (he : PE X e te) (hs : starEach [e] X.env = [(false, eval e X.env)] := by rfl) (hbase : attributeBase o "join" X.env (eval o X.env) = eval o X.env := by rfl) (hline : (apos.endLine == pos.line) = true := by rfl) :
    PE X (.Call (.Attribute o "join" apos) [e] [] pos) (tM1 (fun x xs H Q => ∃ a p, ∃ ys : List Str, x = .str a ∧ xs = [.ref p] ∧ (SqL K H p (ys.map V.str) ∨ SqT K H p (ys.map V.str)) ∧
      (ys.map (·.length)).sum + ys.length * a.length ≤ 16777216 ∧ Q (.str (Txt.join a ys)) H) to te) := by
  subst hK
  exact pe_join ho he hs hbase hline
end L3
end
section
namespace L3
open PySem PySem.NumText PySem.Spec PyProof.Rows L2 LamX RZ
structure Mt (P : Program) (w : World) (K : PySem.W.Frag) (mg : Str → Option Value) (base : Heap) (CX : CXT) (k : Nat) (C : Addr) (m c : Str) (ps : List Str) (sp : Sp) : Prop where
  ex : ∃ (f : Addr) (fd : FuncData), Cls K C ∧ Meth K C m f ∧ FnOk P w K mg base CX k f fd (c :: ps) sp ∧ L2.Binds K fd (c :: ps) [] ∧
    ∀ (s : Shared) (a : Value) (ws : List Value), K.In s.heap → ws.length = ps.length → BindsTo s fd ⟨[a], ps.zip ws⟩ ((c :: ps).zip (a :: ws))
section
variable {X : Cx} {CX : CXT} {k j : Nat} {C : Addr} {sp : Sp} {E : XK} {o e : Expr} {es : List Expr} {m cn : Str} {ps : List Str} {pos apos : Pos} {ta : TE} {t : TA} {pl : Sem Bool}
theorem pe_mt (c : Mt X.prog X.w X.K X.mg X.base CX k C m cn ps sp) (hr : Room j X.A) (hx : Passes CX X E) (he : PE X o ta) (ha : PA X (e :: es) t) (hk : k ≤ j := by decide)
    (hst : starEach (e :: es) X.env = (false, eval e X.env) :: starEach es X.env := by rfl) (hpl : (backTo pos (starEach es X.env)).any (·.1) = false := by rfl)
    (ht : eval (.Call (.Attribute o m apos) (e :: es) [] pos) X.env = (do
      let ov ← eval o X.env
      standAt apos.atName
      let (f, first) ← holding [ov] (getMethod ov m pl)
      callWith pos f first (backTo pos (starEach (e :: es) X.env)) (backToKw pos (keywordEach [] X.env))) := by rfl) :
    PE X (.Call (.Attribute o m apos) (e :: es) [] pos) (tMeth C m sp [] E ta t) := by
  obtain ⟨f, fd, cl, cm, F, b, _⟩ := c.ex
  exact pe_meth he cl cm F (hr.mono hk) b .nil hx ha hst hpl ht
end
theorem s_mt {C : Addr} {m : Str} {sp : Sp} {dvs : List V} {E : XK} {ta : TE} {t : TA} {σ : L2.St} {H : Hp} {Q : VK} (h : ta σ H fun x H1 => ∃ a dx fs, x = .ref a ∧ H1 a = some (.ins C dx fs) ∧ fs.lookup m = none ∧ t σ H1 fun vs H2 => sp (x :: (vs ++ dvs)) H2 Q E) : tMeth C m sp dvs E ta t σ H Q := h
end L3
end
section
namespace L2
open PySem PySem.Spec PyProof.Rows HT
end L2
namespace HT
open PySem PySem.Spec PyProof.Rows L2
end HT
namespace L3
open PySem PySem.NumText PySem.Spec PyProof.Rows L2 LamX RZ
section
variable {X : Cx}
def tRevT (K : PySem.W.Frag) (te : TE) : TE := fun σ H Q => te σ H fun x H1 => ∃ a xs, x = .ref a ∧ SqT K H1 a xs ∧ ∀ p, H1 p = none → Q (.ref p) (upd H1 p (.tup xs.reverse))
end
section
variable {K : PySem.W.Frag} {te : TE} {σ : L2.St} {H : Hp} {Q : VK}
theorem s_revT (h : te σ H fun x H1 => ∃ a xs, x = .ref a ∧ SqT K H1 a xs ∧ ∀ p, H1 p = none → Q (.ref p) (upd H1 p (.tup xs.reverse))) : tRevT K te σ H Q := h
theorem s_revL (h : te σ H fun x H1 => ∃ a xs, x = .ref a ∧ SqL K H1 a xs ∧ ∀ p, H1 p = none → Q (.ref p) (upd H1 p (.lst xs.reverse))) : L2.tRevL K te σ H Q := h
end
end L3
end
section
namespace L3
open PySem PySem.NumText PySem.Spec PyProof.Rows L2 LamX RZ
theorem KX.star {X : Cx} {K : PySem.W.Frag} {e : Expr} {es : List Expr} {te : TE} {t : TA} {p : Pos} (hK : X.K = K) (he : PE X e te) (hr : PA X es t) (hs : starEach (.Starred e p :: es) X.env = (true, eval e X.env) :: starEach es X.env := by rfl) : PA X (.Starred e p :: es) (StX.tStar K te t) := by
  subst hK
  exact StX.pa_star he hr hs
def CkTo (C CM : Addr) (H : Hp) (ns : List Int) (Q : VK) (E : XK) : Prop := (ns.length ≤ 5000 ∧ ∀ r H', Ex H H' → Ck C H' r ns → Q (.ref r) H') ∨ (5000 < ns.length ∧ Rz2 CM "what" "most" (.str "chunks") (.int 5000) H E)
theorem CkTo.g {K : PySem.W.Frag} {C CB CM : Addr} {H : Hp} {ns : List Int} {Q : VK} {E : XK} (h : CkTo C CM H ns Q E) (hl : ns.length ≤ 100000) (hs : ∀ n ∈ ns, siz n) : CkG K CB CM H (ns.map V.int) (fun ns => ∀ q H', H q = none → Ex H H' → Ck C H' q ns → Q (.ref q) H') E :=
  ⟨by rw [List.length_map]; exact hl, .inl ⟨ns, rfl, hs, h.imp (fun ⟨a, b⟩ => ⟨a, fun q H' _ e c => b q H' e c⟩) id⟩⟩
end L3
end
section
namespace L3
open PySem PySem.NumText PySem.Spec PyProof.Rows L2 LamX RZ
end L3
end
section
namespace L3
open PySem PySem.NumText PySem.Spec PyProof.Rows L2 LamX RZ
end L3
end
section
namespace L3
open PySem PySem.NumText PySem.Spec PyProof.Rows L2 LamX RZ
theorem atI_nat {α : Type} {xs : List α} {j : Nat} {v : α} (h : xs[j]? = some v) : atI xs (j : Int) = some v := by
  rw [atI_int (by omega) (by have := (List.getElem?_eq_some_iff.mp h).1; omega), Int.toNat_natCast]
  exact h
end L3
end
section
namespace L3
open PySem PySem.NumText PySem.Spec PyProof.Rows L2 LamX RZ
def Hds (H : Hp) : List Addr → List (List V) → Prop
  | [], [] => True
  | q :: qs, t :: ts => H q = some (.tup t) ∧ Hds H qs ts
  | _, _ => False
theorem Hds.imp {H H' : Hp} : ∀ {qs : List Addr} {ts : List (List V)}, Hds H qs ts → (∀ q t, H q = some (.tup t) → H' q = some (.tup t)) → Hds H' qs ts
  | [], [], _, _ => trivial
  | _ :: _, _ :: _, ⟨a, b⟩, k => ⟨k _ _ a, Hds.imp b k⟩
  | [], _ :: _, h, _ => h.elim
  | _ :: _, [], h, _ => h.elim
theorem Hds.app {H : Hp} {q : Addr} {t : List V} (hq : H q = some (.tup t)) : ∀ {qs : List Addr} {ts : List (List V)}, Hds H qs ts → Hds H (qs ++ [q]) (ts ++ [t])
  | [], [], _ => ⟨hq, trivial⟩
  | _ :: _, _ :: _, ⟨a, b⟩ => ⟨a, Hds.app hq b⟩
  | [], _ :: _, h => h.elim
  | _ :: _, [], h => h.elim
theorem Hds.len {H : Hp} : ∀ {qs : List Addr} {ts : List (List V)}, Hds H qs ts → qs.length = ts.length
  | [], [], _ => rfl
  | _ :: _, _ :: _, ⟨_, b⟩ => by rw [List.length_cons, List.length_cons, Hds.len b]
  | [], _ :: _, h => h.elim
  | _ :: _, [], h => h.elim
theorem Hds.dp {K : PySem.W.Frag} {H : Hp} {f : List V → List PyData} : ∀ {qs : List Addr} {ts : List (List V)}, Hds H qs ts → (∀ t ∈ ts, DpAll K H t (f t)) → DpAll K H (qs.map V.ref) (ts.map fun t => .tuple (f t))
  | [], [], _, _ => .nil
  | _ :: _, t :: _, ⟨a, b⟩, h => .cons (.tup (.inl (.inl a)) (h t List.mem_cons_self)) (Hds.dp b fun u hu => h u (List.mem_cons_of_mem _ hu))
  | [], _ :: _, h, _ => h.elim
  | _ :: _, [], h, _ => h.elim
def HdAt (H : Hp) (hl : Addr) (ts : List (List V)) : Prop := ∃ qs : List Addr, H hl = some (.lst (qs.map V.ref)) ∧ Hds H qs ts
theorem HdAt.ex {H H' : Hp} {hl : Addr} {ts : List (List V)} (h : HdAt H hl ts) (e : Ex H H') : HdAt H' hl ts := by
  obtain ⟨qs, a, b⟩ := h
  exact ⟨qs, e _ _ a, b.imp fun q t h => e _ _ h⟩
theorem HdAt.exN {H H' : Hp} {hl : Addr} {ts : List (List V)} (h : HdAt H hl ts) (e : ExtN H H') : HdAt H' hl ts := by
  obtain ⟨qs, a, b⟩ := h
  exact ⟨qs, e _ _ a (fun _ z => nomatch z), b.imp fun q t h => e _ _ h (fun _ z => nomatch z)⟩
theorem HdAt.one {H : Hp} {hl q : Addr} {t : List V} (a : H hl = some (.lst [.ref q])) (b : H q = some (.tup t)) : HdAt H hl [t] := ⟨[q], a, b, trivial⟩
theorem HdAt.dp {K : PySem.W.Frag} {H : Hp} {hl : Addr} {ts : List (List V)} {f : List V → List PyData} (h : HdAt H hl ts) (k : ∀ t ∈ ts, DpAll K H t (f t)) : Dp K H (.ref hl) (.list (ts.map fun t => .tuple (f t))) := by
  obtain ⟨qs, a, b⟩ := h
  exact .lst (.inl (.inl a)) (b.dp k)
end L3
end
section
namespace L3
open PySem PySem.NumText PySem.Spec PyProof.Rows L2 LamX RZ ClX
def tStR (C : Addr) (sp : Sp) (E : XK) (ta : TE) (t : TA) : TE := fun σ H Q => ta σ H fun x H1 => x = .ref C ∧ t σ H1 fun vs H2 => sp vs.reverse H2 Q E
section
variable {K : PySem.W.Frag} {σ : L2.St} {H : Hp} {Q : VK} {C CB CC CM CT CN : Addr}
theorem s_stR {sp : Sp} {E : XK} {t : TA} (h : t σ H fun vs H2 => sp vs.reverse H2 Q E) : tStR C sp E (tC (.ref C)) t σ H Q := ⟨rfl, h⟩
theorem KX.sortedI {X : Cx} (hK : X.K = K) : CallR X (.builtin "sorted") (rSortedI K) := hK ▸ cr_sortedI
theorem s_sortI {a : Addr} {ns : List Int} (h : SqL K H a (ns.map V.int)) (k : ∀ (ns' : List Int) (p : Addr) (H2 : Hp), ns'.Perm ns → ns'.Pairwise (· ≤ ·) → H p = none → Ex H H2 → H2 p = some (.lst (ns'.map V.int)) → Q (.ref p) H2) : rSortedI K [.ref a] H Q :=
  ⟨a, ns, rfl, h, fun ns' p a b c => k ns' p _ a b c (ex_new c) upd_same⟩
/-- a quotient by what is above 0 -/
theorem s_divP {i j : Int} (h0 : 0 < j) (h1 : j ≤ 10 ^ 40) (h : Q (.int (i / j)) H) : rI CDivW (fun i j => V.int (i / j)) (.int i) (.int j) H Q :=
  ⟨i, j, rfl, rfl, wide_div (b := 200) h0 (Nat.lt_of_le_of_lt (show j.natAbs ≤ 10 ^ 40 by omega) (by decide +kernel)) (by decide) (by decide), h⟩
theorem lt40 {x : Int} (h : -(10 ^ 40) ≤ x ∧ x ≤ 10 ^ 40) : x.natAbs < 2 ^ 200 := Nat.lt_of_le_of_lt (show x.natAbs ≤ 10 ^ 40 by omega) (by decide +kernel)
theorem s_mulB {i j : Int} (hi : -(10 ^ 40) ≤ i ∧ i ≤ 10 ^ 40) (hj : -(10 ^ 40) ≤ j ∧ j ≤ 10 ^ 40) (h : Q (.int (i * j)) H) : rMulU (.int i) (.int j) H Q :=
  s_mulW (lt40 hi) (lt40 hj) (by decide) (by decide) (by decide) h
/-- a value that is refused, heard with its text -/
structure ShV (H : Hp) (K : PySem.W.Frag) (v : V) (x : PyData) : Prop where
  dp : Dp K H v x
  sh : x.showable = true
  dep : x.depth ≤ 60
  len : x.shown.length ≤ sizeLine
  ok : PyData.strOk x.shown = true
theorem sqL_exN {H H' : Hp} {a : Addr} {xs : List V} (h : SqL K H a xs) (e : ExtN H H') : SqL K H' a xs := by
  rcases h with (h | ⟨o, h⟩) | h
  · exact .inl (.inl (e _ _ h fun _ z => nomatch z))
  · exact .inl (.inr ⟨o, e _ _ h fun _ z => nomatch z⟩)
  · exact .inr h
theorem sqT_exN {H H' : Hp} {a : Addr} {xs : List V} (h : SqT K H a xs) (e : ExtN H H') : SqT K H' a xs := by
  rcases h with (h | ⟨o, h⟩) | h
  · exact .inl (.inl (e _ _ h fun _ z => nomatch z))
  · exact .inl (.inr ⟨o, e _ _ h fun _ z => nomatch z⟩)
  · exact .inr h
theorem ShV.up {H H' : Hp} {v : V} {x : PyData} (h : ShV H K v x) (e : ExtN H H') : Dp K H' v x := Dp.exN e x v (fun _ _ z => sqL_exN z e) (fun _ _ z => sqT_exN z e) h.dp
theorem ShV.exN {H H' : Hp} {v : V} {x : PyData} (h : ShV H K v x) (e : ExtN H H') : ShV H' K v x := ⟨h.up e, h.sh, h.dep, h.len, h.ok⟩
theorem ShV.int {H : Hp} {i : Int} (h : i.natAbs ≤ 10 ^ 40) : ShV H K (.int i) (.int i) :=
  have h2 : i.natAbs.log2 < 1920 := log_le h (by decide +kernel)
  ⟨.int i, decide_eq_true h2, Nat.zero_le _, Nat.le_trans (fit_shown (x := .int i) (decide_eq_true h2)) (by decide +kernel), strOkI i⟩
end
section
variable {K : PySem.W.Frag} {σ : L2.St} {H : Hp} {Q : VK}
theorem atI_snoc {α : Type} (xs : List α) (y : α) : atI (xs ++ [y]) (-1) = some y := by
  unfold atI
  have hn : (xs ++ [y]).length = xs.length + 1 := by rw [List.length_append]; rfl
  have hi : ixN (xs ++ [y]).length (-1) = some xs.length := by
    unfold ixN
    rw [if_neg (by decide), if_pos (by omega), hn]
    congr 1
    omega
  rw [hi]
  simp
end
end L3
end
section
namespace L3
open PySem PySem.Spec PyProof.Rows L2 LamX ItX
def ItT (t it : Addr) : HO := .ext fun h => h.IsTupleIter it t 0
def iOwn (K : PySem.W.Frag) (C : Addr) (sp : Nat → Sp) (E : XK) (te : TE) : TI := fun σ H R => te σ H fun x H1 => ∃ a dx fs, x = .ref a ∧ H1 a = some (.ins C dx fs) ∧
  ∀ n, sp n [.ref a] H1 (fun v H2 => ∃ it t, v = .ref it ∧ H2 it = some (ItT t it) ∧ n ≤ it ∧ R (Itt K t) (dropH H2 it)) E
def SlO (sl : Addr) (lo hi st : Option Int) : HO := .ext fun h => ∃ vl vu vs, h.IsSliceOf sl vl vu vs ∧ IsPart vl lo ∧ IsPart vu hi ∧ IsPart vs st
def cut3 {α : Type} (xs : List α) (lo hi st : Option Int) : List α :=
  (sliceRange (sliceBounds lo hi st xs.length).1 (sliceBounds lo hi st xs.length).2.1 (sliceBounds lo hi st xs.length).2.2).filterMap (xs[·]?)
end L3
namespace HT
open PySem PySem.Spec PyProof.Rows L2
end HT
end
section
namespace PySem
open Sem (wp)
end PySem
namespace L3
open PySem PySem.Spec PyProof.Rows L2 LamX ItX
section
variable {X : Cx} {K : PySem.W.Frag} {C : Addr} {k j : Nat} {E : XK}
def tSlOwn (C : Addr) (sp : Sp) (E : XK) (te : TE) (tl th ts : TO) : TE := fun σ H Q => te σ H fun x H1 => tl σ H1 fun l H2 => th σ H2 fun u H3 => ts σ H3 fun k H4 => ∃ a dx fs, x = .ref a ∧ H4 a = some (.ins C dx fs) ∧ ∀ sl, H4 sl = none → sp [x, .ref sl] (upd H4 sl (SlO sl l u k)) Q E
/-- xs[lo:hi:st], a list -/
def tSl3 (K : PySem.W.Frag) (te : TE) (tl th ts : TO) : TE := fun σ H Q => te σ H fun x H1 => tl σ H1 fun l H2 => th σ H2 fun u H3 => ts σ H3 fun k H4 => ∃ a xs, x = .ref a ∧ SqL K H4 a xs ∧ k ≠ some 0 ∧ ∀ p, H4 p = none → ap Q (.ref p) (upd H4 p (.lst (cut3 xs l u k)))
end
section
variable {K : PySem.W.Frag} {C : Addr} {E : XK} {σ : L2.St} {H : Hp} {D : Ends} {Q : VK} {te : TE} {tl th ts : TO} {sp : Sp}
theorem s_slOwn (h : te σ H fun x H1 => tl σ H1 fun l H2 => th σ H2 fun u H3 => ts σ H3 fun k H4 => ∃ a dx fs, x = .ref a ∧ H4 a = some (.ins C dx fs) ∧ ∀ sl, H4 sl = none → sp [x, .ref sl] (upd H4 sl (SlO sl l u k)) Q E) : tSlOwn C sp E te tl th ts σ H Q := h
theorem s_sl3 (h : te σ H fun x H1 => tl σ H1 fun l H2 => th σ H2 fun u H3 => ts σ H3 fun k H4 => ∃ a xs, x = .ref a ∧ SqL K H4 a xs ∧ k ≠ some 0 ∧ ∀ p, H4 p = none → ap Q (.ref p) (upd H4 p (.lst (cut3 xs l u k)))) : tSl3 K te tl th ts σ H Q := h
theorem s_lcO {spn : Nat → Sp} {ee : TE} {g : TG} {tt : TT} {vs : List Nat} (h : te σ H fun x H1 => ∃ a dx fs, x = .ref a ∧ H1 a = some (.ins C dx fs) ∧ ∀ n, spn n [.ref a] H1 (fun v H2 => ∃ it t, v = .ref it ∧ H2 it = some (ItT t it) ∧ n ≤ it ∧ LC (Itt K t) g tt ee vs σ (dropH H2 it) Q) E) : tLc (iOwn K C spn E te) g tt ee vs σ H Q := h
end
end L3
end
section
namespace L3
open PySem PySem.NumText PySem.Spec PyProof.Rows L2 LamX RZ ClX
section
variable {K : PySem.W.Frag} {CB CC CM CT CN : Addr} {σ : L2.St} {H : Hp} {Q : VK}
theorem lcLI {te : TE} {a : Addr} {xs : List V} {j : Nat} {tt : TT} {vs : List Nat} (b : Nat → Bool) (f : Nat → V) (ha : H a = some (.lst xs)) (hz : xs.length < sizeLine) (hw : ∀ x, wipe ((wipe σ vs).set j (some x)) vs = wipe σ vs)
    (ht : ∀ (i : Nat) (x : V) (H1 : Hp) (R : Bool → Hp → Prop), xs[i]? = some x → Ex H H1 → R (b i) H1 → tt ((wipe σ vs).set j (some x)) H1 R) (he : ∀ (i : Nat) (x : V) (H1 : Hp) (R : VK), xs[i]? = some x → b i = true → Ex H H1 → (∀ H2, Ex H1 H2 → R (f i) H2) → te ((wipe σ vs).set j (some x)) H1 R)
    (k : ∀ D H2, H D = none → Ex H H2 → H2 D = some (.lst (((List.range xs.length).filter b).map f)) → Q (.ref D) H2) : LC (Itl K a) (gName j) tt te vs σ H Q := by
  intro D hD
  refine lc_list (K := K) (a := a) (xs := xs) (fun n H1 => Ex H H1 ∧ H1 D = some (.lst (((List.range n).filter b).map f))) ⟨ex_new hD, upd_same⟩ (fun n H1 _ ⟨e, _⟩ => .inl (.inl (e _ _ ha))) (fun n x H1 hx ⟨e, h1⟩ => ?_) (fun H1 ⟨e, h1⟩ => k D H1 hD e h1)
  have hn : n < xs.length := (List.getElem?_eq_some_iff.mp hx).1
  have er : List.range (n + 1) = List.range n ++ [n] := List.range_succ
  refine ⟨hw _, ht n x H1 _ hx e ?_⟩
  cases hb : b n with
  | true =>
    refine iteT (he n x H1 _ hx hb e fun H2 e2 => ⟨_, e2 _ _ h1, ?_, fun c o hc => ?_, ?_⟩)
    · rw [List.length_map]
      exact Nat.lt_of_le_of_lt (Nat.le_trans (List.length_filter_le _ _) (by rw [List.length_range]; omega)) hz
    · rw [upd_ne (ne_of_none hc hD)]; exact e2 _ _ (e _ _ hc)
    · rw [upd_same, er, List.filter_append, List.map_append]
      simp [hb]
  | false =>
    refine iteF ⟨e, ?_⟩
    rw [er, List.filter_append]
    simpa [hb] using h1
/-- lists of ints, new ones -/
def LsAt (H : Hp) : List Addr → List (List Int) → Prop
  | [], [] => True
  | q :: qs, n :: ns => H q = some (.lst (n.map V.int)) ∧ LsAt H qs ns
  | _, _ => False
theorem LsAt.imp {H H' : Hp} : ∀ {qs : List Addr} {nss : List (List Int)}, LsAt H qs nss → (∀ q ∈ qs, ∀ n : List Int, H q = some (.lst (n.map V.int)) → H' q = some (.lst (n.map V.int))) → LsAt H' qs nss
  | [], [], _, _ => trivial
  | q :: _, _ :: _, ⟨a, b⟩, k => ⟨k q List.mem_cons_self _ a, LsAt.imp b fun q h => k q (List.mem_cons_of_mem _ h)⟩
  | [], _ :: _, h, _ => h.elim
  | _ :: _, [], h, _ => h.elim
theorem LsAt.app {H : Hp} {q : Addr} {n : List Int} (hq : H q = some (.lst (n.map V.int))) : ∀ {qs : List Addr} {nss : List (List Int)}, LsAt H qs nss → LsAt H (qs ++ [q]) (nss ++ [n])
  | [], [], _ => ⟨hq, trivial⟩
  | _ :: _, _ :: _, ⟨a, b⟩ => ⟨a, LsAt.app hq b⟩
  | [], _ :: _, h => h.elim
  | _ :: _, [], h => h.elim
theorem LsAt.len {H : Hp} : ∀ {qs : List Addr} {nss : List (List Int)}, LsAt H qs nss → qs.length = nss.length
  | [], [], _ => rfl
  | _ :: _, _ :: _, ⟨_, b⟩ => by rw [List.length_cons, List.length_cons, LsAt.len b]
  | [], _ :: _, h => h.elim
  | _ :: _, [], h => h.elim
def lsD (ns : List Int) : PyData := .list (ns.map PyData.int)
theorem LsAt.dp {H : Hp} : ∀ {qs : List Addr} {nss : List (List Int)}, LsAt H qs nss → DpAll K H (qs.map V.ref) (nss.map lsD)
  | [], [], _ => .nil
  | _ :: _, _ :: _, ⟨a, b⟩ => .cons (.lst (.inl (.inl a)) (dpInts _)) (LsAt.dp b)
  | [], _ :: _, h => h.elim
  | _ :: _, [], h => h.elim
end
end L3
end
section
namespace L3
open PySem PySem.Spec PySem.Calls PyProof.Rows PySem.W
section
variable {prog : Program} {w : World} {A : Around} {E : Value → Shared → Prop} {s : Shared} {K : Frag} {x y C D f g : Addr} {ox oy : Obj} {od oe : Option Obj} {op : Operator}
/-- two of own classes, neither below the other -/
theorem bin_ownD {rc rd : Option Value} {Q : Value → Shared → Prop} (X : K.In s.heap) (I : InstAt s.heap x ox C od) (J : InstAt s.heap y oy D oe) (hc : selfFirst K C = true) (hd : selfFirst K D = true) (hne' : C ≠ D)
    (hs : findIn K (.ref C) (PySem.dunder op.info.2) = some (some (.ref f))) (hf : isFn K (.ref f) = true) (hr : findIn K (.ref C) (dunderR op.info.2) = some rc) (hp : rc = none ∨ ∃ g : Addr, rc = some (.ref g))
    (hs' : findIn K (.ref D) (PySem.dunder op.info.2) = some (some (.ref g))) (hr' : findIn K (.ref D) (dunderR op.info.2) = some rd) (hp' : rd = none ∨ ∃ g : Addr, rd = some (.ref g)) (hsub : subIn K (.ref D) (.ref C) = some false)
    (h : wpAny (model prog w) A (call (.ref f) [.ref x, .ref y]) (PySem.W.CmpBack Q) E s) : wpAny (model prog w) A (binaryOp1 op.info.2 (.ref x) (.ref y)) (fun r s' => ∃ v, r = some v ∧ Q v s') E s := by
  obtain ⟨cd, rest, hcd, hm⟩ := ksp_first hc
  obtain ⟨cd', rest', hcd', hm'⟩ := ksp_first hd
  rcases hi : op.info with ⟨sym, nm'⟩
  rw [hi] at hs hr hs' hr'
  dsimp only at hs hr hs' hr'
  have one := ksp_try X I hs hf h
  obtain ⟨hh, g, d, tt, os⟩ := s
  have L1 : Looks (model prog w) hh (typeOf (.ref x)) (.ref C) := I.type
  have L2 : Looks (model prog w) hh (typeOf (.ref y)) (.ref D) := J.type
  have L3 : Looks (model prog w) hh (fillsNumberSlot (.ref C) nm') true := fills_K X hcd hm hs
  have L4 : Looks (model prog w) hh (fillsNumberSlot (.ref D) nm') true := fills_K X hcd' hm' hs'
  have L5 : Looks (model prog w) hh (isSubtype (.ref D) (.ref C)) false := looks_subIn X hsub
  have L6 : Looks (model prog w) hh (numberSlotInPython (.ref C) nm') true := ksp_inPy X hs hr hp
  have L7 : Looks (model prog w) hh (numberSlotInPython (.ref D) nm') true := ksp_inPy X hs' hr' hp'
  have L8 : Looks (model prog w) hh (typeLookup (.ref D) (dunderR nm')) rd := looks_findIn X hr'
  have L9 : Looks (model prog w) hh (typeLookup (.ref C) (dunderR nm')) rc := looks_findIn X hr
  have hne : (Value.ref C == Value.ref D) = false := Bool.eq_false_iff.mpr fun q => by cases beq_iff_eq.mp q; exact hne' rfl
  dsimp only
  unfold binaryOp1
  refine wpAny_bind (L1.at (wpAny_bind (L2.at (wpAny_bind (L3.at ?_)))))
  simp only [hne, Bool.false_eq_true, if_false]
  ksp_lk
  refine wpAny_mono one (fun r s' hr' => ?_) fun _ _ e => e
  obtain ⟨v, rfl, hq⟩ := hr'
  ksp_lk
  exact ⟨_, rfl, hq⟩
variable {K : Frag} {R : Addr}
end
end L3
namespace L3
open PySem PySem.NumText PySem.Spec PyProof.Rows L2 LamX RZ ClX
def tAny (n : Nat) (t : Nat → TE) : TE := fun σ H Q => ∃ j, j < n ∧ t j σ H Q
section
variable {X : Cx} {n : Nat}
theorem pe_any {e : Expr} {t : Nat → TE} (h : ∀ j, j < n → PE X e (t j)) : PE X e (tAny n t) := ⟨fun pins s σ H Q I q => let ⟨j, hj, q⟩ := q; (h j hj).run pins s σ H Q I q⟩
def rLcm : List V → Hp → VK → Prop := fun vs H Q => ∃ a b : Nat, vs = [.int a, .int b] ∧ a ≤ 100000 ∧ b ≤ 100000 ∧ Q (.int ((Nat.lcm a b : Nat) : Int)) H
theorem cr_lcm : CallR X (.builtin "math.lcm") rLcm := by
  intro pins s σ H vs us Q I r h
  obtain ⟨a, b, rfl, ha, hb, q⟩ := h
  obtain ⟨t, u, rfl⟩ := Vals.int2 r
  have e : (((Nat.lcm 1 (a : Int).natAbs).lcm (b : Int).natAbs : Nat) : Int) = ((Nat.lcm a b : Nat) : Int) := by rw [Int.natAbs_natCast, Int.natAbs_natCast, Nat.lcm_one_left]
  have hl : Nat.lcm a b ≤ 100000 * 100000 := Nat.le_trans (by unfold Nat.lcm; exact Nat.div_le_self _ _) (Nat.mul_le_mul ha hb)
  exact PySem.W.mg_lcm_v (by rw [Int.natAbs_natCast]; exact Nat.lt_of_le_of_lt ha (by decide)) (by rw [Int.natAbs_natCast]; exact Nat.lt_of_le_of_lt hb (by decide)) e (by rw [Int.natAbs_natCast]; exact Nat.lt_of_le_of_lt (PySem.W.mg_log (k := 40) (Nat.lt_of_le_of_lt hl (by decide))) (by decide +kernel)) ⟨.int _, H, I.tok _, ⟨_, rfl⟩, q⟩
end
structure BinN (K : PySem.W.Frag) (R C : Addr) (op : Operator) : Prop where
  self : PySem.W.selfFirst K C = true
  others : othersB K C op = true
  inC : PySem.W.findIn K (.ref C) (dunderI op.info.2) = some none
  inR : PySem.W.findIn K (.ref R) (dunderI op.info.2) = some none
  inO : PySem.W.findIn K (.type "object") (dunderI op.info.2) = some none
  mro : (PySem.W.clsIn K C).map (·.mro) = some [.ref C, .ref R, .type "object"]
/-- the classes cs, each with its own def of the operator -/
structure OpC (P : Program) (w : World) (K : PySem.W.Frag) (mg : Str → Option Value) (base : Heap) (R : Addr) (cs : List Addr) (op : Operator) (k : Nat) (sp : Sp) : Prop where
  f : ∀ j, j < cs.length → BinN K R (cs.getD j 0) op
  sub : ∀ i j, i < cs.length → j < cs.length → i ≠ j → cs.getD i 0 ≠ cs.getD j 0 ∧ PySem.W.subIn K (.ref (cs.getD j 0)) (.ref (cs.getD i 0)) = some false
  ex : ∀ j, j < cs.length → ∃ (f : Addr) (fd : FuncData), PySem.W.findIn K (.ref (cs.getD j 0)) (PySem.dunder op.info.2) = some (some (.ref f)) ∧ PySem.W.findIn K (.ref (cs.getD j 0)) (dunderR op.info.2) = some none ∧ PySem.W.isFn K (.ref f) = true ∧
    FnOk P w K mg base (L2.CX P w) k f fd ["self", "other"] sp ∧ L2.Binds K fd ["self", "other"] []
def InsC (cs : List Addr) (H : Hp) (a : Addr) : Prop := ∃ j dx fs, j < cs.length ∧ H a = some (.ins (cs.getD j 0) dx fs)
def OthC (K : PySem.W.Frag) (cs : List Addr) (y : V) (H : Hp) : Prop := (∃ b, y = .ref b ∧ InsC cs H b) ∨ ∃ T, TyX K H y (.type T) ∧ T ∈ numTys
def rOpC (K : PySem.W.Frag) (cs : List Addr) (sp : Sp) (E : XK) : R2 := fun x y H Q => ∃ a, x = .ref a ∧ InsC cs H a ∧ OthC K cs y H ∧ sp [x, y] H Q E
section
variable {X : Cx} {R : Addr} {cs : List Addr} {op : Operator} {k j : Nat} {sp : Sp} {E : XK} {K : PySem.W.Frag}
theorem op1C (B : OpC X.prog X.w X.K X.mg X.base R cs op k sp) (hr : Room j X.A) (hx : Passes (L2.CX X.prog X.w) X E) (hk : k ≤ j := by decide) : OpR1 X op (rOpC X.K cs sp E) := by
  intro pins s σ H x y v u Q I rx ry h
  obtain ⟨a, rfl, ⟨i, dx, fs, hi, ea⟩, ho, q⟩ := h
  obtain rfl : v = Value.ref a := rx
  obtain ⟨f, fd, h1, h2, h3, F, hb⟩ := B.ex i hi
  obtain ⟨od, J⟩ := ins_inst I.hok ea
  have run : wpAny (model X.prog X.w) X.A (call (.ref f) [.ref a, u]) (PySem.W.CmpBack (EP X pins σ Q)) X.xe s :=
    wpAny_mono (run_fn F (hr.mono hk) hb .nil hx I (vs := [.ref a, y]) (.cons (show RelV (.ref a) (.ref a) from rfl) (.cons ry .nil)) (by rw [List.append_nil]; exact q)) (fun w' s' ⟨v', H', I', r', z⟩ => rel_back r' ⟨v', H', I', r', z⟩) fun _ _ z => z
  rcases ho with ⟨b, rfl, l, dx', fs', hl, eb⟩ | ⟨Ty, ty, hm⟩
  · obtain rfl : u = Value.ref b := ry
    obtain ⟨od', J'⟩ := ins_inst I.hok eb
    by_cases hil : i = l
    · subst hil
      exact bin_same I.kIn J J' (B.f i hi).self h1 h3 run
    · obtain ⟨f', fd', g1, g2, g3, _, _⟩ := B.ex l hl
      obtain ⟨ne, sb⟩ := B.sub i l hi hl hil
      exact bin_ownD I.kIn J J' (B.f i hi).self (B.f l hl).self ne h1 h3 h2 (.inl rfl) g1 g2 (.inl rfl) sb run
  · have q' := List.all_eq_true.mp (B.f i hi).others Ty hm
    rw [Bool.and_eq_true, Bool.and_eq_true] at q'
    obtain ⟨q1, q2, q3⟩ := q'
    obtain ⟨fo, e1⟩ := Option.isSome_iff_exists.mp q1
    obtain ⟨ro, e2⟩ := Option.isSome_iff_exists.mp q2
    obtain ⟨P', kx, hP, _⟩ := kit_of I ry ty
    exact bin_own I.kIn J (kx.ty _ _ I.kIn hP) (B.f i hi).self h1 h3 h2 (.inl rfl) e1 e2 (of_decide_eq_true q3) run
theorem opC (hK : X.K = K) (B : OpC X.prog X.w X.K X.mg X.base R cs op k sp) (hr : Room j X.A) (hx : Passes (L2.CX X.prog X.w) X E) (hk : k ≤ j := by decide) : OpR X (binaryOp op) (rOpC K cs sp E) := by
  subst hK
  exact (op1C B hr hx hk).bin
end
end L3
namespace L2
open PySem PySem.Spec PyProof.Rows
end L2
end
section
namespace L3
open PySem PySem.NumText PySem.Spec PyProof.Rows L2 LamX RZ ClX
inductive RT
  | fx (s : Int)
  | dv (x y w : Int)
  | jn (lo : Bool) (a b : RT)
deriving DecidableEq
namespace RT
def n : RT → Nat
  | fx _ => 1
  | dv _ _ _ => 1
  | jn _ a b => a.n + b.n
def md : RT → Nat
  | fx _ => 1
  | dv _ _ w => w.toNat
  | jn _ a b => Nat.lcm a.md b.md
def leaves : RT → List RT
  | fx s => [fx s]
  | dv x y w => [dv x y w]
  | jn _ a b => a.leaves ++ b.leaves
def ok : RT → Prop
  | fx s => 1 ≤ s ∧ s ≤ 10 ^ 30
  | dv x y w => (0 ≤ x ∧ x ≤ 24) ∧ (-1000 ≤ y ∧ y ≤ 1000) ∧ (1 ≤ w ∧ w ≤ 24)
  | jn _ a b => a.ok ∧ b.ok
/-- which class -/
def ix : RT → Nat
  | fx _ => 0
  | dv _ _ _ => 1
  | jn true _ _ => 2
  | jn false _ _ => 3
theorem n_pos : ∀ t : RT, 1 ≤ t.n
  | fx _ => Nat.le_refl 1
  | dv _ _ _ => Nat.le_refl 1
  | jn _ a b => by have := a.n_pos; show 1 ≤ a.n + b.n; omega
theorem md_pos : ∀ {t : RT}, t.ok → 1 ≤ t.md
  | fx _, _ => Nat.le_refl 1
  | dv _ _ w, h => by have := h.2.2.1; show 1 ≤ w.toNat; omega
  | jn _ a b, h => Nat.lcm_pos (md_pos h.1) (md_pos h.2)
theorem ix_lt (t : RT) : t.ix < 4 := by
  cases t with
  | fx _ => exact (show 0 < 4 by decide)
  | dv _ _ _ => exact (show 1 < 4 by decide)
  | jn lo a b =>
    cases lo
    · exact (show 3 < 4 by decide)
    · exact (show 2 < 4 by decide)
theorem len_leaves : ∀ t : RT, t.leaves.length = t.n
  | fx _ => rfl
  | dv _ _ _ => rfl
  | jn _ a b => by show (a.leaves ++ b.leaves).length = a.n + b.n; rw [List.length_append, a.len_leaves, b.len_leaves]
/-- in bounds, few parts, few residues -/
structure fine (t : RT) : Prop where
  ok : t.ok
  n : t.n ≤ 6
  md : t.md ≤ 5000
theorem md_l {lo : Bool} {a b : RT} (h : (jn lo a b).ok) : a.md ≤ (jn lo a b).md := Nat.le_of_dvd (md_pos h) (Nat.dvd_lcm_left _ _)
theorem md_r {lo : Bool} {a b : RT} (h : (jn lo a b).ok) : b.md ≤ (jn lo a b).md := Nat.le_of_dvd (md_pos h) (Nat.dvd_lcm_right _ _)
theorem fine.l {lo : Bool} {a b : RT} (h : (jn lo a b).fine) : a.fine := ⟨h.ok.1, by have h1 : a.n + b.n ≤ 6 := h.n; have := b.n_pos; omega, Nat.le_trans (md_l h.ok) h.md⟩
theorem fine.r {lo : Bool} {a b : RT} (h : (jn lo a b).fine) : b.fine := ⟨h.ok.2, by have h1 : a.n + b.n ≤ 6 := h.n; have := a.n_pos; omega, Nat.le_trans (md_r h.ok) h.md⟩
theorem leaf_n {t u : RT} (h : u ∈ t.leaves) : u.n = 1 ∧ u.leaves = [u] := by
  induction t with
  | fx s => rw [List.mem_singleton.mp h]; exact ⟨rfl, rfl⟩
  | dv x y w => rw [List.mem_singleton.mp h]; exact ⟨rfl, rfl⟩
  | jn lo a b ha hb => exact (List.mem_append.mp h).elim ha hb
theorem leaf_ok {t u : RT} (ht : t.ok) (h : u ∈ t.leaves) : u.ok := by
  induction t with
  | fx s => rw [List.mem_singleton.mp h]; exact ht
  | dv x y w => rw [List.mem_singleton.mp h]; exact ht
  | jn lo a b ha hb => exact (List.mem_append.mp h).elim (ha ht.1) (hb ht.2)
end RT
/-- the text's sign -/
def sgnS (lo : Bool) : Str := if lo then "&" else "|"
def PlAt (H : Hp) : RT → V → Prop
  | .fx s, v => ∃ p, v = .ref p ∧ H p = some (.tup [.str "fixed", .int s])
  | .dv x y w, v => ∃ p, v = .ref p ∧ H p = some (.tup [.str "divided", .int x, .int y, .int w])
  | .jn lo a b, v => ∃ p u1 u2, v = .ref p ∧ H p = some (.tup [.str (sgnS lo), u1, u2]) ∧ PlAt H a u1 ∧ PlAt H b u2
theorem PlAt.imp {H H' : Hp} (k : ∀ p xs, H p = some (.tup xs) → H' p = some (.tup xs)) : ∀ {t : RT} {v : V}, PlAt H t v → PlAt H' t v
  | .fx _, _, ⟨p, e, h⟩ => ⟨p, e, k _ _ h⟩
  | .dv _ _ _, _, ⟨p, e, h⟩ => ⟨p, e, k _ _ h⟩
  | .jn _ _ _, _, ⟨p, x, y, e, h, a, b⟩ => ⟨p, x, y, e, k _ _ h, PlAt.imp k a, PlAt.imp k b⟩
theorem PlAt.exN {H H' : Hp} {t : RT} {v : V} (h : PlAt H t v) (e : ExtN H H') : PlAt H' t v := h.imp fun p xs h => e _ _ h fun _ z => nomatch z
theorem PlAt.ex {H H' : Hp} {t : RT} {v : V} (h : PlAt H t v) (e : Ex H H') : PlAt H' t v := h.exN e.n
theorem PlAt.keep {H H' : Hp} {t : RT} {v : V} {p : Addr} {n : Nat} (h : PlAt H t v) (hp : Pen H p n) (k : ∀ b o, b ≠ p → H b = some o → H' b = some o) : PlAt H' t v := h.imp fun q xs e => tup_keep e hp k
/-- which kind it is stands first -/
theorem PlAt.ref {H : Hp} {t : RT} {v : V} (h : PlAt H t v) : ∃ p xs, v = .ref p ∧ H p = some (.tup xs) := by
  cases t with
  | fx s => obtain ⟨p, e, h⟩ := h; exact ⟨p, _, e, h⟩
  | dv x y w => obtain ⟨p, e, h⟩ := h; exact ⟨p, _, e, h⟩
  | jn lo a b => obtain ⟨p, x, y, e, h, _⟩ := h; exact ⟨p, _, e, h⟩
def PlAll (H : Hp) : List RT → List V → Prop
  | [], [] => True
  | t :: ts, v :: vs => PlAt H t v ∧ PlAll H ts vs
  | _, _ => False
theorem PlAll.imp {H H' : Hp} (k : ∀ t v, PlAt H t v → PlAt H' t v) : ∀ {ts : List RT} {vs : List V}, PlAll H ts vs → PlAll H' ts vs
  | [], [], _ => trivial
  | _ :: _, _ :: _, ⟨a, b⟩ => ⟨k _ _ a, PlAll.imp k b⟩
  | [], _ :: _, h => h.elim
  | _ :: _, [], h => h.elim
theorem PlAll.app {H : Hp} : ∀ {ts us : List RT} {vs ws : List V}, PlAll H ts vs → PlAll H us ws → PlAll H (ts ++ us) (vs ++ ws)
  | [], _, [], _, _, h => h
  | _ :: _, _, _ :: _, _, ⟨a, b⟩, h => ⟨a, PlAll.app b h⟩
  | [], _, _ :: _, _, h, _ => h.elim
  | _ :: _, _, [], _, h, _ => h.elim
theorem PlAll.len {H : Hp} : ∀ {ts : List RT} {vs : List V}, PlAll H ts vs → vs.length = ts.length
  | [], [], _ => rfl
  | _ :: _, _ :: _, ⟨_, b⟩ => by rw [List.length_cons, List.length_cons, PlAll.len b]
  | [], _ :: _, h => h.elim
  | _ :: _, [], h => h.elim
theorem PlAll.get {H : Hp} : ∀ {ts : List RT} {vs : List V} {i : Nat} {t : RT} {v : V}, PlAll H ts vs → ts[i]? = some t → vs[i]? = some v → PlAt H t v
  | t' :: ts, v' :: vs, 0, t, v, ⟨a, _⟩, h1, h2 => by simp at h1 h2; subst h1; subst h2; exact a
  | t' :: ts, v' :: vs, i + 1, t, v, ⟨_, b⟩, h1, h2 => PlAll.get b (by simpa using h1) (by simpa using h2)
  | [], [], _, _, _, _, h1, _ => by simp at h1
  | [], _ :: _, _, _, _, h, _, _ => h.elim
  | _ :: _, [], _, _, _, h, _, _ => h.elim
structure RA where
  f : Addr
  d : Addr
  l : Addr
  g : Addr
def RA.cs (C : RA) : List Addr := [C.f, C.d, C.l, C.g]
def RA.at (C : RA) (i : Nat) : Addr := C.cs.getD i 0
def RA.vs (C : RA) : List Value := [.ref C.f, .ref C.d, .ref C.l, .ref C.g]
def jnF (qa qb t : Addr) (m : Int) : List (Str × V) := putF "modulus" (.int m) (putF "parts" (.ref t) (putF "other" (.ref qb) (putF "one" (.ref qa) [])))
def RuAt (C : RA) (H : Hp) : RT → Addr → List Addr → Prop
  | .fx s, p, ps => ps = [p] ∧ Fx C.f H p s
  | .dv x y w, p, ps => ps = [p] ∧ Dv C.d H p x y w
  | .jn lo a b, p, ps => ∃ qa qb pa pb dx t, ps = pa ++ pb ∧ H p = some (.ins (if lo then C.l else C.g) dx (jnF qa qb t ((Nat.lcm a.md b.md : Nat) : Int))) ∧ H t = some (.tup (ps.map V.ref)) ∧ RuAt C H a qa pa ∧ RuAt C H b qb pb
section
variable {C : RA} {H H' : Hp}
theorem RuAt.imp (k1 : ∀ p xs, H p = some (.tup xs) → H' p = some (.tup xs)) (k2 : ∀ p c dx g v fs, H p = some (.ins c dx (putF g v fs)) → H' p = some (.ins c dx (putF g v fs))) : ∀ {t : RT} {p : Addr} {ps : List Addr}, RuAt C H t p ps → RuAt C H' t p ps
  | .fx _, _, _, ⟨e, dx, t, a, b⟩ => ⟨e, dx, t, k2 _ _ _ _ _ _ a, k1 _ _ b⟩
  | .dv _ _ _, _, _, ⟨e, dx, t, a, b⟩ => ⟨e, dx, t, k2 _ _ _ _ _ _ a, k1 _ _ b⟩
  | .jn _ _ _, _, _, ⟨qa, qb, pa, pb, dx, t, e, h1, h2, h3, h4⟩ => ⟨qa, qb, pa, pb, dx, t, e, k2 _ _ _ _ _ _ h1, k1 _ _ h2, RuAt.imp k1 k2 h3, RuAt.imp k1 k2 h4⟩
variable {t : RT} {p : Addr} {ps : List Addr}
theorem RuAt.exN (h : RuAt C H t p ps) (e : ExtN H H') : RuAt C H' t p ps := h.imp (fun _ _ h => e _ _ h fun _ z => nomatch z) fun _ _ _ _ _ _ h => e _ _ h fun _ z => nomatch z
theorem RuAt.ex (h : RuAt C H t p ps) (e : Ex H H') : RuAt C H' t p ps := h.exN e.n
theorem ins_ne {q c dx : Addr} {fs : List (Str × V)} {n : Nat} (hp : Pen H p n) (h : H q = some (.ins c dx fs)) : q ≠ p := hp.ne h fun c n z => by unfold PenO at z; cases z
theorem RuAt.keep {a : Addr} {n : Nat} (h : RuAt C H t p ps) (hp : Pen H a n) (k : ∀ b o, b ≠ a → H b = some o → H' b = some o) : RuAt C H' t p ps :=
  h.imp (fun _ _ h => tup_keep h hp k) fun _ _ _ _ _ _ h => k _ _ (ins_ne hp h) h
/-- an instance without attributes changes -/
theorem putF_ne {g : Str} {v : V} {fs : List (Str × V)} : putF g v fs ≠ [] := by
  intro z
  cases fs with
  | nil => cases z
  | cons a b => unfold putF at z; split at z <;> cases z
theorem RuAt.fresh {q c dx : Addr} (h : RuAt C H t p ps) (hq : H q = some (.ins c dx [])) (k : ∀ b o, b ≠ q → H b = some o → H' b = some o) : RuAt C H' t p ps :=
  h.imp (fun _ _ h => k _ _ (fun z => by rw [z, hq] at h; cases h) h) fun _ _ _ g v fs h => k _ _ (fun z => by
    rw [z, hq] at h
    injection h with h
    injection h with _ _ h
    exact putF_ne h.symm) h
theorem RuAt.len (h : RuAt C H t p ps) : ps.length = t.n := by
  induction t generalizing p ps with
  | fx s => rw [h.1]; rfl
  | dv x y w => rw [h.1]; rfl
  | jn lo a b ha hb =>
    obtain ⟨qa, qb, pa, pb, dx, t, e, _, _, h3, h4⟩ := h
    rw [e, List.length_append, ha h3, hb h4]; rfl
/-- what all of them have -/
theorem RuAt.ins (h : RuAt C H t p ps) : ∃ dx fs tp, H p = some (.ins (C.at t.ix) dx fs) ∧ fs.lookup ("parts" : Str) = some (.ref tp) ∧ H tp = some (.tup (ps.map V.ref)) ∧ ∃ m, fs.lookup ("modulus" : Str) = some (.int m) ∧ (t.ok → m = ((t.md : Nat) : Int)) := by
  cases t with
  | fx s => obtain ⟨rfl, dx, t, a, b⟩ := h; exact ⟨dx, _, t, a, rfl, b, _, rfl, fun _ => rfl⟩
  | dv x y w => obtain ⟨rfl, dx, t, a, b⟩ := h; exact ⟨dx, _, t, a, rfl, b, _, rfl, fun h => by have := h.2.2.1; show w = ((w.toNat : Nat) : Int); omega⟩
  | jn lo a b =>
    obtain ⟨qa, qb, pa, pb, dx, t, e, h1, h2, _⟩ := h
    cases lo
    · exact ⟨dx, _, t, h1, rfl, h2, _, rfl, fun _ => rfl⟩
    · exact ⟨dx, _, t, h1, rfl, h2, _, rfl, fun _ => rfl⟩
theorem RuAt.insC (h : RuAt C H t p ps) : InsC C.cs H p := by
  obtain ⟨dx, fs, tp, a, _⟩ := h.ins
  exact ⟨t.ix, dx, fs, t.ix_lt, a⟩
/-- the leaves are the parts -/
def RuAll (C : RA) (H : Hp) : List RT → List Addr → Prop
  | [], [] => True
  | t :: ts, p :: ps => RuAt C H t p [p] ∧ RuAll C H ts ps
  | _, _ => False
theorem RuAll.app : ∀ {ts us : List RT} {vs ws : List Addr}, RuAll C H ts vs → RuAll C H us ws → RuAll C H (ts ++ us) (vs ++ ws)
  | [], _, [], _, _, h => h
  | _ :: _, _, _ :: _, _, ⟨a, b⟩, h => ⟨a, RuAll.app b h⟩
  | [], _, _ :: _, _, h, _ => h.elim
  | _ :: _, _, [], _, h, _ => h.elim
theorem RuAll.imp (k : ∀ t p, RuAt C H t p [p] → RuAt C H' t p [p]) : ∀ {ts : List RT} {vs : List Addr}, RuAll C H ts vs → RuAll C H' ts vs
  | [], [], _ => trivial
  | _ :: _, _ :: _, ⟨a, b⟩ => ⟨k _ _ a, RuAll.imp k b⟩
  | [], _ :: _, h => h.elim
  | _ :: _, [], h => h.elim
theorem RuAll.len : ∀ {ts : List RT} {vs : List Addr}, RuAll C H ts vs → vs.length = ts.length
  | [], [], _ => rfl
  | _ :: _, _ :: _, ⟨_, b⟩ => by rw [List.length_cons, List.length_cons, RuAll.len b]
  | [], _ :: _, h => h.elim
  | _ :: _, [], h => h.elim
theorem RuAll.get : ∀ {ts : List RT} {vs : List Addr} {i : Nat} {t : RT} {v : Addr}, RuAll C H ts vs → ts[i]? = some t → vs[i]? = some v → RuAt C H t v [v]
  | t' :: ts, v' :: vs, 0, t, v, ⟨a, _⟩, h1, h2 => by simp at h1 h2; subst h1; subst h2; exact a
  | t' :: ts, v' :: vs, i + 1, t, v, ⟨_, b⟩, h1, h2 => RuAll.get b (by simpa using h1) (by simpa using h2)
  | [], [], _, _, _, _, h1, _ => by simp at h1
  | [], _ :: _, _, _, _, h, _, _ => h.elim
  | _ :: _, [], _, _, _, h, _, _ => h.elim
theorem RuAt.parts (h : RuAt C H t p ps) : RuAll C H t.leaves ps := by
  induction t generalizing p ps with
  | fx s => obtain ⟨rfl, h⟩ := h; exact ⟨⟨rfl, h⟩, trivial⟩
  | dv x y w => obtain ⟨rfl, h⟩ := h; exact ⟨⟨rfl, h⟩, trivial⟩
  | jn lo a b ha hb =>
    obtain ⟨qa, qb, pa, pb, dx, t, rfl, _, _, h3, h4⟩ := h
    exact (ha h3).app (hb h4)
end
/-- no rule that can be joined -/
def NJ (K : PySem.W.Frag) (C : RA) (H : Hp) (v : V) : Prop := ∃ ty, TyX K H v ty ∧ PySem.W.kitAny K ty C.vs = some false
theorem NJ.exN {K : PySem.W.Frag} {C : RA} {H H' : Hp} {v : V} (h : NJ K C H v) (e : ExtN H H') : NJ K C H' v := by
  obtain ⟨t, a, b⟩ := h
  exact ⟨t, L3.TyX.exN a e, b⟩
/-- a rule that is fine -/
def RuF (C : RA) (H : Hp) (t : RT) (v : V) (ps : List Addr) : Prop := t.fine ∧ ∃ p, v = .ref p ∧ RuAt C H t p ps
theorem RuF.exN {C : RA} {H H' : Hp} {t : RT} {v : V} {ps : List Addr} (h : RuF C H t v ps) (e : ExtN H H') : RuF C H' t v ps := ⟨h.1, let ⟨p, a, b⟩ := h.2; ⟨p, a, b.exN e⟩⟩
def spJnb (K : PySem.W.Frag) (C : RA) : Sp := fun vs H Q _ => ∃ x, vs = [x] ∧ (((∃ t ps, RuF C H t x ps) ∧ ∀ H', Ex H H' → Q (.bl true) H') ∨ (NJ K C H x ∧ ∀ H', Ex H H' → Q (.bl false) H'))
/-- two sides that are rules: what the bounds say -/
def JnB (CM : Addr) (H : Hp) (a b : RT) (G : Prop) (E : XK) : Prop := (6 < a.n + b.n ∧ Rz2 CM "what" "most" (.str "parts") (.int 6) H E) ∨ (a.n + b.n ≤ 6 ∧ ((5000 < Nat.lcm a.md b.md ∧ Rz2 CM "what" "most" (.str "residues") (.int 5000) H E) ∨ (Nat.lcm a.md b.md ≤ 5000 ∧ G)))
/-- two sides of any kind; z1: how the first is told -/
def JnT (K : PySem.W.Frag) (C : RA) (CR CM : Addr) (z1 : Str) (H : Hp) (x y : V) (G : RT → RT → Addr → Addr → List Addr → List Addr → Prop) (E : XK) : Prop :=
  (NJ K C H x ∧ (NJ K C H y ∨ ∃ t ps, RuF C H t y ps) ∧ Rz CR "part" (.str z1) H E) ∨
  ∃ a pa, RuF C H a x pa ∧ ((NJ K C H y ∧ Rz CR "part" (.str "other") H E) ∨
    ∃ b pb, RuF C H b y pb ∧ JnB CM H a b (∀ qa qb, x = .ref qa → y = .ref qb → RuAt C H a qa pa → RuAt C H b qb pb → G a b qa qb pa pb) E)
def spNeedJ (K : PySem.W.Frag) (C : RA) (CR CM : Addr) : Sp := fun vs H Q E => ∃ x y, vs = [x, y] ∧ JnT K C CR CM "one" H x y (fun _ _ _ _ _ _ => ∀ H', Ex H H' → Q .non H') E
def spNeedS (K : PySem.W.Frag) (C : RA) (CR : Addr) : Sp := fun vs H Q E => ∃ x y, vs = [x, y] ∧ ((NJ K C H x ∧ Rz CR "part" (.str "other") H E) ∨ ((∃ t ps, RuF C H t x ps) ∧ ((NJ K C H y ∧ Rz CR "part" (.str "other") H E) ∨ ((∃ t ps, RuF C H t y ps) ∧ ∀ H', Ex H H' → Q .non H'))))
def RA.jn (C : RA) (lo : Bool) : Addr := if lo then C.l else C.g
def spJn0 (K : PySem.W.Frag) (C : RA) (CR CM : Addr) (lo : Bool) : Sp := fun vs H Q E => ∃ p dx x y, vs = [.ref p, x, y] ∧ H p = some (.ins (C.jn lo) dx []) ∧
  JnT K C CR CM "one" H x y (fun a b qa qb pa pb => ∀ t H', H t = none → t ≠ p → (∀ c o, c ≠ p → H c = some o → H' c = some o) → H' t = some (.tup ((pa ++ pb).map V.ref)) → H' p = some (.ins (C.jn lo) dx (jnF qa qb t ((Nat.lcm a.md b.md : Nat) : Int))) → Q .non H') E
/-- what a joined rule gives -/
def Gjn (C : RA) (lo : Bool) (H : Hp) (Q : VK) (a b : RT) (pa pb : List Addr) : Prop := ∀ q H', H q = none → Ex H H' → RuAt C H' (.jn lo a b) q (pa ++ pb) → Q (.ref q) H'
def spOpJ (K : PySem.W.Frag) (C : RA) (CR CM : Addr) (lo : Bool) : Sp := fun vs H Q E => ∃ x y, vs = [x, y] ∧ JnT K C CR CM "other" H x y (fun a b _ _ pa pb => Gjn C lo H Q a b pa pb) E
theorem JnB.fine {CM : Addr} {H : Hp} {a b : RT} {G : Prop} {E : XK} {lo : Bool} (ha : a.fine) (hb : b.fine) (h1 : a.n + b.n ≤ 6) (h2 : Nat.lcm a.md b.md ≤ 5000) : (RT.jn lo a b).fine := ⟨⟨ha.ok, hb.ok⟩, h1, h2⟩
theorem mk_ex2 {H : Hp} {p dx : Addr} {o o' : HO} (hp : H p = none) (hd : H dx = none) : Ex H (upd (upd H dx o) p o') := fun c u e => by rw [upd_ne (ne_of_none e hp), upd_ne (ne_of_none e hd)]; exact e
/-- making one by its class -/
theorem s_mkJn {K : PySem.W.Frag} {C : RA} {CR CM : Addr} {lo : Bool} {H : Hp} {Q : VK} {E : XK} {x y : V} (h : JnT K C CR CM "one" H x y (fun a b _ _ pa pb => Gjn C lo H Q a b pa pb) E) :
    ∀ p dx, H p = none → H dx = none → dx ≠ p → spJn0 K C CR CM lo (.ref p :: ([x, y] ++ [])) (upd (upd H dx (.own p)) p (.ins (C.jn lo) dx [])) (fun v H2 => v = .non ∧ ap Q (.ref p) H2) E := fun p dx hp hd hn => by
  have e := mk_ex2 (o := .own p) (o' := .ins (C.jn lo) dx []) hp hd
  refine ⟨p, dx, x, y, rfl, upd_same, ?_⟩
  rcases h with ⟨a, b, c⟩ | ⟨a, pa, ha, h⟩
  · exact .inl ⟨a.exN e.n, b.imp (fun h => h.exN e.n) (fun ⟨t, ps, h⟩ => ⟨t, ps, h.exN e.n⟩), c.ex e⟩
  · refine .inr ⟨a, pa, ha.exN e.n, ?_⟩
    rcases h with ⟨h1, h2⟩ | ⟨b, pb, hb, h⟩
    · exact .inl ⟨h1.exN e.n, h2.ex e⟩
    · refine .inr ⟨b, pb, hb.exN e.n, ?_⟩
      rcases h with ⟨h1, h2⟩ | ⟨h1, ⟨h2, h3⟩ | ⟨h2, h3⟩⟩
      · exact .inl ⟨h1, h2.ex e⟩
      · exact .inr ⟨h1, .inl ⟨h2, h3.ex e⟩⟩
      · refine .inr ⟨h1, .inr ⟨h2, fun qa qb ex ey ra rb t H' ht htp k e1 e2 => ?_⟩⟩
        obtain ⟨_, qa', ex', ra'⟩ := ha
        obtain ⟨_, qb', ey', rb'⟩ := hb
        rw [ex] at ex'; cases ex'
        rw [ey] at ey'; cases ey'
        have e' : Ex H H' := fun c o hc => k c o (ne_of_none hc hp) (e _ _ hc)
        exact ⟨rfl, h3 _ _ ex ey ra' rb' p H' hp e' ⟨qa, qb, pa, pb, dx, t, rfl, by cases lo <;> exact e2, e1, ra'.ex e', rb'.ex e'⟩⟩
end L3
end
section
local macro_rules | `(tactic| tm_at "s1") => `(tactic| first
  | with_reducible first
    | refine L3.s_seq ?_ | refine L3.s_asg ?_ | refine L3.s_op ?_ | refine L3.s_c ?_ | refine L3.s_cb ?_ | refine L3.s_cons ?_ | refine L3.s_nil ?_ | refine L3.s_test ?_ | refine L3.s_bl ?_
    | refine L3.s_I0 ?_ | refine L3.s_and ?_ | refine L3.s_or ?_ | refine L3.s_not ?_ | refine L3.s_if ?_ | refine L3.s_next ?_ | refine L3.s_ret ?_ | refine L3.s_retN ?_ | refine L3.s_asgS ?_ | refine L3.s_drop ?_
    | refine L3.s_un ?_ | refine L3.s_U ?_ | refine L3.s_int ?_ | refine L3.s_intB ?_ | refine L3.s_abs ?_ | refine L3.s_andV ?_ | refine L3.s_orV ?_ | refine L3.s_notV ?_ | refine L3.s_ifE ?_ | refine L3.s_call ?_ | refine L3.s_lst ?_ | refine L3.s_tup ?_ | refine L3.s_tB ?_
    | refine L3.s_addI ?_ | refine L3.s_inS ?_ | refine L3.s_ninS ?_ | refine L3.s_slice ?_ | refine L3.s_part ?_ | refine L3.s_partI ?_ | refine L3.s_nopart ?_ | refine L3.s_cI ?_ | refine L3.s_cB ?_ | refine L3.s_chain ?_ | refine L3.s_bm ?_ | refine L3.s_lcS ?_ | refine L3.s_lcR ?_ | refine L3.s_strE ?_
    | refine L2.iteT ?_ | refine L2.iteF ?_ | refine L3.iteNF ?_ | refine L3.iteNT ?_
    | refine L3.s_eqI ?_ | refine L3.s_neI ?_ | refine L3.s_eqS ?_ | refine L3.s_neS ?_
    | refine L3.s_pair ?_ | refine L3.s_pair2 ?_ | refine L3.s_fld ?_ | refine L3.s_make ?_ | refine L3.s_m1 ?_ | refine L3.s_isstr ?_
    | refine L3.s_xfV ?_ | refine L3.s_lstN ?_ | refine L3.s_callF ?_ | refine L3.s_lcL ?_ | refine L3.s_par3 ?_ | refine L3.s_trip ?_ | refine L3.s_asgT' ?_ | refine L3.s_gC ?_ | refine L3.s_gN ?_ | refine L3.s_fldG ?_ | refine L3.s_raise1 ?_ | refine L3.s_raise2 ?_ | refine L3.s_star ?_ | refine L3.s_mkCR ?_ | refine L3.s_lcZ ?_ | refine L3.s_forL ?_ | refine L3.s_forT ?_ | refine L3.s_gNm ?_ | refine L3.s_forE ?_ | refine L3.s_stC ?_ | refine L3.s_cmC ?_ | refine L3.s_forR1 ?_ | refine L3.s_lcTp ?_ | refine L3.s_forZ ?_ | refine L3.s_orT ?_ | refine L3.s_mt ?_ | refine L3.s_revT ?_ | refine L3.s_revL ?_ | refine L3.s_slOwn ?_ | refine L3.s_sl3 ?_ | refine L3.s_lcO ?_ | refine L3.s_stR ?_
    | refine L3.s_isN ?_ | refine L3.s_isB ?_ | refine L3.s_nisN ?_ | refine L3.s_nisB ?_
  | ((with_reducible refine' L3.s_var ?e ?_); (case e => rfl))
  | ((with_reducible refine' L3.s_aug ?e ?_); (case e => rfl))
  | ((with_reducible refine' L3.s_pow ?c ?_); (case c => exact ⟨by decide, by decide, by decide⟩)))
local macro_rules | `(tactic| tm_at "s") => `(tactic| repeat tm_at "s1")
namespace K53
open PySem PySem.NumText PySem.Spec PyProof.Rows L2 L3 LamX RZ ClX
def topS (i : Nat) : Stmt := PySem.Challenge.pw_latechunks_k53_pieces_with_far_begins.main.body.getD i (.Pass ⟨0, 0, 0, 0⟩)
structure Cl (K : PySem.W.Frag) (mg : Str → Option Value) (x : Str) (C : Addr) : Prop where
  g : ∃ u, mg x = some u ∧ RelV (.ref C) u
  cl : Cls K C
  kC : PySem.W.kitOne K (.ref C) (.ref C) = some true
  ha : PySem.W.findIn K (.ref C) "__class__" = some (some (.builtin "object.__class__"))
  hn : PySem.W.specialIn K (.builtin "object.__class__") "__get__" = some (some (.builtin "getset_descriptor.__get__"))
  htk : PySem.W.takesIn K (.builtin "object.__class__") = some true
  hm : PySem.W.mroIn K C (.type "object") = some true
  nM : NoAttr K C "modulus"
  nP : NoAttr K C "parts"
structure Er (K : PySem.W.Frag) (mg : Str → Option Value) (x : Str) (C CL : Addr) (fs : List Str) : Prop where
  g : ∃ u, mg x = some u ∧ RelV (.ref C) u
  exc : ExcC K C
  xf : XfC K C
  nV : ∀ f ∈ fs, PySem.W.findIn K (.ref C) f = some none
  kB : PySem.W.kitOne K (.ref C) (.ref C) = some true
  em : PySem.W.exmOne K (.ref C) (.ref CL) = some true
structure Txt (K : PySem.W.Frag) (mg : Str → Option Value) (C : RA) (CR0 CY CS CR CM CL : Addr) : Prop where
  b_isinstance : mg "isinstance" = none
  b_int : mg "int" = none
  b_bool : mg "bool" = none
  b_len : mg "len" = none
  b_abs : mg "abs" = none
  b_list : mg "list" = none
  b_tuple : mg "tuple" = none
  b_range : mg "range" = none
  b_repr : mg "repr" = none
  b_str : mg "str" = none
  b_min : mg "min" = none
  b_max : mg "max" = none
  b_all : mg "all" = none
  b_enumerate : mg "enumerate" = none
  g_LateError : mg "LateError" = some (.ref CL)
  g_lcm : mg "lcm" = some (.builtin "math.lcm")
  g_Rule : ∃ u, mg "Rule" = some u ∧ RelV (.ref CR0) u
  f : Cl K mg "Fixed" C.f
  d : Cl K mg "Divided" C.d
  l : Cl K mg "Lesser" C.l
  g : Cl K mg "Greater" C.g
  y : Cl K mg "By" CY
  s : Er K mg "BadSize" CS CL ["value"]
  r : Er K mg "BadRule" CR CL ["part"]
  m : Er K mg "TooMany" CM CL ["what", "most"]
  kJ : ∀ i, i < 4 → PySem.W.kitAny K (.ref (C.at i)) C.vs = some true
  kYJ : PySem.W.kitAny K (.ref CY) C.vs = some false
  kTJ : (numTys.all fun T => decide (PySem.W.kitAny K (.type T) C.vs = some false)) = true
  kE : ∀ i j, i < 4 → j < 4 → PySem.W.kitOne K (.ref (C.at i)) (.ref (C.at j)) = some (decide (i = j))
  kYE : ∀ j, j < 4 → PySem.W.kitOne K (.ref CY) (.ref (C.at j)) = some false
  kTE : ∀ j, j < 4 → (numTys.all fun T => decide (PySem.W.kitOne K (.type T) (.ref (C.at j)) = some false)) = true
  kR : ∀ i, i < 4 → PySem.W.kitOne K (.ref (C.at i)) (.ref CR0) = some true
  nFs : NoAttr K C.f "size"
  nDx : NoAttr K C.d "x"
  nDy : NoAttr K C.d "y"
  nDw : NoAttr K C.d "w"
  nLo : NoAttr K C.l "one"
  nLt : NoAttr K C.l "other"
  nGo : NoAttr K C.g "one"
  nGt : NoAttr K C.g "other"
  nYf : NoAttr K CY "function"
  g_MOST_SIZE : ∃ u, mg "MOST_SIZE" = some u ∧ RelV (.int (10 ^ 30)) u
  g_MOST_DIVISOR : ∃ u, mg "MOST_DIVISOR" = some u ∧ RelV (.int 24) u
  g_MOST_ADDED : ∃ u, mg "MOST_ADDED" = some u ∧ RelV (.int 1000) u
  g_MOST_PARTS : ∃ u, mg "MOST_PARTS" = some u ∧ RelV (.int 6) u
  g_MOST_RESIDUES : ∃ u, mg "MOST_RESIDUES" = some u ∧ RelV (.int 5000) u
theorem Cl.ty {K : PySem.W.Frag} {mg : Str → Option Value} {x : Str} {C : Addr} (T : Cl K mg x C) {H : Hp} {p dx : Addr} {fs : List (Str × V)} (e : H p = some (.ins C dx fs)) : TyA K H (.ref p) (.ref C) := .x (.base (.ins e T.cl T.ha T.hn T.htk T.hm))
section
variable {K : PySem.W.Frag} {mg : Str → Option Value} {C : RA} {CR0 CY CS CR CM CL : Addr}
theorem Txt.g_Fixed (T : Txt K mg C CR0 CY CS CR CM CL) : ∃ u, mg "Fixed" = some u ∧ RelV (.ref C.f) u := T.f.g
theorem Txt.g_Divided (T : Txt K mg C CR0 CY CS CR CM CL) : ∃ u, mg "Divided" = some u ∧ RelV (.ref C.d) u := T.d.g
theorem Txt.g_Lesser (T : Txt K mg C CR0 CY CS CR CM CL) : ∃ u, mg "Lesser" = some u ∧ RelV (.ref C.l) u := T.l.g
theorem Txt.g_Greater (T : Txt K mg C CR0 CY CS CR CM CL) : ∃ u, mg "Greater" = some u ∧ RelV (.ref C.g) u := T.g.g
theorem Txt.g_By (T : Txt K mg C CR0 CY CS CR CM CL) : ∃ u, mg "By" = some u ∧ RelV (.ref CY) u := T.y.g
/-- the class at an index -/
theorem Txt.cls (T : Txt K mg C CR0 CY CS CR CM CL) : ∀ {i : Nat}, i < 4 → ∃ x, Cl K mg x (C.at i)
  | 0, _ => ⟨_, T.f⟩
  | 1, _ => ⟨_, T.d⟩
  | 2, _ => ⟨_, T.l⟩
  | 3, _ => ⟨_, T.g⟩
  | i + 4, h => absurd h (by omega)
theorem ru_ty (T : Txt K mg C CR0 CY CS CR CM CL) {H : Hp} {t : RT} {p : Addr} {ps : List Addr} (h : RuAt C H t p ps) : TyX K H (.ref p) (.ref (C.at t.ix)) := by
  obtain ⟨dx, fs, tp, a, _⟩ := h.ins
  obtain ⟨x, c⟩ := T.cls t.ix_lt
  exact .base (.ins a c.cl c.ha c.hn c.htk c.hm)
end
abbrev s_is_integer : Stmt := topS 11
theorem sc_is_integer : FnScope ["value"] ["value"] (defScope s_is_integer) := ⟨rfl, rfl, rfl, by decide +kernel, rfl, by decide +kernel, by decide +kernel⟩
abbrev s_is_within : Stmt := topS 12
theorem sc_is_within : FnScope ["value", "least", "most"] ["value", "least", "most"] (defScope s_is_within) := ⟨rfl, rfl, rfl, by decide +kernel, rfl, by decide +kernel, by decide +kernel⟩
abbrev s_is_size : Stmt := topS 13
theorem sc_is_size : FnScope ["value"] ["value"] (defScope s_is_size) := ⟨rfl, rfl, rfl, by decide +kernel, rfl, by decide +kernel, by decide +kernel⟩
abbrev s_Fixed___init__ : Stmt := inClass (topS 26) 0
theorem sc_Fixed___init__ : FnScope ["self", "size"] ["self", "size"] (defScope s_Fixed___init__) := ⟨rfl, rfl, rfl, by decide +kernel, rfl, by decide +kernel, by decide +kernel⟩
abbrev s_Divided___init__ : Stmt := inClass (topS 27) 0
theorem sc_Divided___init__ : FnScope ["self", "x", "y", "w"] ["self", "x", "y", "w"] (defScope s_Divided___init__) := ⟨rfl, rfl, rfl, by decide +kernel, rfl, by decide +kernel, by decide +kernel⟩
abbrev s_By___init__ : Stmt := inClass (topS 30) 0
theorem sc_By___init__ : FnScope ["self", "function"] ["self", "function"] (defScope s_By___init__) := ⟨rfl, rfl, rfl, by decide +kernel, rfl, by decide +kernel, by decide +kernel⟩
abbrev s_is_joinable : Stmt := topS 31
theorem sc_is_joinable : FnScope ["value"] ["value"] (defScope s_is_joinable) := ⟨rfl, rfl, rfl, by decide +kernel, rfl, by decide +kernel, by decide +kernel⟩
abbrev s_need_joined : Stmt := topS 32
theorem sc_need_joined : FnScope ["one", "other"] ["one", "other"] (defScope s_need_joined) := ⟨rfl, rfl, rfl, by decide +kernel, rfl, by decide +kernel, by decide +kernel⟩
abbrev s_need_sides : Stmt := topS 33
theorem sc_need_sides : FnScope ["one", "other"] ["one", "other"] (defScope s_need_sides) := ⟨rfl, rfl, rfl, by decide +kernel, rfl, by decide +kernel, by decide +kernel⟩
abbrev s_Lesser___init__ : Stmt := inClass (topS 28) 0
theorem sc_Lesser___init__ : FnScope ["self", "one", "other"] ["self", "one", "other"] (defScope s_Lesser___init__) := ⟨rfl, rfl, rfl, by decide +kernel, rfl, by decide +kernel, by decide +kernel⟩
abbrev s_Greater___init__ : Stmt := inClass (topS 29) 0
theorem sc_Greater___init__ : FnScope ["self", "one", "other"] ["self", "one", "other"] (defScope s_Greater___init__) := ⟨rfl, rfl, rfl, by decide +kernel, rfl, by decide +kernel, by decide +kernel⟩
abbrev s_Fixed___and__ : Stmt := inClass (topS 26) 5
theorem sc_Fixed___and__ : FnScope ["self", "other"] ["self", "other"] (defScope s_Fixed___and__) := ⟨rfl, rfl, rfl, by decide +kernel, rfl, by decide +kernel, by decide +kernel⟩
abbrev s_Fixed___or__ : Stmt := inClass (topS 26) 6
theorem sc_Fixed___or__ : FnScope ["self", "other"] ["self", "other"] (defScope s_Fixed___or__) := ⟨rfl, rfl, rfl, by decide +kernel, rfl, by decide +kernel, by decide +kernel⟩
abbrev s_Divided___and__ : Stmt := inClass (topS 27) 6
theorem sc_Divided___and__ : FnScope ["self", "other"] ["self", "other"] (defScope s_Divided___and__) := ⟨rfl, rfl, rfl, by decide +kernel, rfl, by decide +kernel, by decide +kernel⟩
abbrev s_Divided___or__ : Stmt := inClass (topS 27) 7
theorem sc_Divided___or__ : FnScope ["self", "other"] ["self", "other"] (defScope s_Divided___or__) := ⟨rfl, rfl, rfl, by decide +kernel, rfl, by decide +kernel, by decide +kernel⟩
abbrev s_Lesser___and__ : Stmt := inClass (topS 28) 5
theorem sc_Lesser___and__ : FnScope ["self", "other"] ["self", "other"] (defScope s_Lesser___and__) := ⟨rfl, rfl, rfl, by decide +kernel, rfl, by decide +kernel, by decide +kernel⟩
abbrev s_Lesser___or__ : Stmt := inClass (topS 28) 6
theorem sc_Lesser___or__ : FnScope ["self", "other"] ["self", "other"] (defScope s_Lesser___or__) := ⟨rfl, rfl, rfl, by decide +kernel, rfl, by decide +kernel, by decide +kernel⟩
abbrev s_Greater___and__ : Stmt := inClass (topS 29) 5
theorem sc_Greater___and__ : FnScope ["self", "other"] ["self", "other"] (defScope s_Greater___and__) := ⟨rfl, rfl, rfl, by decide +kernel, rfl, by decide +kernel, by decide +kernel⟩
abbrev s_Greater___or__ : Stmt := inClass (topS 29) 6
theorem sc_Greater___or__ : FnScope ["self", "other"] ["self", "other"] (defScope s_Greater___or__) := ⟨rfl, rfl, rfl, by decide +kernel, rfl, by decide +kernel, by decide +kernel⟩
abbrev s_By___and__ : Stmt := inClass (topS 30) 5
theorem sc_By___and__ : FnScope ["self", "other"] ["self", "other"] (defScope s_By___and__) := ⟨rfl, rfl, rfl, by decide +kernel, rfl, by decide +kernel, by decide +kernel⟩
abbrev s_By___or__ : Stmt := inClass (topS 30) 6
theorem sc_By___or__ : FnScope ["self", "other"] ["self", "other"] (defScope s_By___or__) := ⟨rfl, rfl, rfl, by decide +kernel, rfl, by decide +kernel, by decide +kernel⟩
section
variable {P : Program} {w : World} {K : PySem.W.Frag} {mg : Str → Option Value} {base : Heap} {C : RA} {CR0 CY CS CR CM CL : Addr}
theorem ok_is_integer {f : Addr} {fd : FuncData} (F : Fun K "is_integer" "is_integer" s_is_integer f fd) (T : Txt K mg C CR0 CY CS CR CM CL) : FnOk P w K mg base CX0 1 f fd ["value"] spIsI := by
  refine funO F sc_is_integer (fun vs H Q E h => ?_) (fun cd A fr s H vs Q E hr h => ?_)
  · obtain ⟨x, rfl, _⟩ := h; rfl
  · obtain ⟨x, rfl, ⟨i, rfl, k⟩ | ⟨t, hk, k⟩⟩ := h
    · refine ⟨_, (pss_one (ps_ret (pe_and (pe_callB (KX.callIsi (K := K)) (by rfl) T.b_isinstance (by decide +kernel) (pa_cons (pv 0) (pa_cons (pe_bltn (v := .ty "int") (u := .type "int") (by rfl) T.b_int (by decide +kernel) rfl) pa_nil))) (pe_one (pe_not (pe_callB (KX.callIsi (K := K)) (by rfl) T.b_isinstance (by decide +kernel) (pa_cons (pv 0) (pa_cons (pe_bltn (v := .ty "bool") (u := .type "bool") (by rfl) T.b_bool (by decide +kernel) rfl) pa_nil)))))))), ?_⟩
      tm_at "s"
      refine s_isiT (.x (.base (.int i))) (b := true) (kit_ty (by decide +kernel)) ?_
      tm_at "s"
      refine s_isiT (.x (.base (.int i))) (b := false) (kit_ty (by decide +kernel)) ?_
      tm_at "s"
      exact k
    · refine ⟨_, (pss_one (ps_ret (pe_and (pe_callB (KX.callIsi (K := K)) (by rfl) T.b_isinstance (by decide +kernel) (pa_cons (pv 0) (pa_cons (pe_bltn (v := .ty "int") (u := .type "int") (by rfl) T.b_int (by decide +kernel) rfl) pa_nil))) (pe_one (pe_not (pe_callB (KX.callIsi (K := K)) (by rfl) T.b_isinstance (by decide +kernel) (pa_cons (pv 0) (pa_cons (pe_bltn (v := .ty "bool") (u := .type "bool") (by rfl) T.b_bool (by decide +kernel) rfl) pa_nil)))))))), ?_⟩
      tm_at "s"
      rcases hk.noInt (K := K) with ⟨b, rfl⟩ | ⟨ty, h1, h2⟩
      · refine s_isiT (.x (.base (.bl b))) (b := true) (kit_ty (by decide +kernel)) ?_
        tm_at "s"
        refine s_isiT (.x (.base (.bl b))) (b := true) (kit_ty (by decide +kernel)) ?_
        tm_at "s"
        exact k
      · refine s_isiT h1 h2 ?_
        tm_at "s"
        exact k
theorem ok_is_within {f : Addr} {fd : FuncData} (F : Fun K "is_within" "is_within" s_is_within f fd) (T : Txt K mg C CR0 CY CS CR CM CL) (c_is_integer : FnO P w K mg base CX0 1 "is_integer" ["value"] spIsI) : FnOk P w K mg base CX0 2 f fd ["value", "least", "most"] spWithin := by
  refine funO F sc_is_within (fun vs H Q E h => ?_) (fun cd A fr s H vs Q E hr h => ?_)
  · obtain ⟨x, a, b, rfl, _⟩ := h; rfl
  · obtain ⟨x, a, b, rfl, hc⟩ := h
    refine ⟨_, (pss_one (ps_ret (pe_and (pe_o c_is_integer hr pass0 (pa_cons (pv 0) pa_nil)) (pe_one (pe_chain op_le op_le (pv 1) (pv 0) (pv 2)))))), ?_⟩
    tm_at "s"
    rcases hc with ⟨⟨i, rfl, h1, h2⟩, k⟩ | ⟨⟨t, od⟩ | ⟨i, rfl, hn⟩, k⟩
    · refine ⟨_, rfl, .inl ⟨i, rfl, ?_⟩⟩
      tm_at "s"
      refine iteD (fun _ => ?_) (fun z => absurd h1 z)
      tm_at "s"
      rw [decide_eq_true h2]
      exact k
    · refine ⟨_, rfl, .inr ⟨t, od, ?_⟩⟩
      tm_at "s"
      exact k
    · refine ⟨_, rfl, .inl ⟨i, rfl, ?_⟩⟩
      tm_at "s"
      refine iteD (fun z => ?_) (fun z => ?_)
      · tm_at "s"
        rw [decide_eq_false (fun y => hn ⟨z, y⟩)]
        exact k
      · tm_at "s"
        exact k
theorem ok_is_size {f : Addr} {fd : FuncData} (F : Fun K "is_size" "is_size" s_is_size f fd) (T : Txt K mg C CR0 CY CS CR CM CL) (c_is_within : FnO P w K mg base CX0 2 "is_within" ["value", "least", "most"] spWithin) : FnOk P w K mg base CX0 3 f fd ["value"] spSize := by
  refine funO F sc_is_size (fun vs H Q E h => ?_) (fun cd A fr s H vs Q E hr h => ?_)
  · obtain ⟨x, rfl, _⟩ := h; rfl
  · obtain ⟨x, rfl, hc⟩ := h
    refine ⟨_, (pss_one (ps_ret (pe_o c_is_within hr pass0 (pa_cons (pv 0) (pa_cons pe_int (pa_cons (C8.pe_gc (by rfl) T.g_MOST_SIZE) pa_nil)))))), ?_⟩
    tm_at "s"
    exact ⟨x, 1, 10 ^ 30, rfl, hc⟩
theorem ok_fixed {f : Addr} {fd : FuncData} (F : Fun K "__init__" "Fixed.__init__" s_Fixed___init__ f fd) (T : Txt K mg C CR0 CY CS CR CM CL) (c_is_size : FnO P w K mg base CX0 3 "is_size" ["value"] spSize) (e_BadSize : Er1 P w K mg base "BadSize" CS "value") : FnOk P w K mg base (L2.CX P w) 4 f fd ["self", "size"] (spFx C.f CS) := by
  refine funO F sc_Fixed___init__ (fun vs H Q E h => ?_) (fun cd A fr s H vs Q E hr h => ?_)
  · obtain ⟨p, dx, x, rfl, _⟩ := h; rfl
  · obtain ⟨p, dx, x, rfl, hp, hc⟩ := h
    refine ⟨_, (pss_cons (ps_if (pt_not (pt_val (pe_o c_is_size hr pass0 (pa_cons (pv 1) pa_nil)))) (pss_one (ps_raise1 e_BadSize hr rfl (takes_of rfl rfl rfl rfl) (pa_cons (pv 1) pa_nil))) pss_nil)
      (pss_cons (ps_fld (pv 0) (pv 1) rfl)
      (pss_cons (ps_fld (pv 0) (pe_tup (pa_cons (pv 0) pa_nil)) rfl)
      (pss_one (ps_fld (pv 0) pe_int rfl))))), ?_⟩
    tm_at "s"
    rcases hc with ⟨i, rfl, hi, m⟩ | ⟨ho, rz⟩
    · refine ⟨_, rfl, .inl ⟨⟨i, rfl, hi⟩, ?_⟩⟩
      tm_at "s"
      refine ⟨p, C.f, dx, [], rfl, hp, T.f.cl, T.nFs, by decide, ?_⟩
      tm_at "s"
      refine s_new (Nat.le_of_lt (small1000 (by simp))) fun t H2 ht e2 h2 => ?_
      tm_at "s"
      have htp : t ≠ p := fun z => by rw [z, upd_same] at ht; cases ht
      refine ⟨p, C.f, dx, _, rfl, e2 _ _ upd_same, T.f.cl, T.f.nP, (by show 1 < 1000; decide), ?_⟩
      tm_at "s"
      refine ⟨p, C.f, dx, _, rfl, upd_same, T.f.cl, T.f.nM, (by show 2 < 1000; decide), ?_⟩
      refine m t _ ?_ htp (fun c o h1 e => ?_) ?_ upd_same
      · rw [upd_ne htp] at ht; exact ht
      · rw [upd_ne h1, upd_ne h1]; exact e2 _ _ (by rw [upd_ne h1]; exact e)
      · rw [upd_ne htp, upd_ne htp]; exact h2
    · refine ⟨_, rfl, .inr ⟨ho, ?_⟩⟩
      tm_at "s"
      exact s_rz rz
theorem ok_divided {f : Addr} {fd : FuncData} (F : Fun K "__init__" "Divided.__init__" s_Divided___init__ f fd) (T : Txt K mg C CR0 CY CS CR CM CL) (c_is_within : FnO P w K mg base CX0 2 "is_within" ["value", "least", "most"] spWithin) (e_BadRule : Er1 P w K mg base "BadRule" CR "part") : FnOk P w K mg base (L2.CX P w) 3 f fd ["self", "x", "y", "w"] (spDv C.d CR) := by
  refine funO F sc_Divided___init__ (fun vs H Q E h => ?_) (fun cd A fr s H vs Q E hr h => ?_)
  · obtain ⟨p, dx, a, b, c, rfl, _⟩ := h; rfl
  · obtain ⟨p, dx, a, b, c, rfl, hp, hc⟩ := h
    refine ⟨_, (pss_cons (ps_if (pt_not (pt_val (pe_o c_is_within hr pass0 (pa_cons (pv 1) (pa_cons pe_int (pa_cons (C8.pe_gc (by rfl) T.g_MOST_DIVISOR) pa_nil)))))) (pss_one (ps_raise1 e_BadRule hr rfl (takes_of rfl rfl rfl rfl) (pa_cons pe_str pa_nil))) pss_nil)
      (pss_cons (ps_if (pt_not (pt_val (pe_o c_is_within hr pass0 (pa_cons (pv 2) (pa_cons (pe_un un_neg (C8.pe_gc (by rfl) T.g_MOST_ADDED)) (pa_cons (C8.pe_gc (by rfl) T.g_MOST_ADDED) pa_nil)))))) (pss_one (ps_raise1 e_BadRule hr rfl (takes_of rfl rfl rfl rfl) (pa_cons pe_str pa_nil))) pss_nil)
      (pss_cons (ps_if (pt_not (pt_val (pe_o c_is_within hr pass0 (pa_cons (pv 3) (pa_cons pe_int (pa_cons (C8.pe_gc (by rfl) T.g_MOST_DIVISOR) pa_nil)))))) (pss_one (ps_raise1 e_BadRule hr rfl (takes_of rfl rfl rfl rfl) (pa_cons pe_str pa_nil))) pss_nil)
      (pss_cons (ps_fld (pv 0) (pv 1) rfl)
      (pss_cons (ps_fld (pv 0) (pv 2) rfl)
      (pss_cons (ps_fld (pv 0) (pv 3) rfl)
      (pss_cons (ps_fld (pv 0) (pe_tup (pa_cons (pv 0) pa_nil)) rfl)
      (pss_one (ps_fld (pv 0) (pv 3) rfl))))))))), ?_⟩
    tm_at "s"
    rcases hc with ⟨x, y, w', rfl, rfl, rfl, hx, hy, hw, m⟩ | ⟨z, hz, rz⟩
    · refine ⟨_, _, _, rfl, .inl ⟨⟨x, rfl, hx⟩, ?_⟩⟩
      tm_at "s"
      refine ⟨_, _, _, rfl, .inl ⟨⟨y, rfl, hy⟩, ?_⟩⟩
      tm_at "s"
      refine ⟨_, _, _, rfl, .inl ⟨⟨w', rfl, hw⟩, ?_⟩⟩
      tm_at "s"
      refine ⟨p, C.d, dx, [], rfl, hp, T.d.cl, T.nDx, by decide, ?_⟩
      tm_at "s"
      refine ⟨p, C.d, dx, _, rfl, upd_same, T.d.cl, T.nDy, (by show 1 < 1000; decide), ?_⟩
      tm_at "s"
      refine ⟨p, C.d, dx, _, rfl, upd_same, T.d.cl, T.nDw, (by show 2 < 1000; decide), ?_⟩
      tm_at "s"
      refine s_new (Nat.le_of_lt (small1000 (by simp))) fun t H2 ht e2 h2 => ?_
      tm_at "s"
      have htp : t ≠ p := fun z => by rw [z, upd_same] at ht; cases ht
      refine ⟨p, C.d, dx, _, rfl, e2 _ _ upd_same, T.d.cl, T.d.nP, (by show 3 < 1000; decide), ?_⟩
      tm_at "s"
      refine ⟨p, C.d, dx, _, rfl, upd_same, T.d.cl, T.d.nM, (by show 4 < 1000; decide), ?_⟩
      refine m t _ ?_ htp (fun c o h1 e => ?_) ?_ upd_same
      · rw [upd_ne htp, upd_ne htp, upd_ne htp] at ht; exact ht
      · rw [upd_ne h1, upd_ne h1]; exact e2 _ _ (by rw [upd_ne h1, upd_ne h1, upd_ne h1]; exact e)
      · rw [upd_ne htp, upd_ne htp]; exact h2
    · rcases hz with ⟨h1, rfl⟩ | ⟨h1, h2, rfl⟩ | ⟨h1, h2, h3, rfl⟩
      · refine ⟨_, _, _, rfl, .inr ⟨h1, ?_⟩⟩
        tm_at "s"
        exact s_rz rz
      · refine ⟨_, _, _, rfl, .inl ⟨h1, ?_⟩⟩
        tm_at "s"
        refine ⟨_, _, _, rfl, .inr ⟨h2, ?_⟩⟩
        tm_at "s"
        exact s_rz rz
      · refine ⟨_, _, _, rfl, .inl ⟨h1, ?_⟩⟩
        tm_at "s"
        refine ⟨_, _, _, rfl, .inl ⟨h2, ?_⟩⟩
        tm_at "s"
        refine ⟨_, _, _, rfl, .inr ⟨h3, ?_⟩⟩
        tm_at "s"
        exact s_rz rz
theorem ok_by {f : Addr} {fd : FuncData} (F : Fun K "__init__" "By.__init__" s_By___init__ f fd) (T : Txt K mg C CR0 CY CS CR CM CL) : FnOk P w K mg base (L2.CX P w) 1 f fd ["self", "function"] (spBy CY) := by
  refine funO F sc_By___init__ (fun vs H Q E h => ?_) (fun cd A fr s H vs Q E hr h => ?_)
  · obtain ⟨p, dx, x, rfl, _⟩ := h; rfl
  · obtain ⟨p, dx, x, rfl, hp, m⟩ := h
    refine ⟨_, (pss_cons (ps_fld (pv 0) (pv 1) rfl)
      (pss_cons (ps_fld (pv 0) (pe_tup pa_nil) rfl)
      (pss_one (ps_fld (pv 0) pe_int rfl)))), ?_⟩
    tm_at "s"
    refine ⟨p, CY, dx, [], rfl, hp, T.y.cl, T.nYf, by decide, ?_⟩
    tm_at "s"
    refine s_new (Nat.le_of_lt (small1000 (by simp))) fun t H2 ht e2 h2 => ?_
    tm_at "s"
    have htp : t ≠ p := fun z => by rw [z, upd_same] at ht; cases ht
    refine ⟨p, CY, dx, _, rfl, e2 _ _ upd_same, T.y.cl, T.y.nP, (by show 1 < 1000; decide), ?_⟩
    tm_at "s"
    refine ⟨p, CY, dx, _, rfl, upd_same, T.y.cl, T.y.nM, (by show 2 < 1000; decide), ?_⟩
    refine m t _ ?_ htp (fun c o h1 e => ?_) ?_ upd_same
    · rw [upd_ne htp] at ht; exact ht
    · rw [upd_ne h1, upd_ne h1]; exact e2 _ _ (by rw [upd_ne h1]; exact e)
    · rw [upd_ne htp, upd_ne htp]; exact h2
theorem ok_jnb {f : Addr} {fd : FuncData} (F : Fun K "is_joinable" "is_joinable" s_is_joinable f fd) (T : Txt K mg C CR0 CY CS CR CM CL) : FnOk P w K mg base CX0 1 f fd ["value"] (spJnb K C) := by
  refine funO F sc_is_joinable (fun vs H Q E h => ?_) (fun cd A fr s H vs Q E hr h => ?_)
  · obtain ⟨x, rfl, _⟩ := h; rfl
  · obtain ⟨x, rfl, hc⟩ := h
    refine ⟨_, (pss_one (ps_ret (pe_callB (KX.isiTT (K := K) rfl) (by rfl) T.b_isinstance (by decide +kernel) (pa_cons (pv 0) (pa_cons (pe_tup (pa_cons (C8.pe_gc (by rfl) T.g_Fixed) (pa_cons (C8.pe_gc (by rfl) T.g_Divided) (pa_cons (C8.pe_gc (by rfl) T.g_Lesser) (pa_cons (C8.pe_gc (by rfl) T.g_Greater) pa_nil))))) pa_nil))))), ?_⟩
    tm_at "s"
    refine s_new (Nat.le_of_lt (small1000 (by simp))) fun tp H1 n1 e1 h1 => ?_
    tm_at "s"
    rcases hc with ⟨⟨t, ps, ht, p, rfl, ru⟩, k⟩ | ⟨⟨ty, a, b⟩, k⟩
    · exact ⟨_, tp, _, _, _, true, rfl, h1, .cons (.own _) (.cons (.own _) (.cons (.own _) (.cons (.own _) .nil))), ru_ty T (ru.ex e1), T.kJ _ t.ix_lt, k H1 e1⟩
    · exact ⟨_, tp, _, _, _, false, rfl, h1, .cons (.own _) (.cons (.own _) (.cons (.own _) (.cons (.own _) .nil))), L3.TyX.exN a e1.n, b, k H1 e1⟩
theorem fld_of (T : Txt K mg C CR0 CY CS CR CM CL) {H : Hp} {t : RT} {p : Addr} {ps : List Addr} (ru : RuAt C H t p ps) (ht : t.ok) : ∃ x dx fs tp, Cl K mg x (C.at t.ix) ∧ H p = some (.ins (C.at t.ix) dx fs) ∧ fs.lookup ("parts" : Str) = some (.ref tp) ∧ H tp = some (.tup (ps.map V.ref)) ∧ fs.lookup ("modulus" : Str) = some (.int ((t.md : Nat) : Int)) := by
  obtain ⟨dx, fs, tp, a, b, c, m, d, e⟩ := ru.ins
  obtain ⟨x, cl⟩ := T.cls t.ix_lt
  rw [e ht] at d
  exact ⟨x, dx, fs, tp, cl, a, b, c, d⟩
theorem ok_needJ {f : Addr} {fd : FuncData} (F : Fun K "need_joined" "need_joined" s_need_joined f fd) (T : Txt K mg C CR0 CY CS CR CM CL) (c_is_joinable : FnO P w K mg base CX0 1 "is_joinable" ["value"] (spJnb K C)) (e_BadRule : Er1 P w K mg base "BadRule" CR "part") (e_TooMany : Er2 P w K mg base "TooMany" CM "what" "most") :
    FnOk P w K mg base (L2.CX P w) 3 f fd ["one", "other"] (spNeedJ K C CR CM) := by
  refine funO F sc_need_joined (fun vs H Q E h => ?_) (fun cd A fr s H vs Q E hr h => ?_)
  · obtain ⟨x, y, rfl, _⟩ := h; rfl
  · obtain ⟨x, y, rfl, hc⟩ := h
    refine ⟨_, (pss_cons (ps_if (pt_not (pt_val (pe_o c_is_joinable hr pass0 (pa_cons (pv 0) pa_nil)))) (pss_one (ps_raise1 e_BadRule hr rfl (takes_of rfl rfl rfl rfl) (pa_cons pe_str pa_nil))) pss_nil)
      (pss_cons (ps_if (pt_not (pt_val (pe_o c_is_joinable hr pass0 (pa_cons (pv 1) pa_nil)))) (pss_one (ps_raise1 e_BadRule hr rfl (takes_of rfl rfl rfl rfl) (pa_cons pe_str pa_nil))) pss_nil)
      (pss_cons (ps_if (pt_cmpR op_gt (pe_op opAdd (pe_callB (KX.callLen (K := K)) (by rfl) T.b_len (by decide +kernel) (pa_cons (KX.fld (K := K) rfl (pv 0) rfl) pa_nil)) (pe_callB (KX.callLen (K := K)) (by rfl) T.b_len (by decide +kernel) (pa_cons (KX.fld (K := K) rfl (pv 1) rfl) pa_nil))) (C8.pe_gc (by rfl) T.g_MOST_PARTS) (nomark _)) (pss_one (ps_raise2 e_TooMany hr rfl (takes_of rfl rfl rfl rfl) (pa_cons pe_str (pa_cons (C8.pe_gc (by rfl) T.g_MOST_PARTS) pa_nil)))) pss_nil)
      (pss_one (ps_if (pt_cmpR op_gt (pe_callBfun cr_lcm (by rfl) T.g_lcm (pa_cons (KX.fld (K := K) rfl (pv 0) rfl) (pa_cons (KX.fld (K := K) rfl (pv 1) rfl) pa_nil))) (C8.pe_gc (by rfl) T.g_MOST_RESIDUES) (nomark _)) (pss_one (ps_raise2 e_TooMany hr rfl (takes_of rfl rfl rfl rfl) (pa_cons pe_str (pa_cons (C8.pe_gc (by rfl) T.g_MOST_RESIDUES) pa_nil)))) pss_nil))))), ?_⟩
    tm_at "s"
    rcases hc with ⟨a, _, c⟩ | ⟨a, pa, ha, hc⟩
    · refine ⟨x, rfl, .inr ⟨a, fun H1 e1 => ?_⟩⟩
      tm_at "s"
      exact s_rz (c.ex e1)
    refine ⟨x, rfl, .inl ⟨⟨a, pa, ha⟩, fun H1 e1 => ?_⟩⟩
    tm_at "s"
    rcases hc with ⟨b, c⟩ | ⟨b, pb, hb, hc⟩
    · refine ⟨y, rfl, .inr ⟨b.exN e1.n, fun H2 e2 => ?_⟩⟩
      tm_at "s"
      exact s_rz (c.ex (e1.trans e2))
    refine ⟨y, rfl, .inl ⟨⟨b, pb, hb.exN e1.n⟩, fun H2 e2 => ?_⟩⟩
    have e12 := e1.trans e2
    obtain ⟨fa, p, rfl, ra⟩ := ha
    obtain ⟨fb, q, rfl, rb⟩ := hb
    have la := ra.len
    have lb := rb.len
    have ma := Nat.le_trans fa.md (show 5000 ≤ 100000 by decide)
    have mb := Nat.le_trans fb.md (show 5000 ≤ 100000 by decide)
    obtain ⟨x1, dx1, fs1, tp1, cl1, i1, p1, t1, m1⟩ := fld_of T ra fa.ok
    obtain ⟨x2, dx2, fs2, tp2, cl2, i2, p2, t2, m2⟩ := fld_of T rb fb.ok
    have i1' := e12 _ _ i1
    have i2' := e12 _ _ i2
    tm_at "s"
    refine ⟨p, _, dx1, _, _, rfl, i1', cl1.cl, cl1.nP, p1, ?_⟩
    tm_at "s"
    refine s_lenT (e12 _ _ t1) ?_
    rw [List.length_map, la]
    tm_at "s"
    refine ⟨q, _, dx2, _, _, rfl, i2', cl2.cl, cl2.nP, p2, ?_⟩
    tm_at "s"
    refine s_lenT (e12 _ _ t2) ?_
    rw [List.length_map, lb]
    tm_at "s"
    rcases hc with ⟨h1, rz⟩ | ⟨h1, hc⟩
    · refine iteD (fun _ => ?_) (fun z => absurd (show (6 : Int) < (a.n : Int) + (b.n : Int) by omega) z)
      tm_at "s"
      exact s_rz2 (rz.ex e12)
    refine iteD (fun z => absurd z (by omega)) (fun _ => ?_)
    tm_at "s"
    refine ⟨p, _, dx1, _, _, rfl, i1', cl1.cl, cl1.nM, m1, ?_⟩
    tm_at "s"
    refine ⟨q, _, dx2, _, _, rfl, i2', cl2.cl, cl2.nM, m2, ?_⟩
    tm_at "s"
    refine ⟨a.md, b.md, rfl, ma, mb, ?_⟩
    tm_at "s"
    rcases hc with ⟨h2, rz⟩ | ⟨h2, k⟩
    · refine iteD (fun _ => ?_) (fun z => absurd (show (5000 : Int) < ((Nat.lcm a.md b.md : Nat) : Int) by omega) z)
      tm_at "s"
      exact s_rz2 (rz.ex e12)
    · refine iteD (fun z => absurd z (by omega)) (fun _ => ?_)
      tm_at "s"
      exact k _ _ rfl rfl ra rb H2 e12
theorem ok_needS {f : Addr} {fd : FuncData} (F : Fun K "need_sides" "need_sides" s_need_sides f fd) (T : Txt K mg C CR0 CY CS CR CM CL) (c_is_joinable : FnO P w K mg base CX0 1 "is_joinable" ["value"] (spJnb K C)) (e_BadRule : Er1 P w K mg base "BadRule" CR "part") :
    FnOk P w K mg base (L2.CX P w) 3 f fd ["one", "other"] (spNeedS K C CR) := by
  refine funO F sc_need_sides (fun vs H Q E h => ?_) (fun cd A fr s H vs Q E hr h => ?_)
  · obtain ⟨x, y, rfl, _⟩ := h; rfl
  · obtain ⟨x, y, rfl, hc⟩ := h
    refine ⟨_, (pss_one (ps_if (PW.pt (pw_or (pt_not (pt_val (pe_o c_is_joinable hr pass0 (pa_cons (pv 0) pa_nil)))) (pw_or1 (pt_not (pt_val (pe_o c_is_joinable hr pass0 (pa_cons (pv 1) pa_nil))))))) (pss_one (ps_raise1 e_BadRule hr rfl (takes_of rfl rfl rfl rfl) (pa_cons pe_str pa_nil))) pss_nil)), ?_⟩
    tm_at "s"
    rcases hc with ⟨a, c⟩ | ⟨⟨t, ps, ht⟩, hc⟩
    · refine ⟨x, rfl, .inr ⟨a, fun H1 e1 => ?_⟩⟩
      tm_at "s"
      exact s_rz (c.ex e1)
    refine ⟨x, rfl, .inl ⟨⟨t, ps, ht⟩, fun H1 e1 => ?_⟩⟩
    tm_at "s"
    rcases hc with ⟨b, c⟩ | ⟨⟨u, qs, hu⟩, k⟩
    · refine ⟨y, rfl, .inr ⟨b.exN e1.n, fun H2 e2 => ?_⟩⟩
      tm_at "s"
      exact s_rz (c.ex (e1.trans e2))
    refine ⟨y, rfl, .inl ⟨⟨u, qs, hu.exN e1.n⟩, fun H2 e2 => ?_⟩⟩
    tm_at "s"
    exact k H2 (e1.trans e2)
theorem ok_Lesser {f : Addr} {fd : FuncData} (F : Fun K "__init__" "Lesser.__init__" s_Lesser___init__ f fd) (T : Txt K mg C CR0 CY CS CR CM CL) (c_need_joined : FnO P w K mg base (L2.CX P w) 3 "need_joined" ["one", "other"] (spNeedJ K C CR CM)) :
    FnOk P w K mg base (L2.CX P w) 4 f fd ["self", "one", "other"] (spJn0 K C CR CM true) := by
  refine funO F sc_Lesser___init__ (fun vs H Q E h => ?_) (fun cd A fr s H vs Q E hr h => ?_)
  · obtain ⟨p, dx, x, y, rfl, _⟩ := h; rfl
  · obtain ⟨p, dx, x, y, rfl, hp, hc⟩ := h
    refine ⟨_, (pss_cons (ps_expr (pe_o c_need_joined hr (passT (takes_of rfl rfl rfl rfl) (fun _ _ _ _ h => h)) (pa_cons (pv 1) (pa_cons (pv 2) pa_nil))))
      (pss_cons (ps_fld (pv 0) (pv 1) rfl)
      (pss_cons (ps_fld (pv 0) (pv 2) rfl)
      (pss_cons (ps_fld (pv 0) (pe_tup (KX.star (K := K) rfl (KX.fld (K := K) rfl (pv 1) rfl) (KX.star (K := K) rfl (KX.fld (K := K) rfl (pv 2) rfl) pa_nil))) rfl)
      (pss_one (ps_fld (pv 0) (pe_callBfun cr_lcm (by rfl) T.g_lcm (pa_cons (KX.fld (K := K) rfl (pv 1) rfl) (pa_cons (KX.fld (K := K) rfl (pv 2) rfl) pa_nil))) rfl)))))), ?_⟩
    change H p = some (.ins C.l dx []) at hp
    tm_at "s"
    refine ⟨_, _, rfl, ?_⟩
    rcases hc with ⟨a, b, c⟩ | ⟨a, pa, ha, hc⟩
    · exact .inl ⟨a, b, c⟩
    refine .inr ⟨a, pa, ha, ?_⟩
    rcases hc with ⟨b, c⟩ | ⟨b, pb, hb, hc⟩
    · exact .inl ⟨b, c⟩
    refine .inr ⟨b, pb, hb, ?_⟩
    rcases hc with ⟨h1, rz⟩ | ⟨h1, ⟨h2, rz⟩ | ⟨h2, k⟩⟩
    · exact .inl ⟨h1, rz⟩
    · exact .inr ⟨h1, .inl ⟨h2, rz⟩⟩
    refine .inr ⟨h1, .inr ⟨h2, fun qa qb ex ey ra rb H1 e1 => ?_⟩⟩
    subst ex ey
    have fa := ha.1
    have fb := hb.1
    have hp1 := e1 _ _ hp
    have ma := Nat.le_trans fa.md (show 5000 ≤ 100000 by decide)
    have mb := Nat.le_trans fb.md (show 5000 ≤ 100000 by decide)
    have ra1 := ra.ex e1
    have rb1 := rb.ex e1
    tm_at "s"
    refine ⟨p, C.l, dx, [], rfl, hp1, T.l.cl, T.nLo, by decide, ?_⟩
    have k1 : ∀ {o : HO}, ∀ b o', b ≠ p → H1 b = some o' → upd H1 p o b = some o' := fun b o' hb h => by rw [upd_ne hb]; exact h
    tm_at "s"
    refine ⟨p, C.l, dx, _, rfl, upd_same, T.l.cl, T.nLt, (by show 1 < 1000; decide), ?_⟩
    have k2 : ∀ {o o1 : HO}, ∀ b o', b ≠ p → H1 b = some o' → upd (upd H1 p o1) p o b = some o' := fun b o' hb h => by rw [upd_ne hb, upd_ne hb]; exact h
    obtain ⟨x1, dx1, fs1, tp1, cl1, i1, p1, t1, m1⟩ := fld_of T (ra1.fresh hp1 (k2 (o := .ins C.l dx (putF "other" (.ref qb) (putF "one" (.ref qa) []))) (o1 := .ins C.l dx (putF "one" (.ref qa) [])))) fa.ok
    obtain ⟨x2, dx2, fs2, tp2, cl2, i2, p2, t2, m2⟩ := fld_of T (rb1.fresh hp1 (k2 (o := .ins C.l dx (putF "other" (.ref qb) (putF "one" (.ref qa) []))) (o1 := .ins C.l dx (putF "one" (.ref qa) [])))) fb.ok
    tm_at "s"
    refine ⟨qa, _, dx1, _, _, rfl, i1, cl1.cl, cl1.nP, p1, ?_⟩
    tm_at "s"
    refine ⟨tp1, _, rfl, .inl (.inl (.inl t1)), ?_⟩
    tm_at "s"
    refine ⟨qb, _, dx2, _, _, rfl, i2, cl2.cl, cl2.nP, p2, ?_⟩
    tm_at "s"
    refine ⟨tp2, _, rfl, .inl (.inl (.inl t2)), ?_⟩
    tm_at "s"
    refine s_new (Nat.le_of_lt (small1000 (by simp [ra.len, rb.len]; omega))) fun t H3 ht e3 h3 => ?_
    rw [List.append_nil, ← List.map_append] at h3
    have htp : t ≠ p := fun z => by rw [z, upd_same] at ht; cases ht
    have ht0 : H t = none := e1.free (by rw [upd_ne htp, upd_ne htp] at ht; exact ht)
    tm_at "s"
    refine ⟨p, C.l, dx, _, rfl, e3 _ _ upd_same, T.l.cl, T.l.nP, (by show 2 < 1000; decide), ?_⟩
    have k4 : ∀ {o : HO}, ∀ b o', b ≠ p → H1 b = some o' → upd H3 p o b = some o' := fun b o' hb h => by rw [upd_ne hb]; exact e3 _ _ (k2 _ _ hb h)
    obtain ⟨y1, dy1, gs1, up1, dl1, j1, q1, w1, n1⟩ := fld_of T (ra1.fresh hp1 (k4 (o := .ins C.l dx (putF "parts" (.ref t) (putF "other" (.ref qb) (putF "one" (.ref qa) [])))))) fa.ok
    obtain ⟨y2, dy2, gs2, up2, dl2, j2, q2, w2, n2⟩ := fld_of T (rb1.fresh hp1 (k4 (o := .ins C.l dx (putF "parts" (.ref t) (putF "other" (.ref qb) (putF "one" (.ref qa) [])))))) fb.ok
    tm_at "s"
    refine ⟨qa, _, dy1, _, _, rfl, j1, dl1.cl, dl1.nM, n1, ?_⟩
    tm_at "s"
    refine ⟨qb, _, dy2, _, _, rfl, j2, dl2.cl, dl2.nM, n2, ?_⟩
    tm_at "s"
    refine ⟨a.md, b.md, rfl, ma, mb, ?_⟩
    tm_at "s"
    refine ⟨p, C.l, dx, _, rfl, upd_same, T.l.cl, T.l.nM, (by show 3 < 1000; decide), ?_⟩
    refine k _ _ rfl rfl ra rb t _ ht0 htp (fun c o h1 e => ?_) ?_ upd_same
    · rw [upd_ne h1]; exact k4 _ _ h1 (e1 _ _ e)
    · rw [upd_ne htp, upd_ne htp]; exact h3
theorem ok_Greater {f : Addr} {fd : FuncData} (F : Fun K "__init__" "Greater.__init__" s_Greater___init__ f fd) (T : Txt K mg C CR0 CY CS CR CM CL) (c_need_joined : FnO P w K mg base (L2.CX P w) 3 "need_joined" ["one", "other"] (spNeedJ K C CR CM)) :
    FnOk P w K mg base (L2.CX P w) 4 f fd ["self", "one", "other"] (spJn0 K C CR CM false) := by
  refine funO F sc_Greater___init__ (fun vs H Q E h => ?_) (fun cd A fr s H vs Q E hr h => ?_)
  · obtain ⟨p, dx, x, y, rfl, _⟩ := h; rfl
  · obtain ⟨p, dx, x, y, rfl, hp, hc⟩ := h
    refine ⟨_, (pss_cons (ps_expr (pe_o c_need_joined hr (passT (takes_of rfl rfl rfl rfl) (fun _ _ _ _ h => h)) (pa_cons (pv 1) (pa_cons (pv 2) pa_nil))))
      (pss_cons (ps_fld (pv 0) (pv 1) rfl)
      (pss_cons (ps_fld (pv 0) (pv 2) rfl)
      (pss_cons (ps_fld (pv 0) (pe_tup (KX.star (K := K) rfl (KX.fld (K := K) rfl (pv 1) rfl) (KX.star (K := K) rfl (KX.fld (K := K) rfl (pv 2) rfl) pa_nil))) rfl)
      (pss_one (ps_fld (pv 0) (pe_callBfun cr_lcm (by rfl) T.g_lcm (pa_cons (KX.fld (K := K) rfl (pv 1) rfl) (pa_cons (KX.fld (K := K) rfl (pv 2) rfl) pa_nil))) rfl)))))), ?_⟩
    change H p = some (.ins C.g dx []) at hp
    tm_at "s"
    refine ⟨_, _, rfl, ?_⟩
    rcases hc with ⟨a, b, c⟩ | ⟨a, pa, ha, hc⟩
    · exact .inl ⟨a, b, c⟩
    refine .inr ⟨a, pa, ha, ?_⟩
    rcases hc with ⟨b, c⟩ | ⟨b, pb, hb, hc⟩
    · exact .inl ⟨b, c⟩
    refine .inr ⟨b, pb, hb, ?_⟩
    rcases hc with ⟨h1, rz⟩ | ⟨h1, ⟨h2, rz⟩ | ⟨h2, k⟩⟩
    · exact .inl ⟨h1, rz⟩
    · exact .inr ⟨h1, .inl ⟨h2, rz⟩⟩
    refine .inr ⟨h1, .inr ⟨h2, fun qa qb ex ey ra rb H1 e1 => ?_⟩⟩
    subst ex ey
    have fa := ha.1
    have fb := hb.1
    have hp1 := e1 _ _ hp
    have ma := Nat.le_trans fa.md (show 5000 ≤ 100000 by decide)
    have mb := Nat.le_trans fb.md (show 5000 ≤ 100000 by decide)
    have ra1 := ra.ex e1
    have rb1 := rb.ex e1
    tm_at "s"
    refine ⟨p, C.g, dx, [], rfl, hp1, T.g.cl, T.nGo, by decide, ?_⟩
    have k1 : ∀ {o : HO}, ∀ b o', b ≠ p → H1 b = some o' → upd H1 p o b = some o' := fun b o' hb h => by rw [upd_ne hb]; exact h
    tm_at "s"
    refine ⟨p, C.g, dx, _, rfl, upd_same, T.g.cl, T.nGt, (by show 1 < 1000; decide), ?_⟩
    have k2 : ∀ {o o1 : HO}, ∀ b o', b ≠ p → H1 b = some o' → upd (upd H1 p o1) p o b = some o' := fun b o' hb h => by rw [upd_ne hb, upd_ne hb]; exact h
    obtain ⟨x1, dx1, fs1, tp1, cl1, i1, p1, t1, m1⟩ := fld_of T (ra1.fresh hp1 (k2 (o := .ins C.g dx (putF "other" (.ref qb) (putF "one" (.ref qa) []))) (o1 := .ins C.g dx (putF "one" (.ref qa) [])))) fa.ok
    obtain ⟨x2, dx2, fs2, tp2, cl2, i2, p2, t2, m2⟩ := fld_of T (rb1.fresh hp1 (k2 (o := .ins C.g dx (putF "other" (.ref qb) (putF "one" (.ref qa) []))) (o1 := .ins C.g dx (putF "one" (.ref qa) [])))) fb.ok
    tm_at "s"
    refine ⟨qa, _, dx1, _, _, rfl, i1, cl1.cl, cl1.nP, p1, ?_⟩
    tm_at "s"
    refine ⟨tp1, _, rfl, .inl (.inl (.inl t1)), ?_⟩
    tm_at "s"
    refine ⟨qb, _, dx2, _, _, rfl, i2, cl2.cl, cl2.nP, p2, ?_⟩
    tm_at "s"
    refine ⟨tp2, _, rfl, .inl (.inl (.inl t2)), ?_⟩
    tm_at "s"
    refine s_new (Nat.le_of_lt (small1000 (by simp [ra.len, rb.len]; omega))) fun t H3 ht e3 h3 => ?_
    rw [List.append_nil, ← List.map_append] at h3
    have htp : t ≠ p := fun z => by rw [z, upd_same] at ht; cases ht
    have ht0 : H t = none := e1.free (by rw [upd_ne htp, upd_ne htp] at ht; exact ht)
    tm_at "s"
    refine ⟨p, C.g, dx, _, rfl, e3 _ _ upd_same, T.g.cl, T.g.nP, (by show 2 < 1000; decide), ?_⟩
    have k4 : ∀ {o : HO}, ∀ b o', b ≠ p → H1 b = some o' → upd H3 p o b = some o' := fun b o' hb h => by rw [upd_ne hb]; exact e3 _ _ (k2 _ _ hb h)
    obtain ⟨y1, dy1, gs1, up1, dl1, j1, q1, w1, n1⟩ := fld_of T (ra1.fresh hp1 (k4 (o := .ins C.g dx (putF "parts" (.ref t) (putF "other" (.ref qb) (putF "one" (.ref qa) [])))))) fa.ok
    obtain ⟨y2, dy2, gs2, up2, dl2, j2, q2, w2, n2⟩ := fld_of T (rb1.fresh hp1 (k4 (o := .ins C.g dx (putF "parts" (.ref t) (putF "other" (.ref qb) (putF "one" (.ref qa) [])))))) fb.ok
    tm_at "s"
    refine ⟨qa, _, dy1, _, _, rfl, j1, dl1.cl, dl1.nM, n1, ?_⟩
    tm_at "s"
    refine ⟨qb, _, dy2, _, _, rfl, j2, dl2.cl, dl2.nM, n2, ?_⟩
    tm_at "s"
    refine ⟨a.md, b.md, rfl, ma, mb, ?_⟩
    tm_at "s"
    refine ⟨p, C.g, dx, _, rfl, upd_same, T.g.cl, T.g.nM, (by show 3 < 1000; decide), ?_⟩
    refine k _ _ rfl rfl ra rb t _ ht0 htp (fun c o h1 e => ?_) ?_ upd_same
    · rw [upd_ne h1]; exact k4 _ _ h1 (e1 _ _ e)
    · rw [upd_ne htp, upd_ne htp]; exact h3
theorem ok_Fixed__and__ {f : Addr} {fd : FuncData} (F : Fun K "__and__" "Fixed.__and__" s_Fixed___and__ f fd) (T : Txt K mg C CR0 CY CS CR CM CL) (c_need_sides : FnO P w K mg base (L2.CX P w) 3 "need_sides" ["one", "other"] (spNeedS K C CR)) (m_Lesser_2 : McO P w K mg base (L2.CX P w) 4 "Lesser" (C.jn true) ["self", "one", "other"] (spJn0 K C CR CM true) []) :
    FnOk P w K mg base (L2.CX P w) 6 f fd ["self", "other"] (spOpJ K C CR CM true) := by
  refine funO F sc_Fixed___and__ (fun vs H Q E h => ?_) (fun cd A fr s H vs Q E hr h => ?_)
  · obtain ⟨x, y, rfl, _⟩ := h; rfl
  · obtain ⟨x, y, rfl, hc⟩ := h
    refine ⟨_, (pss_cons (ps_expr (pe_o c_need_sides hr (passT (takes_of rfl rfl rfl rfl) (fun _ _ _ _ h => h)) (pa_cons (pv 0) (pa_cons (pv 1) pa_nil))))
      (pss_one (ps_ret (pe_mko m_Lesser_2 hr (passT (takes_of rfl rfl rfl rfl) (fun _ _ _ _ h => h)) (pa_cons (pv 0) (pa_cons (pv 1) pa_nil)))))), ?_⟩
    tm_at "s"
    refine ⟨_, _, rfl, ?_⟩
    rcases hc with ⟨a, _, c⟩ | ⟨a, pa, ha, hc⟩
    · exact .inl ⟨a, c⟩
    refine .inr ⟨⟨a, pa, ha⟩, ?_⟩
    rcases hc with ⟨b, c⟩ | ⟨b, pb, hb, hc⟩
    · exact .inl ⟨b, c⟩
    refine .inr ⟨⟨b, pb, hb⟩, fun H1 e1 => ?_⟩
    tm_at "s"
    refine s_mkJn (.inr ⟨a, pa, ha.exN e1.n, .inr ⟨b, pb, hb.exN e1.n, ?_⟩⟩)
    rcases hc with ⟨h1, rz⟩ | ⟨h1, ⟨h2, rz⟩ | ⟨h2, k⟩⟩
    · exact .inl ⟨h1, rz.ex e1⟩
    · exact .inr ⟨h1, .inl ⟨h2, rz.ex e1⟩⟩
    obtain ⟨fa, qa, rfl, ra⟩ := ha
    obtain ⟨fb, qb, rfl, rb⟩ := hb
    exact .inr ⟨h1, .inr ⟨h2, fun qa' qb' ex ey ra' rb' q H' hq e' ru => k _ _ rfl rfl ra rb q H' (e1.free hq) (e1.trans e') ru⟩⟩
theorem ok_Fixed__or__ {f : Addr} {fd : FuncData} (F : Fun K "__or__" "Fixed.__or__" s_Fixed___or__ f fd) (T : Txt K mg C CR0 CY CS CR CM CL) (c_need_sides : FnO P w K mg base (L2.CX P w) 3 "need_sides" ["one", "other"] (spNeedS K C CR)) (m_Greater_2 : McO P w K mg base (L2.CX P w) 4 "Greater" (C.jn false) ["self", "one", "other"] (spJn0 K C CR CM false) []) :
    FnOk P w K mg base (L2.CX P w) 6 f fd ["self", "other"] (spOpJ K C CR CM false) := by
  refine funO F sc_Fixed___or__ (fun vs H Q E h => ?_) (fun cd A fr s H vs Q E hr h => ?_)
  · obtain ⟨x, y, rfl, _⟩ := h; rfl
  · obtain ⟨x, y, rfl, hc⟩ := h
    refine ⟨_, (pss_cons (ps_expr (pe_o c_need_sides hr (passT (takes_of rfl rfl rfl rfl) (fun _ _ _ _ h => h)) (pa_cons (pv 0) (pa_cons (pv 1) pa_nil))))
      (pss_one (ps_ret (pe_mko m_Greater_2 hr (passT (takes_of rfl rfl rfl rfl) (fun _ _ _ _ h => h)) (pa_cons (pv 0) (pa_cons (pv 1) pa_nil)))))), ?_⟩
    tm_at "s"
    refine ⟨_, _, rfl, ?_⟩
    rcases hc with ⟨a, _, c⟩ | ⟨a, pa, ha, hc⟩
    · exact .inl ⟨a, c⟩
    refine .inr ⟨⟨a, pa, ha⟩, ?_⟩
    rcases hc with ⟨b, c⟩ | ⟨b, pb, hb, hc⟩
    · exact .inl ⟨b, c⟩
    refine .inr ⟨⟨b, pb, hb⟩, fun H1 e1 => ?_⟩
    tm_at "s"
    refine s_mkJn (.inr ⟨a, pa, ha.exN e1.n, .inr ⟨b, pb, hb.exN e1.n, ?_⟩⟩)
    rcases hc with ⟨h1, rz⟩ | ⟨h1, ⟨h2, rz⟩ | ⟨h2, k⟩⟩
    · exact .inl ⟨h1, rz.ex e1⟩
    · exact .inr ⟨h1, .inl ⟨h2, rz.ex e1⟩⟩
    obtain ⟨fa, qa, rfl, ra⟩ := ha
    obtain ⟨fb, qb, rfl, rb⟩ := hb
    exact .inr ⟨h1, .inr ⟨h2, fun qa' qb' ex ey ra' rb' q H' hq e' ru => k _ _ rfl rfl ra rb q H' (e1.free hq) (e1.trans e') ru⟩⟩
theorem ok_Divided__and__ {f : Addr} {fd : FuncData} (F : Fun K "__and__" "Divided.__and__" s_Divided___and__ f fd) (T : Txt K mg C CR0 CY CS CR CM CL) (c_need_sides : FnO P w K mg base (L2.CX P w) 3 "need_sides" ["one", "other"] (spNeedS K C CR)) (m_Lesser_2 : McO P w K mg base (L2.CX P w) 4 "Lesser" (C.jn true) ["self", "one", "other"] (spJn0 K C CR CM true) []) :
    FnOk P w K mg base (L2.CX P w) 6 f fd ["self", "other"] (spOpJ K C CR CM true) := by
  refine funO F sc_Divided___and__ (fun vs H Q E h => ?_) (fun cd A fr s H vs Q E hr h => ?_)
  · obtain ⟨x, y, rfl, _⟩ := h; rfl
  · obtain ⟨x, y, rfl, hc⟩ := h
    refine ⟨_, (pss_cons (ps_expr (pe_o c_need_sides hr (passT (takes_of rfl rfl rfl rfl) (fun _ _ _ _ h => h)) (pa_cons (pv 0) (pa_cons (pv 1) pa_nil))))
      (pss_one (ps_ret (pe_mko m_Lesser_2 hr (passT (takes_of rfl rfl rfl rfl) (fun _ _ _ _ h => h)) (pa_cons (pv 0) (pa_cons (pv 1) pa_nil)))))), ?_⟩
    tm_at "s"
    refine ⟨_, _, rfl, ?_⟩
    rcases hc with ⟨a, _, c⟩ | ⟨a, pa, ha, hc⟩
    · exact .inl ⟨a, c⟩
    refine .inr ⟨⟨a, pa, ha⟩, ?_⟩
    rcases hc with ⟨b, c⟩ | ⟨b, pb, hb, hc⟩
    · exact .inl ⟨b, c⟩
    refine .inr ⟨⟨b, pb, hb⟩, fun H1 e1 => ?_⟩
    tm_at "s"
    refine s_mkJn (.inr ⟨a, pa, ha.exN e1.n, .inr ⟨b, pb, hb.exN e1.n, ?_⟩⟩)
    rcases hc with ⟨h1, rz⟩ | ⟨h1, ⟨h2, rz⟩ | ⟨h2, k⟩⟩
    · exact .inl ⟨h1, rz.ex e1⟩
    · exact .inr ⟨h1, .inl ⟨h2, rz.ex e1⟩⟩
    obtain ⟨fa, qa, rfl, ra⟩ := ha
    obtain ⟨fb, qb, rfl, rb⟩ := hb
    exact .inr ⟨h1, .inr ⟨h2, fun qa' qb' ex ey ra' rb' q H' hq e' ru => k _ _ rfl rfl ra rb q H' (e1.free hq) (e1.trans e') ru⟩⟩
theorem ok_Divided__or__ {f : Addr} {fd : FuncData} (F : Fun K "__or__" "Divided.__or__" s_Divided___or__ f fd) (T : Txt K mg C CR0 CY CS CR CM CL) (c_need_sides : FnO P w K mg base (L2.CX P w) 3 "need_sides" ["one", "other"] (spNeedS K C CR)) (m_Greater_2 : McO P w K mg base (L2.CX P w) 4 "Greater" (C.jn false) ["self", "one", "other"] (spJn0 K C CR CM false) []) :
    FnOk P w K mg base (L2.CX P w) 6 f fd ["self", "other"] (spOpJ K C CR CM false) := by
  refine funO F sc_Divided___or__ (fun vs H Q E h => ?_) (fun cd A fr s H vs Q E hr h => ?_)
  · obtain ⟨x, y, rfl, _⟩ := h; rfl
  · obtain ⟨x, y, rfl, hc⟩ := h
    refine ⟨_, (pss_cons (ps_expr (pe_o c_need_sides hr (passT (takes_of rfl rfl rfl rfl) (fun _ _ _ _ h => h)) (pa_cons (pv 0) (pa_cons (pv 1) pa_nil))))
      (pss_one (ps_ret (pe_mko m_Greater_2 hr (passT (takes_of rfl rfl rfl rfl) (fun _ _ _ _ h => h)) (pa_cons (pv 0) (pa_cons (pv 1) pa_nil)))))), ?_⟩
    tm_at "s"
    refine ⟨_, _, rfl, ?_⟩
    rcases hc with ⟨a, _, c⟩ | ⟨a, pa, ha, hc⟩
    · exact .inl ⟨a, c⟩
    refine .inr ⟨⟨a, pa, ha⟩, ?_⟩
    rcases hc with ⟨b, c⟩ | ⟨b, pb, hb, hc⟩
    · exact .inl ⟨b, c⟩
    refine .inr ⟨⟨b, pb, hb⟩, fun H1 e1 => ?_⟩
    tm_at "s"
    refine s_mkJn (.inr ⟨a, pa, ha.exN e1.n, .inr ⟨b, pb, hb.exN e1.n, ?_⟩⟩)
    rcases hc with ⟨h1, rz⟩ | ⟨h1, ⟨h2, rz⟩ | ⟨h2, k⟩⟩
    · exact .inl ⟨h1, rz.ex e1⟩
    · exact .inr ⟨h1, .inl ⟨h2, rz.ex e1⟩⟩
    obtain ⟨fa, qa, rfl, ra⟩ := ha
    obtain ⟨fb, qb, rfl, rb⟩ := hb
    exact .inr ⟨h1, .inr ⟨h2, fun qa' qb' ex ey ra' rb' q H' hq e' ru => k _ _ rfl rfl ra rb q H' (e1.free hq) (e1.trans e') ru⟩⟩
theorem ok_Lesser__and__ {f : Addr} {fd : FuncData} (F : Fun K "__and__" "Lesser.__and__" s_Lesser___and__ f fd) (T : Txt K mg C CR0 CY CS CR CM CL) (c_need_sides : FnO P w K mg base (L2.CX P w) 3 "need_sides" ["one", "other"] (spNeedS K C CR)) (m_Lesser_2 : McO P w K mg base (L2.CX P w) 4 "Lesser" (C.jn true) ["self", "one", "other"] (spJn0 K C CR CM true) []) :
    FnOk P w K mg base (L2.CX P w) 6 f fd ["self", "other"] (spOpJ K C CR CM true) := by
  refine funO F sc_Lesser___and__ (fun vs H Q E h => ?_) (fun cd A fr s H vs Q E hr h => ?_)
  · obtain ⟨x, y, rfl, _⟩ := h; rfl
  · obtain ⟨x, y, rfl, hc⟩ := h
    refine ⟨_, (pss_cons (ps_expr (pe_o c_need_sides hr (passT (takes_of rfl rfl rfl rfl) (fun _ _ _ _ h => h)) (pa_cons (pv 0) (pa_cons (pv 1) pa_nil))))
      (pss_one (ps_ret (pe_mko m_Lesser_2 hr (passT (takes_of rfl rfl rfl rfl) (fun _ _ _ _ h => h)) (pa_cons (pv 0) (pa_cons (pv 1) pa_nil)))))), ?_⟩
    tm_at "s"
    refine ⟨_, _, rfl, ?_⟩
    rcases hc with ⟨a, _, c⟩ | ⟨a, pa, ha, hc⟩
    · exact .inl ⟨a, c⟩
    refine .inr ⟨⟨a, pa, ha⟩, ?_⟩
    rcases hc with ⟨b, c⟩ | ⟨b, pb, hb, hc⟩
    · exact .inl ⟨b, c⟩
    refine .inr ⟨⟨b, pb, hb⟩, fun H1 e1 => ?_⟩
    tm_at "s"
    refine s_mkJn (.inr ⟨a, pa, ha.exN e1.n, .inr ⟨b, pb, hb.exN e1.n, ?_⟩⟩)
    rcases hc with ⟨h1, rz⟩ | ⟨h1, ⟨h2, rz⟩ | ⟨h2, k⟩⟩
    · exact .inl ⟨h1, rz.ex e1⟩
    · exact .inr ⟨h1, .inl ⟨h2, rz.ex e1⟩⟩
    obtain ⟨fa, qa, rfl, ra⟩ := ha
    obtain ⟨fb, qb, rfl, rb⟩ := hb
    exact .inr ⟨h1, .inr ⟨h2, fun qa' qb' ex ey ra' rb' q H' hq e' ru => k _ _ rfl rfl ra rb q H' (e1.free hq) (e1.trans e') ru⟩⟩
theorem ok_Lesser__or__ {f : Addr} {fd : FuncData} (F : Fun K "__or__" "Lesser.__or__" s_Lesser___or__ f fd) (T : Txt K mg C CR0 CY CS CR CM CL) (c_need_sides : FnO P w K mg base (L2.CX P w) 3 "need_sides" ["one", "other"] (spNeedS K C CR)) (m_Greater_2 : McO P w K mg base (L2.CX P w) 4 "Greater" (C.jn false) ["self", "one", "other"] (spJn0 K C CR CM false) []) :
    FnOk P w K mg base (L2.CX P w) 6 f fd ["self", "other"] (spOpJ K C CR CM false) := by
  refine funO F sc_Lesser___or__ (fun vs H Q E h => ?_) (fun cd A fr s H vs Q E hr h => ?_)
  · obtain ⟨x, y, rfl, _⟩ := h; rfl
  · obtain ⟨x, y, rfl, hc⟩ := h
    refine ⟨_, (pss_cons (ps_expr (pe_o c_need_sides hr (passT (takes_of rfl rfl rfl rfl) (fun _ _ _ _ h => h)) (pa_cons (pv 0) (pa_cons (pv 1) pa_nil))))
      (pss_one (ps_ret (pe_mko m_Greater_2 hr (passT (takes_of rfl rfl rfl rfl) (fun _ _ _ _ h => h)) (pa_cons (pv 0) (pa_cons (pv 1) pa_nil)))))), ?_⟩
    tm_at "s"
    refine ⟨_, _, rfl, ?_⟩
    rcases hc with ⟨a, _, c⟩ | ⟨a, pa, ha, hc⟩
    · exact .inl ⟨a, c⟩
    refine .inr ⟨⟨a, pa, ha⟩, ?_⟩
    rcases hc with ⟨b, c⟩ | ⟨b, pb, hb, hc⟩
    · exact .inl ⟨b, c⟩
    refine .inr ⟨⟨b, pb, hb⟩, fun H1 e1 => ?_⟩
    tm_at "s"
    refine s_mkJn (.inr ⟨a, pa, ha.exN e1.n, .inr ⟨b, pb, hb.exN e1.n, ?_⟩⟩)
    rcases hc with ⟨h1, rz⟩ | ⟨h1, ⟨h2, rz⟩ | ⟨h2, k⟩⟩
    · exact .inl ⟨h1, rz.ex e1⟩
    · exact .inr ⟨h1, .inl ⟨h2, rz.ex e1⟩⟩
    obtain ⟨fa, qa, rfl, ra⟩ := ha
    obtain ⟨fb, qb, rfl, rb⟩ := hb
    exact .inr ⟨h1, .inr ⟨h2, fun qa' qb' ex ey ra' rb' q H' hq e' ru => k _ _ rfl rfl ra rb q H' (e1.free hq) (e1.trans e') ru⟩⟩
theorem ok_Greater__and__ {f : Addr} {fd : FuncData} (F : Fun K "__and__" "Greater.__and__" s_Greater___and__ f fd) (T : Txt K mg C CR0 CY CS CR CM CL) (c_need_sides : FnO P w K mg base (L2.CX P w) 3 "need_sides" ["one", "other"] (spNeedS K C CR)) (m_Lesser_2 : McO P w K mg base (L2.CX P w) 4 "Lesser" (C.jn true) ["self", "one", "other"] (spJn0 K C CR CM true) []) :
    FnOk P w K mg base (L2.CX P w) 6 f fd ["self", "other"] (spOpJ K C CR CM true) := by
  refine funO F sc_Greater___and__ (fun vs H Q E h => ?_) (fun cd A fr s H vs Q E hr h => ?_)
  · obtain ⟨x, y, rfl, _⟩ := h; rfl
  · obtain ⟨x, y, rfl, hc⟩ := h
    refine ⟨_, (pss_cons (ps_expr (pe_o c_need_sides hr (passT (takes_of rfl rfl rfl rfl) (fun _ _ _ _ h => h)) (pa_cons (pv 0) (pa_cons (pv 1) pa_nil))))
      (pss_one (ps_ret (pe_mko m_Lesser_2 hr (passT (takes_of rfl rfl rfl rfl) (fun _ _ _ _ h => h)) (pa_cons (pv 0) (pa_cons (pv 1) pa_nil)))))), ?_⟩
    tm_at "s"
    refine ⟨_, _, rfl, ?_⟩
    rcases hc with ⟨a, _, c⟩ | ⟨a, pa, ha, hc⟩
    · exact .inl ⟨a, c⟩
    refine .inr ⟨⟨a, pa, ha⟩, ?_⟩
    rcases hc with ⟨b, c⟩ | ⟨b, pb, hb, hc⟩
    · exact .inl ⟨b, c⟩
    refine .inr ⟨⟨b, pb, hb⟩, fun H1 e1 => ?_⟩
    tm_at "s"
    refine s_mkJn (.inr ⟨a, pa, ha.exN e1.n, .inr ⟨b, pb, hb.exN e1.n, ?_⟩⟩)
    rcases hc with ⟨h1, rz⟩ | ⟨h1, ⟨h2, rz⟩ | ⟨h2, k⟩⟩
    · exact .inl ⟨h1, rz.ex e1⟩
    · exact .inr ⟨h1, .inl ⟨h2, rz.ex e1⟩⟩
    obtain ⟨fa, qa, rfl, ra⟩ := ha
    obtain ⟨fb, qb, rfl, rb⟩ := hb
    exact .inr ⟨h1, .inr ⟨h2, fun qa' qb' ex ey ra' rb' q H' hq e' ru => k _ _ rfl rfl ra rb q H' (e1.free hq) (e1.trans e') ru⟩⟩
theorem ok_Greater__or__ {f : Addr} {fd : FuncData} (F : Fun K "__or__" "Greater.__or__" s_Greater___or__ f fd) (T : Txt K mg C CR0 CY CS CR CM CL) (c_need_sides : FnO P w K mg base (L2.CX P w) 3 "need_sides" ["one", "other"] (spNeedS K C CR)) (m_Greater_2 : McO P w K mg base (L2.CX P w) 4 "Greater" (C.jn false) ["self", "one", "other"] (spJn0 K C CR CM false) []) :
    FnOk P w K mg base (L2.CX P w) 6 f fd ["self", "other"] (spOpJ K C CR CM false) := by
  refine funO F sc_Greater___or__ (fun vs H Q E h => ?_) (fun cd A fr s H vs Q E hr h => ?_)
  · obtain ⟨x, y, rfl, _⟩ := h; rfl
  · obtain ⟨x, y, rfl, hc⟩ := h
    refine ⟨_, (pss_cons (ps_expr (pe_o c_need_sides hr (passT (takes_of rfl rfl rfl rfl) (fun _ _ _ _ h => h)) (pa_cons (pv 0) (pa_cons (pv 1) pa_nil))))
      (pss_one (ps_ret (pe_mko m_Greater_2 hr (passT (takes_of rfl rfl rfl rfl) (fun _ _ _ _ h => h)) (pa_cons (pv 0) (pa_cons (pv 1) pa_nil)))))), ?_⟩
    tm_at "s"
    refine ⟨_, _, rfl, ?_⟩
    rcases hc with ⟨a, _, c⟩ | ⟨a, pa, ha, hc⟩
    · exact .inl ⟨a, c⟩
    refine .inr ⟨⟨a, pa, ha⟩, ?_⟩
    rcases hc with ⟨b, c⟩ | ⟨b, pb, hb, hc⟩
    · exact .inl ⟨b, c⟩
    refine .inr ⟨⟨b, pb, hb⟩, fun H1 e1 => ?_⟩
    tm_at "s"
    refine s_mkJn (.inr ⟨a, pa, ha.exN e1.n, .inr ⟨b, pb, hb.exN e1.n, ?_⟩⟩)
    rcases hc with ⟨h1, rz⟩ | ⟨h1, ⟨h2, rz⟩ | ⟨h2, k⟩⟩
    · exact .inl ⟨h1, rz.ex e1⟩
    · exact .inr ⟨h1, .inl ⟨h2, rz.ex e1⟩⟩
    obtain ⟨fa, qa, rfl, ra⟩ := ha
    obtain ⟨fb, qb, rfl, rb⟩ := hb
    exact .inr ⟨h1, .inr ⟨h2, fun qa' qb' ex ey ra' rb' q H' hq e' ru => k _ _ rfl rfl ra rb q H' (e1.free hq) (e1.trans e') ru⟩⟩
theorem ok_By__and__ {f : Addr} {fd : FuncData} (F : Fun K "__and__" "By.__and__" s_By___and__ f fd) (T : Txt K mg C CR0 CY CS CR CM CL) (c_need_sides : FnO P w K mg base (L2.CX P w) 3 "need_sides" ["one", "other"] (spNeedS K C CR)) (m_Lesser_2 : McO P w K mg base (L2.CX P w) 4 "Lesser" (C.jn true) ["self", "one", "other"] (spJn0 K C CR CM true) []) :
    FnOk P w K mg base (L2.CX P w) 6 f fd ["self", "other"] (spOpJ K C CR CM true) := by
  refine funO F sc_By___and__ (fun vs H Q E h => ?_) (fun cd A fr s H vs Q E hr h => ?_)
  · obtain ⟨x, y, rfl, _⟩ := h; rfl
  · obtain ⟨x, y, rfl, hc⟩ := h
    refine ⟨_, (pss_cons (ps_expr (pe_o c_need_sides hr (passT (takes_of rfl rfl rfl rfl) (fun _ _ _ _ h => h)) (pa_cons (pv 0) (pa_cons (pv 1) pa_nil))))
      (pss_one (ps_ret (pe_mko m_Lesser_2 hr (passT (takes_of rfl rfl rfl rfl) (fun _ _ _ _ h => h)) (pa_cons (pv 0) (pa_cons (pv 1) pa_nil)))))), ?_⟩
    tm_at "s"
    refine ⟨_, _, rfl, ?_⟩
    rcases hc with ⟨a, _, c⟩ | ⟨a, pa, ha, hc⟩
    · exact .inl ⟨a, c⟩
    refine .inr ⟨⟨a, pa, ha⟩, ?_⟩
    rcases hc with ⟨b, c⟩ | ⟨b, pb, hb, hc⟩
    · exact .inl ⟨b, c⟩
    refine .inr ⟨⟨b, pb, hb⟩, fun H1 e1 => ?_⟩
    tm_at "s"
    refine s_mkJn (.inr ⟨a, pa, ha.exN e1.n, .inr ⟨b, pb, hb.exN e1.n, ?_⟩⟩)
    rcases hc with ⟨h1, rz⟩ | ⟨h1, ⟨h2, rz⟩ | ⟨h2, k⟩⟩
    · exact .inl ⟨h1, rz.ex e1⟩
    · exact .inr ⟨h1, .inl ⟨h2, rz.ex e1⟩⟩
    obtain ⟨fa, qa, rfl, ra⟩ := ha
    obtain ⟨fb, qb, rfl, rb⟩ := hb
    exact .inr ⟨h1, .inr ⟨h2, fun qa' qb' ex ey ra' rb' q H' hq e' ru => k _ _ rfl rfl ra rb q H' (e1.free hq) (e1.trans e') ru⟩⟩
theorem ok_By__or__ {f : Addr} {fd : FuncData} (F : Fun K "__or__" "By.__or__" s_By___or__ f fd) (T : Txt K mg C CR0 CY CS CR CM CL) (c_need_sides : FnO P w K mg base (L2.CX P w) 3 "need_sides" ["one", "other"] (spNeedS K C CR)) (m_Greater_2 : McO P w K mg base (L2.CX P w) 4 "Greater" (C.jn false) ["self", "one", "other"] (spJn0 K C CR CM false) []) :
    FnOk P w K mg base (L2.CX P w) 6 f fd ["self", "other"] (spOpJ K C CR CM false) := by
  refine funO F sc_By___or__ (fun vs H Q E h => ?_) (fun cd A fr s H vs Q E hr h => ?_)
  · obtain ⟨x, y, rfl, _⟩ := h; rfl
  · obtain ⟨x, y, rfl, hc⟩ := h
    refine ⟨_, (pss_cons (ps_expr (pe_o c_need_sides hr (passT (takes_of rfl rfl rfl rfl) (fun _ _ _ _ h => h)) (pa_cons (pv 0) (pa_cons (pv 1) pa_nil))))
      (pss_one (ps_ret (pe_mko m_Greater_2 hr (passT (takes_of rfl rfl rfl rfl) (fun _ _ _ _ h => h)) (pa_cons (pv 0) (pa_cons (pv 1) pa_nil)))))), ?_⟩
    tm_at "s"
    refine ⟨_, _, rfl, ?_⟩
    rcases hc with ⟨a, _, c⟩ | ⟨a, pa, ha, hc⟩
    · exact .inl ⟨a, c⟩
    refine .inr ⟨⟨a, pa, ha⟩, ?_⟩
    rcases hc with ⟨b, c⟩ | ⟨b, pb, hb, hc⟩
    · exact .inl ⟨b, c⟩
    refine .inr ⟨⟨b, pb, hb⟩, fun H1 e1 => ?_⟩
    tm_at "s"
    refine s_mkJn (.inr ⟨a, pa, ha.exN e1.n, .inr ⟨b, pb, hb.exN e1.n, ?_⟩⟩)
    rcases hc with ⟨h1, rz⟩ | ⟨h1, ⟨h2, rz⟩ | ⟨h2, k⟩⟩
    · exact .inl ⟨h1, rz.ex e1⟩
    · exact .inr ⟨h1, .inl ⟨h2, rz.ex e1⟩⟩
    obtain ⟨fa, qa, rfl, ra⟩ := ha
    obtain ⟨fb, qb, rfl, rb⟩ := hb
    exact .inr ⟨h1, .inr ⟨h2, fun qa' qb' ex ey ra' rb' q H' hq e' ru => k _ _ rfl rfl ra rb q H' (e1.free hq) (e1.trans e') ru⟩⟩
end
end K53
end
section
local macro_rules | `(tactic| tm_at "s1") => `(tactic| first
  | with_reducible first
    | refine L3.s_seq ?_ | refine L3.s_asg ?_ | refine L3.s_op ?_ | refine L3.s_c ?_ | refine L3.s_cb ?_ | refine L3.s_cons ?_ | refine L3.s_nil ?_ | refine L3.s_test ?_ | refine L3.s_bl ?_
    | refine L3.s_I0 ?_ | refine L3.s_and ?_ | refine L3.s_or ?_ | refine L3.s_not ?_ | refine L3.s_if ?_ | refine L3.s_next ?_ | refine L3.s_ret ?_ | refine L3.s_retN ?_ | refine L3.s_asgS ?_ | refine L3.s_drop ?_
    | refine L3.s_un ?_ | refine L3.s_U ?_ | refine L3.s_int ?_ | refine L3.s_intB ?_ | refine L3.s_abs ?_ | refine L3.s_andV ?_ | refine L3.s_orV ?_ | refine L3.s_notV ?_ | refine L3.s_ifE ?_ | refine L3.s_call ?_ | refine L3.s_lst ?_ | refine L3.s_tup ?_ | refine L3.s_tB ?_
    | refine L3.s_addI ?_ | refine L3.s_inS ?_ | refine L3.s_ninS ?_ | refine L3.s_slice ?_ | refine L3.s_part ?_ | refine L3.s_partI ?_ | refine L3.s_nopart ?_ | refine L3.s_cI ?_ | refine L3.s_cB ?_ | refine L3.s_chain ?_ | refine L3.s_bm ?_ | refine L3.s_lcS ?_ | refine L3.s_lcR ?_ | refine L3.s_strE ?_
    | refine L2.iteT ?_ | refine L2.iteF ?_ | refine L3.iteNF ?_ | refine L3.iteNT ?_
    | refine L3.s_eqI ?_ | refine L3.s_neI ?_ | refine L3.s_eqS ?_ | refine L3.s_neS ?_
    | refine L3.s_pair ?_ | refine L3.s_pair2 ?_ | refine L3.s_fld ?_ | refine L3.s_make ?_ | refine L3.s_m1 ?_ | refine L3.s_isstr ?_
    | refine L3.s_xfV ?_ | refine L3.s_lstN ?_ | refine L3.s_callF ?_ | refine L3.s_lcL ?_ | refine L3.s_par3 ?_ | refine L3.s_trip ?_ | refine L3.s_asgT' ?_ | refine L3.s_gC ?_ | refine L3.s_gN ?_ | refine L3.s_fldG ?_ | refine L3.s_raise1 ?_ | refine L3.s_raise2 ?_ | refine L3.s_star ?_ | refine L3.s_mkCR ?_ | refine L3.s_lcZ ?_ | refine L3.s_forL ?_ | refine L3.s_forT ?_ | refine L3.s_gNm ?_ | refine L3.s_forE ?_ | refine L3.s_stC ?_ | refine L3.s_cmC ?_ | refine L3.s_forR1 ?_ | refine L3.s_lcTp ?_ | refine L3.s_forZ ?_ | refine L3.s_orT ?_ | refine L3.s_mt ?_ | refine L3.s_revT ?_ | refine L3.s_revL ?_ | refine L3.s_slOwn ?_ | refine L3.s_sl3 ?_ | refine L3.s_lcO ?_ | refine L3.s_stR ?_
    | refine L3.s_isN ?_ | refine L3.s_isB ?_ | refine L3.s_nisN ?_ | refine L3.s_nisB ?_
  | ((with_reducible refine' L3.s_var ?e ?_); (case e => rfl))
  | ((with_reducible refine' L3.s_aug ?e ?_); (case e => rfl))
  | ((with_reducible refine' L3.s_pow ?c ?_); (case c => exact ⟨by decide, by decide, by decide⟩)))
local macro_rules | `(tactic| tm_at "s") => `(tactic| repeat tm_at "s1")
namespace K53
open PySem PySem.NumText PySem.Spec PyProof.Rows L2 L3 LamX RZ ClX
abbrev s__law_pen : Stmt := topS 52
theorem sc__law_pen : FnScope ["_law_script"] ["_law_script"] (defScope s__law_pen) := ⟨rfl, rfl, rfl, by decide +kernel, rfl, by decide +kernel, by decide +kernel⟩
abbrev s__law_draw : Stmt := topS 53
theorem sc__law_draw : FnScope ["_law_pen_here", "_law_many", "_law_digit", "_law_at", "_law_cell", "_law_great", "_law_mixed"] ["_law_pen_here", "_law_many"] (defScope s__law_draw) := ⟨rfl, rfl, rfl, by decide +kernel, rfl, by decide +kernel, by decide +kernel⟩
abbrev s__law_pick : Stmt := topS 54
theorem sc__law_pick : FnScope ["_law_pen_here", "_law_some"] ["_law_pen_here", "_law_some"] (defScope s__law_pick) := ⟨rfl, rfl, rfl, by decide +kernel, rfl, by decide +kernel, by decide +kernel⟩
section
variable {P : Program} {w : World} {K : PySem.W.Frag} {mg : Str → Option Value} {base : Heap} {C : RA} {CR0 CY CS CR CM CL : Addr}
theorem ok_pen {f : Addr} {fd : FuncData} (F : Fun K "_law_pen" "_law_pen" s__law_pen f fd) (T : Txt K mg C CR0 CY CS CR CM CL) : FnG P w K mg base CX0 1 f fd ["_law_script"] (spPen K) := by
  refine funG F sc__law_pen (fun vs H Q E h => ?_) (fun cd A fr s H vs Q E hr hg h => ?_)
  · obtain ⟨a, ns, rfl, _⟩ := h; rfl
  · obtain ⟨a, ns, rfl, hs, hl, k⟩ := h
    refine ⟨_, pss_penNew ((pss_one (ps_ret (pe_lst (pa_cons (pe_callTy (KX.callList (K := K) rfl rfl) (by rfl) T.b_list (by decide +kernel) (pa_cons (pe_slice (KX.slU (K := K)) (pv 0) po_none (po_some pe_int)) pa_nil)) (pa_cons pe_int (pa_cons pe_int pa_nil))))))), ?_⟩
    show (tRet _ : TS) _ _ _
    tm_at "s"
    refine s_slL hs fun q H1 hq e1 h1 => ?_
    tm_at "s"
    refine s_listL (.inl (.inl h1)) fun l H2 hl2 e2 h2 => ?_
    tm_at "s"
    refine s_new (Nat.le_of_lt (small1000 (by simp))) fun p H3 hp e3 h3 => ?_
    have hH : H p = none := e1.free (e2.free hp)
    have nlp : l ≠ p := ne_of_none h2 hp
    have hHl : H l = none := e1.free hl2
    refine ⟨p, l, 0, ns.take 63, rfl, h3, ?_, nlp, k p _ hH (fun b o hb => ?_) ⟨l, ns.take 63, ?_, upd_same, ?_, nlp⟩⟩
    · rw [e3 _ _ h2]
      have : cutV (ns.map V.int) none (some 63) = (ns.take 63).map V.int := by
        unfold cutV
        show ((ns.map V.int).drop 0).take (HT.sIx (ns.map V.int).length (ns.map V.int).length (some (63 : Nat)) - 0) = _
        rw [HT.sIx_nat, List.drop_zero, List.length_map, Nat.sub_zero, List.map_take]
        rw [List.take_eq_take_iff]
        simp
      rw [this]
    · rw [upd_ne (ne_of_none hb hHl), upd_ne (ne_of_none hb hH)]
      exact e3 _ _ (e2 _ _ (e1 _ _ hb))
    · rw [upd_ne (Ne.symm nlp)]; exact upd_same
    · rw [List.length_take]; omega
theorem drawC : DrawC 99074 3210 2147483353 78018 1071 2147483587 179 770 93 2147483549 := ⟨by decide, by decide, by decide, by decide, by decide, by decide, by decide, by decide, by decide⟩
theorem ok_draw {f : Addr} {fd : FuncData} (F : Fun K "_law_draw" "_law_draw" s__law_draw f fd) (T : Txt K mg C CR0 CY CS CR CM CL) : FnG P w K mg base CX0 1 f fd ["_law_pen_here", "_law_many"] spDraw := by
  refine funG F sc__law_draw (fun vs H Q E h => ?_) (fun cd A fr s H vs Q E hr hg h => ?_)
  · obtain ⟨a, n, many, rfl, _⟩ := h; rfl
  · obtain ⟨a, n, many, rfl, hm, hm2, ⟨c, ns, ha, hc, hl⟩, hn, k⟩ := h
    refine ⟨_, pss_sc c ns (pss_pen a c n (n + 1) ((pss_cons (ps_if (pt_cmpR op_gt (pe_ix (KX.ixU (K := K)) (pv 0) pe_int (fun _ _ => rfl)) pe_int (nomark _)) (pss_cons (ps_set (i := 2) sc__law_draw.nd rfl (Or.inl rfl) (pe_op op_mod (pe_callTy (KX.callInt (K := K)) (by rfl) T.b_int (by decide +kernel) (pa_cons (pe_ix (KX.ixU (K := K)) (pv 0) pe_int (fun _ _ => rfl)) pa_nil)) (pv 1)))
      (pss_cons (ps_asg (pe_op op_fdivW (pe_callTy (KX.callInt (K := K)) (by rfl) T.b_int (by decide +kernel) (pa_cons (pe_ix (KX.ixU (K := K)) (pv 0) pe_int (fun _ _ => rfl)) pa_nil)) (pv 1)) (pg_sub (pv 0) pe_int set_list))
      (pss_one (ps_ret (pv 2))))) pss_nil)
      (pss_cons (ps_set (i := 3) sc__law_draw.nd rfl (Or.inl rfl) (pe_ix (KX.ixU (K := K)) (pv 0) pe_int (fun _ _ => rfl)))
      (pss_cons (ps_asg (pe_op opAdd (pv 3) pe_int) (pg_sub (pv 0) pe_int set_list))
      (pss_cons (ps_set (i := 4) sc__law_draw.nd rfl (Or.inl rfl) (pe_op opAdd (pe_op opMul pe_int (pv 3)) pe_int))
      (Evl.pss_cut (ps_if (pt_cmpR (KX.neU (K := K) rfl hr.units) (pe_ix (KX.ixU (K := K)) (pv 0) pe_int (fun _ _ => rfl)) (pe_lst pa_nil) (nomark _)) (pss_one (ps_set (i := 4) sc__law_draw.nd rfl (Or.inl rfl) (pe_ix (KX.ixU (K := K)) (pe_ix (KX.ixU (K := K)) (pv 0) pe_int (fun _ _ => rfl)) (pe_op op_mod (pe_callTy (KX.callInt (K := K)) (by rfl) T.b_int (by decide +kernel) (pa_cons (pv 3) pa_nil)) (pe_callB (KX.callLen (K := K)) (by rfl) T.b_len (by decide +kernel) (pa_cons (pe_ix (KX.ixU (K := K)) (pv 0) pe_int (fun _ _ => rfl)) pa_nil))) (fun _ _ => rfl)))) pss_nil)
      (pss_cons (ps_if (PW.pt (pw_and (pt_cmpR op_lt (pv 3) (pe_callB (KX.callLen (K := K)) (by rfl) T.b_len (by decide +kernel) (pa_cons (pe_ix (KX.ixU (K := K)) (pv 0) pe_int (fun _ _ => rfl)) pa_nil)) (nomark _)) (pw_and1 (pt_cmpR op_ge (pe_callB call_abs (by rfl) T.b_abs (by decide +kernel) (pa_cons (pv 4) pa_nil)) (pe_op op_pow pe_int pe_int) (nomark _))))) (pss_cons (ps_set (i := 5) sc__law_draw.nd rfl (Or.inl rfl) (pe_op opAdd (pe_op opMul pe_int (pe_op op_sub (pe_callB call_abs (by rfl) T.b_abs (by decide +kernel) (pa_cons (pv 4) pa_nil)) (pe_op op_pow pe_int pe_int))) (pe_callTy (KX.callInt (K := K)) (by rfl) T.b_int (by decide +kernel) (pa_cons (pe_cmpR op_lt (pv 4) pe_int (nomark _)) pa_nil))))
      (pss_cons (ps_asg (pe_op op_fdivW (pe_callTy (KX.callInt (K := K)) (by rfl) T.b_int (by decide +kernel) (pa_cons (pv 5) pa_nil)) (pv 1)) (pg_sub (pv 0) pe_int set_list))
      (pss_one (ps_ret (pe_op op_mod (pe_callTy (KX.callInt (K := K)) (by rfl) T.b_int (by decide +kernel) (pa_cons (pv 5) pa_nil)) (pv 1)))))) pss_nil)
      (pss_cons (ps_set (i := 6) sc__law_draw.nd rfl (Or.inl rfl) (pe_op op_mod (pe_callTy (KX.callInt (K := K)) (by rfl) T.b_int (by decide +kernel) (pa_cons (pe_op op_pow (pe_op opAdd (pe_op opAdd (pe_op op_mod (pe_callTy (KX.callInt (K := K)) (by rfl) T.b_int (by decide +kernel) (pa_cons (pv 4) pa_nil)) pe_int) (pe_op opMul pe_int (pv 3))) pe_int) pe_int) pa_nil)) pe_int))
      (pss_cons (ps_set (i := 6) sc__law_draw.nd rfl (Or.inl rfl) (pe_op op_mod (pe_callTy (KX.callInt (K := K)) (by rfl) T.b_int (by decide +kernel) (pa_cons (pe_op op_pow (pe_op opAdd (pe_op opAdd (pe_op opMul (pv 6) (pe_op opAdd (pe_op opMul pe_int (pv 3)) pe_int)) (pe_op opMul (pe_op opMul pe_int (pv 3)) (pv 3))) pe_int) pe_int) pa_nil)) pe_int))
      (pss_one (ps_ret (pe_op op_mod (pe_callTy (KX.callInt (K := K)) (by rfl) T.b_int (by decide +kernel) (pa_cons (pe_op op_fdivW (pv 6) pe_int) pa_nil)) (pv 1)))))))))))))), ?_⟩
    exact rd_drawS drawC hm hm2 ha hc hn hl k
theorem ok_pick {f : Addr} {fd : FuncData} (F : Fun K "_law_pick" "_law_pick" s__law_pick f fd) (T : Txt K mg C CR0 CY CS CR CM CL) (c__law_draw : Fn P w K mg base CX0 1 "_law_draw" ["_law_pen_here", "_law_many"] spDraw) :
    FnG P w K mg base CX0 2 f fd ["_law_pen_here", "_law_some"] spPick := by
  refine funG F sc__law_pick (fun vs H Q E h => ?_) (fun cd A fr s H vs Q E hr hg h => ?_)
  · obtain ⟨a, l, n, xs, rfl, _⟩ := h; rfl
  · obtain ⟨a, l, n, xs, rfl, hl, hne, hlen, hp, hn, k⟩ := h
    refine ⟨_, (pss_one (ps_ret (pe_ix (KX.ixU (K := K)) (pv 1) (pe_f c__law_draw hr hg pass0 (pa_cons (pv 0) (pa_cons (pe_callB (KX.callLen (K := K)) (by rfl) T.b_len (by decide +kernel) (pa_cons (pv 1) pa_nil)) pa_nil))) (fun _ _ => rfl)))), ?_⟩
    tm_at "s"
    refine s_lenL hl ?_
    have hpos : 0 < xs.length := List.length_pos_iff.mpr hne
    refine ⟨a, n, _, rfl, by omega, ?_, hp, hn, fun d H' d0 d1 hp' hk => ?_⟩
    · rw [Int.natAbs_natCast]
      exact Nat.lt_of_le_of_lt hlen (Nat.lt_of_lt_of_le (by decide : 100000 < 2 ^ 20) (Nat.pow_le_pow_right (by decide) (by decide)))
    · have nl : l ≠ a := hp.ne hl fun c n z => by unfold PenO at z; cases z
      have hd : d.toNat < xs.length := by omega
      refine s_iL (v := xs[d.toNat]) (hk l _ nl hl) (by rw [atI_int d0 d1, List.getElem?_eq_getElem hd]) ?_
      exact k _ _ (List.getElem_mem hd) hp' hk
end
end K53
end
section
namespace L3
open PySem PySem.NumText PySem.Spec PyProof.Rows L2 LamX RZ ClX
def wishT (r : Int) : RT → Int
  | .fx s => s
  | .dv x y w => (x * r + y) / w
  | .jn lo a b => if lo then min (wishT r a) (wishT r b) else max (wishT r a) (wishT r b)
def chunkT (r : Int) (t : RT) : Int := max 1 (min r (wishT r t))
/-- a line: its rise and its start -/
def lnV (l : Int × Int) (q : Int) : Int := l.1 * q + l.2
def lnT (m res : Int) : RT → Int × Int
  | .fx s => (0, s)
  | .dv x y w => (x * (m / w), (x * res + y) / w)
  | .jn _ _ _ => (0, 0)
def lnsT (t : RT) (res : Int) : List (Int × Int) := (0, 1) :: (((t.md : Nat) : Int), res) :: t.leaves.map (lnT ((t.md : Nat) : Int) res)
/-- the size at a quotient -/
def szT (t : RT) (res q : Int) : Int := chunkT (((t.md : Nat) : Int) * q + res) t
/-- where lines may change sides -/
structure TurnsOk (ls : List (Int × Int)) (first : Int) (ts : List Int) : Prop where
  asc : ts.Pairwise (· < ·)
  hd : ts[0]? = some first
  cl : ∀ l ∈ ls, ∀ o ∈ ls, o.1 < l.1 → ∀ z, z = (o.2 - l.2) / (l.1 - o.1) + 1 → first < z → z ∈ ts
  src : ∀ x ∈ ts, x = first ∨ ∃ l ∈ ls, ∃ o ∈ ls, o.1 < l.1 ∧ x ≤ (o.2 - l.2) / (l.1 - o.1) + 1
/-- between one turn and the next -/
def InT (ts : List Int) (i : Nat) (q : Int) : Prop := (∃ a, ts[i]? = some a ∧ a ≤ q) ∧ ∀ b, ts[i + 1]? = some b → q < b
theorem asc_next {ts : List Int} (h : ts.Pairwise (· < ·)) {i : Nat} {a x : Int} (ha : ts[i]? = some a) (hx : x ∈ ts) (hlt : a < x) : ∃ b, ts[i + 1]? = some b ∧ b ≤ x := by
  obtain ⟨j, hj⟩ := List.mem_iff_getElem?.mp hx
  obtain ⟨hi, ea⟩ := List.getElem?_eq_some_iff.mp ha
  obtain ⟨hjl, ex⟩ := List.getElem?_eq_some_iff.mp hj
  have hij : i < j := by
    by_cases z : i < j
    · exact z
    · by_cases e : i = j
      · subst e; rw [ea] at ex; omega
      · have := List.pairwise_iff_getElem.mp h j i hjl hi (by omega)
        omega
  refine ⟨ts[i + 1]'(by omega), List.getElem?_eq_getElem _, ?_⟩
  by_cases e : i + 1 = j
  · subst e; rw [ex]; exact Int.le_refl _
  · have := List.pairwise_iff_getElem.mp h (i + 1) j (by omega) hjl (by omega)
    omega
theorem le_line {l o : Int × Int} (h : o.1 < l.1) (q : Int) : lnV l q ≤ lnV o q ↔ q ≤ (o.2 - l.2) / (l.1 - o.1) := by
  rw [Int.le_ediv_iff_mul_le (by omega), Int.mul_sub]
  unfold lnV
  rw [Int.mul_comm l.1, Int.mul_comm o.1]
  generalize q * l.1 = A
  generalize q * o.1 = B
  omega
theorem TurnsOk.side {ls : List (Int × Int)} {first : Int} {ts : List Int} (T : TurnsOk ls first ts) {i : Nat} {l o : Int × Int} (hl : l ∈ ls) (ho : o ∈ ls) : (∀ q, InT ts i q → lnV l q ≤ lnV o q) ∨ ∀ q, InT ts i q → lnV o q ≤ lnV l q := by
  have key : ∀ {l o : Int × Int}, l ∈ ls → o ∈ ls → o.1 < l.1 → (∀ q, InT ts i q → lnV l q ≤ lnV o q) ∨ ∀ q, InT ts i q → lnV o q ≤ lnV l q := fun {l o} hl ho h => by
    cases ha : ts[i]? with
    | none => exact .inl fun q ⟨⟨a, h, _⟩, _⟩ => by rw [ha] at h; cases h
    | some a =>
      have hf : first ≤ a := by
        have h0 := T.hd
        obtain ⟨h0l, e0⟩ := List.getElem?_eq_some_iff.mp h0
        obtain ⟨hil, ea⟩ := List.getElem?_eq_some_iff.mp ha
        by_cases z : i = 0
        · subst z; omega
        · have := List.pairwise_iff_getElem.mp T.asc 0 i h0l hil (by omega)
          omega
      by_cases z : a ≤ (o.2 - l.2) / (l.1 - o.1)
      · refine .inl fun q hq => (le_line h q).mpr ?_
        by_cases z2 : q ≤ (o.2 - l.2) / (l.1 - o.1)
        · exact z2
        · obtain ⟨b, hb, hbx⟩ := asc_next T.asc ha (T.cl l hl o ho h _ rfl (by omega)) (by omega)
          have := hq.2 b hb
          omega
      · refine .inr fun q ⟨⟨a', h', hq⟩, _⟩ => ?_
        rw [ha] at h'
        cases h'
        have := mt (le_line h q).mp (by omega)
        omega
  by_cases h1 : o.1 < l.1
  · exact key hl ho h1
  · by_cases h2 : l.1 < o.1
    · exact (key ho hl h2).symm
    · have e : l.1 = o.1 := by omega
      by_cases z : l.2 ≤ o.2
      · exact .inl fun q _ => by unfold lnV; rw [e]; omega
      · exact .inr fun q _ => by unfold lnV; rw [e]; omega
theorem leaf_md {t u : RT} (h : u ∈ t.leaves) : u.md ∣ t.md := by
  induction t with
  | fx s => rw [List.mem_singleton.mp h]; exact Nat.dvd_refl _
  | dv x y w => rw [List.mem_singleton.mp h]; exact Nat.dvd_refl _
  | jn lo a b ha hb =>
    rcases List.mem_append.mp h with h | h
    · exact Nat.dvd_trans (ha h) (Nat.dvd_lcm_left _ _)
    · exact Nat.dvd_trans (hb h) (Nat.dvd_lcm_right _ _)
theorem leaf_line {m res q : Int} {u : RT} (hu : u.leaves = [u]) (ok : u.ok) (hd : ((u.md : Nat) : Int) ∣ m) : wishT (m * q + res) u = lnV (lnT m res u) q := by
  cases u with
  | fx s => show s = 0 * q + s; omega
  | dv x y w =>
    have hw := ok.2.2.1
    have e0 : ((RT.md (.dv x y w) : Nat) : Int) = w := by show ((w.toNat : Nat) : Int) = w; omega
    rw [e0] at hd
    obtain ⟨k, hk⟩ := hd
    show (x * (m * q + res) + y) / w = x * (m / w) * q + (x * res + y) / w
    have e1 : m / w = k := by rw [hk]; exact Int.mul_ediv_cancel_left k (by omega)
    rw [e1, hk]
    have e2 : x * (w * k * q + res) + y = (x * res + y) + w * (x * k * q) := by grind
    rw [e2, Int.add_mul_ediv_left _ _ (by omega)]
    omega
  | jn lo a b =>
    have := congrArg List.length hu
    rw [RT.len_leaves] at this
    have h1 := a.n_pos
    have h2 := b.n_pos
    have h3 : (RT.jn lo a b).n = a.n + b.n := rfl
    rw [h3] at this
    simp at this
    omega
theorem wish_line {t : RT} {res first : Int} {ts : List Int} (ok : t.ok) (T : TurnsOk (lnsT t res) first ts) (i : Nat) : ∀ u : RT, (∀ v ∈ u.leaves, v ∈ t.leaves) → ∃ L ∈ lnsT t res, ∀ q, InT ts i q → wishT (((t.md : Nat) : Int) * q + res) u = lnV L q
  | .fx s, h => ⟨_, List.mem_cons_of_mem _ (List.mem_cons_of_mem _ (List.mem_map_of_mem (h _ (List.mem_singleton.mpr rfl)))), fun q _ => leaf_line rfl (RT.leaf_ok ok (h _ (List.mem_singleton.mpr rfl))) (Int.ofNat_dvd.mpr (leaf_md (h _ (List.mem_singleton.mpr rfl))))⟩
  | .dv x y w, h => ⟨_, List.mem_cons_of_mem _ (List.mem_cons_of_mem _ (List.mem_map_of_mem (h _ (List.mem_singleton.mpr rfl)))), fun q _ => leaf_line rfl (RT.leaf_ok ok (h _ (List.mem_singleton.mpr rfl))) (Int.ofNat_dvd.mpr (leaf_md (h _ (List.mem_singleton.mpr rfl))))⟩
  | .jn lo a b, h => by
    obtain ⟨L1, m1, e1⟩ := wish_line ok T i a fun v hv => h v (List.mem_append_left _ hv)
    obtain ⟨L2, m2, e2⟩ := wish_line ok T i b fun v hv => h v (List.mem_append_right _ hv)
    have pick : ∃ L ∈ lnsT t res, ∀ q, InT ts i q → wishT (((t.md : Nat) : Int) * q + res) (.jn lo a b) = lnV L q := by
      cases lo with
      | true =>
        rcases T.side (i := i) m1 m2 with s | s
        · exact ⟨L1, m1, fun q hq => by show min _ _ = _; rw [e1 q hq, e2 q hq]; have := s q hq; omega⟩
        · exact ⟨L2, m2, fun q hq => by show min _ _ = _; rw [e1 q hq, e2 q hq]; have := s q hq; omega⟩
      | false =>
        rcases T.side (i := i) m1 m2 with s | s
        · exact ⟨L2, m2, fun q hq => by show max _ _ = _; rw [e1 q hq, e2 q hq]; have := s q hq; omega⟩
        · exact ⟨L1, m1, fun q hq => by show max _ _ = _; rw [e1 q hq, e2 q hq]; have := s q hq; omega⟩
    exact pick
/-- between turns the sizes lie on one line -/
theorem sz_line {t : RT} {res first : Int} {ts : List Int} (ok : t.ok) (T : TurnsOk (lnsT t res) first ts) (i : Nat) : ∃ L ∈ lnsT t res, ∀ q, InT ts i q → szT t res q = lnV L q := by
  obtain ⟨L1, m1, e1⟩ := wish_line ok T i t fun v hv => hv
  have mA : ((0, 1) : Int × Int) ∈ lnsT t res := List.mem_cons_self ..
  have mB : ((((t.md : Nat) : Int), res) : Int × Int) ∈ lnsT t res := List.mem_cons_of_mem _ (List.mem_cons_self ..)
  have step : ∃ L2 ∈ lnsT t res, ∀ q, InT ts i q → min (((t.md : Nat) : Int) * q + res) (wishT (((t.md : Nat) : Int) * q + res) t) = lnV L2 q := by
    rcases T.side (i := i) mB m1 with s | s
    · exact ⟨_, mB, fun q hq => by rw [e1 q hq]; have := s q hq; unfold lnV at *; dsimp only at *; omega⟩
    · exact ⟨_, m1, fun q hq => by rw [e1 q hq]; have := s q hq; unfold lnV at *; dsimp only at *; omega⟩
  obtain ⟨L2, m2, e2⟩ := step
  rcases T.side (i := i) mA m2 with s | s
  · exact ⟨_, m2, fun q hq => by unfold szT chunkT; rw [e2 q hq]; have := s q hq; unfold lnV at *; dsimp only at *; omega⟩
  · exact ⟨_, mA, fun q hq => by unfold szT chunkT; rw [e2 q hq]; have := s q hq; unfold lnV at *; dsimp only at *; omega⟩
abbrev Pc := Int × Int × Int
def pcV (p : Pc) (q : Int) : Int := p.2.1 * q + p.2.2
/-- the rows from one begin on, up to the next one; none: the last one goes on for ever -/
def Pre (f : Int → Int) : Int → List Pc → Option Int → Prop
  | b, [], nx => nx = some b
  | b, p :: r, nx => p.1 = b ∧ f b = pcV p b ∧ f (b + 1) = pcV p (b + 1) ∧ ((r = [] ∧ nx = none ∧ ∀ q, b ≤ q → f q = pcV p q) ∨ ∃ b2, b + 2 ≤ b2 ∧ f b2 ≠ pcV p b2 ∧ (∀ q, b ≤ q → q < b2 → f q = pcV p q) ∧ Pre f b2 r nx)
/-- what end_of tells -/
def EndAt (f : Int → Int) (p : Pc) : Option Int → Prop
  | none => ∀ q, p.1 ≤ q → f q = pcV p q
  | some b2 => p.1 + 2 ≤ b2 ∧ f b2 ≠ pcV p b2 ∧ ∀ q, p.1 ≤ q → q < b2 → f q = pcV p q
theorem Pre.snoc {f : Int → Int} {p : Pc} {nx : Option Int} (h1 : f p.1 = pcV p p.1) (h2 : f (p.1 + 1) = pcV p (p.1 + 1)) (he : EndAt f p nx) : ∀ {b : Int} {rows : List Pc}, Pre f b rows (some p.1) → Pre f b (rows ++ [p]) nx
  | b, [], h => by
    obtain rfl : p.1 = b := Option.some.inj h
    refine ⟨rfl, h1, h2, ?_⟩
    cases nx with
    | none => exact .inl ⟨rfl, rfl, he⟩
    | some b2 => exact .inr ⟨b2, he.1, he.2.1, he.2.2, rfl⟩
  | b, r :: rows, ⟨e1, e2, e3, h⟩ => by
    refine ⟨e1, e2, e3, .inr ?_⟩
    rcases h with ⟨_, hn, _⟩ | ⟨b2, a1, a2, a3, a4⟩
    · cases hn
    · exact ⟨b2, a1, a2, a3, Pre.snoc h1 h2 he a4⟩
/-- all behind a piece up to a turn lie on it -/
def UpTo (f : Int → Int) (p : Pc) (ts : List Int) (i : Nat) : Prop := ∀ q, p.1 ≤ q → (∀ b, ts[i]? = some b → q < b) → f q = pcV p q
theorem two_pts {a b c d x : Int} (h1 : a * x + b = c * x + d) (h2 : a * (x + 1) + b = c * (x + 1) + d) (q : Int) : a * q + b = c * q + d := by
  have h3 : a = c := by
    rw [Int.mul_add, Int.mul_add, Int.mul_one, Int.mul_one] at h2
    omega
  subst h3
  omega
section
variable {t : RT} {res first : Int} {ts : List Int} {p : Pc} {i : Nat}
theorem upTo_zero (T : TurnsOk (lnsT t res) first ts) (hf : first ≤ p.1) : UpTo (szT t res) p ts 0 := fun q hq h => by
  have := h _ T.hd
  omega
/-- a turn's own part is looked through: what was looked at lies on the piece -/
theorem upTo_next (ok : t.ok) (T : TurnsOk (lnsT t res) first ts) {a : Int} (ha : ts[i]? = some a) (h1 : szT t res p.1 = pcV p p.1) (h2 : szT t res (p.1 + 1) = pcV p (p.1 + 1)) (h : UpTo (szT t res) p ts i)
    (l1 : ∀ lo, lo = max a (p.1 + 2) → (∀ b, ts[i + 1]? = some b → lo < b) → szT t res lo = pcV p lo) (l2 : ∀ lo, lo = max a (p.1 + 2) → (∀ b, ts[i + 1]? = some b → lo + 1 < b) → szT t res (lo + 1) = pcV p (lo + 1)) : UpTo (szT t res) p ts (i + 1) := fun q hq hb => by
  by_cases z : q < a
  · exact h q hq fun b e => by rw [ha] at e; cases e; exact z
  · by_cases z1 : q = p.1
    · rw [z1]; exact h1
    · by_cases z2 : q = p.1 + 1
      · rw [z2]; exact h2
      · obtain ⟨L, _, e⟩ := sz_line ok T i
        obtain ⟨lo, hlo⟩ : ∃ lo, lo = max a (p.1 + 2) := ⟨_, rfl⟩
        have hle : lo ≤ q := by omega
        have in0 : InT ts i lo := ⟨⟨a, ha, by omega⟩, fun b e => by have := hb b e; omega⟩
        have on0 := l1 lo hlo fun b e => by have := hb b e; omega
        by_cases z3 : q = lo
        · rw [z3]; exact on0
        · have in1 : InT ts i (lo + 1) := ⟨⟨a, ha, by omega⟩, fun b e => by have := hb b e; omega⟩
          have on1 := l2 lo hlo fun b e => by have := hb b e; omega
          rw [e lo in0] at on0
          rw [e (lo + 1) in1] at on1
          have inq : InT ts i q := ⟨⟨a, ha, by omega⟩, hb⟩
          rw [e q inq]
          exact two_pts on0 on1 q
/-- the first one that does not lie on it: the part's first look -/
theorem end_lo {a : Int} (ha : ts[i]? = some a) (h1 : szT t res p.1 = pcV p p.1) (h2 : szT t res (p.1 + 1) = pcV p (p.1 + 1)) (h : UpTo (szT t res) p ts i) {lo : Int} (hlo : lo = max a (p.1 + 2)) (hn : szT t res lo ≠ pcV p lo) : EndAt (szT t res) p (some lo) :=
  ⟨by omega, hn, fun q hq hl => by
    by_cases z : q < a
    · exact h q hq fun b e => by rw [ha] at e; cases e; exact z
    · by_cases z1 : q = p.1
      · rw [z1]; exact h1
      · have z2 : q = p.1 + 1 := by omega
        rw [z2]; exact h2⟩
theorem end_hi {a : Int} (ha : ts[i]? = some a) (h1 : szT t res p.1 = pcV p p.1) (h2 : szT t res (p.1 + 1) = pcV p (p.1 + 1)) (h : UpTo (szT t res) p ts i) {lo : Int} (hlo : lo = max a (p.1 + 2)) (h0 : szT t res lo = pcV p lo) (hn : szT t res (lo + 1) ≠ pcV p (lo + 1)) : EndAt (szT t res) p (some (lo + 1)) :=
  ⟨by omega, hn, fun q hq hl => by
    by_cases z : q < a
    · exact h q hq fun b e => by rw [ha] at e; cases e; exact z
    · by_cases z1 : q = p.1
      · rw [z1]; exact h1
      · by_cases z2 : q = p.1 + 1
        · rw [z2]; exact h2
        · have z3 : q = lo := by omega
          rw [z3]; exact h0⟩
theorem end_none (h : UpTo (szT t res) p ts ts.length) : EndAt (szT t res) p none := fun q hq => h q hq fun b e => by rw [List.getElem?_eq_none (Nat.le_refl _)] at e; cases e
/-- how many turns are at most here -/
def rankT (ts : List Int) (q : Int) : Nat := (ts.filter fun τ => decide (τ ≤ q)).length
theorem rank_le : rankT ts q ≤ ts.length := List.length_filter_le _ _
theorem rank_mono {x y : Int} (h : x ≤ y) : rankT ts x ≤ rankT ts y := by
  unfold rankT
  rw [← List.countP_eq_length_filter, ← List.countP_eq_length_filter]
  exact List.countP_mono_left fun z _ hz => decide_eq_true (Int.le_trans (of_decide_eq_true hz) h)
theorem rank_lt {x y τ : Int} (h : x ≤ y) (hm : τ ∈ ts) (h1 : x < τ) (h2 : τ ≤ y) : rankT ts x < rankT ts y := by
  unfold rankT
  induction ts with
  | nil => cases hm
  | cons z r ih =>
    have mono : (r.filter fun τ => decide (τ ≤ x)).length ≤ (r.filter fun τ => decide (τ ≤ y)).length := rank_mono (ts := r) h
    rw [List.filter_cons, List.filter_cons]
    rcases List.mem_cons.mp hm with rfl | hm
    · rw [if_neg (by simpa using h1), if_pos (by simpa using h2), List.length_cons]
      omega
    · have := ih hm
      by_cases zx : z ≤ x
      · rw [if_pos (decide_eq_true zx), if_pos (decide_eq_true (Int.le_trans zx h)), List.length_cons, List.length_cons]; omega
      · rw [if_neg (by simpa using zx)]
        by_cases zy : z ≤ y
        · rw [if_pos (decide_eq_true zy), List.length_cons]; omega
        · rw [if_neg (by simpa using zy)]; exact this
/-- in which part a quotient lies -/
theorem in_part (T : TurnsOk (lnsT t res) first ts) {q : Int} (hq : first ≤ q) : ∃ i, InT ts i q := by
  have aux : ∀ (l : List Int) (k : Nat) (a : Int), l[0]? = some a → a ≤ q → ∃ i, (∃ x, l[i]? = some x ∧ x ≤ q) ∧ ∀ b, l[i + 1]? = some b → q < b := fun l => by
    induction l with
    | nil => intro _ _ h; cases h
    | cons z r ih =>
      intro k a h0 ha
      cases Option.some.inj h0
      cases hr : r[0]? with
      | none => exact ⟨0, ⟨z, rfl, ha⟩, fun b hb => by rw [List.getElem?_cons_succ, hr] at hb; cases hb⟩
      | some y =>
        by_cases hy : y ≤ q
        · obtain ⟨i, ⟨x, h1, h2⟩, h3⟩ := ih k y hr hy
          exact ⟨i + 1, ⟨x, by rw [List.getElem?_cons_succ]; exact h1, h2⟩, fun b hb => h3 b (by rw [List.getElem?_cons_succ] at hb; exact hb)⟩
        · exact ⟨0, ⟨z, rfl, ha⟩, fun b hb => by rw [List.getElem?_cons_succ, hr] at hb; cases hb; omega⟩
  exact aux ts 0 first T.hd hq
/-- the next piece begins behind a turn -/
theorem end_rank (ok : t.ok) (T : TurnsOk (lnsT t res) first ts) (hf : first ≤ p.1) (h1 : szT t res p.1 = pcV p p.1) (h2 : szT t res (p.1 + 1) = pcV p (p.1 + 1)) {b2 : Int} (he : EndAt (szT t res) p (some b2)) : rankT ts p.1 < rankT ts b2 ∧ ∃ τ ∈ ts, p.1 < τ ∧ τ ≤ b2 := by
  obtain ⟨i, hi⟩ := in_part T hf
  obtain ⟨⟨a, ha, hal⟩, hb⟩ := id hi
  obtain ⟨L, _, e⟩ := sz_line ok T i
  obtain ⟨e1, e2, e3⟩ := he
  have key : ∃ τ ∈ ts, p.1 < τ ∧ τ ≤ b2 := by
    cases hn : ts[i + 1]? with
    | none =>
      refine absurd ?_ e2
      have all : ∀ q, p.1 ≤ q → InT ts i q := fun q hq => ⟨⟨a, ha, by omega⟩, fun b z => by rw [hn] at z; cases z⟩
      have on0 := h1; have on1 := h2
      rw [e _ (all _ (Int.le_refl _))] at on0
      rw [e _ (all _ (by omega))] at on1
      rw [e _ (all _ (by omega))]
      exact two_pts on0 on1 b2
    | some b =>
      have hpb := hb b hn
      refine ⟨b, List.mem_of_getElem? hn, hpb, ?_⟩
      by_cases z : b ≤ b2
      · exact z
      · refine absurd ?_ e2
        have all : ∀ q, p.1 ≤ q → q ≤ b2 → InT ts i q := fun q hq hq2 => ⟨⟨a, ha, by omega⟩, fun b' z' => by rw [hn] at z'; cases z'; omega⟩
        have on0 := h1; have on1 := h2
        rw [e _ (all _ (Int.le_refl _) (by omega))] at on0
        rw [e _ (all _ (by omega) (by omega))] at on1
        rw [e _ (all _ (by omega) (Int.le_refl _))]
        exact two_pts on0 on1 b2
  obtain ⟨τ, m, l1, l2⟩ := key
  exact ⟨rank_lt (by omega) m l1 l2, τ, m, l1, l2⟩
end
end L3
end
section
namespace L3
open PySem PySem.NumText PySem.Spec PyProof.Rows L2 LamX RZ ClX
section
variable {K : PySem.W.Frag} {σ : L2.St} {H : Hp} {Q : VK}
theorem RuAt.upL {C : RA} {t : RT} {p : Addr} {ps : List Addr} {D : Addr} {l l' : List V} (h : RuAt C H t p ps) (hD : H D = some (.lst l)) : RuAt C (upd H D (.lst l')) t p ps :=
  h.imp (fun _ _ h => by rw [upd_ne (fun z => by rw [z, hD] at h; cases h)]; exact h) fun _ _ _ _ _ _ h => by rw [upd_ne (fun z => by rw [z, hD] at h; cases h)]; exact h
end
end L3
end
section
namespace L3
open PySem PySem.NumText PySem.Spec PyProof.Rows L2 LamX RZ ClX
def sgnM (lo : Bool) : Str := if lo then "less" else "more"
def PmAt (H : Hp) : RT → V → Prop
  | .fx s, v => ∃ p, v = .ref p ∧ H p = some (.tup [.str "fixed", .int s])
  | .dv x y w, v => ∃ p, v = .ref p ∧ H p = some (.tup [.str "part", .int x, .int y, .int w])
  | .jn lo a b, v => ∃ p u1 u2, v = .ref p ∧ H p = some (.tup [.str (sgnM lo), u1, u2]) ∧ PmAt H a u1 ∧ PmAt H b u2
theorem PmAt.imp {H H' : Hp} (k : ∀ p xs, H p = some (.tup xs) → H' p = some (.tup xs)) : ∀ {t : RT} {v : V}, PmAt H t v → PmAt H' t v
  | .fx _, _, ⟨p, e, h⟩ => ⟨p, e, k _ _ h⟩
  | .dv _ _ _, _, ⟨p, e, h⟩ => ⟨p, e, k _ _ h⟩
  | .jn _ _ _, _, ⟨p, x, y, e, h, a, b⟩ => ⟨p, x, y, e, k _ _ h, PmAt.imp k a, PmAt.imp k b⟩
theorem PmAt.exN {H H' : Hp} {t : RT} {v : V} (h : PmAt H t v) (e : ExtN H H') : PmAt H' t v := h.imp fun p xs h => e _ _ h fun _ z => nomatch z
theorem PmAt.ex {H H' : Hp} {t : RT} {v : V} (h : PmAt H t v) (e : Ex H H') : PmAt H' t v := h.exN e.n
theorem PmAt.keep {H H' : Hp} {t : RT} {v : V} {p : Addr} {n : Nat} (h : PmAt H t v) (hp : Pen H p n) (k : ∀ b o, b ≠ p → H b = some o → H' b = some o) : PmAt H' t v := h.imp fun q xs e => tup_keep e hp k
/-- what a drawn rule leaves -/
def SmF (r : Int) (t : RT) : Prop := ∀ s, RT.fx s ∈ t.leaves → s ≤ r
def PmGive (H : Hp) (p : Addr) (n k j N : Nat) (r : Int) (Q : VK) : Prop := ∀ t v H' m, m ≤ n + k → RT.ok t → t.n ≤ j → t.md ∣ N → SmF r t → PmAt H' t v → Pen H' p m → (∀ b o, b ≠ p → H b = some o → H' b = some o) → Q v H'
def UnA (H : Hp) (l : Addr) (N : Nat) : Prop := ∃ us : List Int, H l = some (.lst (us.map V.int)) ∧ us ≠ [] ∧ us.length ≤ 10 ∧ ∀ u ∈ us, 1 ≤ u ∧ u ≤ 24 ∧ u.toNat ∣ N
theorem UnA.ex {H H' : Hp} {l : Addr} {N : Nat} (h : UnA H l N) (e : Ex H H') : UnA H' l N := let ⟨us, h1, h2⟩ := h; ⟨us, e _ _ h1, h2⟩
theorem UnA.keep {H H' : Hp} {l p : Addr} {n N : Nat} (h : UnA H l N) (hp : Pen H p n) (k : ∀ b o, b ≠ p → H b = some o → H' b = some o) : UnA H' l N := let ⟨us, h1, h2⟩ := h; ⟨us, k _ _ (hp.ne h1 fun c n z => by unfold PenO at z; cases z) h1, h2⟩
def spRuleM (C : RA) (m : Nat) : Sp := fun vs H Q _ => ∃ t v, vs = [v] ∧ PmAt H t v ∧ t.fine ∧ t.n ≤ m ∧ ∀ q ps H', Ex H H' → RuAt C H' t q ps → Q (.ref q) H'
def spWishM (m : Nat) : Sp := fun vs H Q _ => ∃ t v r, vs = [v, .int r] ∧ PmAt H t v ∧ t.ok ∧ t.n ≤ m ∧ 1 ≤ r ∧ r ≤ 10 ^ 40 ∧ ∀ H', Ex H H' → Q (.int (wishT r t)) H'
def spModM (m : Nat) : Sp := fun vs H Q _ => ∃ t v, vs = [v] ∧ PmAt H t v ∧ t.ok ∧ t.n ≤ m ∧ ∀ H', Ex H H' → Q (.int ((t.md : Nat) : Int)) H'
def spSizeM : Sp := fun vs H Q _ => ∃ t v r, vs = [v, .int r] ∧ PmAt H t v ∧ t.ok ∧ t.n ≤ 7 ∧ 1 ≤ r ∧ r ≤ 10 ^ 40 ∧ ∀ H', Ex H H' → Q (.int (chunkT r t)) H'
theorem pm_lcm_more {s d j : Nat} (hs : 1 ≤ s) (hj : j * s ≤ Nat.lcm s d) (h : ¬ (j * s) % d = 0) : (j + 1) * s ≤ Nat.lcm s d := by
  obtain ⟨q, hq⟩ := Nat.dvd_lcm_left s d
  have hd := Nat.dvd_lcm_right s d
  have h1 : j ≤ q := Nat.le_of_mul_le_mul_right (by rw [Nat.mul_comm q s, ← hq]; exact hj) hs
  have h2 : j ≠ q := fun z => h (by rw [z, Nat.mul_comm q s, ← hq]; exact Nat.mod_eq_zero_of_dvd hd)
  rw [hq, Nat.mul_comm s q]
  exact Nat.mul_le_mul_right s (by omega)
theorem pm_lcm_done {s d j : Nat} (hs : 1 ≤ s) (h1 : 1 ≤ j) (hj : j * s ≤ Nat.lcm s d) (h : (j * s) % d = 0) : j * s = Nat.lcm s d :=
  Nat.le_antisymm hj (Nat.le_of_dvd (Nat.mul_pos h1 hs) (Nat.lcm_dvd (Nat.dvd_mul_left s j) (Nat.dvd_of_mod_eq_zero h)))
end L3
end
section
local macro_rules | `(tactic| tm_at "s1") => `(tactic| first
  | with_reducible first
    | refine L3.s_seq ?_ | refine L3.s_asg ?_ | refine L3.s_op ?_ | refine L3.s_c ?_ | refine L3.s_cb ?_ | refine L3.s_cons ?_ | refine L3.s_nil ?_ | refine L3.s_test ?_ | refine L3.s_bl ?_
    | refine L3.s_I0 ?_ | refine L3.s_and ?_ | refine L3.s_or ?_ | refine L3.s_not ?_ | refine L3.s_if ?_ | refine L3.s_next ?_ | refine L3.s_ret ?_ | refine L3.s_retN ?_ | refine L3.s_asgS ?_ | refine L3.s_drop ?_
    | refine L3.s_un ?_ | refine L3.s_U ?_ | refine L3.s_int ?_ | refine L3.s_intB ?_ | refine L3.s_abs ?_ | refine L3.s_andV ?_ | refine L3.s_orV ?_ | refine L3.s_notV ?_ | refine L3.s_ifE ?_ | refine L3.s_call ?_ | refine L3.s_lst ?_ | refine L3.s_tup ?_ | refine L3.s_tB ?_
    | refine L3.s_addI ?_ | refine L3.s_inS ?_ | refine L3.s_ninS ?_ | refine L3.s_slice ?_ | refine L3.s_part ?_ | refine L3.s_partI ?_ | refine L3.s_nopart ?_ | refine L3.s_cI ?_ | refine L3.s_cB ?_ | refine L3.s_chain ?_ | refine L3.s_bm ?_ | refine L3.s_lcS ?_ | refine L3.s_lcR ?_ | refine L3.s_strE ?_
    | refine L2.iteT ?_ | refine L2.iteF ?_ | refine L3.iteNF ?_ | refine L3.iteNT ?_
    | refine L3.s_eqI ?_ | refine L3.s_neI ?_ | refine L3.s_eqS ?_ | refine L3.s_neS ?_
    | refine L3.s_pair ?_ | refine L3.s_pair2 ?_ | refine L3.s_fld ?_ | refine L3.s_make ?_ | refine L3.s_m1 ?_ | refine L3.s_isstr ?_
    | refine L3.s_xfV ?_ | refine L3.s_lstN ?_ | refine L3.s_callF ?_ | refine L3.s_lcL ?_ | refine L3.s_par3 ?_ | refine L3.s_trip ?_ | refine L3.s_asgT' ?_ | refine L3.s_gC ?_ | refine L3.s_gN ?_ | refine L3.s_fldG ?_ | refine L3.s_raise1 ?_ | refine L3.s_raise2 ?_ | refine L3.s_star ?_ | refine L3.s_mkCR ?_ | refine L3.s_lcZ ?_ | refine L3.s_forL ?_ | refine L3.s_forT ?_ | refine L3.s_gNm ?_ | refine L3.s_forE ?_ | refine L3.s_stC ?_ | refine L3.s_cmC ?_ | refine L3.s_forR1 ?_ | refine L3.s_lcTp ?_ | refine L3.s_forZ ?_ | refine L3.s_orT ?_ | refine L3.s_mt ?_ | refine L3.s_revT ?_ | refine L3.s_revL ?_ | refine L3.s_slOwn ?_ | refine L3.s_sl3 ?_ | refine L3.s_lcO ?_ | refine L3.s_stR ?_
    | refine L3.s_isN ?_ | refine L3.s_isB ?_ | refine L3.s_nisN ?_ | refine L3.s_nisB ?_
  | ((with_reducible refine' L3.s_var ?e ?_); (case e => rfl))
  | ((with_reducible refine' L3.s_aug ?e ?_); (case e => rfl))
  | ((with_reducible refine' L3.s_pow ?c ?_); (case c => exact ⟨by decide, by decide, by decide⟩)))
local macro_rules | `(tactic| tm_at "s") => `(tactic| repeat tm_at "s1")
namespace K53
open PySem PySem.NumText PySem.Spec PyProof.Rows L2 L3 LamX RZ ClX
abbrev s__law_far : Stmt := topS 61
theorem sc__law_far : FnScope ["_law_pen_here", "_law_great", "_law_w", "_law_part", "_law_made"] ["_law_pen_here"] (defScope s__law_far) := ⟨rfl, rfl, rfl, by decide +kernel, rfl, by decide +kernel, by decide +kernel⟩
def spFar : Sp := fun vs H Q _ => ∃ p n, vs = [.ref p] ∧ Pen H p n ∧ n + 12 < lim ∧ PmGive H p n 10 4 120 (10 ^ 30) Q
section
variable {P : Program} {w : World} {K : PySem.W.Frag} {mg : Str → Option Value} {base : Heap} {C : RA} {CR0 CY CS CR CM CL : Addr}
theorem ok_far {f : Addr} {fd : FuncData} (F : Fun K "_law_far" "_law_far" s__law_far f fd) (T : Txt K mg C CR0 CY CS CR CM CL) (c__law_draw : Fn P w K mg base CX0 1 "_law_draw" ["_law_pen_here", "_law_many"] spDraw) (c__law_pick : Fn P w K mg base CX0 2 "_law_pick" ["_law_pen_here", "_law_some"] spPick) :
    FnG P w K mg base CX0 3 f fd ["_law_pen_here"] spFar := by
  refine funG F sc__law_far (fun vs H Q E h => ?_) (fun cd A fr s H vs Q E hr hg h => ?_)
  · obtain ⟨p, n, rfl, _⟩ := h; rfl
  · obtain ⟨p, n, rfl, hp, hn, k⟩ := h
    refine ⟨_, (pss_cons (ps_set (i := 1) sc__law_far.nd rfl (Or.inl rfl) (pe_f c__law_pick hr hg pass0 (pa_cons (pv 0) (pa_cons (pe_lst (pa_cons (pe_op op_pow pe_int pe_int) (pa_cons (pe_op opAdd (pe_op op_pow pe_int pe_int) pe_int) (pa_cons (pe_op op_pow pe_int pe_int) (pa_cons (pe_op opAdd (pe_op opMul pe_int (pe_op op_pow pe_int pe_int)) pe_int) pa_nil))))) pa_nil))))
      (pss_cons (ps_set (i := 2) sc__law_far.nd rfl (Or.inl rfl) (pe_f c__law_pick hr hg pass0 (pa_cons (pv 0) (pa_cons (pe_lst (pa_cons pe_int (pa_cons pe_int (pa_cons pe_int (pa_cons pe_int (pa_cons pe_int pa_nil)))))) pa_nil))))
      (pss_cons (ps_set (i := 3) sc__law_far.nd rfl (Or.inl rfl) (pe_tup (pa_cons pe_str (pa_cons (pe_op opAdd pe_int (pe_f c__law_draw hr hg pass0 (pa_cons (pv 0) (pa_cons (pe_op op_sub (pv 2) pe_int) pa_nil)))) (pa_cons (pe_f c__law_pick hr hg pass0 (pa_cons (pv 0) (pa_cons (pe_lst (pa_cons pe_int (pa_cons (pe_op op_sub (pv 2) pe_int) (pa_cons (pe_un un_neg pe_int) (pa_cons pe_int pa_nil))))) pa_nil))) (pa_cons (pv 2) pa_nil))))))
      (pss_cons (ps_set (i := 4) sc__law_far.nd rfl (Or.inl rfl) (pe_tup (pa_cons (pe_f c__law_pick hr hg pass0 (pa_cons (pv 0) (pa_cons (pe_lst (pa_cons pe_str (pa_cons pe_str pa_nil))) pa_nil))) (pa_cons (pv 3) (pa_cons (pe_tup (pa_cons pe_str (pa_cons (pv 1) pa_nil))) pa_nil)))))
      (Evl.pss_cut (ps_if (pt_cmpR (KX.eqU (K := K) rfl hr.units) (pe_f c__law_draw hr hg pass0 (pa_cons (pv 0) (pa_cons pe_int pa_nil))) pe_int (nomark _)) (pss_one (ps_set (i := 4) sc__law_far.nd rfl (Or.inl rfl) (pe_tup (pa_cons (pe_f c__law_pick hr hg pass0 (pa_cons (pv 0) (pa_cons (pe_lst (pa_cons pe_str (pa_cons pe_str pa_nil))) pa_nil))) (pa_cons (pv 4) (pa_cons (pe_tup (pa_cons pe_str (pa_cons pe_int (pa_cons pe_int (pa_cons (pe_f c__law_pick hr hg pass0 (pa_cons (pv 0) (pa_cons (pe_lst (pa_cons pe_int (pa_cons pe_int (pa_cons pe_int pa_nil)))) pa_nil))) pa_nil))))) pa_nil)))))) pss_nil)
      (Evl.pss_cut (ps_if (pt_cmpR (KX.eqU (K := K) rfl hr.units) (pe_f c__law_draw hr hg pass0 (pa_cons (pv 0) (pa_cons pe_int pa_nil))) pe_int (nomark _)) (pss_one (ps_set (i := 4) sc__law_far.nd rfl (Or.inl rfl) (pe_tup (pa_cons (pe_f c__law_pick hr hg pass0 (pa_cons (pv 0) (pa_cons (pe_lst (pa_cons pe_str (pa_cons pe_str pa_nil))) pa_nil))) (pa_cons (pe_tup (pa_cons pe_str (pa_cons (pe_op opAdd (pe_op op_fdivW (pv 1) pe_int) pe_int) pa_nil))) (pa_cons (pv 4) pa_nil)))))) pss_nil)
      (pss_one (ps_ret (pv 4))))))))), ?_⟩
    tm_at "s"
    refine s_mulB (by decide) (by decide +kernel) ?_
    tm_at "s"
    refine s_new (Nat.le_of_lt (small1000 (by simp))) fun z1 H1 n1 x1 h1 => ?_
    refine ⟨p, z1, n, _, rfl, h1, by simp, by simp, hp.ex x1, by omega, fun v1 H2 hv1 p2 k2 => ?_⟩
    obtain ⟨g, rfl, hg1, hg2⟩ : ∃ g : Int, v1 = .int g ∧ 1 ≤ g ∧ g ≤ 10 ^ 29 := by
      simp only [List.mem_cons, List.not_mem_nil, or_false] at hv1
      rcases hv1 with rfl | rfl | rfl | rfl <;> exact ⟨_, rfl, by decide +kernel, by decide +kernel⟩
    have kk2 : ∀ b o, b ≠ p → H b = some o → H2 b = some o := fun b o hb h => k2 b o hb (x1 _ _ h)
    clear k2 x1 h1 n1 hv1
    try dsimp only
    tm_at "s"
    refine s_new (Nat.le_of_lt (small1000 (by simp))) fun z2 H3 n3 x3 h3 => ?_
    refine ⟨p, z2, n + 1, _, rfl, h3, by simp, by simp, p2.ex x3, by omega, fun v2 H4 hv2 p4 k4 => ?_⟩
    obtain ⟨w, rfl, hw⟩ : ∃ i : Int, v2 = .int i ∧ (i = 2 ∨ i = 3 ∨ i = 4 ∨ i = 5 ∨ i = 12) := by
      simp only [List.mem_cons, List.not_mem_nil, or_false] at hv2
      rcases hv2 with rfl | rfl | rfl | rfl | rfl <;> exact ⟨_, rfl, by omega⟩
    have kk4 : ∀ b o, b ≠ p → H b = some o → H4 b = some o := fun b o hb h => k4 b o hb (x3 _ _ (kk2 b o hb h))
    have w0 : 1 ≤ w ∧ w ≤ 24 := by omega
    have wd : w.toNat ∣ 120 := by rcases hw with rfl | rfl | rfl | rfl | rfl <;> decide
    clear k4 x3 h3 n3 hv2 kk2 p2 z1 z2 H1 H2 H3
    try dsimp only
    tm_at "s"
    refine ⟨p, n + 1 + 1, w - 1, rfl, by omega, Nat.lt_of_le_of_lt (show _ ≤ 24 by omega) (Nat.lt_of_lt_of_le (by decide : 24 < 2 ^ 5) (Nat.pow_le_pow_right (by decide) (by decide))), p4, by omega, fun d H5 d0 d1 p5 k5 => ?_⟩
    try dsimp only
    tm_at "s"
    refine s_new (Nat.le_of_lt (small1000 (by simp))) fun z3 H6 n6 x6 h6 => ?_
    refine ⟨p, z3, n + 1 + 1 + 1, _, rfl, h6, by simp, by simp, p5.ex x6, by omega, fun v3 H7 hv3 p7 k7 => ?_⟩
    obtain ⟨y, rfl, hy⟩ : ∃ i : Int, v3 = .int i ∧ -1000 ≤ i ∧ i ≤ 1000 := by
      simp only [List.mem_cons, List.not_mem_nil, or_false] at hv3
      rcases hv3 with rfl | rfl | rfl | rfl <;> exact ⟨_, rfl, by omega, by omega⟩
    try dsimp only
    tm_at "s"
    refine s_new (Nat.le_of_lt (small1000 (by simp))) fun q H8 n8 x8 h8 => ?_
    have kk8 : ∀ b o, b ≠ p → H b = some o → H8 b = some o := fun b o hb h => x8 _ _ (k7 b o hb (x6 _ _ (k5 b o hb (kk4 b o hb h))))
    have p8 := p7.ex x8
    clear k7 x6 k5 x8 kk4 p4 p5 p7 n6 h6 hv3 n8 z3 H4 H5 H6 H7
    try dsimp only
    tm_at "s"
    refine s_new (Nat.le_of_lt (small1000 (by simp))) fun z4 H9 n9 x9 h9 => ?_
    refine ⟨p, z4, n + 1 + 1 + 1 + 1, _, rfl, h9, by simp, by simp, p8.ex x9, by omega, fun sg1 H10 hsg1 p10 k10 => ?_⟩
    obtain ⟨lo1, rfl⟩ : ∃ lo, sg1 = .str (sgnM lo) := by
      simp only [List.mem_cons, List.not_mem_nil, or_false] at hsg1
      rcases hsg1 with rfl | rfl
      · exact ⟨true, rfl⟩
      · exact ⟨false, rfl⟩
    have kk10 : ∀ b o, b ≠ p → H b = some o → H10 b = some o := fun b o hb h => k10 b o hb (x9 _ _ (kk8 b o hb h))
    have h10 := tup_keep (x9 _ _ h8) (p8.ex x9) k10
    clear k10 kk8 x9 h9 n9 p8 h8 hsg1
    try dsimp only
    tm_at "s"
    refine s_new (Nat.le_of_lt (small1000 (by simp))) fun q2 H11 n11 x11 h11 => ?_
    try dsimp only
    tm_at "s"
    refine s_new (Nat.le_of_lt (small1000 (by simp))) fun q3 H12 n12 x12 h12 => ?_
    have kk12 : ∀ b o, b ≠ p → H b = some o → H12 b = some o := fun b o hb h => x12 _ _ (x11 _ _ (kk10 b o hb h))
    have p12 := (p10.ex x11).ex x12
    have w29 : (10 : Int) ^ 29 ≤ 10 ^ 30 := by decide +kernel
    refine s_cut (M := fun σ H' => ∃ t v m, σ = [some (.ref p), some (.int g), some (.int w), some (.ref q), some v] ∧ RT.ok t ∧ t.n ≤ 3 ∧ t.md ∣ 120 ∧ SmF (10 ^ 30) t ∧ PmAt H' t v ∧ Pen H' p m ∧ m ≤ n + 8 ∧ ∀ b o, b ≠ p → H b = some o → H' b = some o) ?_ ?_
    · have pm : PmAt H12 (.jn lo1 (.dv (1 + d) y w) (.fx g)) (.ref q3) := ⟨q3, _, _, rfl, h12, ⟨q, rfl, x12 _ _ (x11 _ _ h10)⟩, ⟨q2, rfl, x12 _ _ h11⟩⟩
      have okb : RT.ok (.jn lo1 (.dv (1 + d) y w) (.fx g)) := ⟨⟨⟨by omega, by omega⟩, hy, w0.1, w0.2⟩, ⟨by omega, by omega⟩⟩
      have sm : SmF (10 ^ 30) (.jn lo1 (.dv (1 + d) y w) (.fx g)) := fun s hs => by
        have hs' : RT.fx s = .dv (1 + d) y w ∨ RT.fx s = .fx g := by
          have : RT.fx s ∈ [RT.dv (1 + d) y w, RT.fx g] := hs
          simpa using this
        rcases hs' with h | h
        · cases h
        · cases h; omega
      have md : (RT.jn lo1 (.dv (1 + d) y w) (.fx g)).md ∣ 120 := Nat.lcm_dvd wd (Nat.one_dvd _)
      tm_at "s"
      refine ⟨p, n + 1 + 1 + 1 + 1 + 1, 2, rfl, by decide, by decide +kernel, p12, by omega, fun e H13 e0 e1 p13 k13 => ?_⟩
      have kk13 : ∀ b o, b ≠ p → H b = some o → H13 b = some o := fun b o hb h => k13 b o hb (kk12 b o hb h)
      have pm13 := pm.keep p12 k13
      tm_at "s"
      refine iteD (fun _ => ?_) (fun _ => ?_)
      · try dsimp only
        tm_at "s"
        refine s_new (Nat.le_of_lt (small1000 (by simp))) fun z5 H14 n14 x14 h14 => ?_
        refine ⟨p, z5, n + 1 + 1 + 1 + 1 + 1 + 1, _, rfl, h14, by simp, by simp, p13.ex x14, by omega, fun sg2 H15 hsg2 p15 k15 => ?_⟩
        obtain ⟨lo2, rfl⟩ : ∃ lo, sg2 = .str (sgnM lo) := by
          simp only [List.mem_cons, List.not_mem_nil, or_false] at hsg2
          rcases hsg2 with rfl | rfl
          · exact ⟨true, rfl⟩
          · exact ⟨false, rfl⟩
        have kk15 : ∀ b o, b ≠ p → H b = some o → H15 b = some o := fun b o hb h => k15 b o hb (x14 _ _ (kk13 b o hb h))
        have pm15 := (pm13.ex x14).keep (p13.ex x14) k15
        try dsimp only
        tm_at "s"
        refine s_new (Nat.le_of_lt (small1000 (by simp))) fun z6 H16 n16 x16 h16 => ?_
        refine ⟨p, z6, n + 1 + 1 + 1 + 1 + 1 + 1 + 1, _, rfl, h16, by simp, by simp, p15.ex x16, by omega, fun v6 H17 hv6 p17 k17 => ?_⟩
        obtain ⟨w6, rfl, hw6⟩ : ∃ i : Int, v6 = .int i ∧ (i = 1 ∨ i = 6 ∨ i = 24) := by
          simp only [List.mem_cons, List.not_mem_nil, or_false] at hv6
          rcases hv6 with rfl | rfl | rfl <;> exact ⟨_, rfl, by omega⟩
        have wd6 : w6.toNat ∣ 120 := by rcases hw6 with rfl | rfl | rfl <;> decide
        have kk17 : ∀ b o, b ≠ p → H b = some o → H17 b = some o := fun b o hb h => k17 b o hb (x16 _ _ (kk15 b o hb h))
        have pm17 := (pm15.ex x16).keep (p15.ex x16) k17
        clear k17 x16 k15 x14 k13 kk13 kk15 pm13 pm15 h16 h14 hv6 hsg2
        try dsimp only
        tm_at "s"
        refine s_new (Nat.le_of_lt (small1000 (by simp))) fun q5 H18 n18 x18 h18 => ?_
        try dsimp only
        tm_at "s"
        refine s_new (Nat.le_of_lt (small1000 (by simp))) fun q6 H19 n19 x19 h19 => ?_
        refine ⟨.jn lo2 (.jn lo1 (.dv (1 + d) y w) (.fx g)) (.dv 1 0 w6), _, n + 8, rfl, ⟨okb, ⟨by decide, by decide⟩, ⟨by decide, by decide⟩, by omega, by omega⟩, Nat.le_refl 3, Nat.lcm_dvd md wd6, fun s hs => ?_, ⟨q6, _, _, rfl, h19, (pm17.ex x18).ex x19, ⟨q5, rfl, x19 _ _ h18⟩⟩, (p17.ex x18).ex x19, Nat.le_refl _, fun b o hb h => x19 _ _ (x18 _ _ (kk17 b o hb h))⟩
        rcases List.mem_append.mp hs with h | h
        · exact sm s h
        · cases List.mem_singleton.mp h
      · try dsimp only
        tm_at "s"
        exact ⟨_, _, n + 6, rfl, okb, (show 1 + 1 ≤ 3 by decide), md, sm, pm13, p13, by omega, kk13⟩
    rintro _ H13 ⟨t, v, m, rfl, ok3, tn3, md3, sm3, pm3, p3, hm, k3⟩
    clear kk12 kk10 p12 p10 h12 h11 h10 x12 x11
    try dsimp only
    tm_at "s"
    refine s_cut (M := fun σ H' => ∃ t v m, σ = [some (.ref p), some (.int g), some (.int w), some (.ref q), some v] ∧ RT.ok t ∧ t.n ≤ 4 ∧ t.md ∣ 120 ∧ SmF (10 ^ 30) t ∧ PmAt H' t v ∧ Pen H' p m ∧ m ≤ n + 10 ∧ ∀ b o, b ≠ p → H b = some o → H' b = some o) ?_ ?_
    · tm_at "s"
      refine ⟨p, m, 2, rfl, by decide, by decide +kernel, p3, by omega, fun e H14 e0 e1 p14 k14 => ?_⟩
      have kk14 : ∀ b o, b ≠ p → H b = some o → H14 b = some o := fun b o hb h => k14 b o hb (k3 b o hb h)
      have pm14 := pm3.keep p3 k14
      tm_at "s"
      refine iteD (fun _ => ?_) (fun _ => ?_)
      · try dsimp only
        tm_at "s"
        refine s_new (Nat.le_of_lt (small1000 (by simp))) fun z5 H15 n15 x15 h15 => ?_
        refine ⟨p, z5, m + 1, _, rfl, h15, by simp, by simp, p14.ex x15, by omega, fun sg3 H16 hsg3 p16 k16 => ?_⟩
        obtain ⟨lo3, rfl⟩ : ∃ lo, sg3 = .str (sgnM lo) := by
          simp only [List.mem_cons, List.not_mem_nil, or_false] at hsg3
          rcases hsg3 with rfl | rfl
          · exact ⟨true, rfl⟩
          · exact ⟨false, rfl⟩
        have kk16 : ∀ b o, b ≠ p → H b = some o → H16 b = some o := fun b o hb h => k16 b o hb (x15 _ _ (kk14 b o hb h))
        have pm16 := (pm14.ex x15).keep (p14.ex x15) k16
        try dsimp only
        tm_at "s"
        refine s_divP (by decide) (by decide) ?_
        have g3 : 0 ≤ g / 3 ∧ g / 3 ≤ g := ⟨by omega, by omega⟩
        try dsimp only
        tm_at "s"
        refine s_new (Nat.le_of_lt (small1000 (by simp))) fun q7 H17 n17 x17 h17 => ?_
        try dsimp only
        tm_at "s"
        refine s_new (Nat.le_of_lt (small1000 (by simp))) fun q8 H18 n18 x18 h18 => ?_
        have w30 : (10 : Int) ^ 29 + 1 ≤ 10 ^ 30 := by decide +kernel
        refine ⟨.jn lo3 (.fx (g / 3 + 1)) t, _, m + 2, rfl, ⟨⟨by omega, by omega⟩, ok3⟩, (show 1 + t.n ≤ 4 by omega), Nat.lcm_dvd (Nat.one_dvd _) md3, fun s hs => ?_, ⟨q8, _, _, rfl, h18, ⟨q7, rfl, x18 _ _ h17⟩, (pm16.ex x17).ex x18⟩, (p16.ex x17).ex x18, by omega, fun b o hb h => x18 _ _ (x17 _ _ (kk16 b o hb h))⟩
        rcases List.mem_append.mp hs with h | h
        · cases List.mem_singleton.mp h; omega
        · exact sm3 s h
      · try dsimp only
        tm_at "s"
        exact ⟨t, v, m + 1, rfl, ok3, by omega, md3, sm3, pm14, p14, by omega, kk14⟩
    rintro _ H14 ⟨t, v, m, rfl, ok3, tn3, md3, sm3, pm3, p3, hm, k3⟩
    try dsimp only
    tm_at "s"
    exact k t v H14 m hm ok3 tn3 md3 sm3 pm3 p3 k3
end
end K53
end
section
local macro_rules | `(tactic| tm_at "s1") => `(tactic| first
  | with_reducible first
    | refine L3.s_seq ?_ | refine L3.s_asg ?_ | refine L3.s_op ?_ | refine L3.s_c ?_ | refine L3.s_cb ?_ | refine L3.s_cons ?_ | refine L3.s_nil ?_ | refine L3.s_test ?_ | refine L3.s_bl ?_
    | refine L3.s_I0 ?_ | refine L3.s_and ?_ | refine L3.s_or ?_ | refine L3.s_not ?_ | refine L3.s_if ?_ | refine L3.s_next ?_ | refine L3.s_ret ?_ | refine L3.s_retN ?_ | refine L3.s_asgS ?_ | refine L3.s_drop ?_
    | refine L3.s_un ?_ | refine L3.s_U ?_ | refine L3.s_int ?_ | refine L3.s_intB ?_ | refine L3.s_abs ?_ | refine L3.s_andV ?_ | refine L3.s_orV ?_ | refine L3.s_notV ?_ | refine L3.s_ifE ?_ | refine L3.s_call ?_ | refine L3.s_lst ?_ | refine L3.s_tup ?_ | refine L3.s_tB ?_
    | refine L3.s_addI ?_ | refine L3.s_inS ?_ | refine L3.s_ninS ?_ | refine L3.s_slice ?_ | refine L3.s_part ?_ | refine L3.s_partI ?_ | refine L3.s_nopart ?_ | refine L3.s_cI ?_ | refine L3.s_cB ?_ | refine L3.s_chain ?_ | refine L3.s_bm ?_ | refine L3.s_lcS ?_ | refine L3.s_lcR ?_ | refine L3.s_strE ?_
    | refine L2.iteT ?_ | refine L2.iteF ?_ | refine L3.iteNF ?_ | refine L3.iteNT ?_
    | refine L3.s_eqI ?_ | refine L3.s_neI ?_ | refine L3.s_eqS ?_ | refine L3.s_neS ?_
    | refine L3.s_pair ?_ | refine L3.s_pair2 ?_ | refine L3.s_fld ?_ | refine L3.s_make ?_ | refine L3.s_m1 ?_ | refine L3.s_isstr ?_
    | refine L3.s_xfV ?_ | refine L3.s_lstN ?_ | refine L3.s_callF ?_ | refine L3.s_lcL ?_ | refine L3.s_par3 ?_ | refine L3.s_trip ?_ | refine L3.s_asgT' ?_ | refine L3.s_gC ?_ | refine L3.s_gN ?_ | refine L3.s_fldG ?_ | refine L3.s_raise1 ?_ | refine L3.s_raise2 ?_ | refine L3.s_star ?_ | refine L3.s_mkCR ?_ | refine L3.s_lcZ ?_ | refine L3.s_forL ?_ | refine L3.s_forT ?_ | refine L3.s_gNm ?_ | refine L3.s_forE ?_ | refine L3.s_stC ?_ | refine L3.s_cmC ?_ | refine L3.s_forR1 ?_ | refine L3.s_lcTp ?_ | refine L3.s_forZ ?_ | refine L3.s_orT ?_ | refine L3.s_mt ?_ | refine L3.s_revT ?_ | refine L3.s_revL ?_ | refine L3.s_slOwn ?_ | refine L3.s_sl3 ?_ | refine L3.s_lcO ?_ | refine L3.s_stR ?_
    | refine L3.s_isN ?_ | refine L3.s_isB ?_ | refine L3.s_nisN ?_ | refine L3.s_nisB ?_
  | ((with_reducible refine' L3.s_var ?e ?_); (case e => rfl))
  | ((with_reducible refine' L3.s_aug ?e ?_); (case e => rfl))
  | ((with_reducible refine' L3.s_pow ?c ?_); (case c => exact ⟨by decide, by decide, by decide⟩)))
local macro_rules | `(tactic| tm_at "s") => `(tactic| repeat tm_at "s1")
namespace K53
open PySem PySem.NumText PySem.Spec PyProof.Rows L2 L3 LamX RZ ClX
abbrev s_need_rest : Stmt := topS 24
theorem sc_need_rest : FnScope ["rest"] ["rest"] (defScope s_need_rest) := ⟨rfl, rfl, rfl, by decide +kernel, rfl, by decide +kernel, by decide +kernel⟩
abbrev s_Fixed_wish : Stmt := inClass (topS 26) 1
theorem sc_Fixed_wish : FnScope ["self", "rest"] ["self", "rest"] (defScope s_Fixed_wish) := ⟨rfl, rfl, rfl, by decide +kernel, rfl, by decide +kernel, by decide +kernel⟩
abbrev s_Divided_wish : Stmt := inClass (topS 27) 2
theorem sc_Divided_wish : FnScope ["self", "rest"] ["self", "rest"] (defScope s_Divided_wish) := ⟨rfl, rfl, rfl, by decide +kernel, rfl, by decide +kernel, by decide +kernel⟩
abbrev s_Lesser_wish : Stmt := inClass (topS 28) 1
theorem sc_Lesser_wish : FnScope ["self", "rest"] ["self", "rest"] (defScope s_Lesser_wish) := ⟨rfl, rfl, rfl, by decide +kernel, rfl, by decide +kernel, by decide +kernel⟩
abbrev s_Greater_wish : Stmt := inClass (topS 29) 1
theorem sc_Greater_wish : FnScope ["self", "rest"] ["self", "rest"] (defScope s_Greater_wish) := ⟨rfl, rfl, rfl, by decide +kernel, rfl, by decide +kernel, by decide +kernel⟩
theorem KX_min {X : Cx} {K : PySem.W.Frag} (hK : X.K = K) (hc : X.calm = true) : CallR X (.builtin "min") (rMin K) := by subst hK; exact cr_min hc
theorem KX_max {X : Cx} {K : PySem.W.Frag} (hK : X.K = K) (hc : X.calm = true) : CallR X (.builtin "max") (rMax K) := by subst hK; exact cr_max hc
section
variable {P : Program} {w : World} {K : PySem.W.Frag} {mg : Str → Option Value} {base : Heap} {C : RA} {CR0 CY CS CR CM CE CL : Addr}
/-- no rest -/
def OutR (H : Hp) (v : V) : Prop := (∃ t, Od H v t) ∨ ∃ i, v = .int i ∧ i < 1
def spNeedR (CE : Addr) : Sp := fun vs H Q E => ∃ v, vs = [v] ∧ ((∃ r, v = .int r ∧ 1 ≤ r ∧ Q .non H) ∨ (OutR H v ∧ Rz CE "value" v H E))
theorem ok_needR {f : Addr} {fd : FuncData} (F : Fun K "need_rest" "need_rest" s_need_rest f fd) (T : Txt K mg C CR0 CY CS CR CM CL) (g_E : ∃ u, mg "BadRest" = some u ∧ RelV (.ref CE) u) (c_is_integer : FnO P w K mg base CX0 1 "is_integer" ["value"] spIsI) (e_BadRest : Er1 P w K mg base "BadRest" CE "value") : FnOk P w K mg base (L2.CX P w) 3 f fd ["rest"] (spNeedR CE) := by
  refine funO F sc_need_rest (fun vs H Q E h => ?_) (fun cd A fr s H vs Q E hr h => ?_)
  · obtain ⟨v, rfl, _⟩ := h; rfl
  · obtain ⟨v, rfl, hc⟩ := h
    refine ⟨_, (pss_one (ps_if (PW.pt (pw_or (pt_not (pt_val (pe_o c_is_integer hr pass0 (pa_cons (pv 0) pa_nil)))) (pw_or1 (pt_cmpR op_lt (pv 0) pe_int (nomark _))))) (pss_one (ps_raise1 e_BadRest hr rfl (takes_of rfl rfl rfl rfl) (pa_cons (pv 0) pa_nil))) pss_nil)), ?_⟩
    tm_at "s"
    rcases hc with ⟨r, rfl, hr1, k⟩ | ⟨⟨t, od⟩ | ⟨i, rfl, hi⟩, rz⟩
    · refine ⟨_, rfl, .inl ⟨r, rfl, ?_⟩⟩
      tm_at "s"
      refine iteD (fun z => absurd z (by omega)) (fun _ => ?_)
      tm_at "s"
      exact k
    · refine ⟨_, rfl, .inr ⟨t, od, ?_⟩⟩
      tm_at "s"
      exact s_rz rz
    · refine ⟨_, rfl, .inl ⟨i, rfl, ?_⟩⟩
      tm_at "s"
      refine iteD (fun _ => ?_) (fun z => absurd hi z)
      tm_at "s"
      exact s_rz rz
def spWish (C : RA) (CE : Addr) (j m : Nat) : Sp := fun vs H Q E => ∃ t p ps v, vs = [.ref p, v] ∧ RuAt C H t p ps ∧ t.ok ∧ t.ix = j ∧ t.n ≤ m ∧ ((∃ r, v = .int r ∧ 1 ≤ r ∧ r ≤ 10 ^ 40 ∧ ∀ H', Ex H H' → Q (.int (wishT r t)) H') ∨ (OutR H v ∧ Rz CE "value" v H E))
theorem ru_wish {H : Hp} {t : RT} {p : Addr} {ps : List Addr} (h : RuAt C H t p ps) : ∃ dx fs, H p = some (.ins (C.at t.ix) dx fs) ∧ fs.lookup ("wish" : Str) = none := by
  cases t with
  | fx s => obtain ⟨rfl, dx, t, a, b⟩ := h; exact ⟨dx, _, a, rfl⟩
  | dv x y w => obtain ⟨rfl, dx, t, a, b⟩ := h; exact ⟨dx, _, a, rfl⟩
  | jn lo a b =>
    obtain ⟨qa, qb, pa, pb, dx, t, e, h1, h2, _⟩ := h
    cases lo
    · exact ⟨dx, _, h1, rfl⟩
    · exact ⟨dx, _, h1, rfl⟩
theorem ok_Fwish {f : Addr} {fd : FuncData} (F : Fun K "wish" "Fixed.wish" s_Fixed_wish f fd) (T : Txt K mg C CR0 CY CS CR CM CL) (m : Nat) (c_need_rest : FnO P w K mg base (L2.CX P w) 3 "need_rest" ["rest"] (spNeedR CE)) : FnOk P w K mg base (L2.CX P w) (m + 4) f fd ["self", "rest"] (spWish C CE 0 (m + 1)) := by
  refine funO F sc_Fixed_wish (fun vs H Q E h => ?_) (fun cd A fr s H vs Q E hr h => ?_)
  · obtain ⟨t, p, ps, v, rfl, _⟩ := h; rfl
  · obtain ⟨t, p, ps, v, rfl, ru, ok, hj, hm, hc⟩ := h
    refine ⟨_, (pss_cons (ps_expr (pe_o (hk := by omega) c_need_rest hr (passT (takes_of rfl rfl rfl rfl) (fun _ _ _ _ h => h)) (pa_cons (pv 1) pa_nil)))
      (pss_one (ps_ret (KX.fld (K := K) rfl (pv 0) rfl)))), ?_⟩
    tm_at "s"
    match t, hj, ru with
    | .fx i, _, ⟨e0, d1, t1, h1, _⟩ =>
      rcases hc with ⟨r, rfl, h1', h2', k⟩ | ⟨o, rz⟩
      · refine ⟨_, rfl, .inl ⟨r, rfl, h1', ?_⟩⟩
        tm_at "s"
        exact ⟨p, C.f, d1, _, _, rfl, h1, T.f.cl, T.nFs, rfl, k H (Ex.refl _)⟩
      · exact ⟨_, rfl, .inr ⟨o, rz⟩⟩
theorem ok_Dwish {f : Addr} {fd : FuncData} (F : Fun K "wish" "Divided.wish" s_Divided_wish f fd) (T : Txt K mg C CR0 CY CS CR CM CL) (m : Nat) (c_need_rest : FnO P w K mg base (L2.CX P w) 3 "need_rest" ["rest"] (spNeedR CE)) : FnOk P w K mg base (L2.CX P w) (m + 4) f fd ["self", "rest"] (spWish C CE 1 (m + 1)) := by
  refine funO F sc_Divided_wish (fun vs H Q E h => ?_) (fun cd A fr s H vs Q E hr h => ?_)
  · obtain ⟨t, p, ps, v, rfl, _⟩ := h; rfl
  · obtain ⟨t, p, ps, v, rfl, ru, ok, hj, hm, hc⟩ := h
    refine ⟨_, (pss_cons (ps_expr (pe_o (hk := by omega) c_need_rest hr (passT (takes_of rfl rfl rfl rfl) (fun _ _ _ _ h => h)) (pa_cons (pv 1) pa_nil)))
      (pss_one (ps_ret (pe_op op_fdivW (pe_op opAdd (pe_op opMul (KX.fld (K := K) rfl (pv 0) rfl) (pv 1)) (KX.fld (K := K) rfl (pv 0) rfl)) (KX.fld (K := K) rfl (pv 0) rfl))))), ?_⟩
    tm_at "s"
    match t, hj, ru, ok with
    | .dv x y z, _, ⟨e0, d1, t1, h1, _⟩, ok =>
      rcases hc with ⟨r, rfl, h1', h2', k⟩ | ⟨o, rz⟩
      · refine ⟨_, rfl, .inl ⟨r, rfl, h1', ?_⟩⟩
        tm_at "s"
        refine ⟨p, C.d, d1, _, _, rfl, h1, T.d.cl, T.nDx, rfl, ?_⟩
        tm_at "s"
        have := ok.1
        have := ok.2.2
        refine s_mulB (by omega) (by omega) ?_
        tm_at "s"
        refine ⟨p, C.d, d1, _, _, rfl, h1, T.d.cl, T.nDy, rfl, ?_⟩
        tm_at "s"
        refine ⟨p, C.d, d1, _, _, rfl, h1, T.d.cl, T.nDw, rfl, ?_⟩
        tm_at "s"
        exact s_divP (by omega) (by omega) (k H (Ex.refl _))
      · exact ⟨_, rfl, .inr ⟨o, rz⟩⟩
theorem ok_Lwish {f : Addr} {fd : FuncData} (F : Fun K "wish" "Lesser.wish" s_Lesser_wish f fd) (T : Txt K mg C CR0 CY CS CR CM CL) (m : Nat) (mt_wish : ∀ j, j < 4 → Mt P w K mg base (L2.CX P w) (m + 3) (C.at j) "wish" "self" ["rest"] (spWish C CE j m)) : FnOk P w K mg base (L2.CX P w) (m + 4) f fd ["self", "rest"] (spWish C CE 2 (m + 1)) := by
  refine funO F sc_Lesser_wish (fun vs H Q E h => ?_) (fun cd A fr s H vs Q E hr h => ?_)
  · obtain ⟨t, p, ps, v, rfl, _⟩ := h; rfl
  · obtain ⟨t, p, ps, v, rfl, ru, ok, hj, hm, hc⟩ := h
    refine ⟨_, (pss_one (ps_ret (pe_callB (KX_min (K := K) rfl (by rfl)) (by rfl) T.b_min (by decide +kernel) (pa_cons (pe_lst (pa_cons (pe_callTy (KX.callInt (K := K)) (by rfl) T.b_int (by decide +kernel) (pa_cons (pe_any (n := 4) fun j hj => pe_mt (hk := Nat.le_refl _) (mt_wish j hj) hr (passT (takes_of rfl rfl rfl rfl) (fun _ _ _ _ h => h)) (KX.fld (K := K) rfl (pv 0) rfl) (pa_cons (pv 1) pa_nil)) pa_nil)) (pa_cons (pe_callTy (KX.callInt (K := K)) (by rfl) T.b_int (by decide +kernel) (pa_cons (pe_any (n := 4) fun j hj => pe_mt (hk := Nat.le_refl _) (mt_wish j hj) hr (passT (takes_of rfl rfl rfl rfl) (fun _ _ _ _ h => h)) (KX.fld (K := K) rfl (pv 0) rfl) (pa_cons (pv 1) pa_nil)) pa_nil)) pa_nil))) pa_nil)))), ?_⟩
    tm_at "s"
    match t, hj, ru, ok with
    | .jn true a b, _, ⟨qa, qb, pa, pb, d1, t1, e0, h1, _, ra, rb⟩, ok =>
      have hab : a.n + b.n ≤ m + 1 := hm
      have na := a.n_pos
      have nb := b.n_pos
      obtain ⟨da, fa, ia, wa⟩ := ru_wish ra
      obtain ⟨db, fb, ib, wb⟩ := ru_wish rb
      refine ⟨a.ix, a.ix_lt, ?_⟩
      tm_at "s"
      refine ⟨p, C.l, d1, _, _, rfl, h1, T.l.cl, T.nLo, rfl, ?_⟩
      tm_at "s"
      refine ⟨qa, da, fa, rfl, ia, wa, ?_⟩
      tm_at "s"
      rcases hc with ⟨r, rfl, h1', h2', k⟩ | ⟨o, rz⟩
      · refine ⟨a, qa, pa, _, rfl, ra, ok.1, rfl, by omega, .inl ⟨r, rfl, h1', h2', fun H1 e1 => ?_⟩⟩
        tm_at "s"
        refine ⟨b.ix, b.ix_lt, ?_⟩
        tm_at "s"
        refine ⟨p, C.l, d1, _, _, rfl, e1 _ _ h1, T.l.cl, T.nLt, rfl, ?_⟩
        tm_at "s"
        refine ⟨qb, db, fb, rfl, e1 _ _ ib, wb, ?_⟩
        tm_at "s"
        refine ⟨b, qb, pb, _, rfl, rb.ex e1, ok.2, rfl, by omega, .inl ⟨r, rfl, h1', h2', fun H2 e2 => ?_⟩⟩
        tm_at "s"
        refine s_new (Nat.le_of_lt (small1000 (by simp))) fun l H3 n3 e3 h3 => ?_
        refine ⟨l, [wishT r a, wishT r b], rfl, .inl (.inl h3), (by show 0 < 2; decide), fun mm hm1 hm2 => ?_⟩
        have hk := k H3 (e1.trans (e2.trans e3))
        have e : mm = wishT r (.jn true a b) := by
          show mm = min (wishT r a) (wishT r b)
          have y1 := hm2 _ (List.mem_cons_self (a := wishT r a) (l := [wishT r b]))
          have y2 := hm2 _ (List.mem_cons_of_mem (wishT r a) (List.mem_singleton.mpr (rfl : wishT r b = wishT r b)))
          simp only [List.mem_cons, List.not_mem_nil, or_false] at hm1
          rcases hm1 with rfl | rfl <;> omega
        rw [e]
        exact hk
      · exact ⟨a, qa, pa, _, rfl, ra, ok.1, rfl, by omega, .inr ⟨o, rz⟩⟩
theorem ok_Gwish {f : Addr} {fd : FuncData} (F : Fun K "wish" "Greater.wish" s_Greater_wish f fd) (T : Txt K mg C CR0 CY CS CR CM CL) (m : Nat) (mt_wish : ∀ j, j < 4 → Mt P w K mg base (L2.CX P w) (m + 3) (C.at j) "wish" "self" ["rest"] (spWish C CE j m)) : FnOk P w K mg base (L2.CX P w) (m + 4) f fd ["self", "rest"] (spWish C CE 3 (m + 1)) := by
  refine funO F sc_Greater_wish (fun vs H Q E h => ?_) (fun cd A fr s H vs Q E hr h => ?_)
  · obtain ⟨t, p, ps, v, rfl, _⟩ := h; rfl
  · obtain ⟨t, p, ps, v, rfl, ru, ok, hj, hm, hc⟩ := h
    refine ⟨_, (pss_one (ps_ret (pe_callB (KX_max (K := K) rfl (by rfl)) (by rfl) T.b_max (by decide +kernel) (pa_cons (pe_lst (pa_cons (pe_callTy (KX.callInt (K := K)) (by rfl) T.b_int (by decide +kernel) (pa_cons (pe_any (n := 4) fun j hj => pe_mt (hk := Nat.le_refl _) (mt_wish j hj) hr (passT (takes_of rfl rfl rfl rfl) (fun _ _ _ _ h => h)) (KX.fld (K := K) rfl (pv 0) rfl) (pa_cons (pv 1) pa_nil)) pa_nil)) (pa_cons (pe_callTy (KX.callInt (K := K)) (by rfl) T.b_int (by decide +kernel) (pa_cons (pe_any (n := 4) fun j hj => pe_mt (hk := Nat.le_refl _) (mt_wish j hj) hr (passT (takes_of rfl rfl rfl rfl) (fun _ _ _ _ h => h)) (KX.fld (K := K) rfl (pv 0) rfl) (pa_cons (pv 1) pa_nil)) pa_nil)) pa_nil))) pa_nil)))), ?_⟩
    tm_at "s"
    match t, hj, ru, ok with
    | .jn false a b, _, ⟨qa, qb, pa, pb, d1, t1, e0, h1, _, ra, rb⟩, ok =>
      have hab : a.n + b.n ≤ m + 1 := hm
      have na := a.n_pos
      have nb := b.n_pos
      obtain ⟨da, fa, ia, wa⟩ := ru_wish ra
      obtain ⟨db, fb, ib, wb⟩ := ru_wish rb
      refine ⟨a.ix, a.ix_lt, ?_⟩
      tm_at "s"
      refine ⟨p, C.g, d1, _, _, rfl, h1, T.g.cl, T.nGo, rfl, ?_⟩
      tm_at "s"
      refine ⟨qa, da, fa, rfl, ia, wa, ?_⟩
      tm_at "s"
      rcases hc with ⟨r, rfl, h1', h2', k⟩ | ⟨o, rz⟩
      · refine ⟨a, qa, pa, _, rfl, ra, ok.1, rfl, by omega, .inl ⟨r, rfl, h1', h2', fun H1 e1 => ?_⟩⟩
        tm_at "s"
        refine ⟨b.ix, b.ix_lt, ?_⟩
        tm_at "s"
        refine ⟨p, C.g, d1, _, _, rfl, e1 _ _ h1, T.g.cl, T.nGt, rfl, ?_⟩
        tm_at "s"
        refine ⟨qb, db, fb, rfl, e1 _ _ ib, wb, ?_⟩
        tm_at "s"
        refine ⟨b, qb, pb, _, rfl, rb.ex e1, ok.2, rfl, by omega, .inl ⟨r, rfl, h1', h2', fun H2 e2 => ?_⟩⟩
        tm_at "s"
        refine s_new (Nat.le_of_lt (small1000 (by simp))) fun l H3 n3 e3 h3 => ?_
        refine ⟨l, [wishT r a, wishT r b], rfl, .inl (.inl h3), (by show 0 < 2; decide), fun mm hm1 hm2 => ?_⟩
        have hk := k H3 (e1.trans (e2.trans e3))
        have e : mm = wishT r (.jn false a b) := by
          show mm = max (wishT r a) (wishT r b)
          have y1 := hm2 _ (List.mem_cons_self (a := wishT r a) (l := [wishT r b]))
          have y2 := hm2 _ (List.mem_cons_of_mem (wishT r a) (List.mem_singleton.mpr (rfl : wishT r b = wishT r b)))
          simp only [List.mem_cons, List.not_mem_nil, or_false] at hm1
          rcases hm1 with rfl | rfl <;> omega
        rw [e]
        exact hk
      · exact ⟨a, qa, pa, _, rfl, ra, ok.1, rfl, by omega, .inr ⟨o, rz⟩⟩
end
end K53
end
section
local macro_rules | `(tactic| tm_at "s1") => `(tactic| first
  | with_reducible first
    | refine L3.s_seq ?_ | refine L3.s_asg ?_ | refine L3.s_op ?_ | refine L3.s_c ?_ | refine L3.s_cb ?_ | refine L3.s_cons ?_ | refine L3.s_nil ?_ | refine L3.s_test ?_ | refine L3.s_bl ?_
    | refine L3.s_I0 ?_ | refine L3.s_and ?_ | refine L3.s_or ?_ | refine L3.s_not ?_ | refine L3.s_if ?_ | refine L3.s_next ?_ | refine L3.s_ret ?_ | refine L3.s_retN ?_ | refine L3.s_asgS ?_ | refine L3.s_drop ?_
    | refine L3.s_un ?_ | refine L3.s_U ?_ | refine L3.s_int ?_ | refine L3.s_intB ?_ | refine L3.s_abs ?_ | refine L3.s_andV ?_ | refine L3.s_orV ?_ | refine L3.s_notV ?_ | refine L3.s_ifE ?_ | refine L3.s_call ?_ | refine L3.s_lst ?_ | refine L3.s_tup ?_ | refine L3.s_tB ?_
    | refine L3.s_addI ?_ | refine L3.s_inS ?_ | refine L3.s_ninS ?_ | refine L3.s_slice ?_ | refine L3.s_part ?_ | refine L3.s_partI ?_ | refine L3.s_nopart ?_ | refine L3.s_cI ?_ | refine L3.s_cB ?_ | refine L3.s_chain ?_ | refine L3.s_bm ?_ | refine L3.s_lcS ?_ | refine L3.s_lcR ?_ | refine L3.s_strE ?_
    | refine L2.iteT ?_ | refine L2.iteF ?_ | refine L3.iteNF ?_ | refine L3.iteNT ?_
    | refine L3.s_eqI ?_ | refine L3.s_neI ?_ | refine L3.s_eqS ?_ | refine L3.s_neS ?_
    | refine L3.s_pair ?_ | refine L3.s_pair2 ?_ | refine L3.s_fld ?_ | refine L3.s_make ?_ | refine L3.s_m1 ?_ | refine L3.s_isstr ?_
    | refine L3.s_xfV ?_ | refine L3.s_lstN ?_ | refine L3.s_callF ?_ | refine L3.s_lcL ?_ | refine L3.s_par3 ?_ | refine L3.s_trip ?_ | refine L3.s_asgT' ?_ | refine L3.s_gC ?_ | refine L3.s_gN ?_ | refine L3.s_fldG ?_ | refine L3.s_raise1 ?_ | refine L3.s_raise2 ?_ | refine L3.s_star ?_ | refine L3.s_mkCR ?_ | refine L3.s_lcZ ?_ | refine L3.s_forL ?_ | refine L3.s_forT ?_ | refine L3.s_gNm ?_ | refine L3.s_forE ?_ | refine L3.s_stC ?_ | refine L3.s_cmC ?_ | refine L3.s_forR1 ?_ | refine L3.s_lcTp ?_ | refine L3.s_forZ ?_ | refine L3.s_orT ?_ | refine L3.s_mt ?_ | refine L3.s_revT ?_ | refine L3.s_revL ?_ | refine L3.s_slOwn ?_ | refine L3.s_sl3 ?_ | refine L3.s_lcO ?_ | refine L3.s_stR ?_
    | refine L3.s_isN ?_ | refine L3.s_isB ?_ | refine L3.s_nisN ?_ | refine L3.s_nisB ?_
  | ((with_reducible refine' L3.s_var ?e ?_); (case e => rfl))
  | ((with_reducible refine' L3.s_aug ?e ?_); (case e => rfl))
  | ((with_reducible refine' L3.s_pow ?c ?_); (case c => exact ⟨by decide, by decide, by decide⟩)))
local macro_rules | `(tactic| tm_at "s") => `(tactic| repeat tm_at "s1")
namespace K53
open PySem PySem.NumText PySem.Spec PyProof.Rows L2 L3 LamX RZ ClX
abbrev s_cut_to : Stmt := topS 25
theorem sc_cut_to : FnScope ["wish", "rest"] ["wish", "rest"] (defScope s_cut_to) := ⟨rfl, rfl, rfl, by decide +kernel, rfl, by decide +kernel, by decide +kernel⟩
section
variable {P : Program} {w : World} {K : PySem.W.Frag} {mg : Str → Option Value} {base : Heap} {C : RA} {CR0 CY CS CR CM CE CL : Addr}
/-- the chunk for a wish -/
def spCutTo : Sp := fun vs H Q _ => ∃ x r, vs = [.int x, .int r] ∧ 1 ≤ r ∧ Q (.int (max 1 (min r x))) H
theorem ok_cutto {f : Addr} {fd : FuncData} (F : Fun K "cut_to" "cut_to" s_cut_to f fd) (T : Txt K mg C CR0 CY CS CR CM CL) : FnOk P w K mg base CX0 1 f fd ["wish", "rest"] spCutTo := by
  refine funO F sc_cut_to (fun vs H Q E h => ?_) (fun cd A fr s H vs Q E hr h => ?_)
  · obtain ⟨x, r, rfl, _⟩ := h; rfl
  · obtain ⟨x, r, rfl, hr1, k⟩ := h
    refine ⟨_, (pss_cons (ps_if (pt_cmpR op_lt (pv 0) pe_int (nomark _)) (pss_one (ps_ret pe_int)) pss_nil)
      (pss_one (ps_ret (pe_ifExp (pt_cmpR op_gt (pv 0) (pv 1) (nomark _)) (pv 1) (pv 0))))), ?_⟩
    tm_at "s"
    refine iteD (fun hz => ?_) (fun hz => ?_)
    · tm_at "s"
      rw [show max 1 (min r x) = 1 by omega] at k
      exact k
    · tm_at "s"
      refine iteD (fun hy => ?_) (fun hy => ?_)
      · tm_at "s"
        rw [show max 1 (min r x) = r by omega] at k
        exact k
      · tm_at "s"
        rw [show max 1 (min r x) = x by omega] at k
        exact k
end
end K53
end
section
namespace L3
open PySem PySem.NumText PySem.Spec PyProof.Rows L2 LamX RZ ClX
structure CaO (P : Program) (w : World) (K : PySem.W.Frag) (mg : Str → Option Value) (base : Heap) (C : Addr) (k : Nat) (c : Str) (ps : List Str) (sp : Sp) : Prop where
  ex : ∃ (g : Addr) (gd : FuncData), StX.CallO K C g ∧ FnOk P w K mg base (L2.CX P w) k g gd (c :: ps) sp ∧ L2.Binds K gd (c :: ps) [] ∧
    ∀ (s : Shared) (a : Value) (ws : List Value), K.In s.heap → ws.length = ps.length → BindsTo s gd ⟨[a], ps.zip ws⟩ ((c :: ps).zip (a :: ws))
def tCaO (C : Addr) (sp : Sp) (E : XK) (tf : TE) (t : TA) : TE := fun σ H Q => tf σ H fun y H1 => ∃ a, y = V.ref a ∧ t σ H1 fun vs H2 => (∃ dx fs, H2 a = some (.ins C dx fs)) ∧ sp (V.ref a :: vs) H2 Q E
section
variable {X : Cx} {C : Addr} {k j : Nat} {sp : Sp} {E : XK} {cn : Str} {ps : List Str} {fe e : Expr} {es : List Expr} {tf : TE} {t : TA} {pos : Pos}
theorem pe_caO (c : CaO X.prog X.w X.K X.mg X.base C k cn ps sp) (hr : Room j X.A) (hx : Passes (L2.CX X.prog X.w) X E) (hf : PE X fe tf) (ha : PA X (e :: es) t) (hk : k ≤ j := by decide)
    (ht : eval (.Call fe (e :: es) [] pos) X.env = (do callWith pos (← eval fe X.env) [] (backTo pos (starEach (e :: es) X.env)) (backToKw pos (keywordEach [] X.env))) := by rfl)
    (he : starEach (e :: es) X.env = (false, eval e X.env) :: starEach es X.env := by rfl) (hpl : (backTo pos (starEach es X.env)).any (·.1) = false := by rfl) : PE X (.Call fe (e :: es) [] pos) (tCaO C sp E tf t) := by
  obtain ⟨g, gd, cc, F, b, _⟩ := c.ex
  refine ⟨fun pins s σ H Q I h => ?_⟩
  refine Call_ (thn (hf.run pins s σ H _ I h) fun u s1 ⟨y, H1, I1, ry, a, ey, q⟩ => ?_) ht
  subst ey
  obtain rfl : u = Value.ref a := ry
  refine StX.callO_with (thn (ha.run pos pins s1 σ H1 _ I1 q) fun us s2 ⟨vs, H2, I2, r, ⟨dx, fs, hi⟩, q2⟩ => ?_) he hpl
  obtain ⟨od, J⟩ := ins_inst I2.hok hi
  refine ⟨⟨C, _, _, J, rfl⟩, ?_⟩
  have rv : Vals (.ref a :: vs) (.ref a :: us) := .cons (show RelV (.ref a) (.ref a) from rfl) r
  have hl : (Value.ref a :: us).length = (cn :: ps).length := by rw [← rv.length]; exact F.len _ _ _ _ q2
  refine wpAny_call (PySem.W.kco_code I2.kIn J rfl cc.at_ cc.fn cc.fi (codeAny_mono (F.run X.A X.stack s2 H2 ⟨.ref a :: us, []⟩ (.ref a :: us) (.ref a :: vs) Q E (hr.mono hk) I2.env0 (by have := b s2 (.ref a :: us) I2.kIn (by rw [List.length_cons] at hl; simpa using hl); rw [List.append_nil] at this; exact this) rv q2) fun r s' hq => ?_))
  match r, hq with
  | .error e, hq => exact hx pins σ H2 s2 e s' I2 hq
  | .ok (.ret u), hq => exact I2.after hq
theorem s_caO {σ : L2.St} {H : Hp} {Q : VK} (h : tf σ H fun y H1 => ∃ a, y = V.ref a ∧ t σ H1 fun vs H2 => (∃ dx fs, H2 a = some (.ins C dx fs)) ∧ sp (V.ref a :: vs) H2 Q E) : tCaO C sp E tf t σ H Q := h
end
end L3
end
section
local macro_rules | `(tactic| tm_at "s1") => `(tactic| first
  | with_reducible first
    | refine L3.s_seq ?_ | refine L3.s_asg ?_ | refine L3.s_op ?_ | refine L3.s_c ?_ | refine L3.s_cb ?_ | refine L3.s_cons ?_ | refine L3.s_nil ?_ | refine L3.s_test ?_ | refine L3.s_bl ?_
    | refine L3.s_I0 ?_ | refine L3.s_and ?_ | refine L3.s_or ?_ | refine L3.s_not ?_ | refine L3.s_if ?_ | refine L3.s_next ?_ | refine L3.s_ret ?_ | refine L3.s_retN ?_ | refine L3.s_asgS ?_ | refine L3.s_drop ?_
    | refine L3.s_un ?_ | refine L3.s_U ?_ | refine L3.s_int ?_ | refine L3.s_intB ?_ | refine L3.s_abs ?_ | refine L3.s_andV ?_ | refine L3.s_orV ?_ | refine L3.s_notV ?_ | refine L3.s_ifE ?_ | refine L3.s_call ?_ | refine L3.s_lst ?_ | refine L3.s_tup ?_ | refine L3.s_tB ?_
    | refine L3.s_addI ?_ | refine L3.s_inS ?_ | refine L3.s_ninS ?_ | refine L3.s_slice ?_ | refine L3.s_part ?_ | refine L3.s_partI ?_ | refine L3.s_nopart ?_ | refine L3.s_cI ?_ | refine L3.s_cB ?_ | refine L3.s_chain ?_ | refine L3.s_bm ?_ | refine L3.s_lcS ?_ | refine L3.s_lcR ?_ | refine L3.s_strE ?_
    | refine L2.iteT ?_ | refine L2.iteF ?_ | refine L3.iteNF ?_ | refine L3.iteNT ?_
    | refine L3.s_eqI ?_ | refine L3.s_neI ?_ | refine L3.s_eqS ?_ | refine L3.s_neS ?_
    | refine L3.s_pair ?_ | refine L3.s_pair2 ?_ | refine L3.s_fld ?_ | refine L3.s_make ?_ | refine L3.s_m1 ?_ | refine L3.s_isstr ?_
    | refine L3.s_xfV ?_ | refine L3.s_lstN ?_ | refine L3.s_callF ?_ | refine L3.s_lcL ?_ | refine L3.s_par3 ?_ | refine L3.s_trip ?_ | refine L3.s_asgT' ?_ | refine L3.s_gC ?_ | refine L3.s_gN ?_ | refine L3.s_fldG ?_ | refine L3.s_raise1 ?_ | refine L3.s_raise2 ?_ | refine L3.s_star ?_ | refine L3.s_mkCR ?_ | refine L3.s_lcZ ?_ | refine L3.s_forL ?_ | refine L3.s_forT ?_ | refine L3.s_gNm ?_ | refine L3.s_forE ?_ | refine L3.s_stC ?_ | refine L3.s_cmC ?_ | refine L3.s_forR1 ?_ | refine L3.s_lcTp ?_ | refine L3.s_forZ ?_ | refine L3.s_orT ?_ | refine L3.s_mt ?_ | refine L3.s_revT ?_ | refine L3.s_revL ?_ | refine L3.s_slOwn ?_ | refine L3.s_sl3 ?_ | refine L3.s_lcO ?_ | refine L3.s_stR ?_
    | refine L3.s_isN ?_ | refine L3.s_isB ?_ | refine L3.s_nisN ?_ | refine L3.s_nisB ?_
  | ((with_reducible refine' L3.s_var ?e ?_); (case e => rfl))
  | ((with_reducible refine' L3.s_aug ?e ?_); (case e => rfl))
  | ((with_reducible refine' L3.s_pow ?c ?_); (case c => exact ⟨by decide, by decide, by decide⟩)))
local macro_rules | `(tactic| tm_at "s") => `(tactic| repeat tm_at "s1")
namespace K53
open PySem PySem.NumText PySem.Spec PyProof.Rows L2 L3 LamX RZ ClX
abbrev s_Fixed___call__ : Stmt := inClass (topS 26) 2
theorem sc_Fixed___call__ : FnScope ["self", "rest"] ["self", "rest"] (defScope s_Fixed___call__) := ⟨rfl, rfl, rfl, by decide +kernel, rfl, by decide +kernel, by decide +kernel⟩
abbrev s_Divided___call__ : Stmt := inClass (topS 27) 3
theorem sc_Divided___call__ : FnScope ["self", "rest"] ["self", "rest"] (defScope s_Divided___call__) := ⟨rfl, rfl, rfl, by decide +kernel, rfl, by decide +kernel, by decide +kernel⟩
abbrev s_Lesser___call__ : Stmt := inClass (topS 28) 2
theorem sc_Lesser___call__ : FnScope ["self", "rest"] ["self", "rest"] (defScope s_Lesser___call__) := ⟨rfl, rfl, rfl, by decide +kernel, rfl, by decide +kernel, by decide +kernel⟩
abbrev s_Greater___call__ : Stmt := inClass (topS 29) 2
theorem sc_Greater___call__ : FnScope ["self", "rest"] ["self", "rest"] (defScope s_Greater___call__) := ⟨rfl, rfl, rfl, by decide +kernel, rfl, by decide +kernel, by decide +kernel⟩
section
variable {P : Program} {w : World} {K : PySem.W.Frag} {mg : Str → Option Value} {base : Heap} {C : RA} {CR0 CY CS CR CM CE CL : Addr}
def spCallR (C : RA) (CE : Addr) (j : Nat) : Sp := fun vs H Q E => ∃ t p ps v, vs = [.ref p, v] ∧ RuAt C H t p ps ∧ t.ok ∧ t.ix = j ∧ t.n ≤ 6 ∧ ((∃ r, v = .int r ∧ 1 ≤ r ∧ r ≤ 10 ^ 40 ∧ ∀ H', Ex H H' → Q (.int (chunkT r t)) H') ∨ (OutR H v ∧ Rz CE "value" v H E))
theorem ok_Fcall {f : Addr} {fd : FuncData} (F : Fun K "__call__" "Fixed.__call__" s_Fixed___call__ f fd) (T : Txt K mg C CR0 CY CS CR CM CL) (c_need_rest : FnO P w K mg base (L2.CX P w) 3 "need_rest" ["rest"] (spNeedR CE)) (c_cut_to : FnO P w K mg base CX0 1 "cut_to" ["wish", "rest"] spCutTo) : FnOk P w K mg base (L2.CX P w) 4 f fd ["self", "rest"] (spCallR C CE 0) := by
  refine funO F sc_Fixed___call__ (fun vs H Q E h => ?_) (fun cd A fr s H vs Q E hr h => ?_)
  · obtain ⟨t, p, ps, v, rfl, _⟩ := h; rfl
  · obtain ⟨t, p, ps, v, rfl, ru, ok, hj, hm, hc⟩ := h
    refine ⟨_, (pss_cons (ps_expr (pe_o c_need_rest hr (passT (takes_of rfl rfl rfl rfl) (fun _ _ _ _ h => h)) (pa_cons (pv 1) pa_nil)))
      (pss_one (ps_ret (pe_o c_cut_to hr pass0 (pa_cons (KX.fld (K := K) rfl (pv 0) rfl) (pa_cons (pv 1) pa_nil)))))), ?_⟩
    tm_at "s"
    match t, hj, ru with
    | .fx i, _, ⟨e0, d1, t1, h1, _⟩ =>
      rcases hc with ⟨r, rfl, h1', h2', k⟩ | ⟨o, rz⟩
      · refine ⟨_, rfl, .inl ⟨r, rfl, h1', ?_⟩⟩
        tm_at "s"
        refine ⟨p, C.f, d1, _, _, rfl, h1, T.f.cl, T.nFs, rfl, ?_⟩
        tm_at "s"
        exact ⟨i, r, rfl, h1', k H (Ex.refl _)⟩
      · exact ⟨_, rfl, .inr ⟨o, rz⟩⟩
theorem ok_Dcall {f : Addr} {fd : FuncData} (F : Fun K "__call__" "Divided.__call__" s_Divided___call__ f fd) (T : Txt K mg C CR0 CY CS CR CM CL) (c_need_rest : FnO P w K mg base (L2.CX P w) 3 "need_rest" ["rest"] (spNeedR CE)) (c_cut_to : FnO P w K mg base CX0 1 "cut_to" ["wish", "rest"] spCutTo) : FnOk P w K mg base (L2.CX P w) 4 f fd ["self", "rest"] (spCallR C CE 1) := by
  refine funO F sc_Divided___call__ (fun vs H Q E h => ?_) (fun cd A fr s H vs Q E hr h => ?_)
  · obtain ⟨t, p, ps, v, rfl, _⟩ := h; rfl
  · obtain ⟨t, p, ps, v, rfl, ru, ok, hj, hm, hc⟩ := h
    refine ⟨_, (pss_cons (ps_expr (pe_o c_need_rest hr (passT (takes_of rfl rfl rfl rfl) (fun _ _ _ _ h => h)) (pa_cons (pv 1) pa_nil)))
      (pss_one (ps_ret (pe_o c_cut_to hr pass0 (pa_cons (pe_op op_fdivW (pe_op opAdd (pe_op opMul (KX.fld (K := K) rfl (pv 0) rfl) (pv 1)) (KX.fld (K := K) rfl (pv 0) rfl)) (KX.fld (K := K) rfl (pv 0) rfl)) (pa_cons (pv 1) pa_nil)))))), ?_⟩
    tm_at "s"
    match t, hj, ru, ok with
    | .dv x y z, _, ⟨e0, d1, t1, h1, _⟩, ok =>
      rcases hc with ⟨r, rfl, h1', h2', k⟩ | ⟨o, rz⟩
      · refine ⟨_, rfl, .inl ⟨r, rfl, h1', ?_⟩⟩
        tm_at "s"
        refine ⟨p, C.d, d1, _, _, rfl, h1, T.d.cl, T.nDx, rfl, ?_⟩
        tm_at "s"
        have := ok.1
        have := ok.2.2
        refine s_mulB (by omega) (by omega) ?_
        tm_at "s"
        refine ⟨p, C.d, d1, _, _, rfl, h1, T.d.cl, T.nDy, rfl, ?_⟩
        tm_at "s"
        refine ⟨p, C.d, d1, _, _, rfl, h1, T.d.cl, T.nDw, rfl, ?_⟩
        tm_at "s"
        refine s_divP (by omega) (by omega) ?_
        tm_at "s"
        exact ⟨_, r, rfl, h1', k H (Ex.refl _)⟩
      · exact ⟨_, rfl, .inr ⟨o, rz⟩⟩
theorem ok_Lcall {f : Addr} {fd : FuncData} (F : Fun K "__call__" "Lesser.__call__" s_Lesser___call__ f fd) (T : Txt K mg C CR0 CY CS CR CM CL) (mt_own : Mt P w K mg base (L2.CX P w) 9 (C.at 2) "wish" "self" ["rest"] (spWish C CE 2 6)) (c_cut_to : FnO P w K mg base CX0 1 "cut_to" ["wish", "rest"] spCutTo) : FnOk P w K mg base (L2.CX P w) 10 f fd ["self", "rest"] (spCallR C CE 2) := by
  refine funO F sc_Lesser___call__ (fun vs H Q E h => ?_) (fun cd A fr s H vs Q E hr h => ?_)
  · obtain ⟨t, p, ps, v, rfl, _⟩ := h; rfl
  · obtain ⟨t, p, ps, v, rfl, ru, ok, hj, hm, hc⟩ := h
    refine ⟨_, (pss_one (ps_ret (pe_o c_cut_to hr pass0 (pa_cons (pe_mt mt_own hr (passT (takes_of rfl rfl rfl rfl) (fun _ _ _ _ h => h)) (pv 0) (pa_cons (pv 1) pa_nil)) (pa_cons (pv 1) pa_nil))))), ?_⟩
    tm_at "s"
    obtain ⟨dw, fw, iw, lw⟩ := ru_wish ru
    rw [hj] at iw
    refine ⟨p, dw, fw, rfl, iw, lw, ?_⟩
    tm_at "s"
    rcases hc with ⟨r, rfl, h1', h2', k⟩ | ⟨o, rz⟩
    · refine ⟨t, p, ps, _, rfl, ru, ok, hj, hm, .inl ⟨r, rfl, h1', h2', fun H1 e1 => ?_⟩⟩
      tm_at "s"
      exact ⟨_, r, rfl, h1', k H1 e1⟩
    · exact ⟨t, p, ps, _, rfl, ru, ok, hj, hm, .inr ⟨o, rz⟩⟩
theorem ok_Gcall {f : Addr} {fd : FuncData} (F : Fun K "__call__" "Greater.__call__" s_Greater___call__ f fd) (T : Txt K mg C CR0 CY CS CR CM CL) (mt_own : Mt P w K mg base (L2.CX P w) 9 (C.at 3) "wish" "self" ["rest"] (spWish C CE 3 6)) (c_cut_to : FnO P w K mg base CX0 1 "cut_to" ["wish", "rest"] spCutTo) : FnOk P w K mg base (L2.CX P w) 10 f fd ["self", "rest"] (spCallR C CE 3) := by
  refine funO F sc_Greater___call__ (fun vs H Q E h => ?_) (fun cd A fr s H vs Q E hr h => ?_)
  · obtain ⟨t, p, ps, v, rfl, _⟩ := h; rfl
  · obtain ⟨t, p, ps, v, rfl, ru, ok, hj, hm, hc⟩ := h
    refine ⟨_, (pss_one (ps_ret (pe_o c_cut_to hr pass0 (pa_cons (pe_mt mt_own hr (passT (takes_of rfl rfl rfl rfl) (fun _ _ _ _ h => h)) (pv 0) (pa_cons (pv 1) pa_nil)) (pa_cons (pv 1) pa_nil))))), ?_⟩
    tm_at "s"
    obtain ⟨dw, fw, iw, lw⟩ := ru_wish ru
    rw [hj] at iw
    refine ⟨p, dw, fw, rfl, iw, lw, ?_⟩
    tm_at "s"
    rcases hc with ⟨r, rfl, h1', h2', k⟩ | ⟨o, rz⟩
    · refine ⟨t, p, ps, _, rfl, ru, ok, hj, hm, .inl ⟨r, rfl, h1', h2', fun H1 e1 => ?_⟩⟩
      tm_at "s"
      exact ⟨_, r, rfl, h1', k H1 e1⟩
    · exact ⟨t, p, ps, _, rfl, ru, ok, hj, hm, .inr ⟨o, rz⟩⟩
end
end K53
end
section
local macro_rules | `(tactic| tm_at "s1") => `(tactic| first
  | with_reducible first
    | refine L3.s_seq ?_ | refine L3.s_asg ?_ | refine L3.s_op ?_ | refine L3.s_c ?_ | refine L3.s_cb ?_ | refine L3.s_cons ?_ | refine L3.s_nil ?_ | refine L3.s_test ?_ | refine L3.s_bl ?_
    | refine L3.s_I0 ?_ | refine L3.s_and ?_ | refine L3.s_or ?_ | refine L3.s_not ?_ | refine L3.s_if ?_ | refine L3.s_next ?_ | refine L3.s_ret ?_ | refine L3.s_retN ?_ | refine L3.s_asgS ?_ | refine L3.s_drop ?_
    | refine L3.s_un ?_ | refine L3.s_U ?_ | refine L3.s_int ?_ | refine L3.s_intB ?_ | refine L3.s_abs ?_ | refine L3.s_andV ?_ | refine L3.s_orV ?_ | refine L3.s_notV ?_ | refine L3.s_ifE ?_ | refine L3.s_call ?_ | refine L3.s_lst ?_ | refine L3.s_tup ?_ | refine L3.s_tB ?_
    | refine L3.s_addI ?_ | refine L3.s_inS ?_ | refine L3.s_ninS ?_ | refine L3.s_slice ?_ | refine L3.s_part ?_ | refine L3.s_partI ?_ | refine L3.s_nopart ?_ | refine L3.s_cI ?_ | refine L3.s_cB ?_ | refine L3.s_chain ?_ | refine L3.s_bm ?_ | refine L3.s_lcS ?_ | refine L3.s_lcR ?_ | refine L3.s_strE ?_
    | refine L2.iteT ?_ | refine L2.iteF ?_ | refine L3.iteNF ?_ | refine L3.iteNT ?_
    | refine L3.s_eqI ?_ | refine L3.s_neI ?_ | refine L3.s_eqS ?_ | refine L3.s_neS ?_
    | refine L3.s_pair ?_ | refine L3.s_pair2 ?_ | refine L3.s_fld ?_ | refine L3.s_make ?_ | refine L3.s_m1 ?_ | refine L3.s_isstr ?_
    | refine L3.s_xfV ?_ | refine L3.s_lstN ?_ | refine L3.s_callF ?_ | refine L3.s_lcL ?_ | refine L3.s_par3 ?_ | refine L3.s_trip ?_ | refine L3.s_asgT' ?_ | refine L3.s_gC ?_ | refine L3.s_gN ?_ | refine L3.s_fldG ?_ | refine L3.s_raise1 ?_ | refine L3.s_raise2 ?_ | refine L3.s_star ?_ | refine L3.s_mkCR ?_ | refine L3.s_lcZ ?_ | refine L3.s_forL ?_ | refine L3.s_forT ?_ | refine L3.s_gNm ?_ | refine L3.s_forE ?_ | refine L3.s_stC ?_ | refine L3.s_cmC ?_ | refine L3.s_forR1 ?_ | refine L3.s_lcTp ?_ | refine L3.s_forZ ?_ | refine L3.s_orT ?_ | refine L3.s_mt ?_ | refine L3.s_revT ?_ | refine L3.s_revL ?_ | refine L3.s_slOwn ?_ | refine L3.s_sl3 ?_ | refine L3.s_lcO ?_ | refine L3.s_stR ?_
    | refine L3.s_isN ?_ | refine L3.s_isB ?_ | refine L3.s_nisN ?_ | refine L3.s_nisB ?_
  | ((with_reducible refine' L3.s_var ?e ?_); (case e => rfl))
  | ((with_reducible refine' L3.s_aug ?e ?_); (case e => rfl))
  | ((with_reducible refine' L3.s_pow ?c ?_); (case c => exact ⟨by decide, by decide, by decide⟩)))
local macro_rules | `(tactic| tm_at "s") => `(tactic| repeat tm_at "s1")
namespace K53
open PySem PySem.NumText PySem.Spec PyProof.Rows L2 L3 LamX RZ ClX
abbrev s__law_rule : Stmt := topS 57
theorem sc__law_rule : FnScope ["_law_made", "_law_one", "_law_other"] ["_law_made"] (defScope s__law_rule) := ⟨rfl, rfl, rfl, by decide +kernel, rfl, by decide +kernel, by decide +kernel⟩
abbrev s__law_wish : Stmt := topS 58
theorem sc__law_wish : FnScope ["_law_made", "_law_rest", "_law_one", "_law_other"] ["_law_made", "_law_rest"] (defScope s__law_wish) := ⟨rfl, rfl, rfl, by decide +kernel, rfl, by decide +kernel, by decide +kernel⟩
abbrev s__law_modulus : Stmt := topS 59
theorem sc__law_modulus : FnScope ["_law_made", "_law_one", "_law_other", "_law_found"] ["_law_made"] (defScope s__law_modulus) := ⟨rfl, rfl, rfl, by decide +kernel, rfl, by decide +kernel, by decide +kernel⟩
abbrev s__law_size : Stmt := topS 60
theorem sc__law_size : FnScope ["_law_made", "_law_rest"] ["_law_made", "_law_rest"] (defScope s__law_size) := ⟨rfl, rfl, rfl, by decide +kernel, rfl, by decide +kernel, by decide +kernel⟩
section
variable {P : Program} {w : World} {K : PySem.W.Frag} {mg : Str → Option Value} {base : Heap} {C : RA} {CR0 CY CS CR CM CL : Addr}
/-- the classes with & and | -/
def c5 (C : RA) (CY : Addr) : List Addr := [C.f, C.d, C.l, C.g, CY]
theorem insC5 {CY : Addr} {H : Hp} {p : Addr} (h : InsC C.cs H p) : InsC (c5 C CY) H p := by
  obtain ⟨j, dx, fs, hj, e⟩ := h
  refine ⟨j, dx, fs, Nat.lt_trans hj (by show 4 < 5; decide), ?_⟩
  rw [e]
  match j, hj with
  | 0, _ => rfl
  | 1, _ => rfl
  | 2, _ => rfl
  | 3, _ => rfl
  | j + 4, h => exact absurd h (by show ¬ j + 4 < 4; omega)
theorem s_opJ {CY : Addr} {H : Hp} {Q : VK} {E : XK} {lo : Bool} {a b : RT} {p q : Addr} {pa pb : List Addr} (ra : RuAt C H a p pa) (rb : RuAt C H b q pb) (hf : (RT.jn lo a b).fine) (k : Gjn C lo H Q a b pa pb) : rOpC K (c5 C CY) (spOpJ K C CR CM lo) E (.ref p) (.ref q) H Q :=
  ⟨p, rfl, insC5 ra.insC, .inl ⟨q, rfl, insC5 rb.insC⟩, _, _, rfl, .inr ⟨a, pa, ⟨hf.l, p, rfl, ra⟩, .inr ⟨b, pb, ⟨hf.r, q, rfl, rb⟩, .inr ⟨hf.n, .inr ⟨hf.md, fun qa qb ea eb _ _ => k⟩⟩⟩⟩⟩
theorem iteT' {α : Prop} {β : Prop} {b : Bool} (h : b = true) (k : α) : if b = true then α else β := by rw [if_pos h]; exact k
theorem iteF' {α : Prop} {β : Prop} {b : Bool} (h : b = false) (k : β) : if b = true then α else β := by rw [h]; exact k
theorem ok_rule {f : Addr} {fd : FuncData} (F : Fun K "_law_rule" "_law_rule" s__law_rule f fd) (T : Txt K mg C CR0 CY CS CR CM CL) (m : Nat) (c__law_rule : Fn P w K mg base CX0 (m + 7) "_law_rule" ["_law_made"] (spRuleM C m))
    (m_Fixed_1 : McO P w K mg base (L2.CX P w) 4 "Fixed" C.f ["self", "size"] (spFx C.f CS) []) (m_Divided_3 : McO P w K mg base (L2.CX P w) 3 "Divided" C.d ["self", "x", "y", "w"] (spDv C.d CR) [])
    (op_and : OpC P w K mg base CR0 (c5 C CY) .BitAnd 6 (spOpJ K C CR CM true)) (op_or : OpC P w K mg base CR0 (c5 C CY) .BitOr 6 (spOpJ K C CR CM false)) :
    FnG P w K mg base CX0 (m + 8) f fd ["_law_made"] (spRuleM C (m + 1)) := by
  refine funG F sc__law_rule (fun vs H Q E h => ?_) (fun cd A fr s H vs Q E hr hg h => ?_)
  · obtain ⟨t, v, rfl, _⟩ := h; rfl
  · obtain ⟨t, v, rfl, pl, hf, hm, k⟩ := h
    refine ⟨_, (pss_cons (ps_if (pt_cmpR (KX.eqU (K := K) rfl hr.units) (pe_ix (KX.ixU (K := K)) (pv 0) pe_int (fun _ _ => rfl)) pe_str (nomark _)) (pss_one (ps_ret (pe_mko (hk := by omega) m_Fixed_1 hr passF (pa_cons (pe_ix (KX.ixU (K := K)) (pv 0) pe_int (fun _ _ => rfl)) pa_nil)))) pss_nil)
      (pss_cons (ps_if (pt_cmpR (KX.eqU (K := K) rfl hr.units) (pe_ix (KX.ixU (K := K)) (pv 0) pe_int (fun _ _ => rfl)) pe_str (nomark _)) (pss_one (ps_ret (pe_mko (hk := by omega) m_Divided_3 hr passF (pa_cons (pe_ix (KX.ixU (K := K)) (pv 0) pe_int (fun _ _ => rfl)) (pa_cons (pe_ix (KX.ixU (K := K)) (pv 0) pe_int (fun _ _ => rfl)) (pa_cons (pe_ix (KX.ixU (K := K)) (pv 0) pe_int (fun _ _ => rfl)) pa_nil)))))) pss_nil)
      (pss_cons (ps_par (by rfl) sc__law_rule.nd (i := 1) (j := 2) rfl rfl (by decide) rfl rfl (pa_cons (pe_f (hk := by omega) c__law_rule hr hg pass0 (pa_cons (pe_ix (KX.ixU (K := K)) (pv 0) pe_int (fun _ _ => rfl)) pa_nil)) (pa_cons (pe_f (hk := by omega) c__law_rule hr hg pass0 (pa_cons (pe_ix (KX.ixU (K := K)) (pv 0) pe_int (fun _ _ => rfl)) pa_nil)) pa_nil)) (by rfl))
      (pss_one (ps_ret (pe_ifExp (pt_cmpR (KX.eqU (K := K) rfl hr.units) (pe_ix (KX.ixU (K := K)) (pv 0) pe_int (fun _ _ => rfl)) pe_str (nomark _)) (pe_op (opC (K := K) rfl op_and hr passF (by omega)) (pv 1) (pv 2)) (pe_op (opC (K := K) rfl op_or hr passF (by omega)) (pv 1) (pv 2)))))))), ?_⟩
    tm_at "s"
    match t, v, pl, hf, hm, k with
    | .fx i, _, ⟨p, rfl, hp⟩, hf, _, k =>
      refine s_iT hp rfl ?_
      tm_at "s"
      refine iteD (fun _ => ?_) (fun z => absurd rfl z)
      tm_at "s"
      refine s_iT hp rfl ?_
      tm_at "s"
      exact s_mkFx (dvs := []) hf.ok fun q H' _ e fx => k q [q] H' e ⟨rfl, fx⟩
    | .dv x y z, _, ⟨p, rfl, hp⟩, hf, _, k =>
      refine s_iT hp rfl ?_
      tm_at "s"
      refine iteD (fun z => absurd z (by decide)) (fun _ => ?_)
      tm_at "s"
      refine s_iT hp rfl ?_
      tm_at "s"
      refine iteD (fun _ => ?_) (fun z => absurd rfl z)
      tm_at "s"
      refine s_iT hp rfl ?_
      tm_at "s"
      refine s_iT hp rfl ?_
      tm_at "s"
      refine s_iT hp rfl ?_
      tm_at "s"
      exact s_mkDv hf.ok.1 hf.ok.2.1 hf.ok.2.2 fun q H' _ e dv => k q [q] H' e ⟨rfl, dv⟩
    | .jn lo a b, _, ⟨p, u1, u2, rfl, hp, pa, pb⟩, hf, hm, k =>
      have hab : a.n + b.n ≤ m + 1 := hm
      have na := a.n_pos
      have nb := b.n_pos
      refine s_iT hp rfl ?_
      tm_at "s"
      refine iteD (fun z => absurd z (by cases lo <;> decide)) (fun _ => ?_)
      tm_at "s"
      refine s_iT hp rfl ?_
      tm_at "s"
      refine iteD (fun z => absurd z (by cases lo <;> decide)) (fun _ => ?_)
      tm_at "s"
      refine s_iT hp rfl ?_
      tm_at "s"
      refine ⟨a, u1, rfl, pa, hf.l, by omega, fun qa sa H1 e1 ra => ?_⟩
      tm_at "s"
      refine s_iT (e1 _ _ hp) rfl ?_
      tm_at "s"
      refine ⟨b, u2, rfl, pb.ex e1, hf.r, by omega, fun qb sb H2 e2 rb => ?_⟩
      tm_at "s"
      have e13 := e1.trans e2
      refine s_iT (e13 _ _ hp) rfl ?_
      tm_at "s"
      have give : Gjn C lo H2 Q a b sa sb := fun q H' hq e' ru => k q _ H' (e13.trans e') ru
      cases lo
      · refine iteD (fun z => absurd z (by decide)) (fun _ => ?_)
        tm_at "s"
        exact s_opJ (ra.ex e2) rb hf give
      · refine iteD (fun _ => ?_) (fun z => absurd rfl z)
        tm_at "s"
        exact s_opJ (ra.ex e2) rb hf give
theorem ok_wishM {f : Addr} {fd : FuncData} (F : Fun K "_law_wish" "_law_wish" s__law_wish f fd) (T : Txt K mg C CR0 CY CS CR CM CL) (m : Nat) (c__law_wish : Fn P w K mg base CX0 (m + 1) "_law_wish" ["_law_made", "_law_rest"] (spWishM m)) :
    FnG P w K mg base CX0 (m + 2) f fd ["_law_made", "_law_rest"] (spWishM (m + 1)) := by
  refine funG F sc__law_wish (fun vs H Q E h => ?_) (fun cd A fr s H vs Q E hr hg h => ?_)
  · obtain ⟨t, v, r, rfl, _⟩ := h; rfl
  · obtain ⟨t, v, r, rfl, pl, ok, hm, r1, r2, k⟩ := h
    refine ⟨_, (pss_cons (ps_if (pt_cmpR (KX.eqU (K := K) rfl hr.units) (pe_ix (KX.ixU (K := K)) (pv 0) pe_int (fun _ _ => rfl)) pe_str (nomark _)) (pss_one (ps_ret (pe_ix (KX.ixU (K := K)) (pv 0) pe_int (fun _ _ => rfl)))) pss_nil)
      (pss_cons (ps_if (pt_cmpR (KX.eqU (K := K) rfl hr.units) (pe_ix (KX.ixU (K := K)) (pv 0) pe_int (fun _ _ => rfl)) pe_str (nomark _)) (pss_one (ps_ret (pe_op op_fdivW (pe_op opAdd (pe_op opMul (pe_ix (KX.ixU (K := K)) (pv 0) pe_int (fun _ _ => rfl)) (pv 1)) (pe_ix (KX.ixU (K := K)) (pv 0) pe_int (fun _ _ => rfl))) (pe_ix (KX.ixU (K := K)) (pv 0) pe_int (fun _ _ => rfl))))) pss_nil)
      (Evl.pss_cut (ps_par (by rfl) sc__law_wish.nd (i := 2) (j := 3) rfl rfl (by decide) rfl rfl (pa_cons (pe_f (hk := by omega) c__law_wish hr hg pass0 (pa_cons (pe_ix (KX.ixU (K := K)) (pv 0) pe_int (fun _ _ => rfl)) (pa_cons (pv 1) pa_nil))) (pa_cons (pe_f (hk := by omega) c__law_wish hr hg pass0 (pa_cons (pe_ix (KX.ixU (K := K)) (pv 0) pe_int (fun _ _ => rfl)) (pa_cons (pv 1) pa_nil))) pa_nil)) (by rfl))
      (pss_one (ps_ret (pe_ifExp (pt_cmpR (KX.eqU (K := K) rfl hr.units) (pe_ix (KX.ixU (K := K)) (pv 0) pe_int (fun _ _ => rfl)) pe_str (nomark _)) (pe_callB (call_min2 (by rfl)) (by rfl) T.b_min (by decide +kernel) (pa_cons (pe_callTy (KX.callInt (K := K)) (by rfl) T.b_int (by decide +kernel) (pa_cons (pv 2) pa_nil)) (pa_cons (pe_callTy (KX.callInt (K := K)) (by rfl) T.b_int (by decide +kernel) (pa_cons (pv 3) pa_nil)) pa_nil))) (pe_callB (call_max2 (by rfl)) (by rfl) T.b_max (by decide +kernel) (pa_cons (pe_callTy (KX.callInt (K := K)) (by rfl) T.b_int (by decide +kernel) (pa_cons (pv 2) pa_nil)) (pa_cons (pe_callTy (KX.callInt (K := K)) (by rfl) T.b_int (by decide +kernel) (pa_cons (pv 3) pa_nil)) pa_nil))))))))), ?_⟩
    tm_at "s"
    match t, v, pl, ok, hm, k with
    | .fx i, _, ⟨p, rfl, hp⟩, _, _, k =>
      refine s_iT hp rfl ?_
      tm_at "s"
      refine iteD (fun _ => ?_) (fun z => absurd rfl z)
      tm_at "s"
      exact s_iT hp rfl (k H (Ex.refl _))
    | .dv x y z, _, ⟨p, rfl, hp⟩, ok, _, k =>
      have := ok.1
      have := ok.2.2
      refine s_iT hp rfl ?_
      tm_at "s"
      refine iteD (fun z => absurd z (by decide)) (fun _ => ?_)
      tm_at "s"
      refine s_iT hp rfl ?_
      tm_at "s"
      refine iteD (fun _ => ?_) (fun z => absurd rfl z)
      tm_at "s"
      refine s_iT hp rfl ?_
      tm_at "s"
      refine s_mulB (by omega) (by omega) ?_
      tm_at "s"
      refine s_iT hp rfl ?_
      tm_at "s"
      refine s_iT hp rfl ?_
      tm_at "s"
      exact s_divP (by omega) (by omega) (k H (Ex.refl _))
    | .jn lo a b, _, ⟨p, u1, u2, rfl, hp, pa, pb⟩, ok, hm, k =>
      have hab : a.n + b.n ≤ m + 1 := hm
      have na := a.n_pos
      have nb := b.n_pos
      refine s_iT hp rfl ?_
      tm_at "s"
      refine iteD (fun z => absurd z (by cases lo <;> decide)) (fun _ => ?_)
      tm_at "s"
      refine s_iT hp rfl ?_
      tm_at "s"
      refine iteD (fun z => absurd z (by cases lo <;> decide)) (fun _ => ?_)
      tm_at "s"
      refine s_cut (M := fun σ H' => σ = [some (.ref p), some (.int r), some (.int (wishT r a)), some (.int (wishT r b))] ∧ Ex H H') ?_ ?_
      · tm_at "s"
        refine s_iT hp rfl ?_
        tm_at "s"
        refine ⟨a, u1, r, rfl, pa, ok.1, by omega, r1, r2, fun H1 e1 => ?_⟩
        tm_at "s"
        refine s_iT (e1 _ _ hp) rfl ?_
        tm_at "s"
        refine ⟨b, u2, r, rfl, pb.ex e1, ok.2, by omega, r1, r2, fun H2 e2 => ?_⟩
        tm_at "s"
        exact ⟨rfl, e1.trans e2⟩
      rintro _ H2 ⟨rfl, e2⟩
      have hk := k H2 e2
      have e : wishT r (.jn lo a b) = if lo then min (wishT r a) (wishT r b) else max (wishT r a) (wishT r b) := by cases lo <;> rfl
      rw [e] at hk
      tm_at "s"
      refine s_iT (e2 _ _ hp) rfl ?_
      tm_at "s"
      generalize wishT r a = x at hk ⊢
      generalize wishT r b = y at hk ⊢
      cases lo
      · refine iteD (fun z => absurd z (by decide)) (fun _ => ?_)
        tm_at "s"
        refine ⟨_, _, rfl, ?_⟩
        rw [show (if false = true then min x y else max x y) = (if y > x then y else x) by show max x y = _; split <;> omega] at hk
        exact hk
      · refine iteD (fun _ => ?_) (fun z => absurd rfl z)
        tm_at "s"
        refine ⟨_, _, rfl, ?_⟩
        rw [show (if true = true then min x y else max x y) = (if y < x then y else x) by show min x y = _; split <;> omega] at hk
        exact hk
theorem ok_modM {f : Addr} {fd : FuncData} (F : Fun K "_law_modulus" "_law_modulus" s__law_modulus f fd) (T : Txt K mg C CR0 CY CS CR CM CL) (m : Nat) (c__law_modulus : Fn P w K mg base CX0 (m + 1) "_law_modulus" ["_law_made"] (spModM m)) :
    FnG P w K mg base CX0 (m + 2) f fd ["_law_made"] (spModM (m + 1)) := by
  refine funG F sc__law_modulus (fun vs H Q E h => ?_) (fun cd A fr s H vs Q E hr hg h => ?_)
  · obtain ⟨t, v, rfl, _⟩ := h; rfl
  · obtain ⟨t, v, rfl, pl, ok, hm, k⟩ := h
    refine ⟨_, (pss_cons (ps_if (pt_cmpR (KX.opIn (K := K)) (pe_ix (KX.ixU (K := K)) (pv 0) pe_int (fun _ _ => rfl)) (pe_tup (pa_cons pe_str (pa_cons pe_str pa_nil))) (by rfl)) (pss_one (ps_ret (pe_ifExp (pt_cmpR (KX.eqU (K := K) rfl hr.units) (pe_ix (KX.ixU (K := K)) (pv 0) pe_int (fun _ _ => rfl)) pe_str (nomark _)) pe_int (pe_ix (KX.ixU (K := K)) (pv 0) pe_int (fun _ _ => rfl))))) pss_nil)
      (pss_cons (ps_par (by rfl) sc__law_modulus.nd (i := 1) (j := 2) rfl rfl (by decide) rfl rfl (pa_cons (pe_f (hk := by omega) c__law_modulus hr hg pass0 (pa_cons (pe_ix (KX.ixU (K := K)) (pv 0) pe_int (fun _ _ => rfl)) pa_nil)) (pa_cons (pe_f (hk := by omega) c__law_modulus hr hg pass0 (pa_cons (pe_ix (KX.ixU (K := K)) (pv 0) pe_int (fun _ _ => rfl)) pa_nil)) pa_nil)) (by rfl))
      (pss_cons (ps_set (i := 3) sc__law_modulus.nd rfl (Or.inl rfl) (pv 1))
      (pss_cons (ps_while (passes_of rfl) (pt_cmpR (KX.neU (K := K) rfl hr.units) (pe_op op_mod (pe_callTy (KX.callInt (K := K)) (by rfl) T.b_int (by decide +kernel) (pa_cons (pv 3) pa_nil)) (pv 2)) pe_int (nomark _)) (pss_one (ps_set (i := 3) sc__law_modulus.nd rfl (Or.inl rfl) (pe_op opAdd (pv 3) (pv 1)))))
      (pss_one (ps_ret (pv 3))))))), ?_⟩
    tm_at "s"
    match t, v, pl, ok, hm, k with
    | .fx i, _, ⟨p, rfl, hp⟩, _, _, k =>
      refine s_iT hp rfl ?_
      tm_at "s"
      refine s_new (Nat.le_of_lt (small1000 (by simp))) fun z H1 nz e1 hz => ?_
      refine s_inT (.inl (.inl hz)) rfl rfl ⟨_, rfl, ?_⟩
      refine iteT' (by decide +kernel) ?_
      tm_at "s"
      refine s_iT (e1 _ _ hp) rfl ?_
      tm_at "s"
      refine iteD (fun _ => ?_) (fun z => absurd rfl z)
      tm_at "s"
      exact k H1 e1
    | .dv x y z, _, ⟨p, rfl, hp⟩, ok, _, k =>
      have hw := ok.2.2.1
      refine s_iT hp rfl ?_
      tm_at "s"
      refine s_new (Nat.le_of_lt (small1000 (by simp))) fun zz H1 nz e1 hz => ?_
      refine s_inT (.inl (.inl hz)) rfl rfl ⟨_, rfl, ?_⟩
      refine iteT' (by decide +kernel) ?_
      tm_at "s"
      refine s_iT (e1 _ _ hp) rfl ?_
      tm_at "s"
      refine iteD (fun z => absurd z (by decide)) (fun _ => ?_)
      tm_at "s"
      refine s_iT (e1 _ _ hp) rfl ?_
      have := k H1 e1
      rw [show ((RT.md (.dv x y z) : Nat) : Int) = z by show ((z.toNat : Nat) : Int) = z; omega] at this
      exact this
    | .jn lo a b, _, ⟨p, u1, u2, rfl, hp, pa, pb⟩, ok, hm, k =>
      have hab : a.n + b.n ≤ m + 1 := hm
      have na := a.n_pos
      have nb := b.n_pos
      have ma := RT.md_pos ok.1
      have mb := RT.md_pos ok.2
      refine s_iT hp rfl ?_
      tm_at "s"
      refine s_new (Nat.le_of_lt (small1000 (by simp))) fun zz H1 nz e1 hz => ?_
      refine s_inT (.inl (.inl hz)) rfl rfl ⟨_, rfl, ?_⟩
      refine iteF' (by cases lo <;> decide +kernel) ?_
      tm_at "s"
      refine s_iT (e1 _ _ hp) rfl ?_
      tm_at "s"
      refine ⟨a, u1, rfl, pa.ex e1, ok.1, by omega, fun H2 e2 => ?_⟩
      tm_at "s"
      refine s_iT (e2 _ _ (e1 _ _ hp)) rfl ?_
      tm_at "s"
      refine ⟨b, u2, rfl, (pb.ex e1).ex e2, ok.2, by omega, fun H3 e3 => ?_⟩
      have hk := k H3 (e1.trans (e2.trans e3))
      rw [show RT.md (.jn lo a b) = Nat.lcm a.md b.md from rfl] at hk
      generalize a.md = s0 at ma hk ⊢
      generalize b.md = d at mb hk ⊢
      tm_at "s"
      refine ⟨fun mm σ H' => ∃ j, 1 ≤ j ∧ j * s0 ≤ Nat.lcm s0 d ∧ mm = Nat.lcm s0 d - j * s0 ∧ σ = [some (.ref p), some (.int ((s0 : Nat) : Int)), some (.int ((d : Nat) : Int)), some (.int ((j * s0 : Nat) : Int))] ∧ H' = H3, ⟨_, 1, Nat.le_refl 1, by rw [Nat.one_mul]; exact Nat.le_of_dvd (Nat.lcm_pos ma mb) (Nat.dvd_lcm_left _ _), rfl, by rw [Nat.one_mul]; rfl, rfl⟩, ?_⟩
      rintro mm _ H4 ⟨j, hj1, hj, rfl, rfl, hH⟩
      subst hH
      tm_at "s"
      refine ⟨_, _, rfl, rfl, by omega, ?_⟩
      tm_at "s"
      rw [show (((j * s0 : Nat) : Int) % ((d : Nat) : Int)) = (((j * s0) % d : Nat) : Int) from (Int.natCast_emod _ _).symm]
      refine iteND (fun hz => ?_) (fun hz => ?_)
      · have hz' : ¬ (j * s0) % d = 0 := by omega
        have hmore := pm_lcm_more ma hj hz'
        have hexp : (j + 1) * s0 = j * s0 + s0 := by rw [Nat.add_mul, Nat.one_mul]
        refine ⟨fun σ' H' => σ' = [some (.ref p), some (.int ((s0 : Nat) : Int)), some (.int ((d : Nat) : Int)), some (.int (((j + 1) * s0 : Nat) : Int))] ∧ H' = H4, ?_, ?_⟩
        · rintro _ _ ⟨rfl, rfl⟩
          exact ⟨_, by omega, j + 1, by omega, hmore, rfl, rfl, rfl⟩
        · tm_at "s"
          refine ⟨?_, rfl⟩
          rw [hexp, Int.natCast_add]; rfl
      · have hdone := pm_lcm_done ma hj1 hj (show (j * s0) % d = 0 by omega)
        rw [hdone]
        tm_at "s"
        exact hk
theorem ok_sizeM {f : Addr} {fd : FuncData} (F : Fun K "_law_size" "_law_size" s__law_size f fd) (T : Txt K mg C CR0 CY CS CR CM CL) (c__law_wish : Fn P w K mg base CX0 8 "_law_wish" ["_law_made", "_law_rest"] (spWishM 7)) :
    FnG P w K mg base CX0 9 f fd ["_law_made", "_law_rest"] spSizeM := by
  refine funG F sc__law_size (fun vs H Q E h => ?_) (fun cd A fr s H vs Q E hr hg h => ?_)
  · obtain ⟨t, v, r, rfl, _⟩ := h; rfl
  · obtain ⟨t, v, r, rfl, pl, ok, hn, r1, r2, k⟩ := h
    refine ⟨_, (pss_one (ps_ret (pe_callB (call_max2 (by rfl)) (by rfl) T.b_max (by decide +kernel) (pa_cons pe_int (pa_cons (pe_callB (call_min2 (by rfl)) (by rfl) T.b_min (by decide +kernel) (pa_cons (pe_callTy (KX.callInt (K := K)) (by rfl) T.b_int (by decide +kernel) (pa_cons (pv 1) pa_nil)) (pa_cons (pe_callTy (KX.callInt (K := K)) (by rfl) T.b_int (by decide +kernel) (pa_cons (pe_f c__law_wish hr hg pass0 (pa_cons (pv 0) (pa_cons (pv 1) pa_nil))) pa_nil)) pa_nil))) pa_nil))))), ?_⟩
    tm_at "s"
    refine ⟨t, v, r, rfl, pl, ok, hn, r1, r2, fun H1 e1 => ?_⟩
    have hk := k H1 e1
    unfold chunkT at hk
    generalize wishT r t = x at hk ⊢
    try dsimp only
    tm_at "s"
    refine ⟨_, _, rfl, ?_⟩
    refine ⟨_, _, rfl, ?_⟩
    have e : (if (if x < r then x else r) > 1 then (if x < r then x else r) else 1) = max 1 (min r x) := by split <;> split <;> omega
    rw [← e] at hk
    exact hk
end
end K53
end
section
namespace L3
open PySem PySem.Spec PySem.Calls PyProof.Rows PySem.W
end L3
end
section
namespace L3
open PySem PySem.Spec PySem.Calls PyProof.Rows PySem.W L2
end L3
end
section
namespace L3
open PySem PySem.Spec PySem.Calls PyProof.Rows PySem.W L2
def kI {α : Type} (p : Str × α) : Key × α := (Sum.inr p.1, p.2)
/-- what the making asks: the instance, its dict, the dict of the given ones -/
def MkKw (C : Addr) (sp : Sp) (E : XK) (ws : List (Str × V)) (H : Hp) (Q : VK) : Prop := ∀ x dx d, H x = none → H dx = none → dx ≠ x → H d = none → d ≠ x → d ≠ dx →
  sp [.ref x, .ref d] (upd (upd (upd H dx (.own x)) x (.ins C dx [])) d (.dK (ws.map kI))) (fun v H2 => v = .non ∧ ap Q (.ref x) H2) E
section
variable {X : Cx} {CX : CXT} {k j : Nat} {C : Addr} {p0 : Str} {sp : Sp} {E : XK} {x : Str} {p pos : Pos} {ks : TA} {kws : List Keyword}
def tMkKV (C : Addr) (ns : List Str) (sp : Sp) (E : XK) (ks : TA) : TE := fun σ H Q => ks σ H fun vs H1 => MkKw C sp E (ns.zip vs) H1 Q
end
end L3
end
section
namespace L3
open PySem PySem.Spec PySem.Calls PyProof.Rows PySem.W L2
end L3
end
section
namespace L3
open PySem PySem.NumText PySem.Spec PyProof.Rows L2 LamX RZ ClX
/-- what is not tracked stays -/
def UnD (H0 H1 : Hp) (h0 h1 : Heap) : Prop := ∀ b o, h0.get? b = some o → H0 b = none → (∃ sl, h1.get? b = some { o with slots := sl }) ∧ H1 b = none
theorem UnD.trans {H0 H1 H2 : Hp} {h0 h1 h2 : Heap} (a : UnD H0 H1 h0 h1) (b : UnD H1 H2 h1 h2) : UnD H0 H2 h0 h2 := fun c o e n => by
  obtain ⟨⟨sl, e1⟩, n1⟩ := a c o e n
  obtain ⟨⟨sl2, e2⟩, n2⟩ := b c _ e1 n1
  exact ⟨⟨sl2, e2⟩, n2⟩
theorem UnD.of {fs : List Addr} {H H1 : Hp} {h h1 : Heap} (u : Un fs [] H H1 h h1) : UnD H H1 h h1 := fun b o e n => ⟨u.any e n (by simp), u.free b o e n (by simp)⟩
theorem UnD.refl {H : Hp} {h : Heap} : UnD H H h h := fun b o e n => ⟨⟨o.slots, e⟩, n⟩
/-- a function that can be called in all states behind this one; tl: what its call comes to -/
def LamCan (P : Program) (w : World) (K : PySem.W.Frag) (mg : Str → Option Value) (base : Heap) (k : Nat) (f : Addr) (tl : V → XK → Hp → VK → Prop) (H0 : Hp) (s0 : Shared) : Prop :=
  ∀ (A : Around) (outer : List Env) (s1 : Shared) (H1 : Hp) (u : Value) (v : V) (Q : VK) (E : XK), Room k A → Env0 P w K mg base A outer s1 H1 → UnD H0 H1 s0.heap s1.heap → RelV v u → tl v E H1 Q → codeAny (model P w) A (.call (.ref f) ⟨[u], []⟩) (CR (L2.CX P w) outer P w H1 s1 Q E) s1
theorem LamCan.up {P : Program} {w : World} {K : PySem.W.Frag} {mg : Str → Option Value} {base : Heap} {k : Nat} {f : Addr} {tl : V → XK → Hp → VK → Prop} {H0 H1 : Hp} {s0 s1 : Shared} (c : LamCan P w K mg base k f tl H0 s0) (u : UnD H0 H1 s0.heap s1.heap) : LamCan P w K mg base k f tl H1 s1 :=
  fun A outer s2 H2 uu v Q E hr e0 un rv ht => c A outer s2 H2 uu v Q E hr e0 (u.trans un) rv ht
/-- one parameter, captured names, globals -/
structure LamS1 (sc scope : Scope) (x : Str) : Prop where
  kind : scope.kind = .function
  co : scope.isCoroutine = false
  gen : scope.isGenerator = false
  own : ∀ y ∈ scope.names, (y.2 = .local → y.1 = x) ∧ y.2 ≠ .cell
  par : scope.names.lookup x = some .local
  free : ∀ y ∈ scope.names, y.2 = .free → sc.names.lookup y.1 = some .cell ∨ sc.names.lookup y.1 = some .free
theorem LamS1.has {X : Cx} {scope : Scope} {x : Str} (L : LamS1 X.env.scope scope x) (ok : X.Ok) : ∀ y ∈ scope.names, y.2 = .free → ∃ c, X.env.cells.lookup y.1 = some c := fun y hy e => by
  rcases L.free y hy e with k | k
  · exact ok.has _ (.inl k)
  · exact ok.has _ (.inr k)
section
variable {X : Cx} {pins : List (Addr × Obj)} {σ : L2.St} {H : Hp} {s : Shared} {a C dx : Addr} {fs : List (Str × V)} {A : Around} {E : Value → Shared → Prop}
/-- a function object of any kind -/
def FnO' (H : Hp) (f : Addr) : Prop := (∃ env params body scope c', H f = some (LamO f env params body scope c')) ∨ ∃ q params body scope c', H f = some (LamF f q params body scope c')
theorem FnO'.exN {H H' : Hp} {f : Addr} (h : FnO' H f) (e : ExtN H H') : FnO' H' f :=
  Or.imp (fun ⟨env, a, b, c, d, h⟩ => ⟨env, a, b, c, d, e _ _ h fun _ z => by unfold LamO at z; cases z⟩) (fun ⟨q, a, b, c, d, h⟩ => ⟨q, a, b, c, d, e _ _ h fun _ z => by unfold LamF at z; cases z⟩) h
end
end L3
end
section
namespace L3
open PySem PySem.NumText PySem.Spec PyProof.Rows L2 LamX RZ ClX
theorem all_map {α : Type} (f : α → Bool) (l : List α) : (l.map f).all id = l.all f := by rw [List.all_map]; rfl
def toks : RT → List Str
  | .fx s => ["fixed", strOf s]
  | .dv x y w => ["divided", strOf x, strOf y, strOf w]
  | .jn lo a b => "(" :: (toks a ++ (sgnS lo :: (toks b ++ [(")" : Str)])))
section
variable {ws : List Str}
theorem joinL_app (S : List Nat) : ∀ (ps qs : List (List Nat)), ps ≠ [] → qs ≠ [] → TL.joinL S (ps ++ qs) = TL.joinL S ps ++ (S ++ TL.joinL S qs) := by
  intro ps
  induction ps with
  | nil => intro qs h; exact absurd rfl h
  | cons a r ih =>
    intro qs _ hq
    cases r with
    | nil =>
      cases qs with
      | nil => exact absurd rfl hq
      | cons q s => rfl
    | cons b s =>
      have := ih qs (by simp) hq
      show a ++ (S ++ TL.joinL S ((b :: s) ++ qs)) = (a ++ (S ++ TL.joinL S (b :: s))) ++ (S ++ TL.joinL S qs)
      rw [this]; simp
end
end L3
end
section
namespace L3
open PySem PySem.NumText PySem.Spec PyProof.Rows L2 LamX RZ ClX
theorem wds_flat : ∀ {us : List Str}, us ≠ [] → wds (Txt.join " " us) = us.flatMap wds := by
  intro us hu
  have hj : ∀ us : List Str, us ≠ [] → TL.joinL [32] (us.map TL.tl) = TL.joinL [32] ((us.flatMap wds).map TL.tl) ∧ us.flatMap wds ≠ [] := by
    intro us
    induction us with
    | nil => intro h; exact absurd rfl h
    | cons u r ih =>
      intro _
      have hw := wds_facts u
      have n1 : (wds u).map TL.tl ≠ [] := by simpa using hw.1
      cases r with
      | nil =>
        refine ⟨?_, by simpa using hw.1⟩
        rw [List.flatMap_cons, List.flatMap_nil, List.append_nil, hw.2.1]
        rfl
      | cons v s =>
        obtain ⟨h1, h2⟩ := ih (by simp)
        refine ⟨?_, by rw [List.flatMap_cons]; exact fun z => hw.1 (List.append_eq_nil_iff.mp z).1⟩
        rw [List.flatMap_cons, List.map_append, joinL_app _ _ _ n1 (by simpa using h2), hw.2.1, ← h1]
        rfl
  have e : Txt.join " " us = Txt.join " " (us.flatMap wds) := by
    refine str_ext ?_
    show TL.tl (Txt.join " " us) = TL.tl (Txt.join " " (us.flatMap wds))
    rw [TL.join_eq, TL.tl_join, TL.join_eq, TL.tl_join, show TL.tl " " = [32] by decide +kernel]
    exact (hj us hu).1
  rw [e]
  refine wds_join (hj us hu).2 fun p hp => ?_
  obtain ⟨u, _, hp⟩ := List.mem_flatMap.mp hp
  exact ((wds_facts u).2.2 p hp).1
/-- a page of at most N words, each a short one -/
def Pw (N : Nat) (z : Str) : Prop := (∀ w ∈ wds z, Pt 40 w) ∧ (wds z).length ≤ N
theorem Pw.mono {N M : Nat} {z : Str} (h : Pw N z) (hm : N ≤ M) : Pw M z := ⟨h.1, Nat.le_trans h.2 hm⟩
theorem join_wds' (z : Str) : Txt.join " " (wds z) = z := by
  refine str_ext ?_
  show TL.tl (Txt.join " " (wds z)) = z.cps.toList
  rw [TL.join_eq, TL.tl_join, show TL.tl " " = [32] by decide +kernel]
  exact (wds_facts z).2.1
theorem Pw.pt {N : Nat} {z : Str} (h : Pw N z) : Pt (41 * N) z := by
  have := pt_join (n := N) h.1 h.2
  rw [join_wds'] at this
  exact ⟨Nat.le_trans this.1 (by omega), this.2⟩
theorem Pw.join {N : Nat} {us : List Str} (h1 : ∀ w ∈ us.flatMap wds, Pt 40 w) (h2 : (us.flatMap wds).length ≤ N) (hN : 1 ≤ N) : Pw N (Txt.join " " us) := by
  by_cases hu : us = []
  · subst hu
    have e : wds (Txt.join " " ([] : List Str)) = [("" : Str)] := by decide +kernel
    unfold Pw
    rw [e]
    exact ⟨fun w hw => by rw [List.mem_singleton.mp hw]; exact pt_of (by decide +kernel), hN⟩
  · unfold Pw
    rw [wds_flat hu]
    exact ⟨h1, h2⟩
end L3
end
section
namespace L3
open PySem PySem.NumText PySem.Spec PyProof.Rows L2 LamX RZ ClX
def ltS (a b : Str) : Bool := ltCps a.cps.toList b.cps.toList
def leS (a b : Str) : Bool := !ltS b a
theorem ltS_eq (a b : Str) : ltS a b = decide (a.cps.toList < b.cps.toList) := ltCps_eq ..
theorem leS_total (a b : Str) : leS a b = true ∨ leS b a = true := by
  unfold leS
  rw [ltS_eq, ltS_eq]
  by_cases h : b.cps.toList < a.cps.toList
  · exact .inr (by rw [decide_eq_false (List.lt_asymm h)]; rfl)
  · exact .inl (by rw [decide_eq_false h]; rfl)
theorem leS_trans {a b c : Str} (h1 : leS a b = true) (h2 : leS b c = true) : leS a c = true := by
  unfold leS at h1 h2 ⊢
  rw [ltS_eq] at h1 h2 ⊢
  have k1 : a.cps.toList ≤ b.cps.toList := by simpa using h1
  have k2 : b.cps.toList ≤ c.cps.toList := by simpa using h2
  simpa using List.le_trans k1 k2
section
variable {α : Type}
def insW (p : Str × α) : List (Str × α) → List (Str × α)
  | [] => [p]
  | q :: r => if ltS q.1 p.1 then q :: insW p r else p :: q :: r
def srtW : List (Str × α) → List (Str × α)
  | [] => []
  | p :: r => insW p (srtW r)
theorem insW_perm (p : Str × α) : ∀ l : List (Str × α), (insW p l).Perm (p :: l)
  | [] => .refl _
  | q :: r => by
    unfold insW
    by_cases h : ltS q.1 p.1 = true
    · rw [if_pos h]
      exact ((insW_perm p r).cons q).trans (.swap p q r)
    · rw [if_neg h]
theorem srtW_perm : ∀ l : List (Str × α), (srtW l).Perm l
  | [] => .refl _
  | p :: r => (insW_perm p (srtW r)).trans ((srtW_perm r).cons p)
def SrtW (l : List (Str × α)) : Prop := (l.map (·.1)).Pairwise (fun a b => leS a b = true)
theorem srtW_len (l : List (Str × α)) : (srtW l).length = l.length := (srtW_perm l).length_eq
theorem srtW_mem {l : List (Str × α)} {p : Str × α} : p ∈ srtW l ↔ p ∈ l := (srtW_perm l).mem_iff
end
section
variable {K : PySem.W.Frag} {σ : L2.St} {H : Hp} {Q : VK}
theorem s_lock {d : Addr} {kvs : List (Key × V)} {t : TE} (hd : H d = some (.dK kvs)) (h : ∀ od, t σ (upd H d (.frz od (.dK kvs))) fun v H' => H' d = some (.frz od (.dK kvs)) ∧ Q v (upd H' d (.dK kvs))) : tLockE t σ H Q := ⟨d, _, hd, trivial, h⟩
theorem lcK {te : TE} {d : Addr} {o : Obj} {kvs : List (Key × V)} {j : Nat} {tt : TT} {vs : List Nat} (b : Key → V → Bool) (f : Key → V → V) (hd : H d = some (.frz o (.dK kvs))) (hz : kvs.length < sizeLine) (hw : ∀ x, wipe ((wipe σ vs).set j (some x)) vs = wipe σ vs)
    (ht : ∀ (kk : Key) (v : V) (H1 : Hp) (R : Bool → Hp → Prop), (kk, v) ∈ kvs → Ex H H1 → R (b kk v) H1 → tt ((wipe σ vs).set j (some (kV kk))) H1 R) (he : ∀ (kk : Key) (v : V) (H1 : Hp) (R : VK), (kk, v) ∈ kvs → b kk v = true → Ex H H1 → (∀ H2, Ex H1 H2 → R (f kk v) H2) → te ((wipe σ vs).set j (some (kV kk))) H1 R)
    (k : ∀ D H2, H D = none → Ex H H2 → H2 D = some (.lst ((kvs.filter fun p => b p.1 p.2).map fun p => f p.1 p.2)) → Q (.ref D) H2) : LC (Itk d o kvs) (gName j) tt te vs σ H Q := by
  intro D hD
  refine lc_it walk_keys (fun i H1 => Ex H H1 ∧ H1 D = some (.lst (((kvs.take i).filter fun p => b p.1 p.2).map fun p => f p.1 p.2))) ⟨ex_new hD, by rw [upd_same]; rfl⟩ (fun _ H1 _ p => p.1 _ _ hd) ?_ ?_
  · rintro i x H1 H2 hi ⟨e1, e2⟩ ⟨rfl, kk, v, hkv, rfl⟩
    have hm := List.mem_of_getElem? hkv
    have htk : kvs.take (i + 1) = kvs.take i ++ [(kk, v)] := by rw [List.take_add_one, hkv]; rfl
    show wipe _ vs = wipe σ vs ∧ _
    refine ⟨hw _, ht kk v H2 _ hm e1 ?_⟩
    cases hb : b kk v with
    | true =>
      refine iteT (he kk v H2 _ hm hb e1 fun H3 e3 => ⟨_, e3 _ _ e2, ?_, fun c oo hc => ?_, ?_⟩)
      · rw [List.length_map]
        exact Nat.lt_of_le_of_lt (Nat.le_trans (List.length_filter_le _ _) (List.length_take_le ..)) (Nat.lt_of_lt_of_le (by omega) (Nat.le_of_lt hz))
      · rw [upd_ne (ne_of_none hc hD)]; exact e3 _ _ (e1 _ _ hc)
      · rw [upd_same, htk, List.filter_append, List.map_append]
        simp [hb]
    | false =>
      refine iteF ⟨e1, ?_⟩
      rw [htk, List.filter_append]
      simpa [hb] using e2
  · rintro H1 ⟨e1, e2⟩
    rw [List.take_length] at e2
    exact k _ _ hD e1 e2
theorem ex_unlock {d : Addr} {od : Obj} {u : HO} {H2 : Hp} (hd : H d = some u) (e : Ex (upd H d (.frz od u)) H2) : Ex H (upd H2 d u) := fun c o hc => by
  by_cases h : c = d
  · rw [h, upd_same]; rw [h, hd] at hc; exact hc
  · rw [upd_ne h]; exact e c o (by rw [upd_ne h]; exact hc)
/-- [f(k) for k in d if b(k)], whole -/
theorem s_lcK {ta te : TE} {d : Addr} {kvs : List (Key × V)} {j : Nat} {tt : TT} {vs : List Nat} (b : Key → V → Bool) (f : Key → V → V) (hd : H d = some (.dK kvs)) (hz : kvs.length < sizeLine) (hw : ∀ x, wipe ((wipe σ vs).set j (some x)) vs = wipe σ vs)
    (ha : ∀ od (R : VK), R (.ref d) (upd H d (.frz od (.dK kvs))) → ta σ (upd H d (.frz od (.dK kvs))) R)
    (ht : ∀ (kk : Key) (v : V) (H1 : Hp) (R : Bool → Hp → Prop), (kk, v) ∈ kvs → (∃ od, H1 d = some (.frz od (.dK kvs))) → (∀ c o, c ≠ d → H c = some o → H1 c = some o) → R (b kk v) H1 → tt ((wipe σ vs).set j (some (kV kk))) H1 R)
    (he : ∀ (kk : Key) (v : V) (H1 : Hp) (R : VK), (kk, v) ∈ kvs → b kk v = true → (∃ od, H1 d = some (.frz od (.dK kvs))) → (∀ c o, c ≠ d → H c = some o → H1 c = some o) → (∀ H2, Ex H1 H2 → R (f kk v) H2) → te ((wipe σ vs).set j (some (kV kk))) H1 R)
    (k : ∀ D H2, H D = none → Ex H H2 → H2 D = some (.lst ((kvs.filter fun p => b p.1 p.2).map fun p => f p.1 p.2)) → Q (.ref D) H2) : tLockE (tLc (iKeys ta) (gName j) tt te vs) σ H Q := by
  refine s_lock hd fun od => ?_
  show ta σ _ _
  refine ha od _ ⟨d, od, rfl, .inl ⟨kvs, upd_same, ?_⟩⟩
  show LC (Itk d od kvs) (gName j) tt te vs σ (upd H d (.frz od (.dK kvs))) fun v H' => H' d = some (.frz od (.dK kvs)) ∧ Q v (upd H' d (.dK kvs))
  have hk : ∀ H1, Ex (upd H d (.frz od (.dK kvs))) H1 → (∃ od, H1 d = some (.frz od (.dK kvs))) ∧ ∀ c o, c ≠ d → H c = some o → H1 c = some o := fun H1 e => ⟨⟨od, e _ _ upd_same⟩, fun c o hc h => e _ _ (by rw [upd_ne hc]; exact h)⟩
  exact lcK b f upd_same hz hw (fun kk v H1 R hm e r => ht kk v H1 R hm (hk H1 e).1 (hk H1 e).2 r) (fun kk v H1 R hm hb e r => he kk v H1 R hm hb (hk H1 e).1 (hk H1 e).2 r) fun D H2 hD e h2 => by
    have hDd : D ≠ d := fun z => by rw [z, upd_same] at hD; cases hD
    exact ⟨e _ _ upd_same, k D _ (by rw [upd_ne hDd] at hD; exact hD) (ex_unlock hd e) (by rw [upd_ne hDd]; exact h2)⟩
def DC (J : It) (g : TG) (tt : TT) (tk tv : TE) (vs : List Nat) (σ : L2.St) (H1 : Hp) (Q : VK) : Prop := ∀ D, H1 D = none → ∃ W : Nat → Nat → Hp → Prop, (∃ m, W 0 m (upd H1 D (.dK []))) ∧ ∀ i m H, W i m H →
  (J.stop i H ∧ Q (.ref D) H) ∨ (J.go i H ∧ ∃ Nx : Hp → Prop, (∀ H', Nx H' → ∃ m', m' < m ∧ W (i + 1) m' H') ∧ ∀ x H', J.yld i H x H' → g x (wipe σ vs) H' fun σ2 H2 => wipe σ2 vs = wipe σ vs ∧ tt σ2 H2 fun b H3 =>
    if b = true then tk σ2 H3 fun y H4 => tv σ2 H4 fun z H5 => ∃ kvs k, y = kV k ∧ H5 D = some (.dK kvs) ∧ kvs.length < sizeLine ∧ Nx (upd H5 D (.dK (putK kvs k z))) else Nx H3)
theorem s_dcL {ta tk tv : TE} {g : TG} {tt : TT} {vs : List Nat} (h : ta σ H fun x H1 => ∃ a, x = .ref a ∧ (∃ xs, SqL K H1 a xs) ∧ DC (Itl K a) g tt tk tv vs σ H1 Q) : tDc (iList K ta) g tt tk tv vs σ H Q := h
theorem s_dcT {ta tk tv : TE} {g : TG} {tt : TT} {vs : List Nat} (h : ta σ H fun x H1 => ∃ a, x = .ref a ∧ (∃ xs, SqT K H1 a xs) ∧ DC (Itt K a) g tt tk tv vs σ H1 Q) : tDc (iTup K ta) g tt tk tv vs σ H Q := h
/-- a dict comprehension over a walk -/
theorem dc_it {J : It} {n : Nat} {G : Hp → Prop} {Y : Nat → Hp → V → Hp → Prop} (w : Walk J n G Y) {g : TG} {tt : TT} {tk tv : TE} {vs : List Nat} {H1 : Hp} {D : Addr} {Qd : Hp → Prop} (Pv : Nat → Hp → Prop) (h0 : Pv 0 (upd H1 D (.dK []))) (hG : ∀ i H, i ≤ n → Pv i H → G H)
    (hs : ∀ i x H H', i < n → Pv i H → Y i H x H' → g x (wipe σ vs) H' fun σ2 H2 => wipe σ2 vs = wipe σ vs ∧ tt σ2 H2 fun b H3 =>
      if b = true then tk σ2 H3 fun y H4 => tv σ2 H4 fun z H5 => ∃ kvs k, y = kV k ∧ H5 D = some (.dK kvs) ∧ kvs.length < sizeLine ∧ Pv (i + 1) (upd H5 D (.dK (putK kvs k z))) else Pv (i + 1) H3) (hd : ∀ H, Pv n H → Qd H) :
    ∃ W : Nat → Nat → Hp → Prop, (∃ m, W 0 m (upd H1 D (.dK []))) ∧ ∀ i m H, W i m H →
      (J.stop i H ∧ Qd H) ∨ (J.go i H ∧ ∃ Nx : Hp → Prop, (∀ H', Nx H' → ∃ m', m' < m ∧ W (i + 1) m' H') ∧ ∀ x H', J.yld i H x H' → g x (wipe σ vs) H' fun σ2 H2 => wipe σ2 vs = wipe σ vs ∧ tt σ2 H2 fun b H3 =>
        if b = true then tk σ2 H3 fun y H4 => tv σ2 H4 fun z H5 => ∃ kvs k, y = kV k ∧ H5 D = some (.dK kvs) ∧ kvs.length < sizeLine ∧ Nx (upd H5 D (.dK (putK kvs k z))) else Nx H3) := by
  refine ⟨fun i m H => m = n - i ∧ i ≤ n ∧ Pv i H, ⟨n, by simp, Nat.zero_le _, h0⟩, ?_⟩
  rintro i m H ⟨rfl, hi, p⟩
  have q := hG i H hi p
  by_cases hlt : i < n
  · exact .inr ⟨w.goes i H hlt q, Pv (i + 1), fun H' p' => ⟨n - (i + 1), by omega, rfl, hlt, p'⟩, fun x H' y => hs i x H H' hlt p (w.yields i H x H' hlt q y)⟩
  · have e : i = n := by omega
    subst e
    exact .inl ⟨w.stops H q, hd H p⟩
end
end L3
end
section
namespace L3
open PySem PySem.NumText PySem.Spec PyProof.Rows L2 LamX RZ ClX
end L3
end
section
namespace L3
open PySem PySem.NumText PySem.Spec PyProof.Rows L2 LamX RZ
def wordsV : List V := [.str "cost", .str "fee", .str "none", .str "order", .str "ready", .str "self", .str "chunks", .str "crew", .str "late", .str "at"]
abbrev signsT : Str := "abcdefghijklmnopqrstuvwxyz"
def nameB (z : Str) : Bool := (decide (1 ≤ (z.length : Int)) && decide ((z.length : Int) ≤ 8)) && (!inV (.str z) wordsV && z.cps.toList.all fun c => decide (c ∈ signsT.cps.toList))
abbrev wI (p : Str × Int) : Key × V := (Sum.inr p.1, .int p.2)
def sumW (ws : List (Str × Int)) : Int := (ws.map (·.2)).sum
def minW : List (Str × Int) → Int
  | [] => 0
  | [p] => p.2
  | p :: q :: r => min p.2 (minW (q :: r))
def maxW : List (Str × Int) → Int
  | [] => 0
  | [p] => p.2
  | p :: q :: r => max p.2 (maxW (q :: r))
/-- the first name with this speed -/
def firstW (ws : List (Str × Int)) (m : Int) : Str := match ws.find? (fun p => p.2 == m) with
  | some p => p.1
  | none => ""
def slowW (ws : List (Str × Int)) : Str := firstW ws (minW ws)
def fastW (ws : List (Str × Int)) : Str := firstW ws (maxW ws)
/-- what a crew can be made of -/
structure OkW (ws : List (Str × Int)) : Prop where
  ne : ws ≠ []
  le : ws.length ≤ 8
  nm : ∀ p ∈ ws, nameB p.1 = true
  sp : ∀ p ∈ ws, 1 ≤ p.2 ∧ p.2 ≤ 60
  nd : (ws.map (·.1)).Nodup
theorem OkW.srt {ws : List (Str × Int)} (h : OkW ws) : OkW (srtW ws) where
  ne := fun z => h.ne (List.eq_nil_of_length_eq_zero (by rw [← srtW_len ws, z]; rfl))
  le := by rw [srtW_len]; exact h.le
  nm := fun p hp => h.nm p (srtW_mem.mp hp)
  sp := fun p hp => h.sp p (srtW_mem.mp hp)
  nd := ((srtW_perm ws).map (·.1)).nodup_iff.mpr h.nd
def cwF (d t : Addr) (ws : List (Str × Int)) : List (Str × V) := [("own_speeds", .ref d), ("workers", .ref t), ("speed", .int (sumW ws)), ("slowest", .str (slowW ws)), ("fastest", .str (fastW ws))]
def namesV (ws : List (Str × Int)) : List V := (ws.map (·.1)).map V.str
/-- a crew: its pairs, in order of the names -/
def Cw (C : Addr) (H : Hp) (p : Addr) (ws : List (Str × Int)) : Prop := ∃ dx d t, H p = some (.ins C dx (cwF d t ws)) ∧ H d = some (.dK (ws.map wI)) ∧ H t = some (.tup (namesV ws))
theorem Cw.exN {C : Addr} {H H' : Hp} {p : Addr} {ws : List (Str × Int)} (h : Cw C H p ws) (e : ExtN H H') : Cw C H' p ws := by
  obtain ⟨dx, d, t, h1, h2, h3⟩ := h
  exact ⟨dx, d, t, e _ _ h1 (fun _ z => nomatch z), e _ _ h2 (fun _ z => nomatch z), e _ _ h3 (fun _ z => nomatch z)⟩
theorem Cw.ex {C : Addr} {H H' : Hp} {p : Addr} {ws : List (Str × Int)} (h : Cw C H p ws) (e : Ex H H') : Cw C H' p ws := h.exN e.n
section
variable {σ : L2.St} {H : Hp} {Q : VK} {K : PySem.W.Frag}
theorem s_dget {td ty : TE} (h : td σ H fun x H1 => ty σ H1 fun y H2 => ∃ a v, x = .ref a ∧ DGet H2 a y (some v) ∧ Q v H2) : tDGet td ty σ H Q := h
theorem s_din {td ty : TE} (h : ty σ H fun y H1 => td σ H1 fun x H2 => ∃ a o, x = .ref a ∧ DGet H2 a y o ∧ Q (.bl o.isSome) H2) : tDIn ty td σ H Q := h
theorem s_dnin {td ty : TE} (h : ty σ H fun y H1 => td σ H1 fun x H2 => ∃ a o, x = .ref a ∧ DGet H2 a y o ∧ Q (.bl (!o.isSome)) H2) : tDNotIn ty td σ H Q := h
theorem s_mkKV {C : Addr} {ns : List Str} {sp : Sp} {E : XK} {ks : TA} (h : ks σ H fun vs H1 => MkKw C sp E (ns.zip vs) H1 Q) : tMkKV C ns sp E ks σ H Q := h
end
end L3
end
section
set_option exponentiation.threshold 2000
namespace L3
open PySem PySem.NumText PySem.Spec PyProof.Rows L2 LamX RZ
def LB : Nat := 10 ^ 200
theorem lb_1000 {x : Int} (h : x.natAbs ≤ LB) : x.natAbs < 2 ^ 1000 := Nat.lt_of_le_of_lt h (by decide +kernel)
theorem lb_le {x : Int} {A : Nat} (h : x.natAbs ≤ A) (hA : A ≤ LB := by decide +kernel) : x.natAbs < 2 ^ 1000 := lb_1000 (Nat.le_trans h hA)
section
variable {H : Hp} {Q : VK}
theorem s_mulP {i j : Int} {A B : Nat} (hi : i.natAbs ≤ A) (hj : j.natAbs ≤ B) (h : Q (.int (i * j)) H) (hA : A ≤ LB := by decide +kernel) (hB : B ≤ LB := by decide +kernel) : rMulU (.int i) (.int j) H Q := s_mulW (lb_le hi hA) (lb_le hj hB) (by decide) (by decide) (by decide) h
end
/-- Ratio(a, b) -/
def mkR (a b : Int) : Int × Int := (rO a b, rU' a b)
def addR (p q : Int × Int) : Int × Int := mkR (gAdd p.1 p.2 q.1 q.2) (p.2 * q.2)
/-- what the costs and the fee of a setting can be -/
structure OkS (a b f : Int) : Prop where
  a1 : 1 ≤ a
  ab : a ≤ b
  b6 : b ≤ 60
  f0 : 0 ≤ f
  f1 : f ≤ 10 ^ 30
def extraS (ws : List (Str × Int)) (a b f rest place size : Int) : Int := place * f * maxW ws - b * size - a * (rest - size)
def lateS (ws : List (Str × Int)) (a b f rest place size : Int) : Int × Int :=
  addR (addR (mkR (b * size) (minW ws)) (mkR (extraS ws a b f rest place size) (if extraS ws a b f rest place size ≤ 0 then sumW ws else maxW ws))) (f, 1)
theorem sumW_bn : ∀ {ws : List (Str × Int)}, (∀ p ∈ ws, 1 ≤ p.2 ∧ p.2 ≤ 60) → 0 ≤ sumW ws ∧ sumW ws ≤ 60 * (ws.length : Int) ∧ (ws ≠ [] → 1 ≤ sumW ws)
  | [], _ => ⟨by decide, by decide, fun z => absurd rfl z⟩
  | p :: r, h => by
    have hp := h p (List.mem_cons_self ..)
    have ih := sumW_bn (ws := r) fun q hq => h q (List.mem_cons_of_mem _ hq)
    have e : sumW (p :: r) = p.2 + sumW r := by unfold sumW; rw [List.map_cons, List.sum_cons]
    rw [e, List.length_cons]
    refine ⟨by omega, by omega, fun _ => by omega⟩
theorem OkW.sum {ws : List (Str × Int)} (h : OkW ws) : 1 ≤ sumW ws ∧ sumW ws ≤ 480 := by
  have := sumW_bn h.sp
  have h8 := h.le
  exact ⟨this.2.2 h.ne, by omega⟩
def stF6 (q : Addr) (ws : List (Str × Int)) (a b f : Int) : List (Str × V) := [("crew", .ref q), ("least", .int a), ("most", .int b), ("fee", .int f), ("own_slow", .int (minW ws)), ("own_fast", .int (maxW ws))]
/-- a setting: its crew's pairs, its costs, its fee -/
def St (C CW CQ : Addr) (H : Hp) (p : Addr) (ws : List (Str × Int)) (a b f : Int) : Prop := ∃ dx q l, H p = some (.ins C dx (stF6 q ws a b f ++ ([("lowest", .ref l)] : List (Str × V)))) ∧ Cw CW H q ws ∧ Rt CQ H l (lateS ws a b f 1 0 1).1 (lateS ws a b f 1 0 1).2
theorem St.exN {C CW CQ : Addr} {H H' : Hp} {p : Addr} {ws : List (Str × Int)} {a b f : Int} (h : St C CW CQ H p ws a b f) (e : ExtN H H') : St C CW CQ H' p ws a b f := by
  obtain ⟨dx, q, l, h1, h2, h3⟩ := h
  exact ⟨dx, q, l, e _ _ h1 (fun _ z => nomatch z), h2.exN e, h3.exN e⟩
theorem St.ex {C CW CQ : Addr} {H H' : Hp} {p : Addr} {ws : List (Str × Int)} {a b f : Int} (h : St C CW CQ H p ws a b f) (e : Ex H H') : St C CW CQ H' p ws a b f := h.exN e.n
/-- no rest from 1 on -/
def OutR (K : PySem.W.Frag) (H : Hp) (x : V) (m : Int) : Prop := NI K H x ∨ ∃ i, x = .int i ∧ i < m
end L3
end
section
namespace PySem
open Sem (wp)
open AutoSeq1 (wpAny_loadPart')
theorem meets_enumerate_newT (l : Addr) (items : Array Value) (n : Nat) (dct : Option Addr) (sl : Array (Option Value)) :
    Meets (Builtin.«enumerate.__new__» ⟨[.type "enumerate", .ref l], []⟩) (fun _ R s => s.heap.get? l = some { cls := .type "tuple", dict := dct, data := .seq items n, slots := sl } ∧
      R (.ok (.ret (.ref (s.heap.push { cls := .type "tuple_iterator", data := .fields #[.ref l, .int 0 0] }).objs.size)))
        { s with heap := (s.heap.push { cls := .type "tuple_iterator", data := .fields #[.ref l, .int 0 0] }).push { cls := .type "enumerate", data := .fields #[.none, .bool false, .ref s.heap.objs.size, rawInt 0, .none, .none] } }) :=
  .of_wp fun prog w A R s h => by
    obtain ⟨hp, g, d, tk, os⟩ := s; obtain ⟨hl, h⟩ := h
    have hsub := sub_enumerate
    have hL : Heap.IsTuple (Shared.heap ⟨hp, g, d, tk, os⟩) l items := ⟨_, hl, rfl, n, rfl⟩
    wp_walk using wpAny_loadPart' hl
    refine wpAny_stack_any fun st => wpAny_pure ?_
    split
    · rename_i c _ _ _ _ _
      cases (c == Value.type "enumerate")
      · wp_walk using wpAny_loadPart' hl, wpAny_pyIter_tuple hL
        exact ⟨_, rfl, h⟩
      · wp_walk using wpAny_loadPart' hl, wpAny_pyIter_tuple hL
        exact ⟨_, rfl, h⟩
    · wp_walk using wpAny_loadPart' hl, wpAny_pyIter_tuple hL
      exact ⟨_, rfl, h⟩
theorem call_enumerate_tuple {prog : Program} {w : World} {A : Around} {E : Value → Shared → Prop} {s : Shared} {l : Addr} {items : Array Value} {Q : Value → Shared → Prop} (hL : s.heap.IsTuple l items)
    (h : ∀ h', IsEnum h' (s.heap.objs.size + 1) s.heap.objs.size 0 .none → h'.IsTupleIter s.heap.objs.size l 0 → h'.objs.size = s.heap.objs.size + 2 →
      (∀ b o, s.heap.get? b = some o → h'.get? b = some o) → Q (.ref (s.heap.objs.size + 1)) { s with heap := h' }) :
    wpAny (model prog w) A (call (.type "enumerate") [.ref l]) Q E s := by
  obtain ⟨⟨c, dct, dt, sl⟩, hl, hc, n, hd⟩ := hL
  replace hc : c = .type "tuple" := hc
  replace hd : dt = .seq items n := hd
  subst hc hd
  refine callType_new F.called_enumerate (by decide) (F.typeCall_enumerate_1 _) (F.newCall_enumerate_1 _) (fun obj => F.args_object_init_2 obj _) F.entry_enumerate_new
    (meets_enumerate_newT l items n dct sl) ⟨hl, ?_⟩
  have hz : (s.heap.push { cls := .type "tuple_iterator", data := .fields #[.ref l, .int 0 0] }).objs.size = s.heap.objs.size + 1 := Heap.size_push ..
  show _ ∧ _
  rw [hz]
  have he : IsEnum ((s.heap.push { cls := .type "tuple_iterator", data := .fields #[.ref l, .int 0 0] }).push
      { cls := .type "enumerate", data := .fields #[.none, .bool false, .ref s.heap.objs.size, rawInt 0, .none, .none] }) (s.heap.objs.size + 1) s.heap.objs.size 0 .none := by
    have := Heap.get?_push_size (s.heap.push { cls := .type "tuple_iterator", data := .fields #[.ref l, .int 0 0] })
      (o := { cls := .type "enumerate", data := .fields #[.none, .bool false, .ref s.heap.objs.size, rawInt 0, .none, .none] }) rfl
    rw [hz] at this; exact this
  refine ⟨⟨_, he, rfl⟩, h _ he ⟨_, Heap.get?_push_of_some _ (Heap.get?_push_size _ rfl), rfl, rfl⟩ (by rw [Heap.size_push, hz]) fun b o x => Heap.get?_push_of_some _ (Heap.get?_push_of_some _ x)⟩
end PySem
namespace L3
open PySem PySem.Spec PyProof.Rows L2
def Itet (K : PySem.W.Frag) (a : Addr) : It :=
  ⟨fun i H => ∃ (xs : List V) (x : V), SqT K H a xs ∧ xs[i]? = some x, fun i H v H' => ∃ T x, v = .ref T ∧ H T = none ∧ H' = upd H T (.tup [.int (i : Nat), x]) ∧ ∀ xs, SqT K H a xs → xs[i]? = some x, fun i H => ∃ xs : List V, SqT K H a xs ∧ xs.length = i⟩
theorem turn_enumT {P : Program} {w : World} {K : PySem.W.Frag} {elts : List Expr} {kk : Nat} {tpos : Pos} (a e it : Addr) :
    Turn P w K (.Tuple elts kk tpos) (Itet K a) [e, it] e (fun i h => (∃ old, IsEnum h e it ((i : Nat) : Int) old) ∧ h.IsTupleIter it a i ∧ e ≠ it ∧ a ≠ e ∧ a ≠ it) where
  mem := by simp
  obj := fun i h st b hb => by
    obtain ⟨⟨old, he⟩, ⟨o, ho, hc, hd⟩, _⟩ := st
    have e' : b = e ∨ b = it := by simpa using hb
    rcases e' with z | z
    · rw [z]; exact ⟨_, he, fun v q => nomatch q⟩
    · rw [z]; exact ⟨o, ho, fun v q => by rw [hd] at q; cases q⟩
  keep := fun i h h' st k => let ⟨⟨old, he⟩, hi, hne⟩ := st; ⟨⟨old, k e (by simp) _ he⟩, hi.at fun o q => k it (by simp) o q, hne⟩
  item := by
    intro X hP hw hK hc i pins s σ H E I hf st hg
    subst hP hw hK
    obtain ⟨⟨old, he⟩, hit, hne, hae, hai⟩ := st
    obtain ⟨xs, x, hq, hx⟩ := hg
    obtain ⟨its, rv, p, hz⟩ := I.tuple hq
    obtain ⟨u, hu, ru⟩ := rv.get hx
    have hel : e < s.heap.objs.size := Heap.lt_size he
    have hil : it < s.heap.objs.size := by obtain ⟨_, q, _⟩ := hit; exact Heap.lt_size q
    have hi : i < its.toArray.size := by have := (List.getElem?_eq_some_iff.mp hu).1; simpa using this
    refine PySem.wpAny_pyNext_enum_itemD (PySem.Draws.tuple (A := X.A.in1) (I.ok.hd hc) it a hai its.toArray) he ⟨hit, p⟩ hi hne (by simp [hne, Ne.symm hae]) fun x' h' tk hP ho hst hT hsz hk => ?_
    obtain rfl : x' = u := by
      have : its[i]? = some x' := by simpa using hP
      rw [hu] at this; exact (Option.some.inj this).symm
    refine ⟨_, rfl, wpAny_letOwnedTupleGo_enum (s := { s with heap := h', toks := tk + 1 }) ho fun h'' he' sb => ?_⟩
    have hT2 : h''.get? s.heap.objs.size = some { cls := .type "tuple", data := .seq #[.int i tk, x'] } := (sb.2 _ (Nat.ne_of_gt hel)).trans hT
    have new : ObjOk X.prog X.w (upd H s.heap.objs.size (.tup [.int (i : Nat), x])) h'' s.heap.objs.size (.tup [.int (i : Nat), x]) :=
      ⟨by show 2 ≤ sizeLine; decide, [.int i tk, x'], .cons ⟨_, rfl⟩ (.cons ru .nil), ⟨_, hT2, rfl, _, rfl⟩⟩
    have I1 : Inv X pins σ (upd H s.heap.objs.size (.tup [.int (i : Nat), x])) { s with heap := h'', toks := tk + 1 } :=
      I.turnedNew (ch := [e, it]) (fun b ob hb q => (sb.2 b (fun z => hb (by simp [z]))).trans (hk b ob (fun z => hb (by simp [z])) (fun z => hb (by simp [z])) q)) hf (Nat.le_refl _) new
    refine ⟨.ref s.heap.objs.size, _, I1, rfl, ⟨_, x, rfl, I.hok.fresh (Nat.le_refl _), rfl, fun ys hy => by rw [I.tuple_inj hy hq]; exact hx⟩, ⟨⟨x', ?_⟩, hst.1.at fun o q => (sb.2 it (Ne.symm hne)).trans q, hne, hae, hai⟩, fun b hb => ?_⟩
    · have e1 : ((i + 1 : Nat) : Int) = (i : Int) + 1 := by omega
      rw [e1]; exact he'
    · have hb' : b < s.heap.objs.size := by
        have e' : b = e ∨ b = it := by simpa using hb
        rcases e' with z | z
        · rw [z]; exact hel
        · rw [z]; exact hil
      rw [upd_ne (Nat.ne_of_lt hb')]
      exact (hf b hb).1
  done := by
    intro X hP hw hK hc i pins s σ H E I hf st hg
    subst hP hw hK
    obtain ⟨⟨old, he⟩, hit, hne, hae, hai⟩ := st
    obtain ⟨xs, hq, hx⟩ := hg
    obtain ⟨its, rv, p, hz⟩ := I.tuple hq
    obtain ⟨f0, f1, f2, f3, f4, f5⟩ := hf it (by simp)
    have hl := rv.length
    have ei : i = its.toArray.size := by simp; omega
    subst ei
    refine PySem.wpAny_pyNext_enum_endD (PySem.Draws.tuple (A := X.A.in1) (I.ok.hd hc) it a hai its.toArray) he ⟨hit, p⟩ fun h' eb => ⟨rfl, I.turned (t' := s.toks) (fun b o hb q => eb b o hb q) f0 f1 f3 f4 f5⟩
  self := fun A i s Q E st h => let ⟨⟨_, he⟩, _⟩ := st; wpAny_pyIter_enum he h
def iEnumT (K : PySem.W.Frag) (ta : TA) : TI := fun σ H R => ta σ H fun vs H1 => ∃ a xs, vs = [.ref a] ∧ SqT K H1 a xs ∧ R (Itet K a) H1
theorem pi_enumT {X : Cx} {e : Expr} {ta : TA} {p pos tpos : Pos} {elts : List Expr} {kk : Nat} (hg : Gl X "enumerate") (hm : X.mg "enumerate" = none) (ha : PA X [e] ta) (hs : starEach [e] X.env = [(false, eval e X.env)] := by rfl) :
    PI X (.Tuple elts kk tpos) (.Call (.Name "enumerate" p) [e] [] pos) (iEnumT X.K ta) := by
  refine ⟨fun pins s σ H R I h => ?_⟩
  refine Call_ (ld_blt I hg hm boot_enumerate (PyProof.Rows.callWith_type1 (thn (ha.run pos pins s σ H _ I h) fun us s1 ⟨vs, H1, I1, r1, q1⟩ => ?_) hs rfl))
  obtain ⟨a, xs, rfl, hq, q⟩ := q1
  obtain ⟨u, rfl, hu⟩ := vals1 r1
  obtain rfl : u = Value.ref a := hu
  obtain ⟨its, rv, p', hz⟩ := I1.tuple hq
  have hal : a < s1.heap.objs.size := p'.lt
  refine PySem.call_enumerate_tuple p' fun h' he hit hsz hk => wpAny_pyIter_enum he ?_
  have I2 : Inv X pins σ H1 { s1 with heap := h' } := I1.kept (t' := s1.toks) hk
  refine ⟨s1.heap.objs.size + 1, [s1.heap.objs.size + 1, s1.heap.objs.size], _, _, H1, rfl, I2, turn_enumT a (s1.heap.objs.size + 1) s1.heap.objs.size, ⟨⟨.none, he⟩, hit, Nat.succ_ne_self _, Nat.ne_of_lt (Nat.lt_succ_of_lt hal), Nat.ne_of_lt hal⟩, fun b hb => ?_, q⟩
  have hle : s1.heap.objs.size ≤ b := by
    have e' : b = s1.heap.objs.size + 1 ∨ b = s1.heap.objs.size := by simpa using hb
    rcases e' with z | z
    · rw [z]; exact Nat.le_succ _
    · rw [z]; exact Nat.le_refl _
  exact I1.fpOk hle (I1.hok.fresh hle)
theorem walk_enumT {K : PySem.W.Frag} {a : Addr} {xs : List V} : Walk (Itet K a) xs.length (fun H => SqT K H a xs) (YPair (fun i => some (.int (i : Nat))) (fun i => xs[i]?)) := by
  refine ⟨fun i _ hi q => ⟨xs, xs[i], q, by simp [hi]⟩, fun _ q => ⟨xs, q, rfl⟩, fun i H v H' _ q y => ?_⟩
  obtain ⟨T, x, h1, h2, h3, h4⟩ := y
  exact ⟨T, .int (i : Nat), x, h1, h2, h3, rfl, h4 xs q⟩
section
variable {K : PySem.W.Frag} {σ : L2.St} {H : Hp} {Q : VK} {g : TG} {tb : TS} {D : Ends} {t : TA}
theorem s_forET (h : t σ H fun ws H1 => ∃ a xs, ws = [.ref a] ∧ SqT K H1 a xs ∧ ForJ (Itet K a) g tb D σ H1) : tFor (iEnumT K t) g tb D σ H := h
/-- for i, x in enumerate(t), t a tuple -/
theorem forEnT {a : Addr} {xs : List V} (Pv : Nat → L2.St → Hp → Prop) (h0 : Pv 0 σ H) (hs : ∀ i σ H, Pv i σ H → H a = some (.tup xs))
    (hb : ∀ (i : Nat) x T σ H, xs[i]? = some x → Pv i σ H → H T = none → ∀ H1, Ex H H1 → (∀ b, b ≠ T → H1 b = H b) → H1 T = some (.tup [.int (i : Int), x]) → g (.ref T) σ H1 fun σ2 H2 => tb { nx := Pv (i + 1), rt := D.rt, bk := D.nx, ct := Pv (i + 1) } σ2 H2)
    (he : ∀ σ H, Pv xs.length σ H → D.nx σ H) : ForJ (Itet K a) g tb D σ H :=
  for_it walk_enumT Pv h0 (fun i σ H _ h => .inl (.inl (hs i σ H h))) (fun i x σ H1 H2 hi hp hy => by
    obtain ⟨T, x', y', rfl, hT, rfl, hx, hy⟩ := hy
    cases hx
    exact hb i y' T σ H1 hy hp hT _ (ex_new hT) (fun b hb => upd_ne hb) upd_same) he
end
end L3
end
section
namespace L3
open PySem PySem.NumText PySem.Spec PyProof.Rows L2 LamX RZ
theorem sum_split (ns : List Int) (i : Nat) : ns.sum = (ns.take i).sum + (ns.drop i).sum := by
  rw [← List.sum_append, List.take_append_drop]
theorem restsOf_len (ns : List Int) : (restsOf ns).length = ns.length := by unfold restsOf; rw [List.length_map, List.length_range]
theorem restsOf_get {ns : List Int} {i : Nat} (h : i < ns.length) : (restsOf ns)[i]? = some ((ns.drop i).sum) := by
  unfold restsOf
  rw [List.getElem?_map, List.getElem?_range h]
  show some _ = _
  congr 1
  have e1 : (endsOf ns).getD i 0 = (ns.take (i + 1)).sum := by rw [List.getD_eq_getElem?_getD, endsOf_get h]; rfl
  have e2 : ns.getD i 0 = ns[i] := by rw [List.getD_eq_getElem?_getD, List.getElem?_eq_getElem h]; rfl
  have e3 : (ns.take (i + 1)).sum = (ns.take i).sum + ns[i] := by
    rw [take_snoc (List.getElem?_eq_getElem h), List.sum_append, List.sum_cons, List.sum_nil, Int.add_zero]
  have := sum_split ns i
  show ns.sum - (endsOf ns).getD i 0 + ns.getD i 0 = _
  rw [e1, e2, e3]
  omega
/-- fractions at places -/
def Rts (CQ : Addr) (H : Hp) (xs : List V) (rs : List (Int × Int)) : Prop := xs.length = rs.length ∧ ∀ (i : Nat) r, rs[i]? = some r → ∃ q, xs[i]? = some (.ref q) ∧ Rt CQ H q r.1 r.2
theorem Rt.ex2 {C : Addr} {H H' : Hp} {p : Addr} {o u : Int} (h : Rt C H p o u) (e : Ex H H') : Rt C H' p o u := h.exN e.n
theorem Rts.ex {CQ : Addr} {H H' : Hp} {xs : List V} {rs : List (Int × Int)} (h : Rts CQ H xs rs) (e : Ex H H') : Rts CQ H' xs rs := ⟨h.1, fun i r hr => let ⟨q, h1, h2⟩ := h.2 i r hr; ⟨q, h1, h2.ex2 e⟩⟩
theorem Rts.upd {CQ : Addr} {H : Hp} {l : Addr} {zs zs' : List V} {xs : List V} {rs : List (Int × Int)} (h : Rts CQ H xs rs) (hl : H l = some (.lst zs)) : Rts CQ (upd H l (.lst zs')) xs rs := ⟨h.1, fun i r hr => by
  obtain ⟨q, h1, dx, h2⟩ := h.2 i r hr
  have : q ≠ l := fun z => by rw [z, hl] at h2; cases h2
  exact ⟨q, h1, dx, by rw [upd_ne this]; exact h2⟩⟩
theorem Rts.nil {CQ : Addr} {H : Hp} : Rts CQ H [] [] := ⟨rfl, fun i r h => by cases h⟩
theorem Rts.snoc {CQ : Addr} {H : Hp} {xs : List V} {rs : List (Int × Int)} {q : Addr} {r : Int × Int} (h : Rts CQ H xs rs) (hq : Rt CQ H q r.1 r.2) : Rts CQ H (xs ++ [.ref q]) (rs ++ [r]) := by
  refine ⟨by rw [List.length_append, List.length_append, h.1]; rfl, fun i r' hr => ?_⟩
  rcases Nat.lt_or_ge i rs.length with c | c
  · rw [List.getElem?_append_left c] at hr
    obtain ⟨q', h1, h2⟩ := h.2 i r' hr
    exact ⟨q', by rw [List.getElem?_append_left (by rw [h.1]; exact c)]; exact h1, h2⟩
  · rw [List.getElem?_append_right c] at hr
    have e : i = rs.length := by
      rcases Nat.lt_or_ge 0 (i - rs.length) with d | d
      · rw [List.getElem?_eq_none (by simp; omega)] at hr; cases hr
      · omega
    subst e
    rw [Nat.sub_self] at hr
    cases hr
    exact ⟨q, by rw [List.getElem?_append_right (by rw [h.1]; exact Nat.le_refl _), h.1, Nat.sub_self]; rfl, hq⟩
end L3
end
section
set_option exponentiation.threshold 2000
namespace L3
open PySem PySem.NumText PySem.Spec PyProof.Rows L2 LamX RZ
def leR (p q : Int × Int) : Prop := p.1 * q.2 ≤ q.1 * p.2
def ltR (p q : Int × Int) : Prop := p.1 * q.2 < q.1 * p.2
theorem leR_trans_lt {p q r : Int × Int} (hq : 0 < q.2) (hr : 0 < r.2) (hp : 0 < p.2) (h1 : leR p q) (h2 : ltR q r) : ltR p r := by
  unfold leR at h1
  unfold ltR at *
  refine Int.lt_of_mul_lt_mul_right (a := q.2) ?_ (Int.le_of_lt hq)
  have a1 := Int.mul_le_mul_of_nonneg_right h1 (Int.le_of_lt hr)
  have a2 := Int.mul_lt_mul_of_pos_right h2 hp
  have e1 : p.1 * r.2 * q.2 = p.1 * q.2 * r.2 := by grind
  have e2 : q.1 * p.2 * r.2 = q.1 * r.2 * p.2 := by grind
  have e3 : r.1 * p.2 * q.2 = r.1 * q.2 * p.2 := by grind
  omega
instance (p q : Int × Int) : Decidable (ltR p q) := inferInstanceAs (Decidable (p.1 * q.2 < q.1 * p.2))
/-- the first greatest one of the fractions stands at i -/
def Fst (rs : List (Int × Int)) (i : Nat) : Prop := ∃ r : Int × Int, rs[i]? = some r ∧ (∀ (j : Nat) (s : Int × Int), rs[j]? = some s → leR s r) ∧ ∀ (j : Nat) (s : Int × Int), j < i → rs[j]? = some s → ltR s r
theorem Fst.one (r : Int × Int) : Fst [r] 0 := ⟨r, rfl, fun j s h => by
  have : s = r := by cases j with
    | zero => exact (Option.some.inj h).symm
    | succ j => cases h
  rw [this]; exact Int.le_refl _, fun j s h => absurd h (Nat.not_lt_zero j)⟩
theorem Fst.snoc {rs : List (Int × Int)} {i : Nat} {r x : Int × Int} (h : Fst rs i) (hi : rs[i]? = some r) (hp : ∀ s ∈ rs, 0 < s.2) (hx : 0 < x.2) : Fst (rs ++ [x]) (if ltR r x then rs.length else i) := by
  obtain ⟨r', h1, h2, h3⟩ := h
  rw [hi] at h1
  cases h1
  have hil := (List.getElem?_eq_some_iff.mp hi).1
  have hr := hp r (List.mem_of_getElem? hi)
  by_cases c : ltR r x
  · rw [if_pos c]
    have lt : ∀ (j : Nat) s, rs[j]? = some s → ltR s x := fun j s hs => leR_trans_lt hr hx (hp s (List.mem_of_getElem? hs)) (h2 j s hs) c
    refine ⟨x, by simp, fun j s hs => ?_, fun j s hj hs => ?_⟩
    · rcases Nat.lt_or_ge j rs.length with k | k
      · rw [List.getElem?_append_left k] at hs
        exact Int.le_of_lt (lt j s hs)
      · rw [List.getElem?_append_right k] at hs
        cases hj : j - rs.length with
        | zero => rw [hj] at hs; cases hs; exact Int.le_refl _
        | succ n => rw [hj] at hs; cases hs
    · rw [List.getElem?_append_left hj] at hs
      exact lt j s hs
  · rw [if_neg c]
    refine ⟨r, by rw [List.getElem?_append_left hil]; exact hi, fun j s hs => ?_, fun j s hj hs => ?_⟩
    · rcases Nat.lt_or_ge j rs.length with k | k
      · rw [List.getElem?_append_left k] at hs
        exact h2 j s hs
      · rw [List.getElem?_append_right k] at hs
        cases hj : j - rs.length with
        | zero => rw [hj] at hs; cases hs; exact Int.not_lt.mp c
        | succ n => rw [hj] at hs; cases hs
    · rw [List.getElem?_append_left (by omega)] at hs
      exact h3 j s hj hs
end L3
end
section
namespace L3
open PySem PySem.NumText PySem.Spec PyProof.Rows L2 LamX RZ
def plF (d : Addr) (a b f : Int) : List (Key × V) := [(Sum.inr "speeds", .ref d), (Sum.inr "least", .int a), (Sum.inr "most", .int b), (Sum.inr "fee", .int f)]
def Plan (H : Hp) (p : Addr) (ws : List (Str × Int)) (a b f : Int) : Prop := ∃ d, H p = some (.dK (plF d a b f)) ∧ H d = some (.dK (ws.map wI))
theorem Plan.exN {H H' : Hp} {p : Addr} {ws : List (Str × Int)} {a b f : Int} (h : Plan H p ws a b f) (e : ExtN H H') : Plan H' p ws a b f := by
  obtain ⟨d, h1, h2⟩ := h
  exact ⟨d, e _ _ h1 (fun _ z => nomatch z), e _ _ h2 (fun _ z => nomatch z)⟩
theorem Plan.ex {H H' : Hp} {p : Addr} {ws : List (Str × Int)} {a b f : Int} (h : Plan H p ws a b f) (e : Ex H H') : Plan H' p ws a b f := h.exN e.n
end L3
end
section
namespace L3
open PySem PySem.NumText PySem.Spec PyProof.Rows L2 LamX RZ
theorem sum_permI {l r : List Int} (h : l.Perm r) : l.sum = r.sum := by
  induction h with
  | nil => rfl
  | cons x _ ih => rw [List.sum_cons, List.sum_cons, ih]
  | swap x y l => rw [List.sum_cons, List.sum_cons, List.sum_cons, List.sum_cons]; omega
  | trans _ _ a b => exact a.trans b
theorem sumW_perm {ws us : List (Str × Int)} (h : ws.Perm us) : sumW ws = sumW us := sum_permI (h.map (·.2))
section
variable {K : PySem.W.Frag} {σ : L2.St} {H : Hp} {Q : VK}
/-- [f(x) for x in tuple]: what each one is, in the heap -/
theorem lcObjT {te : TE} {a : Addr} {xs : List V} {j : Nat} {vs : List Nat} (Pv : Nat → V → Hp → Prop) (hP : ∀ i v H H', Pv i v H → Ex H H' → Pv i v H') (hU : ∀ i v H D l l', Pv i v H → H D = some (.lst l) → Pv i v (upd H D (.lst l')))
    (ha : H a = some (.tup xs)) (hz : xs.length < sizeLine) (hw : ∀ x, wipe ((wipe σ vs).set j (some x)) vs = wipe σ vs)
    (step : ∀ (i : Nat) (x : V) (H1 : Hp) (R : VK), xs[i]? = some x → Ex H H1 → (∀ v H2, Ex H1 H2 → Pv i v H2 → R v H2) → te ((wipe σ vs).set j (some x)) H1 R)
    (k : ∀ D H2 us, H D = none → Ex H H2 → H2 D = some (.lst us) → us.length = xs.length → (∀ i v, us[i]? = some v → Pv i v H2) → Q (.ref D) H2) : LC (Itt K a) (gName j) tYes te vs σ H Q := by
  intro D hD
  refine lc_tup (K := K) (a := a) (xs := xs) (fun n H1 => Ex H H1 ∧ ∃ us : List V, H1 D = some (.lst us) ∧ us.length = n ∧ ∀ i v, us[i]? = some v → Pv i v H1) ⟨ex_new hD, [], upd_same, rfl, fun i v h => by simp at h⟩ (fun n H1 _ ⟨e, _⟩ => .inl (.inl (e _ _ ha))) (fun n x H1 hx ⟨e, us, h1, h2, h3⟩ => ?_) (fun H1 ⟨e, us, h1, h2, h3⟩ => k D H1 us hD e h1 h2 h3)
  have hn : n < xs.length := (List.getElem?_eq_some_iff.mp hx).1
  refine ⟨hw _, ?_⟩
  unfold tYes
  dsimp only
  refine iteT (step n x H1 _ hx e fun v H2 e2 pv => ?_)
  have h1' := e2 _ _ h1
  refine ⟨_, h1', ?_, fun c o hc => ?_, us ++ [v], upd_same, by rw [List.length_append, h2]; rfl, fun i u hu => ?_⟩
  · rw [h2]; omega
  · rw [upd_ne (ne_of_none hc hD)]; exact e2 _ _ (e _ _ hc)
  · refine hU _ _ _ _ _ _ ?_ h1'
    rcases Nat.lt_or_ge i us.length with hi | hi
    · rw [List.getElem?_append_left hi] at hu
      exact hP _ _ _ _ (h3 i u hu) e2
    · rw [List.getElem?_append_right hi] at hu
      have e0 : i - us.length = 0 := by
        rcases Nat.eq_zero_or_pos (i - us.length) with z | z
        · exact z
        · rw [List.getElem?_eq_none (by simp; omega)] at hu; cases hu
      rw [e0] at hu
      have : i = n := by omega
      rw [this]
      cases (Option.some.inj hu)
      exact pv
end
end L3
end
section
namespace L3
open PySem PySem.NumText PySem.Spec PyProof.Rows L2 LamX RZ
def valI (ws : List (Str × Int)) (n : Str) : Option Int := (ws.find? fun p => p.1 = n).map (·.2)
end L3
end
section
namespace L3
open PySem PySem.NumText PySem.Spec PyProof.Rows L2 LamX RZ
/-- a pair set into others -/
def setW (ws : List (Str × Int)) (n : Str) (i : Int) : List (Str × Int) := if (valI ws n).isSome then ws.map fun p => if p.1 = n then (n, i) else p else ws ++ [(n, i)]
theorem valI_none {ws : List (Str × Int)} {n : Str} : valI ws n = none ↔ n ∉ ws.map (·.1) := by
  unfold valI
  rw [Option.map_eq_none_iff, List.find?_eq_none]
  constructor
  · intro h z
    obtain ⟨p, hp, e⟩ := List.mem_map.mp z
    have := h p hp
    simp at this
    exact this e
  · intro h p hp
    simp only [decide_eq_true_eq]
    exact fun e => h (e ▸ List.mem_map_of_mem hp)
theorem setW_names {ws : List (Str × Int)} {n : Str} {i : Int} : (setW ws n i).map (·.1) = if (valI ws n).isSome then ws.map (·.1) else ws.map (·.1) ++ [n] := by
  unfold setW
  split
  · rw [List.map_map]
    refine List.map_congr_left fun p hp => ?_
    show (if p.1 = n then (n, i) else p).1 = p.1
    split
    · rename_i c; exact c.symm
    · rfl
  · rw [List.map_append]; rfl
theorem setW_mem {ws : List (Str × Int)} {n : Str} {i : Int} {q : Str × Int} (h : q ∈ setW ws n i) : q = (n, i) ∨ q ∈ ws := by
  unfold setW at h
  split at h
  · obtain ⟨p, hp, e⟩ := List.mem_map.mp h
    by_cases c : p.1 = n
    · rw [if_pos c] at e; exact .inl e.symm
    · rw [if_neg c] at e; exact .inr (e ▸ hp)
  · rcases List.mem_append.mp h with h | h
    · exact .inr h
    · exact .inl (List.mem_singleton.mp h)
theorem setW_nd {ws : List (Str × Int)} {n : Str} {i : Int} (nd : (ws.map (·.1)).Nodup) : ((setW ws n i).map (·.1)).Nodup := by
  rw [setW_names]
  split
  · exact nd
  · rename_i c
    have hn : n ∉ ws.map (·.1) := valI_none.mp (by cases hv : valI ws n with
      | none => rfl
      | some _ => rw [hv] at c; exact absurd rfl c)
    exact List.nodup_append.mpr ⟨nd, by simp, fun a ha b hb e => hn (by rw [← List.mem_singleton.mp hb, ← e]; exact ha)⟩
end L3
end
section
namespace L3
open PySem PySem.NumText PySem.Spec PyProof.Rows L2 LamX RZ
def lastN (acc : List (Str × Int)) : Str := match acc.getLast? with
  | some p => p.1
  | none => ""
/-- what has been read so far -/
structure AccW (acc : List (Str × Int)) : Prop where
  le : acc.length ≤ 8
  nm : ∀ p ∈ acc, nameB p.1 = true
  sp : ∀ p ∈ acc, 1 ≤ p.2 ∧ p.2 ≤ 60
  nd : (acc.map (·.1)).Nodup
  srt : SrtW acc
  top : ∀ a ∈ acc.map (·.1), leS a (lastN acc) = true
theorem lastN_snoc (acc : List (Str × Int)) (p : Str × Int) : lastN (acc ++ [p]) = p.1 := by
  unfold lastN
  simp
theorem leS_refl (a : Str) : leS a a = true := (leS_total a a).elim id id
theorem AccW.nil : AccW [] := ⟨by decide, (fun _ h => nomatch h), (fun _ h => nomatch h), List.nodup_nil, List.Pairwise.nil, (fun _ h => nomatch h)⟩
theorem AccW.new {acc : List (Str × Int)} (h : AccW acc) {z : Str} (hz : leS z (lastN acc) = false) : z ∉ acc.map (·.1) := fun hm => by
  rw [h.top z hm] at hz; cases hz
theorem AccW.snoc {acc : List (Str × Int)} (h : AccW acc) {z : Str} {i : Int} (hl : acc.length < 8) (hn : nameB z = true) (hz : leS z (lastN acc) = false) (hi : 1 ≤ i ∧ i ≤ 60) : AccW (acc ++ [(z, i)]) := by
  have hnew := h.new hz
  have below : ∀ a ∈ acc.map (·.1), leS a z = true := fun a ha => by
    rcases leS_total a z with k | k
    · exact k
    · have := leS_trans k (h.top a ha)
      rw [this] at hz; cases hz
  have em : (acc ++ [(z, i)]).map (·.1) = acc.map (·.1) ++ [z] := by rw [List.map_append]; rfl
  refine ⟨by rw [List.length_append]; exact hl, fun p hp => ?_, fun p hp => ?_, ?_, ?_, fun a ha => ?_⟩
  · rcases List.mem_append.mp hp with hp | hp
    · exact h.nm p hp
    · rw [List.mem_singleton.mp hp]; exact hn
  · rcases List.mem_append.mp hp with hp | hp
    · exact h.sp p hp
    · rw [List.mem_singleton.mp hp]; exact hi
  · rw [em]
    exact List.nodup_append.mpr ⟨h.nd, by simp, fun a ha b hb e => hnew (by rw [← List.mem_singleton.mp hb, ← e]; exact ha)⟩
  · unfold SrtW
    rw [em]
    exact List.pairwise_append.mpr ⟨h.srt, by simp, fun a ha b hb => by rw [List.mem_singleton.mp hb]; exact below a ha⟩
  · rw [lastN_snoc]
    rw [em] at ha
    rcases List.mem_append.mp ha with ha | ha
    · exact below a ha
    · rw [List.mem_singleton.mp ha]; exact leS_refl _
theorem AccW.ok {acc : List (Str × Int)} (h : AccW acc) (ne : acc ≠ []) : OkW acc := ⟨ne, h.le, h.nm, h.sp, h.nd⟩
end L3
end
section
namespace L3
open PySem PySem.Spec PyProof.Rows L2 LamX ItX
def CwL (C : Addr) (H : Hp) (p d : Addr) (od : Obj) (ws : List (Str × Int)) : Prop := ∃ dx t, H p = some (.ins C dx (cwF d t ws)) ∧ H d = some (.frz od (.dK (ws.map wI))) ∧ H t = some (.tup (namesV ws))
theorem CwL.ex {C : Addr} {H H' : Hp} {p d : Addr} {od : Obj} {ws : List (Str × Int)} (h : CwL C H p d od ws) (e : Ex H H') : CwL C H' p d od ws := by
  obtain ⟨dx, t, h1, h2, h3⟩ := h
  exact ⟨dx, t, e _ _ h1, e _ _ h2, e _ _ h3⟩
section
variable {X : Cx} {pins : List (Addr × Obj)} {σ : L2.St} {C f a d S it : Addr} {od : Obj} {kvs : List (Key × V)} {vs : List (Key × Value)} {es : Array DictEntry} {ep : Nat}
/-- what the list holds after i turns -/
def PrW (H : Hp) (ts : List Addr) (kvs : List (Key × V)) : Prop := ts.length = kvs.length ∧ ∀ (i : Nat) t p, ts[i]? = some t → kvs[i]? = some p → H t = some (.tup [kV p.1, p.2])
end
end L3
end
section
namespace L3
open PySem PySem.Spec PyProof.Rows L2 LamX RZ
def bothW : List (Str × Int) → List (Str × Int) → List (Str × Int)
  | ws, [] => ws
  | ws, p :: us => bothW (setW ws p.1 p.2) us
theorem bothW_nd : ∀ {us ws : List (Str × Int)}, (ws.map (·.1)).Nodup → ((bothW ws us).map (·.1)).Nodup
  | [], _, h => h
  | _ :: us, _, h => bothW_nd (us := us) (setW_nd h)
theorem bothW_mem : ∀ {us ws : List (Str × Int)} {q : Str × Int}, q ∈ bothW ws us → q ∈ ws ∨ q ∈ us
  | [], _, _, h => .inl h
  | p :: us, ws, q, h => by
    rcases bothW_mem (us := us) h with h | h
    · rcases setW_mem h with h | h
      · exact .inr (by rw [h]; exact List.mem_cons_self ..)
      · exact .inl h
    · exact .inr (List.mem_cons_of_mem _ h)
theorem setW_len {ws : List (Str × Int)} {n : Str} {i : Int} : ws.length ≤ (setW ws n i).length ∧ (setW ws n i).length ≤ ws.length + 1 := by
  unfold setW
  split
  · rw [List.length_map]; omega
  · rw [List.length_append]; exact ⟨by simp, Nat.le_refl _⟩
theorem bothW_len : ∀ {us ws : List (Str × Int)}, ws.length ≤ (bothW ws us).length ∧ (bothW ws us).length ≤ ws.length + us.length
  | [], ws => ⟨Nat.le_refl _, Nat.le_refl _⟩
  | p :: us, ws => by
    have ih := bothW_len (us := us) (ws := setW ws p.1 p.2)
    have := @setW_len ws p.1 p.2
    show _ ≤ (bothW (setW ws p.1 p.2) us).length ∧ (bothW (setW ws p.1 p.2) us).length ≤ _
    rw [List.length_cons]
    omega
theorem OkW.both {ws us : List (Str × Int)} (h1 : OkW ws) (h2 : OkW us) (hl : (bothW ws us).length ≤ 8) : OkW (bothW ws us) :=
  ⟨fun z => h1.ne (List.eq_nil_of_length_eq_zero (by have := (@bothW_len us ws).1; rw [z] at this; exact Nat.le_zero.mp this)), hl, fun p hp => (bothW_mem hp).elim (h1.nm p) (h2.nm p), fun p hp => (bothW_mem hp).elim (h1.sp p) (h2.sp p), bothW_nd h1.nd⟩
theorem Cw.ins {C : Addr} {H : Hp} {p : Addr} {ws : List (Str × Int)} (h : Cw C H p ws) : ∃ dx fs, H p = some (.ins C dx fs) := by
  obtain ⟨dx, d, t, h1, _⟩ := h
  exact ⟨dx, _, h1⟩
end L3
end
section
namespace L3
open PySem PySem.Spec PyProof.Rows L2 LamX RZ
section
variable {ws us ws' us' : List (Str × Int)}
theorem nd_perm (h : ws'.Perm ws) (nd : (ws.map (·.1)).Nodup) : (ws'.map (·.1)).Nodup := (h.map (·.1)).nodup_iff.mpr nd
theorem OkW.perm (h : OkW ws) (p : ws'.Perm ws) : OkW ws' :=
  ⟨fun z => h.ne (List.eq_nil_of_length_eq_zero (by rw [← p.length_eq, z]; rfl)), by rw [p.length_eq]; exact h.le, fun q hq => h.nm q (p.mem_iff.mp hq), fun q hq => h.sp q (p.mem_iff.mp hq), nd_perm p h.nd⟩
end
section
variable {ws us : List (Str × Int)} {n : Str} {i : Int}
theorem OkW.set (h : OkW ws) (hn : nameB n = true) (hi : 1 ≤ i ∧ i ≤ 60) (hl : (setW ws n i).length ≤ 8) : OkW (setW ws n i) :=
  have h2 : OkW [(n, i)] := ⟨(fun z => nomatch z), by simp, fun p hp => by rw [List.mem_singleton.mp hp]; exact hn, fun p hp => by rw [List.mem_singleton.mp hp]; exact hi, by simp⟩
  OkW.both h h2 hl
end
def pwD (p : Str × Int) : PyData := .tuple [.str p.1, .int p.2]
theorem dpPw {K : PySem.W.Frag} {H : Hp} {t : Addr} {p : Str × Int} (h : H t = some (.tup [.str p.1, .int p.2])) : Dp K H (.ref t) (pwD p) := .tup (.inl (.inl h)) (.cons (.str _) (.cons (.int _) .nil))
theorem dpPws {K : PySem.W.Frag} {H : Hp} : ∀ {ws : List (Str × Int)} {us : List V}, us.length = ws.length → (∀ (i : Nat) v p, us[i]? = some v → ws[i]? = some p → ∃ t, v = .ref t ∧ H t = some (.tup [.str p.1, .int p.2])) → DpAll K H us (ws.map pwD)
  | [], [], _, _ => .nil
  | [], _ :: _, h, _ => by simp at h
  | _ :: _, [], h, _ => by simp at h
  | p :: ws, v :: us, h, k => by
    obtain ⟨t, rfl, ht⟩ := k 0 v p rfl rfl
    exact .cons (dpPw ht) (dpPws (by simpa using h) fun i v q h1 h2 => k (i + 1) v q (by simpa using h1) (by simpa using h2))
theorem PrW.dp {K : PySem.W.Frag} {H : Hp} {ts : List Addr} {ws : List (Str × Int)} (h : PrW H ts (ws.map wI)) : DpAll K H (ts.map V.ref) (ws.map pwD) := by
  refine dpPws (by rw [List.length_map, h.1, List.length_map]) fun i v p h1 h2 => ?_
  rw [List.getElem?_map] at h1
  cases e : ts[i]? with
  | none => rw [e] at h1; cases h1
  | some t =>
    rw [e] at h1
    cases h1
    exact ⟨t, rfl, h.2 i t (wI p) e (by rw [List.getElem?_map, h2]; rfl)⟩
def wD (ws : List (Str × Int)) : PyData := .dict (ws.map fun p => (.str p.1, .int p.2))
/-- values told with their text, names and numbers too -/
inductive Vw (H : Hp) : V → Str → Prop
  | vl {v : V} {t : Str} : Vl H v t → Vw H v t
  | dw {p : Addr} {ws : List (Str × Int)} : H p = some (.dK (ws.map wI)) → OkW ws → Vw H (.ref p) (wD ws).shown
  | t1 {p : Addr} {z : Str} : H p = some (.tup [.str z]) → (PyData.tuple [.str z]).shown.length ≤ 1000 → Vw H (.ref p) (PyData.tuple [.str z]).shown
theorem Vw.exN {H H' : Hp} {v : V} {t : Str} (h : Vw H v t) (e : ExtN H H') : Vw H' v t := by
  cases h with
  | vl h => exact .vl (h.exN e)
  | dw h o => exact .dw (e _ _ h fun _ z => nomatch z) o
  | t1 h o => exact .t1 (e _ _ h fun _ z => nomatch z) o
def KpN (a : Addr) (H H' : Hp) : Prop := ∀ b o, b ≠ a → H b = some o → (∀ ps, o ≠ .tbl ps) → H' b = some o
section
variable {a : Addr} {H H1 H2 : Hp}
theorem KpN.refl (H : Hp) : KpN a H H := fun _ _ _ h _ => h
theorem KpN.trans (x : KpN a H H1) (y : KpN a H1 H2) : KpN a H H2 := fun b o n h z => y b o n (x b o n h z) z
theorem KpN.of (k : ∀ b o, b ≠ a → H b = some o → H1 b = some o) : KpN a H H1 := fun b o n h _ => k b o n h
theorem KpN.n (e : ExtN H H1) : KpN a H H1 := fun b o _ h z => e b o h z
variable {n : Nat} {p : Addr} {ws : List (Str × Int)} {xs : List V} {kvs : List (Key × V)} {C : Addr}
theorem dk_kp (h : H p = some (.dK kvs)) (pn : Pen H a n) (k : KpN a H H1) : H1 p = some (.dK kvs) := k _ _ (pn.ne h (fun c n z => by unfold PenO at z; cases z)) h (fun _ z => nomatch z)
theorem lst_kp (h : H p = some (.lst xs)) (pn : Pen H a n) (k : KpN a H H1) : H1 p = some (.lst xs) := k _ _ (pn.ne h (fun c n z => by unfold PenO at z; cases z)) h (fun _ z => nomatch z)
theorem tup_kp (h : H p = some (.tup xs)) (pn : Pen H a n) (k : KpN a H H1) : H1 p = some (.tup xs) := k _ _ (pn.ne h (fun c n z => by unfold PenO at z; cases z)) h (fun _ z => nomatch z)
theorem cw_kp (h : Cw C H p ws) (pn : Pen H a n) (k : KpN a H H1) : Cw C H1 p ws := by
  obtain ⟨dw, wd, wt, w1, w2, w3⟩ := h
  exact ⟨dw, wd, wt, k _ _ (pn.ne w1 (fun c n z => by unfold PenO at z; cases z)) w1 (fun _ z => nomatch z), dk_kp w2 pn k, tup_kp w3 pn k⟩
end
end L3
end
section
namespace L3
open PySem PySem.NumText PySem.Spec PyProof.Rows L2 LamX RZ
theorem Pt.mono {m n : Nat} {z : Str} (h : Pt m z) (k : m ≤ n) : Pt n z := ⟨Nat.le_trans h.1 k, h.2⟩
theorem Pt.ok {m : Nat} {z : Str} (h : Pt m z) : PyData.strOk z = true := by
  unfold PyData.strOk
  rw [← Array.all_toList]
  exact List.all_eq_true.mpr fun c hc => decide_eq_true (h.2 c hc)
end L3
end
section
namespace L2
open PySem PySem.Spec PyProof.Rows
/-- what == of two values tells, by the abstract heap -/
abbrev EqvB := V → V → Hp → Bool → Prop
def MonB (D : EqvB) : Prop := ∀ x y H H' b, Ext H H' → D x y H b → D x y H' b
def EqB (X : Cx) (n : Nat) (D : EqvB) : Prop :=
  ∀ (A : Around) (pins : List (Addr × Obj)) (s : Shared) (σ : St) (H : Hp) (x y : V) (u v : Value) (b : Bool), Sub X n A → Inv X pins σ H s → RelV x u → RelV y v → D x y H b →
    wpAny (model X.prog X.w) A (eqBool u v) (fun r s' => r = b ∧ ∃ H', Inv X pins σ H' s' ∧ Ext H H') X.xe s
def RcB (op : CmpOp) (g : Bool → Bool) (X : Cx) (n : Nat) (D : EqvB) : Prop :=
  ∀ (A : Around) (pins : List (Addr × Obj)) (s : Shared) (σ : St) (H : Hp) (x y : V) (u v : Value) (b : Bool), Sub X n A → Inv X pins σ H s → RelV x u → RelV y v → D x y H b →
    wpAny (model X.prog X.w) A (richCompare op u v) (fun r s' => r = .bool (g b) ∧ ∃ H', Inv X pins σ H' s' ∧ Ext H H') X.xe s
section
variable {X : Cx} {n m : Nat} {D D' : EqvB}
theorem EqB.mono (h : EqB X n D) (hn : n ≤ m) : EqB X m D := fun A pins s σ H x y u v b sb => h A pins s σ H x y u v b (sb.mono hn)
theorem RcB.mono {op : CmpOp} {g : Bool → Bool} (h : RcB op g X n D) (hn : n ≤ m) : RcB op g X m D := fun A pins s σ H x y u v b sb => h A pins s σ H x y u v b (sb.mono hn)
theorem EqB.or (h : EqB X n D) (h' : EqB X n D') : EqB X n (fun x y H b => D x y H b ∨ D' x y H b) := fun A pins s σ H x y u v b sb I rx ry d => by
  rcases d with d | d
  · exact h A pins s σ H x y u v b sb I rx ry d
  · exact h' A pins s σ H x y u v b sb I rx ry d
theorem EqB.imp (h : EqB X n D) (hd : ∀ x y H b, D' x y H b → D x y H b) : EqB X n D' := fun A pins s σ H x y u v b sb I rx ry d => h A pins s σ H x y u v b sb I rx ry (hd x y H b d)
theorem MonB.or (h : MonB D) (h' : MonB D') : MonB (fun x y H b => D x y H b ∨ D' x y H b) := fun x y H H' b e d => d.elim (fun d => .inl (h x y H H' b e d)) fun d => .inr (h' x y H H' b e d)
end
end L2
end
section
namespace L3
open PySem PySem.NumText PySem.Spec PyProof.Rows L2 LamX RZ
end L3
end
section
set_option exponentiation.threshold 2000
namespace L3
open PySem PySem.NumText PySem.Spec PyProof.Rows L2 LamX RZ
section
variable {H : Hp} {C CW CQ : Addr} {p : Addr} {ws : List (Str × Int)} {a b f : Int}
theorem St.ins (h : St C CW CQ H p ws a b f) : ∃ dx q l, H p = some (.ins C dx (stF6 q ws a b f ++ ([("lowest", .ref l)] : List (Str × V)))) ∧ Cw CW H q ws := by
  obtain ⟨dx, q, l, h1, h2, _⟩ := h
  exact ⟨dx, q, l, h1, h2⟩
end
end L3
namespace L3
open PySem PySem.NumText PySem.Spec PyProof.Rows L2 LamX RZ
end L3
namespace L3
open PySem PySem.NumText PySem.Spec PyProof.Rows L2 LamX RZ
end L3
end
section
namespace L3
open PySem PySem.Spec PyProof.Rows L2 LamX
end L3
end
section
set_option exponentiation.threshold 2000
namespace L3
open PySem PySem.NumText PySem.Spec PyProof.Rows L2 LamX RZ
/-- a plan: speeds, costs, a fee -/
def PlanT (H : Hp) (p : Addr) (ws : List (Str × Int)) (a b f : Int) : Prop := ∃ d, H p = some (.tup [.ref d, .int a, .int b, .int f]) ∧ H d = some (.dK (ws.map wI))
theorem PlanT.exN {H H' : Hp} {p : Addr} {ws : List (Str × Int)} {a b f : Int} (h : PlanT H p ws a b f) (e : ExtN H H') : PlanT H' p ws a b f := by
  obtain ⟨d, h1, h2⟩ := h
  exact ⟨d, e _ _ h1 (fun _ z => nomatch z), e _ _ h2 (fun _ z => nomatch z)⟩
theorem PlanT.ex {H H' : Hp} {p : Addr} {ws : List (Str × Int)} {a b f : Int} (h : PlanT H p ws a b f) (e : Ex H H') : PlanT H' p ws a b f := h.exN e.n
theorem PlanT.kp {H H' : Hp} {pa p : Addr} {n : Nat} {ws : List (Str × Int)} {a b f : Int} (h : PlanT H p ws a b f) (pn : Pen H pa n) (k : KpN pa H H') : PlanT H' p ws a b f := by
  obtain ⟨d, h1, h2⟩ := h
  exact ⟨d, tup_kp h1 pn k, dk_kp h2 pn k⟩
theorem PlanT.ne {H : Hp} {p d : Addr} {ws : List (Str × Int)} {a b f : Int} (h1 : H p = some (.tup [.ref d, .int a, .int b, .int f])) (h2 : H d = some (.dK (ws.map wI))) : d ≠ p := fun z => by rw [z, h1] at h2; cases h2
end L3
namespace L3
open PySem PySem.NumText PySem.Spec PyProof.Rows L2 LamX RZ
end L3
namespace L3
open PySem PySem.NumText PySem.Spec PyProof.Rows L2 LamX RZ
section
variable {C CW CQ : Addr} {H H' : Hp} {p pa : Addr} {n : Nat} {ws : List (Str × Int)} {a b f o u : Int}
theorem rt_kp (h : Rt CQ H p o u) (pn : Pen H pa n) (k : KpN pa H H') : Rt CQ H' p o u := by
  obtain ⟨dx, h1⟩ := h
  exact ⟨dx, k _ _ (pn.ne h1 (fun c n z => by unfold PenO at z; cases z)) h1 (fun _ z => nomatch z)⟩
theorem St.kp (h : St C CW CQ H p ws a b f) (pn : Pen H pa n) (k : KpN pa H H') : St C CW CQ H' p ws a b f := by
  obtain ⟨dx, q, l, h1, h2, h3⟩ := h
  exact ⟨dx, q, l, k _ _ (pn.ne h1 (fun c n z => by unfold PenO at z; cases z)) h1 (fun _ z => nomatch z), cw_kp h2 pn k, rt_kp h3 pn k⟩
end
end L3
namespace L3
open PySem PySem.NumText PySem.Spec PyProof.Rows L2 LamX RZ
end L3
namespace L3
open PySem PySem.NumText PySem.Spec PyProof.Rows L2 LamX RZ
end L3
end
section
namespace L3
open PySem PySem.NumText PySem.Spec PyProof.Rows L2 LamX RZ
theorem HdAt.take {H : Hp} {hl : Addr} {qs : List Addr} {ts : List (List V)} (b : Hds H qs ts) : ∀ n, Hds H (qs.take n) (ts.take n) := by
  intro n
  induction n generalizing qs ts with
  | zero => rw [List.take_zero, List.take_zero]; trivial
  | succ n ih =>
    cases qs with
    | nil => cases ts with
      | nil => trivial
      | cons t ts => exact b.elim
    | cons q qs => cases ts with
      | nil => exact b.elim
      | cons t ts => exact ⟨b.1, ih b.2⟩
theorem OutR.exN {K : PySem.W.Frag} {H H' : Hp} {x : V} {m : Int} (h : OutR K H x m) (e : ExtN H H') : OutR K H' x m := h.imp (fun h => h.exN e) id
end L3
namespace L3
open PySem PySem.NumText PySem.Spec PyProof.Rows L2 LamX RZ
section
variable {H G : Hp} {l : Addr} {xs : List V}
variable {C CW CQ p q : Addr} {n : Nat} {ws : List (Str × Int)} {a b f o u : Int}
theorem HdAt.kp {pa hp : Addr} {ts : List (List V)} (h : HdAt H hp ts) (pn : Pen H pa n) (k : KpN pa H G) : HdAt G hp ts := by
  obtain ⟨qs, a, b⟩ := h
  exact ⟨qs, lst_kp a pn k, b.imp fun q t h => tup_kp h pn k⟩
theorem HdAt.lst {hp : Addr} {ts : List (List V)} (h : HdAt H hp ts) : ∃ qs : List Addr, H hp = some (.lst (qs.map V.ref)) ∧ qs.length = ts.length := by
  obtain ⟨qs, a, b⟩ := h
  exact ⟨qs, a, b.len⟩
end
end L3
end
section
set_option exponentiation.threshold 2000
namespace L3
open PySem PySem.NumText PySem.Spec PyProof.Rows L2 LamX RZ
end L3
end
section
set_option exponentiation.threshold 2000
namespace L3
open PySem PySem.NumText PySem.Spec PyProof.Rows L2 LamX RZ
end L3
namespace L3
open PySem PySem.NumText PySem.Spec PyProof.Rows L2 LamX RZ
end L3
namespace L3
open PySem PySem.NumText PySem.Spec PyProof.Rows L2 LamX RZ
end L3
end
section
namespace L3
open PySem PySem.NumText PySem.Spec PyProof.Rows L2 LamX RZ
end L3
end
section
set_option exponentiation.threshold 9000
namespace L3
open PySem PySem.NumText PySem.Spec PyProof.Rows L2 LamX RZ
section
variable {σ : L2.St} {H : Hp} {Q : VK}
/-- [x for x in range(lo, ..) if t] where t is false each time -/
theorem lcRno {te : TE} {tt : TT} {lo : Int} {N j : Nat} {vs : List Nat} (hw : ∀ x, wipe ((wipe σ vs).set j (some x)) vs = wipe σ vs)
    (step : ∀ (i : Nat) (H1 : Hp) (R : Bool → Hp → Prop), i < N → Ex H H1 → (∀ H2, Ex H1 H2 → R false H2) → tt ((wipe σ vs).set j (some (.int (lo + (i : Int))))) H1 R)
    (k : ∀ D H2, H D = none → Ex H H2 → H2 D = some (.lst []) → Q (.ref D) H2) : LC (Itr lo N) (gName j) tt te vs σ H Q := by
  intro D hD
  refine lc_range (fun i H1 => Ex H H1 ∧ H1 D = some (.lst [])) ⟨ex_new hD, upd_same⟩ (fun i H1 hi ⟨e, h1⟩ => ?_) fun H1 ⟨e, h1⟩ => k D H1 hD e h1
  exact ⟨hw _, step i H1 _ hi e fun H2 e2 => iteF ⟨e.trans e2, e2 _ _ h1⟩⟩
end
end L3
end
section
namespace L3
open PySem PySem.NumText PySem.Spec PyProof.Rows L2 LamX RZ
end L3
end
section
namespace L3
open PySem PySem.NumText PySem.Spec PyProof.Rows L2 LamX RZ
/-- workers of a crew -/
structure SubW (us ws : List (Str × Int)) : Prop where
  ne : us ≠ []
  nd : (us.map (·.1)).Nodup
  mem : ∀ p ∈ us, p ∈ ws
theorem sub_perm : ∀ {us ws : List (Str × Int)}, us.Nodup → (∀ p ∈ us, p ∈ ws) → ∃ rest, ws.Perm (us ++ rest)
  | [], ws, _, _ => ⟨ws, List.Perm.refl _⟩
  | p :: r, ws, nd, h => by
    have hp := h p List.mem_cons_self
    have nd1 := List.nodup_cons.mp nd
    obtain ⟨rest, hr⟩ := sub_perm (us := r) (ws := ws.erase p) nd1.2 fun q hq => (List.mem_erase_of_ne (show q ≠ p from fun z => nd1.1 (by rw [← z]; exact hq))).mpr (h q (List.mem_cons_of_mem _ hq))
    exact ⟨rest, (List.perm_cons_erase hp).trans (List.Perm.cons p hr)⟩
theorem SubW.perm {us ws : List (Str × Int)} (s : SubW us ws) : ∃ rest, ws.Perm (us ++ rest) :=
  sub_perm (List.Pairwise.of_map (·.1) (fun a b hab z => hab (by rw [z])) s.nd) s.mem
theorem SubW.le {us ws : List (Str × Int)} (s : SubW us ws) (h : OkW ws) : us.length ≤ 8 := by
  obtain ⟨rest, hr⟩ := s.perm
  have := hr.length_eq
  rw [List.length_append] at this
  have := h.le
  omega
theorem SubW.ok {us ws : List (Str × Int)} (s : SubW us ws) (h : OkW ws) : OkW us := ⟨s.ne, s.le h, fun p hp => h.nm p (s.mem p hp), fun p hp => h.sp p (s.mem p hp), s.nd⟩
theorem sumW_nonneg {r : List (Str × Int)} (h : ∀ q ∈ r, 0 ≤ q.2) : 0 ≤ sumW r := by
  unfold sumW
  induction r with
  | nil => exact Int.le_refl _
  | cons c d ih =>
    rw [List.map_cons, List.sum_cons]
    have := h c List.mem_cons_self
    have := ih fun q hq => h q (List.mem_cons_of_mem _ hq)
    omega
theorem SubW.sum {us ws : List (Str × Int)} (s : SubW us ws) (h : OkW ws) : sumW us ≤ sumW ws := by
  obtain ⟨rest, hr⟩ := s.perm
  rw [sumW_perm hr]
  have h0 := sumW_nonneg (r := rest) fun q hq => by
    have := h.sp q (hr.mem_iff.mpr (List.mem_append_right _ hq))
    omega
  unfold sumW at *
  rw [List.map_append, List.sum_append]
  omega
end L3
end
section
namespace L3
open PySem PySem.NumText PySem.Spec PyProof.Rows L2 LamX RZ
end L3
end
section
namespace L3
open PySem PySem.NumText PySem.Spec PyProof.Rows L2 LamX RZ
end L3
end
section
namespace L3
open PySem PySem.Spec PyProof.Rows L2 LamX ItX
end L3
namespace L3
open PySem PySem.Spec PyProof.Rows PySem.Calls PyProof.V
end L3
namespace L3
open PySem PySem.Spec PyProof.Rows L2 LamX ItX
end L3
end
section
namespace L3
open PySem PySem.NumText PySem.Spec PyProof.Rows L2 LamX RZ
end L3
namespace L3
open PySem PySem.NumText PySem.Spec PyProof.Rows L2 LamX RZ
end L3
namespace L3
open PySem PySem.NumText PySem.Spec PyProof.Rows L2 LamX RZ
end L3
namespace L3
open PySem PySem.NumText PySem.Spec PyProof.Rows L2 LamX RZ
/-- a setting of these workers and maybe more, its costs wider, its fee as great -/
def GrS (C CW CQ : Addr) (H : Hp) (s : Addr) (U : List (Str × Int)) (a b f : Int) : Prop := ∃ U' a' b' f', St C CW CQ H s U' a' b' f' ∧ OkW U' ∧ OkS a' b' f' ∧ SubW U U' ∧ a' ≤ a ∧ b ≤ b' ∧ f ≤ f'
theorem GrS.ex {C CW CQ : Addr} {H H' : Hp} {s : Addr} {U : List (Str × Int)} {a b f : Int} (h : GrS C CW CQ H s U a b f) (e : Ex H H') : GrS C CW CQ H' s U a b f := by
  obtain ⟨U', a', b', f', h1, h2⟩ := h
  exact ⟨U', a', b', f', h1.ex e, h2⟩
theorem GrS.kp {C CW CQ : Addr} {H H' : Hp} {s pa : Addr} {n : Nat} {U : List (Str × Int)} {a b f : Int} (h : GrS C CW CQ H s U a b f) (pn : Pen H pa n) (k : KpN pa H H') : GrS C CW CQ H' s U a b f := by
  obtain ⟨U', a', b', f', h1, h2⟩ := h
  exact ⟨U', a', b', f', h1.kp pn k, h2⟩
theorem SubW.refl {U : List (Str × Int)} (ok : OkW U) : SubW U U := ⟨ok.ne, ok.nd, fun _ h => h⟩
end L3
namespace L3
open PySem PySem.NumText PySem.Spec PyProof.Rows L2 LamX RZ
end L3
namespace L3
open PySem PySem.NumText PySem.Spec PyProof.Rows L2 LamX RZ
end L3
namespace L3
open PySem PySem.NumText PySem.Spec PyProof.Rows L2 LamX RZ
theorem Rts.drop {CQ : Addr} {H : Hp} {xs : List V} {rs : List (Int × Int)} (h : Rts CQ H xs rs) (k : Nat) : Rts CQ H (xs.drop k) (rs.drop k) :=
  ⟨by rw [List.length_drop, List.length_drop, h.1], fun i r hr => by
    rw [List.getElem?_drop] at hr ⊢
    exact h.2 _ r hr⟩
end L3
namespace L3
open PySem PySem.NumText PySem.Spec PyProof.Rows L2 LamX RZ
end L3
namespace L3
open PySem PySem.NumText PySem.Spec PyProof.Rows L2 LamX RZ
end L3
end
section
namespace L3
open PySem PySem.NumText PySem.Spec PyProof.Rows L2 LamX RZ
/-- what is used of let -/
structure LetOk (ℓ : Int → Int → Int) : Prop where
  lo : ∀ r j, 0 ≤ r → 0 ≤ ℓ r j ∧ ℓ r j ≤ r
  up : ∀ r j, 0 ≤ r → ℓ r j ≤ ℓ (r + 1) j ∧ ℓ (r + 1) j ≤ ℓ r j + 1
  pl : ∀ r j, ℓ r (j + 1) ≤ ℓ r j
theorem LetOk.mono {ℓ : Int → Int → Int} (o : LetOk ℓ) {r : Int} (j : Int) (hr : 0 ≤ r) : ∀ (k : Nat), r - ℓ r j ≤ (r + (k : Int)) - ℓ (r + (k : Int)) j ∧ ℓ r j ≤ ℓ (r + (k : Int)) j
  | 0 => by rw [Int.natCast_zero, Int.add_zero]; exact ⟨Int.le_refl _, Int.le_refl _⟩
  | k + 1 => by
    obtain ⟨h1, h2⟩ := o.mono j hr k
    have h3 := o.up (r + (k : Int)) j (by omega)
    have e : r + ((k + 1 : Nat) : Int) = r + (k : Int) + 1 := by omega
    rw [e]
    omega
/-- a greater rest leaves no less, and lets no less -/
theorem LetOk.left {ℓ : Int → Int → Int} (o : LetOk ℓ) {r r' : Int} (j : Int) (hr : 0 ≤ r) (h : r ≤ r') : r - ℓ r j ≤ r' - ℓ r' j ∧ ℓ r j ≤ ℓ r' j := by
  have := o.mono j hr (r' - r).toNat
  rw [show r + ((r' - r).toNat : Int) = r' by omega] at this
  exact this
theorem LetOk.later {ℓ : Int → Int → Int} (o : LetOk ℓ) (r j : Int) : ∀ k : Nat, ℓ r (j + (k : Int)) ≤ ℓ r j
  | 0 => by rw [Int.natCast_zero, Int.add_zero]; exact Int.le_refl _
  | k + 1 => by
    have := o.later r j k
    have h2 := o.pl r (j + (k : Int))
    rw [show j + ((k + 1 : Nat) : Int) = j + (k : Int) + 1 by omega]
    omega
/-- the greedy list so far: each size is the greatest let one -/
structure GrAt (ℓ : Int → Int → Int) (total : Int) (sizes rests : List Int) : Prop where
  at_ : ∀ (i : Nat) s, sizes[i]? = some s → rests[i]? = some (total - (sizes.take i).sum) ∧ 1 ≤ s ∧ s = ℓ (total - (sizes.take i).sum) (i : Int)
  le : sizes.sum ≤ total
/-- what greedy returns -/
structure GrOut (ℓ : Int → Int → Int) (total : Int) (most : Nat) (sizes rests : List Int) : Prop where
  g : GrAt ℓ total sizes rests
  ms : sizes.length ≤ most
  en : (rests.length = sizes.length ∧ sizes.sum = total) ∨ (rests.length = sizes.length + 1 ∧ sizes.sum < total ∧ rests[sizes.length]? = some (total - sizes.sum) ∧ (sizes.length = most ∨ ℓ (total - sizes.sum) (sizes.length : Int) = 0))
theorem GrAt.nil {ℓ : Int → Int → Int} {total : Int} (h : 0 ≤ total) : GrAt ℓ total [] [] := ⟨(fun i s h => nomatch h), h⟩
theorem GrAt.snoc {ℓ : Int → Int → Int} {total : Int} {sizes rests : List Int} (g : GrAt ℓ total sizes rests) (hl : rests.length = sizes.length) {s : Int} (h1 : 1 ≤ s) (hs : s = ℓ (total - sizes.sum) (sizes.length : Int)) (hle : s ≤ total - sizes.sum) : GrAt ℓ total (sizes ++ [s]) (rests ++ [total - sizes.sum]) := by
  refine ⟨fun i x hx => ?_, by rw [List.sum_append]; simp; omega⟩
  rcases Nat.lt_trichotomy i sizes.length with c | c | c
  · rw [List.getElem?_append_left c] at hx
    rw [List.getElem?_append_left (by omega), List.take_append_of_le_length (by omega)]
    exact g.at_ i x hx
  · subst c
    rw [List.getElem?_append_right (Nat.le_refl _), Nat.sub_self] at hx
    cases hx
    rw [List.getElem?_append_right (by omega), hl, Nat.sub_self, List.take_left]
    exact ⟨rfl, h1, hs⟩
  · rw [List.getElem?_eq_none (by rw [List.length_append, List.length_singleton]; omega)] at hx
    cases hx
theorem GrAt.one {ℓ : Int → Int → Int} {total : Int} {sizes rests : List Int} (g : GrAt ℓ total sizes rests) : ∀ s ∈ sizes, 1 ≤ s := fun s hs => by
  obtain ⟨i, hi⟩ := List.mem_iff_getElem?.mp hs
  exact (g.at_ i s hi).2.1
theorem sum_ge_len : ∀ {ns : List Int}, (∀ n ∈ ns, 1 ≤ n) → (ns.length : Int) ≤ ns.sum
  | [], _ => by simp
  | n :: r, h => by
    have h1 := h n List.mem_cons_self
    have ih := sum_ge_len (ns := r) fun m hm => h m (List.mem_cons_of_mem _ hm)
    rw [List.sum_cons, List.length_cons]
    omega
theorem GrAt.len {ℓ : Int → Int → Int} {total : Int} {sizes rests : List Int} (g : GrAt ℓ total sizes rests) : (sizes.length : Int) ≤ total := Int.le_trans (sum_ge_len g.one) g.le
/-- the rest at a place -/
def restG (total : Int) (sizes : List Int) (i : Nat) : Int := total - (sizes.take i).sum
theorem restG_succ {total : Int} {sizes : List Int} {i : Nat} (h : i < sizes.length) : restG total sizes (i + 1) = restG total sizes i - sizes[i] := by
  unfold restG
  rw [take_snoc (List.getElem?_eq_getElem h), List.sum_append, List.sum_cons, List.sum_nil]
  omega
theorem restG_all {total : Int} {sizes : List Int} {i : Nat} (h : sizes.length ≤ i) : restG total sizes i = total - sizes.sum := by
  unfold restG
  rw [List.take_of_length_le h]
theorem GrAt.size {ℓ : Int → Int → Int} {total : Int} {sizes rests : List Int} (g : GrAt ℓ total sizes rests) {i : Nat} (h : i < sizes.length) : sizes[i] = ℓ (restG total sizes i) (i : Int) ∧ 1 ≤ sizes[i] ∧ rests[i]? = some (restG total sizes i) := by
  obtain ⟨h1, h2, h3⟩ := g.at_ i _ (List.getElem?_eq_getElem h)
  exact ⟨h3, h2, h1⟩
end L3
end
section
namespace L3
open PySem PySem.NumText PySem.Spec PyProof.Rows L2 LamX RZ
/-- the rests behind one chunk more -/
structure Beh (ℓ : Int → Int → Int) (j : Int) (some_ zs : List Int) : Prop where
  up : zs.Pairwise (· ≤ ·)
  mem : ∀ z, z ∈ zs ↔ ∃ r ∈ some_, ∃ s, 1 ≤ s ∧ s ≤ ℓ r j ∧ z = r - s
/-- all rests left behind so many chunks: none is less than the greedy one, which is there, too -/
structure AllB (total : Int) (sizes : List Int) (k : Nat) (zs : List Int) : Prop where
  up : zs.Pairwise (· ≤ ·)
  ge : ∀ z ∈ zs, restG total sizes k ≤ z ∧ z ≤ total
  has : k ≤ sizes.length → restG total sizes k ∈ zs
theorem GrAt.rest_pos {ℓ : Int → Int → Int} {total : Int} {sizes rests : List Int} (g : GrAt ℓ total sizes rests) (k : Nat) : 0 ≤ restG total sizes k := by
  unfold restG
  have h1 := g.le
  have e := sum_split sizes k
  have h2 : 0 ≤ (sizes.drop k).sum := by
    have := sum_ge_len (ns := sizes.drop k) fun n hn => g.one n (List.mem_of_mem_drop hn)
    omega
  omega
theorem AllB.next {ℓ : Int → Int → Int} (o : LetOk ℓ) {total : Int} {sizes rests : List Int} {most : Nat} (g : GrOut ℓ total most sizes rests) (hm : sizes.length < most) {k : Nat} {zs ys : List Int} (h : AllB total sizes k zs) (hb : Beh ℓ (k : Int) zs ys) : AllB total sizes (k + 1) ys := by
  have hR := g.g.rest_pos k
  refine ⟨hb.up, fun y hy => ?_, fun hk => ?_⟩
  · obtain ⟨r, hr, s, s1, s2, rfl⟩ := (hb.mem y).mp hy
    obtain ⟨h1, h2⟩ := h.ge r hr
    have hl := (o.left (k : Int) hR h1).1
    have r0 : 0 ≤ r := Int.le_trans hR h1
    refine ⟨?_, by omega⟩
    rcases Nat.lt_or_ge k sizes.length with c | c
    · rw [restG_succ c, (g.g.size c).1]
      omega
    · rw [restG_all (by omega)]
      rw [restG_all c] at hl hR
      rcases g.en with ⟨_, e⟩ | ⟨_, _, _, e | e⟩
      · have := (o.lo r (k : Int) r0).2
        omega
      · omega
      · have := o.later (total - sizes.sum) (sizes.length : Int) (k - sizes.length)
        rw [show (sizes.length : Int) + ((k - sizes.length : Nat) : Int) = (k : Int) by omega, e] at this
        omega
  · have hk' : k < sizes.length := by omega
    rw [restG_succ hk']
    obtain ⟨e1, e2, _⟩ := g.g.size hk'
    exact (hb.mem _).mpr ⟨_, h.has (by omega), sizes[k], e2, by rw [← e1]; exact Int.le_refl _, rfl⟩
end L3
end
section
namespace L3
open PySem PySem.NumText PySem.Spec PyProof.Rows L2 LamX RZ
def setI (ks : List Int) : List (Key × V) := ks.map fun z => ((Sum.inl z : Key), V.bl true)
def addI (ks : List Int) (z : Int) : List Int := if z ∈ ks then ks else ks ++ [z]
theorem setI_len (ks : List Int) : (setI ks).length = ks.length := by unfold setI; rw [List.length_map]
theorem setI_has {ks : List Int} {z : Int} : ((setI ks).any fun kv => decide (kv.1 = (Sum.inl z : Key))) = decide (z ∈ ks) := by
  unfold setI
  rw [List.any_map]
  induction ks with
  | nil => rfl
  | cons k r ih =>
    rw [List.any_cons, ih]
    by_cases h : z = k
    · subst h; simp
    · have h2 : ¬ (Sum.inl k : Key) = Sum.inl z := fun e => h (Sum.inl.inj e).symm
      have h3 : ¬ k = z := fun e => h e.symm
      simp [Function.comp, h, h2, h3]
theorem putK_I (ks : List Int) (z : Int) : putK (setI ks) (Sum.inl z) (V.bl true) = setI (addI ks z) := by
  unfold putK
  rw [setI_has]
  unfold addI
  by_cases h : z ∈ ks
  · rw [decide_eq_true h, if_pos rfl, if_pos h]
    unfold setI
    rw [List.map_map]
    refine List.map_congr_left fun x _ => ?_
    show (if (Sum.inl x : Key) = Sum.inl z then ((Sum.inl x : Key), V.bl true) else ((Sum.inl x : Key), V.bl true)) = _
    split <;> rfl
  · rw [decide_eq_false h, if_neg (by decide), if_neg h]
    unfold setI
    rw [List.map_append]
    rfl
theorem mem_addI {ks : List Int} {z x : Int} : x ∈ addI ks z ↔ x ∈ ks ∨ x = z := by
  unfold addI
  split
  · rename_i h
    constructor
    · exact .inl
    · rintro (h1 | rfl)
      · exact h1
      · exact h
  · simp
theorem nodup_addI {ks : List Int} {z : Int} (h : ks.Nodup) : (addI ks z).Nodup := by
  unfold addI
  split
  · exact h
  · rename_i h2
    rw [List.nodup_append]
    exact ⟨h, by simp, fun a ha b hb e => h2 (by rw [← List.mem_singleton.mp hb, ← e]; exact ha)⟩
/-- the rests behind one chunk, so far -/
structure BehAt (ℓ : Int → Int → Int) (j : Int) (zs ks : List Int) : Prop where
  nd : ks.Nodup
  mem : ∀ z, z ∈ ks ↔ ∃ r ∈ zs, ∃ s, 1 ≤ s ∧ s ≤ ℓ r j ∧ z = r - s
theorem BehAt.nil {ℓ : Int → Int → Int} {j : Int} : BehAt ℓ j [] [] := ⟨List.nodup_nil, fun z => by simp⟩
/-- so far, and of the last rest sizes up to so many -/
structure BehIn (ℓ : Int → Int → Int) (j : Int) (zs : List Int) (r : Int) (m : Int) (ks : List Int) : Prop where
  nd : ks.Nodup
  mem : ∀ z, z ∈ ks ↔ (∃ r ∈ zs, ∃ s, 1 ≤ s ∧ s ≤ ℓ r j ∧ z = r - s) ∨ ∃ s, 1 ≤ s ∧ s ≤ m ∧ s ≤ ℓ r j ∧ z = r - s
theorem BehAt.go {ℓ : Int → Int → Int} {j : Int} {zs ks : List Int} (h : BehAt ℓ j zs ks) (r : Int) : BehIn ℓ j zs r 0 ks := ⟨h.nd, fun z => by
  rw [h.mem]
  constructor
  · exact .inl
  · rintro (h | ⟨s, h1, h2, _⟩)
    · exact h
    · omega⟩
theorem BehIn.done {ℓ : Int → Int → Int} {j : Int} {zs ks : List Int} {r : Int} (h : BehIn ℓ j zs r r ks) (hl : ℓ r j ≤ r) : BehAt ℓ j (zs ++ [r]) ks := ⟨h.nd, fun z => by
  rw [h.mem]
  constructor
  · rintro (⟨x, h1, h2⟩ | ⟨s, h1, h2, h3, h4⟩)
    · exact ⟨x, List.mem_append_left _ h1, h2⟩
    · exact ⟨r, by simp, s, h1, h3, h4⟩
  · rintro ⟨x, h1, s, h2, h3, h4⟩
    rcases List.mem_append.mp h1 with h1 | h1
    · exact .inl ⟨x, h1, s, h2, h3, h4⟩
    · rw [List.mem_singleton.mp h1] at h3 h4
      exact .inr ⟨s, h2, by omega, h3, h4⟩⟩
end L3
end
section
namespace L3
open PySem PySem.NumText PySem.Spec PyProof.Rows L2 LamX RZ ClX
section
variable {X : Cx} {pins : List (Addr × Obj)} {σ : L2.St} {H : Hp} {s : Shared} {E : Value → Shared → Prop} {A : Around}
theorem d_update {a b : Addr} {ws vs : List (Key × V)} {Q : Value → Shared → Prop} (I : L2.Inv X pins σ H s) (ha : H a = some (.dK ws)) (hb : H b = some (.dK vs)) (hne : b ≠ a) (hz : ws.length + vs.length ≤ sizeLine)
    (h : ∀ s', L2.Inv X pins σ (upd H a (.dK (mergeK ws vs))) s' → Q .none s') : wpAny (model X.prog X.w) A (call (.builtin "dict.update") [.ref a, .ref b]) Q E s := by
  obtain ⟨z1, s1, us, r1, d1⟩ := dk_of I.hok ha
  obtain ⟨z2, s2, ts, r2, d2⟩ := dk_of I.hok hb
  have l1 : us.length = ws.length := r1.length.symm
  have l2 : ts.length = vs.length := r2.length.symm
  refine call_meetsIn PySem.F.slot_dict_update d1.typeIs PySem.F.entry_dict_update (PySem.F.args_dict_update_2 _ _) (meets_dict_update (mixKind X.prog X.w) a b (Ne.symm hne) s2) ⟨us, ts, d1, d2, by omega, fun h' hd' _ sb => h _ ?_⟩
  have z3 : (mergeK ws vs).length ≤ sizeLine := by have := length_mergeK vs ws; omega
  exact d_write (t' := s.toks) I (by rw [ha]; exact True.intro) sb (let ⟨o, _, _, ho, _⟩ := hd'; ⟨o, ho⟩) (dk_new z3 s1 (r2.merge r1) hd')
end
/-- d.update(e) -/
def tDUpd (td ty : TE) : TE := fun σ H Q => td σ H fun x H1 => ∃ a, x = .ref a ∧ IsD H1 a ∧ ty σ H1 fun y H2 => ∃ b kvs ms, y = .ref b ∧ H2 a = some (.dK kvs) ∧ H2 b = some (.dK ms) ∧ b ≠ a ∧ kvs.length + ms.length ≤ sizeLine ∧ Q .non (upd H2 a (.dK (mergeK kvs ms)))
theorem pe_dupd {X : Cx} {o e : Expr} {apos cpos : Pos} {td ty : TE} (ho : PE X o td) (he : PE X e ty) (m : M1 X o "update" apos e cpos) : PE X (.Call (.Attribute o "update" apos) [e] [] cpos) (tDUpd td ty) := by
  refine ⟨fun pins s σ H Q I h => ?_⟩
  refine wpAny_Call_method m.base m.few m.line PySem.F.plainAttrs_dict PySem.F.slot_dict_update PySem.F.type_dict_update (thn (ho.run pins s σ H _ I h) fun u s1 ⟨x, H1, I1, rx, a, ex, d, q1⟩ => ?_)
  subst ex
  obtain rfl : u = Value.ref a := rx
  obtain ⟨t1, t2, _⟩ := isD_at I1 d
  refine ⟨t1, t2, ?_⟩
  rw [m.trees]
  refine Calls.callWith_builtin rfl (Calls.evalArgs_plain (Calls.spliced_cons (thn (he.run pins s1 σ H1 _ I1 q1) fun iv s2 ⟨y, H2, I2, ry, b, kvs, ms, ey, ea, eb, hne, hz, q2⟩ => Calls.spliced_nil ?_)))
  subst ey
  obtain rfl : iv = Value.ref b := ry
  exact d_update I2 ea eb hne hz fun s3 I3 => ⟨.non, _, I3, rfl, q2⟩
section
variable {K : PySem.W.Frag} {σ : L2.St} {H : Hp} {Q : VK}
theorem s_dupd {td ty : TE} (h : td σ H fun x H1 => ∃ a, x = .ref a ∧ IsD H1 a ∧ ty σ H1 fun y H2 => ∃ b kvs ms, y = .ref b ∧ H2 a = some (.dK kvs) ∧ H2 b = some (.dK ms) ∧ b ≠ a ∧ kvs.length + ms.length ≤ sizeLine ∧ Q .non (upd H2 a (.dK (mergeK kvs ms)))) : tDUpd td ty σ H Q := h
/-- {k: True for k in a tuple of unlike whole numbers if ..} -/
theorem dcTI {t : Addr} {ks : List Int} {j : Nat} {tt : TT} {tk tv : TE} {vs : List Nat} (b : Int → Bool) (ht : H t = some (.tup (ks.map V.int))) (hnd : ks.Nodup) (hz : ks.length < sizeLine) (hw : ∀ x, wipe ((wipe σ vs).set j (some x)) vs = wipe σ vs)
    (htt : ∀ (n : Int) (H1 : Hp) (R : Bool → Hp → Prop), n ∈ ks → R (b n) H1 → tt ((wipe σ vs).set j (some (.int n))) H1 R)
    (hk : ∀ (n : Int) (H1 : Hp) (R : VK), R (.int n) H1 → tk ((wipe σ vs).set j (some (.int n))) H1 R)
    (hv : ∀ (n : Int) (H1 : Hp) (R : VK), R (.bl true) H1 → tv ((wipe σ vs).set j (some (.int n))) H1 R)
    (k : ∀ D H2, H D = none → Ex H H2 → H2 D = some (.dK (setI (ks.filter b))) → Q (.ref D) H2) : DC (Itt K t) (gName j) tt tk tv vs σ H Q := by
  intro D hD
  refine dc_it (walk_tup (K := K) (a := t) (xs := ks.map V.int)) (fun i H1 => Ex H H1 ∧ H1 D = some (.dK (setI ((ks.take i).filter b)))) ⟨ex_new hD, by rw [upd_same]; rfl⟩ (fun _ H1 _ p => .inl (.inl (p.1 _ _ ht))) ?_ ?_
  · rintro i x H1 H2 hi ⟨e1, e2⟩ ⟨rfl, hx⟩
    obtain ⟨n, hn, rfl⟩ : ∃ n, ks[i]? = some n ∧ x = V.int n := by
      rw [List.getElem?_map] at hx
      cases h : ks[i]? with
      | none => rw [h] at hx; cases hx
      | some n => rw [h] at hx; exact ⟨n, rfl, (Option.some.inj hx).symm⟩
    have hm := List.mem_of_getElem? hn
    have htk : ks.take (i + 1) = ks.take i ++ [n] := by rw [List.take_add_one, hn]; rfl
    have hnew : n ∉ ks.take i := by
      have h1 : (ks.take (i + 1)).Nodup := hnd.sublist (List.take_sublist _ _)
      rw [htk, List.nodup_append] at h1
      exact fun z => h1.2.2 n z n (by simp) rfl
    show wipe _ vs = wipe σ vs ∧ _
    refine ⟨hw _, htt n H2 _ hm ?_⟩
    cases hb : b n with
    | true =>
      refine iteT (hk n H2 _ (hv n H2 _ ⟨_, Sum.inl n, rfl, e2, ?_, fun c oo hc => ?_, ?_⟩))
      · rw [setI_len]
        exact Nat.lt_of_le_of_lt (Nat.le_trans (List.length_filter_le _ _) (by rw [List.length_take]; omega)) hz
      · rw [upd_ne (ne_of_none hc hD)]; exact e1 _ _ hc
      · rw [upd_same, putK_I, htk, List.filter_append]
        have hno : n ∉ (ks.take i).filter b := fun z => hnew (List.mem_filter.mp z).1
        unfold addI
        rw [if_neg hno, List.filter_cons, if_pos hb, List.filter_nil]
    | false =>
      refine iteF ⟨e1, ?_⟩
      rw [htk, List.filter_append]
      simpa [hb] using e2
  · rintro H1 ⟨e1, e2⟩
    rw [List.length_map, List.take_length] at e2
    exact k _ _ hD e1 e2
end
theorem merge_setI : ∀ (zs ks : List Int), mergeK (setI ks) (setI zs) = setI (zs.foldl addI ks)
  | [], _ => rfl
  | z :: r, ks => by
    show mergeK (putK (setI ks) (Sum.inl z) (.bl true)) (setI r) = _
    rw [putK_I]
    exact merge_setI r (addI ks z)
theorem Prs.of {H : Hp} : ∀ {vs : List V} {qs : List (Int × Int)}, vs.length = qs.length → (∀ (i : Nat) v q, vs[i]? = some v → qs[i]? = some q → Pr H v q.1 q.2) → Prs H vs qs
  | [], [], _, _ => .nil
  | v :: vs, q :: qs, hl, h => .cons (h 0 v q rfl rfl) (Prs.of (by simpa using hl) fun i v' q' h1 h2 => h (i + 1) v' q' (by simpa using h1) (by simpa using h2))
  | [], _ :: _, hl, _ => by simp at hl
  | _ :: _, [], hl, _ => by simp at hl
theorem Pr.upL {H : Hp} {v : V} {a b : Int} {D : Addr} {l l' : List V} (h : Pr H v a b) (hD : H D = some (.lst l)) : Pr (upd H D (.lst l')) v a b := by
  obtain ⟨p, rfl, h⟩ := h
  exact ⟨p, rfl, by rw [upd_ne (fun z => by rw [z, hD] at h; cases h)]; exact h⟩
def firstT (res : Int) : Int := if res = 0 then 1 else 0
def addT (first : Int) (ks : List Int) (z : Int) : List Int := ([z, z + 1].filter fun x => decide (first < x)).foldl addI ks
theorem mem_foldA {x : Int} : ∀ {zs ks : List Int}, x ∈ zs.foldl addI ks ↔ x ∈ ks ∨ x ∈ zs
  | [], ks => by simp
  | z :: r, ks => by rw [List.foldl_cons, mem_foldA, mem_addI, List.mem_cons, or_assoc]
theorem mem_addT {first z x : Int} {ks : List Int} : x ∈ addT first ks z ↔ x ∈ ks ∨ ((x = z ∨ x = z + 1) ∧ first < x) := by
  unfold addT
  rw [mem_foldA, List.mem_filter, List.mem_cons, List.mem_singleton, decide_eq_true_iff]
theorem nodup_foldA : ∀ {zs ks : List Int}, ks.Nodup → (zs.foldl addI ks).Nodup
  | [], _, h => h
  | z :: r, ks, h => nodup_foldA (zs := r) (nodup_addI h)
theorem len_addI {ks : List Int} {z : Int} : (addI ks z).length ≤ ks.length + 1 := by
  unfold addI
  split
  · omega
  · rw [List.length_append, List.length_singleton]; exact Nat.le_refl _
theorem len_foldA : ∀ {zs ks : List Int}, (zs.foldl addI ks).length ≤ ks.length + zs.length
  | [], _ => Nat.le_refl _
  | z :: r, ks => by
    have := len_foldA (zs := r) (ks := addI ks z)
    have := len_addI (ks := ks) (z := z)
    rw [List.foldl_cons, List.length_cons]
    omega
theorem len_addT {first z : Int} {ks : List Int} : (addT first ks z).length ≤ ks.length + 2 := by
  unfold addT
  have h := len_foldA (zs := [z, z + 1].filter fun x => decide (first < x)) (ks := ks)
  have h2 : ([z, z + 1].filter fun x => decide (first < x)).length ≤ 2 := List.length_filter_le _ _
  omega
/-- what is gathered behind some pairs of lines -/
structure TurnsAt (ls : List (Int × Int)) (first : Int) (i j : Nat) (ks : List Int) : Prop where
  nd : ks.Nodup
  hd : first ∈ ks
  lo : ∀ x ∈ ks, first ≤ x ∧ x ≤ 10 ^ 31
  src : ∀ x ∈ ks, x = first ∨ ∃ l ∈ ls, ∃ o ∈ ls, o.1 < l.1 ∧ x ≤ (o.2 - l.2) / (l.1 - o.1) + 1
  rows : ∀ a < i, ∀ (l o : Int × Int), ls[a]? = some l → o ∈ ls → o.1 < l.1 → first < (o.2 - l.2) / (l.1 - o.1) + 1 → (o.2 - l.2) / (l.1 - o.1) + 1 ∈ ks
  row : ∀ b < j, ∀ (l o : Int × Int), ls[i]? = some l → ls[b]? = some o → o.1 < l.1 → first < (o.2 - l.2) / (l.1 - o.1) + 1 → (o.2 - l.2) / (l.1 - o.1) + 1 ∈ ks
theorem TurnsAt.zero {ls : List (Int × Int)} {first : Int} (h : first ≤ 10 ^ 31) : TurnsAt ls first 0 0 [first] := ⟨by simp, by simp, fun x hx => by rw [List.mem_singleton.mp hx]; exact ⟨Int.le_refl _, h⟩, fun x hx => .inl (List.mem_singleton.mp hx), fun _ h => absurd h (Nat.not_lt_zero _), fun _ h => absurd h (Nat.not_lt_zero _)⟩
theorem TurnsAt.skip {ls : List (Int × Int)} {first : Int} {i j : Nat} {ks : List Int} (h : TurnsAt ls first i j ks) {l o : Int × Int} (hl : ls[i]? = some l) (ho : ls[j]? = some o) (hn : ¬ o.1 < l.1) : TurnsAt ls first i (j + 1) ks := ⟨h.nd, h.hd, h.lo, h.src, h.rows, fun b hb l' o' hl' ho' hlt => by
  by_cases z : b < j
  · exact h.row b z l' o' hl' ho' hlt
  · have e : b = j := by omega
    subst e
    rw [hl] at hl'; rw [ho] at ho'
    cases hl'; cases ho'
    exact absurd hlt hn⟩
theorem TurnsAt.add {ls : List (Int × Int)} {first : Int} {i j : Nat} {ks : List Int} (h : TurnsAt ls first i j ks) {l o : Int × Int} (hl : ls[i]? = some l) (ho : ls[j]? = some o) (hlt : o.1 < l.1) (hb : (o.2 - l.2) / (l.1 - o.1) + 1 ≤ 10 ^ 31) : TurnsAt ls first i (j + 1) (addT first ks ((o.2 - l.2) / (l.1 - o.1))) :=
  ⟨nodup_foldA h.nd, mem_addT.mpr (.inl h.hd), fun x hx => by
    rcases mem_addT.mp hx with hx | ⟨hx, hf⟩
    · exact h.lo x hx
    · exact ⟨by omega, by omega⟩, fun x hx => by
    rcases mem_addT.mp hx with hx | ⟨hx, hf⟩
    · exact h.src x hx
    · exact .inr ⟨l, List.mem_of_getElem? hl, o, List.mem_of_getElem? ho, hlt, by omega⟩, fun a ha l' o' h1 h2 h3 h4 => mem_addT.mpr (.inl (h.rows a ha l' o' h1 h2 h3 h4)), fun b hb l' o' hl' ho' hlt hf => by
    by_cases z : b < j
    · exact mem_addT.mpr (.inl (h.row b z l' o' hl' ho' hlt hf))
    · have e : b = j := by omega
      subst e
      rw [hl] at hl'; rw [ho] at ho'
      cases hl'; cases ho'
      exact mem_addT.mpr (.inr ⟨.inr rfl, hf⟩)⟩
theorem TurnsAt.next {ls : List (Int × Int)} {first : Int} {i : Nat} {ks : List Int} (h : TurnsAt ls first i ls.length ks) : TurnsAt ls first (i + 1) 0 ks := ⟨h.nd, h.hd, h.lo, h.src, fun a ha l o hl ho hlt hf => by
  by_cases z : a < i
  · exact h.rows a z l o hl ho hlt hf
  · have e : a = i := by omega
    subst e
    obtain ⟨b, hb⟩ := List.mem_iff_getElem?.mp ho
    exact h.row b (List.getElem?_eq_some_iff.mp hb).1 l o hl hb hlt hf, fun _ h => absurd h (Nat.not_lt_zero _)⟩
theorem TurnsAt.ok {ls : List (Int × Int)} {first : Int} {ks ts : List Int} (h : TurnsAt ls first ls.length 0 ks) (hp : ts.Perm ks) (hs : ts.Pairwise (· ≤ ·)) : TurnsOk ls first ts := by
  have nd : ts.Nodup := hp.nodup_iff.mpr h.nd
  have asc : ts.Pairwise (· < ·) := List.Pairwise.imp_of_mem (fun {a b} _ _ h => by obtain ⟨h1, h2⟩ := h; omega) (hs.and nd)
  refine ⟨asc, ?_, fun l hl o ho hlt z hz hf => ?_, fun x hx => h.src x (hp.mem_iff.mp hx)⟩
  · cases ts with
    | nil => have := hp.mem_iff.mpr h.hd; cases this
    | cons a r =>
      have h1 := (h.lo a (hp.mem_iff.mp (List.mem_cons_self ..))).1
      rcases List.mem_cons.mp (hp.mem_iff.mpr h.hd) with e | e
      · rw [e]; rfl
      · have := List.rel_of_pairwise_cons hs e
        have e2 : a = first := by omega
        rw [e2]; rfl
  · obtain ⟨a, ha⟩ := List.mem_iff_getElem?.mp hl
    rw [hz] at hf ⊢
    exact hp.mem_iff.mpr (h.rows a (List.getElem?_eq_some_iff.mp ha).1 l o ha ho hlt hf)
theorem lns_bd {t : RT} {res : Int} (ht : t.fine) (r0 : 0 ≤ res) (r1 : res < ((t.md : Nat) : Int)) : ∀ l ∈ lnsT t res, (0 ≤ l.1 ∧ l.1 ≤ 120000) ∧ -1000 ≤ l.2 ∧ l.2 ≤ 10 ^ 30 := fun l hl => by
  have md5 := ht.md
  have w30 : (121000 : Int) ≤ 10 ^ 30 := by decide
  rcases List.mem_cons.mp hl with rfl | hl
  · exact ⟨⟨by decide, by decide⟩, by decide, by decide⟩
  rcases List.mem_cons.mp hl with rfl | hl
  · exact ⟨⟨by show 0 ≤ ((t.md : Nat) : Int); omega, by show ((t.md : Nat) : Int) ≤ _; omega⟩, by show -1000 ≤ res; omega, by show res ≤ _; omega⟩
  obtain ⟨u, hu, rfl⟩ := List.mem_map.mp hl
  have ok := RT.leaf_ok ht.ok hu
  cases u with
  | fx s =>
    have h1 : 1 ≤ s := ok.1
    have h2 : s ≤ 10 ^ 30 := ok.2
    exact ⟨⟨Int.le_refl _, by show (0 : Int) ≤ _; decide⟩, by show -1000 ≤ s; omega, h2⟩
  | dv x y w =>
    have hx := ok.1
    have hy := ok.2.1
    have hw := ok.2.2
    have p1 : 0 ≤ ((t.md : Nat) : Int) / w ∧ ((t.md : Nat) : Int) / w ≤ 5000 := ⟨Int.ediv_nonneg (by omega) (by omega), Int.le_trans (Int.ediv_le_self _ (by omega)) (by omega)⟩
    have p2 : 0 ≤ x * res ∧ x * res ≤ 24 * 5000 := ⟨Int.mul_nonneg hx.1 r0, Int.mul_le_mul hx.2 (by omega) r0 (by decide)⟩
    refine ⟨⟨Int.mul_nonneg hx.1 p1.1, ?_⟩, ?_, ?_⟩
    · show x * (((t.md : Nat) : Int) / w) ≤ 120000
      exact Int.le_trans (Int.mul_le_mul hx.2 p1.2 p1.1 (by decide)) (by decide)
    · show -1000 ≤ (x * res + y) / w
      generalize x * res = m at p2
      exact (Int.le_ediv_iff_mul_le (by omega)).mpr (by omega)
    · show (x * res + y) / w ≤ 10 ^ 30
      generalize x * res = m at p2
      by_cases z : 0 ≤ m + y
      · exact Int.le_trans (Int.ediv_le_self _ z) (by omega)
      · have : (m + y) / w ≤ 0 := by
          refine Int.le_of_lt_add_one ((Int.ediv_lt_iff_lt_mul (by omega)).mpr (by omega))
        omega
  | jn lo a b =>
    have h1 := (RT.leaf_n hu).1
    have h2 : a.n + b.n = 1 := h1
    have := a.n_pos
    have := b.n_pos
    omega
theorem turn_bd {l o : Int × Int} (hl : (0 ≤ l.1 ∧ l.1 ≤ 120000) ∧ -1000 ≤ l.2 ∧ l.2 ≤ 10 ^ 30) (ho : (0 ≤ o.1 ∧ o.1 ≤ 120000) ∧ -1000 ≤ o.2 ∧ o.2 ≤ 10 ^ 30) (h : o.1 < l.1) : (o.2 - l.2) / (l.1 - o.1) + 1 ≤ 10 ^ 31 := by
  have w : (10 : Int) ^ 30 + 1001 ≤ 10 ^ 31 := by decide
  by_cases z : 0 ≤ o.2 - l.2
  · have := Int.ediv_le_self (l.1 - o.1) z
    omega
  · have : (o.2 - l.2) / (l.1 - o.1) ≤ 0 := Int.le_of_lt_add_one ((Int.ediv_lt_iff_lt_mul (by omega)).mpr (by omega))
    omega
def spFirstQ : Sp := fun vs H Q _ => ∃ r, vs = [.int r] ∧ Q (.int (firstT r)) H
def ResOk (t : RT) (res : Int) : Prop := t.fine ∧ 0 ≤ res ∧ res < ((t.md : Nat) : Int)
def spLineOf (C : RA) : Sp := fun vs H Q _ => ∃ p m res, ∃ u : RT, vs = [.ref p, .int m, .int res] ∧ RuAt C H u p [p] ∧ u.ok ∧ u.n = 1 ∧ 1 ≤ m ∧ m ≤ 5000 ∧ ((u.md : Nat) : Int) ∣ m ∧ 0 ≤ res ∧ res ≤ 5000 ∧ ∀ v H', Ex H H' → Pr H' v (lnT m res u).1 (lnT m res u).2 → Q v H'
def spLinesOf (C : RA) : Sp := fun vs H Q _ => ∃ p ps t res, vs = [.ref p, .int res] ∧ RuAt C H t p ps ∧ ResOk t res ∧ ∀ l xs H', Ex H H' → H' l = some (.lst xs) → Prs H' xs (lnsT t res) → Q (.ref l) H'
def spTurnsOf (C : RA) : Sp := fun vs H Q _ => ∃ p ps t res, vs = [.ref p, .int res] ∧ RuAt C H t p ps ∧ ResOk t res ∧ ∀ l ts H', Ex H H' → H' l = some (.lst (ts.map V.int)) → TurnsOk (lnsT t res) (firstT res) ts → ts.length ≤ 200 → (∀ x ∈ ts, x ≤ 10 ^ 31) → Q (.ref l) H'
def spSizeAt (C : RA) : Sp := fun vs H Q _ => ∃ p ps t res q, vs = [.ref p, .int res, .int q] ∧ RuAt C H t p ps ∧ ResOk t res ∧ firstT res ≤ q ∧ q ≤ 10 ^ 35 ∧ ∀ H', Ex H H' → Q (.int (szT t res q)) H'
def PcAt (H : Hp) (v : V) (c : Pc) : Prop := ∃ p, v = .ref p ∧ H p = some (.tup [.int c.1, .int c.2.1, .int c.2.2])
theorem PcAt.exN {H H' : Hp} {v : V} {c : Pc} (h : PcAt H v c) (e : ExtN H H') : PcAt H' v c := by
  obtain ⟨p, rfl, h⟩ := h
  exact ⟨p, rfl, e _ _ h fun _ z => nomatch z⟩
theorem PcAt.ex {H H' : Hp} {v : V} {c : Pc} (h : PcAt H v c) (e : Ex H H') : PcAt H' v c := h.exN e.n
/-- a piece through the sizes at its begin and the next quotient -/
def PcOn (t : RT) (res : Int) (c : Pc) : Prop := firstT res ≤ c.1 ∧ c.1 ≤ 10 ^ 32 ∧ szT t res c.1 = pcV c c.1 ∧ szT t res (c.1 + 1) = pcV c (c.1 + 1) ∧ c.2.1.natAbs ≤ 10 ^ 45 ∧ c.2.2.natAbs ≤ 10 ^ 80
def spPieceFrom (C : RA) : Sp := fun vs H Q _ => ∃ p ps t res b, vs = [.ref p, .int res, .int b] ∧ RuAt C H t p ps ∧ ResOk t res ∧ firstT res ≤ b ∧ b ≤ 10 ^ 32 ∧ ∀ v c H', Ex H H' → PcAt H' v c → c.1 = b → PcOn t res c → Q v H'
def spIsOn (C : RA) : Sp := fun vs H Q _ => ∃ p ps t res v c q, vs = [.ref p, .int res, v, .int q] ∧ RuAt C H t p ps ∧ ResOk t res ∧ PcAt H v c ∧ PcOn t res c ∧ firstT res ≤ q ∧ q ≤ 10 ^ 33 ∧ ∀ H', Ex H H' → Q (.bl (decide (szT t res q = pcV c q))) H'
def NxAt (v : V) (nx : Option Int) : Prop := (v = .non ∧ nx = none) ∨ ∃ b, v = .int b ∧ nx = some b
def spEndOf (C : RA) : Sp := fun vs H Q _ => ∃ p ps t res v c l ts, vs = [.ref p, .int res, v, .ref l] ∧ RuAt C H t p ps ∧ ResOk t res ∧ PcAt H v c ∧ PcOn t res c ∧ H l = some (.lst (ts.map V.int)) ∧ TurnsOk (lnsT t res) (firstT res) ts ∧ ts.length ≤ 200 ∧ (∀ x ∈ ts, x ≤ 10 ^ 31) ∧ ∀ y nx H', Ex H H' → NxAt y nx → EndAt (szT t res) c nx → Q y H'
/-- the row of a residue's pieces -/
def PcsAt (H : Hp) (v : V) (cs : List Pc) : Prop := ∃ p xs, v = .ref p ∧ H p = some (.tup xs) ∧ xs.length = cs.length ∧ ∀ (i : Nat) c, cs[i]? = some c → ∃ x, xs[i]? = some x ∧ PcAt H x c
theorem PcsAt.exN {H H' : Hp} {v : V} {cs : List Pc} (h : PcsAt H v cs) (e : ExtN H H') : PcsAt H' v cs := by
  obtain ⟨p, xs, rfl, h1, h2, h3⟩ := h
  exact ⟨p, xs, rfl, e _ _ h1 (fun _ z => nomatch z), h2, fun i c hc => let ⟨x, a, b⟩ := h3 i c hc; ⟨x, a, b.exN e⟩⟩
theorem PcsAt.ex {H H' : Hp} {v : V} {cs : List Pc} (h : PcsAt H v cs) (e : Ex H H') : PcsAt H' v cs := h.exN e.n
/-- how far a begin can lie -/
def BdT (ls : List (Int × Int)) (first x : Int) : Prop := x ≤ first ∨ ∃ l ∈ ls, ∃ o ∈ ls, o.1 < l.1 ∧ x ≤ (o.2 - l.2) / (l.1 - o.1) + 2
/-- all pieces of a residue -/
def PcsOk (t : RT) (res : Int) (cs : List Pc) : Prop := Pre (szT t res) (firstT res) cs none ∧ cs.length ≤ 201 ∧ ∀ c ∈ cs, PcOn t res c ∧ BdT (lnsT t res) (firstT res) c.1
def spPiecesAt (C : RA) : Sp := fun vs H Q _ => ∃ p ps t res, vs = [.ref p, .int res] ∧ RuAt C H t p ps ∧ ResOk t res ∧ ∀ v cs H', Ex H H' → PcsAt H' v cs → PcsOk t res cs → Q v H'
theorem rest_in {t : RT} {res q : Int} (ro : ResOk t res) (q0 : firstT res ≤ q) (q1 : q ≤ 10 ^ 35) : 1 ≤ ((t.md : Nat) : Int) * q + res ∧ ((t.md : Nat) : Int) * q + res ≤ 10 ^ 40 := by
  obtain ⟨fn, r0, r1⟩ := ro
  have m1 := RT.md_pos fn.ok
  have m5 := fn.md
  have hq : 0 ≤ q := by unfold firstT at q0; split at q0 <;> omega
  have h1 : ((t.md : Nat) : Int) * q ≤ 5000 * 10 ^ 35 := Int.mul_le_mul (by omega) q1 hq (by decide)
  have w : (5000 : Int) * 10 ^ 35 + 5000 ≤ 10 ^ 40 := by decide +kernel
  refine ⟨?_, by omega⟩
  unfold firstT at q0
  split at q0
  · have : 1 * 1 ≤ ((t.md : Nat) : Int) * q := Int.mul_le_mul (by omega) q0 (by decide) (by omega)
    omega
  · have := Int.mul_nonneg (show 0 ≤ ((t.md : Nat) : Int) by omega) hq
    omega
theorem sz_bd {t : RT} {res q : Int} (ro : ResOk t res) (q0 : firstT res ≤ q) (q1 : q ≤ 10 ^ 32 + 1) : 1 ≤ szT t res q ∧ szT t res q ≤ 10 ^ 36 := by
  have w1 : (10 : Int) ^ 32 + 1 ≤ 10 ^ 35 := by decide +kernel
  obtain ⟨b1, _⟩ := rest_in ro q0 (by omega)
  obtain ⟨fn, r0, r1⟩ := ro
  have m5 := fn.md
  have hq : 0 ≤ q := by unfold firstT at q0; split at q0 <;> omega
  have h1 : ((t.md : Nat) : Int) * q ≤ 5000 * (10 ^ 32 + 1) := Int.mul_le_mul (by omega) q1 hq (by decide)
  have w : (5000 : Int) * (10 ^ 32 + 1) + 5000 ≤ 10 ^ 36 := by decide +kernel
  unfold szT chunkT
  generalize wishT (((t.md : Nat) : Int) * q + res) t = z
  omega
theorem asc_top {ts : List Int} (h : ts.Pairwise (· < ·)) {τ : Int} (hm : τ ∈ ts) : ∃ a, ts[ts.length - 1]? = some a ∧ τ ≤ a ∧ ts[ts.length - 1 + 1]? = none := by
  obtain ⟨j, hj⟩ := List.mem_iff_getElem?.mp hm
  obtain ⟨hjl, ej⟩ := List.getElem?_eq_some_iff.mp hj
  refine ⟨ts[ts.length - 1]'(by omega), List.getElem?_eq_getElem _, ?_, List.getElem?_eq_none (by omega)⟩
  by_cases z : j = ts.length - 1
  · subst z; rw [ej]; exact Int.le_refl _
  · have := List.pairwise_iff_getElem.mp h j (ts.length - 1) hjl (by omega) (by omega)
    omega
theorem end_bd {t : RT} {res first : Int} {ts : List Int} {p : Pc} (ok : t.ok) (T : TurnsOk (lnsT t res) first ts) (hf : first ≤ p.1) (h1 : szT t res p.1 = pcV p p.1) (h2 : szT t res (p.1 + 1) = pcV p (p.1 + 1)) {b2 : Int} (he : EndAt (szT t res) p (some b2)) : ∃ a ∈ ts, first < a ∧ b2 ≤ a + 1 := by
  obtain ⟨_, τ, hm, l1, l2⟩ := end_rank ok T hf h1 h2 he
  obtain ⟨a, ha, hle, hn⟩ := asc_top T.asc hm
  obtain ⟨e1, e2, e3⟩ := he
  by_cases z : b2 ≤ a + 1
  · exact ⟨a, List.mem_of_getElem? ha, by omega, z⟩
  · obtain ⟨L, _, e⟩ := sz_line ok T (ts.length - 1)
    have inq : ∀ q, a ≤ q → InT ts (ts.length - 1) q := fun q hq => ⟨⟨a, ha, hq⟩, fun b z' => by rw [hn] at z'; cases z'⟩
    have on0 := e3 a (by omega) (by omega)
    have on1 := e3 (a + 1) (by omega) (by omega)
    rw [e a (inq a (Int.le_refl _))] at on0
    rw [e (a + 1) (inq _ (by omega))] at on1
    refine absurd ?_ e2
    rw [e b2 (inq b2 (by omega))]
    exact two_pts on0 on1 b2
/-- pieces in a list, one by one -/
def PcL (H : Hp) (xs : List V) (cs : List Pc) : Prop := xs.length = cs.length ∧ ∀ (i : Nat) c, cs[i]? = some c → ∃ x, xs[i]? = some x ∧ PcAt H x c
theorem PcL.exN {H H' : Hp} {xs : List V} {cs : List Pc} (h : PcL H xs cs) (e : ExtN H H') : PcL H' xs cs := ⟨h.1, fun i c hc => let ⟨x, a, b⟩ := h.2 i c hc; ⟨x, a, b.exN e⟩⟩
theorem PcL.ex {H H' : Hp} {xs : List V} {cs : List Pc} (h : PcL H xs cs) (e : Ex H H') : PcL H' xs cs := h.exN e.n
theorem PcAt.upL {H : Hp} {v : V} {c : Pc} {D : Addr} {l l' : List V} (h : PcAt H v c) (hD : H D = some (.lst l)) : PcAt (upd H D (.lst l')) v c := by
  obtain ⟨p, rfl, h⟩ := h
  exact ⟨p, rfl, by rw [upd_ne (fun z => by rw [z, hD] at h; cases h)]; exact h⟩
theorem PcsAt.upL {H : Hp} {v : V} {cs : List Pc} {D : Addr} {l l' : List V} (h : PcsAt H v cs) (hD : H D = some (.lst l)) : PcsAt (upd H D (.lst l')) v cs := by
  obtain ⟨p, xs, rfl, h1, h2, h3⟩ := h
  exact ⟨p, xs, rfl, by rw [upd_ne (fun z => by rw [z, hD] at h1; cases h1)]; exact h1, h2, fun i c hc => let ⟨x, a, b⟩ := h3 i c hc; ⟨x, a, b.upL hD⟩⟩
theorem PcL.snoc {H : Hp} {xs : List V} {cs : List Pc} {x : V} {c : Pc} {D : Addr} {l l' : List V} (h : PcL H xs cs) (hx : PcAt H x c) (hD : H D = some (.lst l)) : PcL (upd H D (.lst l')) (xs ++ [x]) (cs ++ [c]) := by
  refine ⟨by rw [List.length_append, List.length_append, h.1]; rfl, fun i c' hc => ?_⟩
  by_cases hi : i < cs.length
  · rw [List.getElem?_append_left hi] at hc
    obtain ⟨y, h1, h2⟩ := h.2 i c' hc
    exact ⟨y, by rw [List.getElem?_append_left (by rw [h.1]; exact hi)]; exact h1, h2.upL hD⟩
  · rw [List.getElem?_append_right (by omega)] at hc
    have e : i - cs.length = 0 := by
      by_cases z : i - cs.length = 0
      · exact z
      · rw [List.getElem?_eq_none (by simp; omega)] at hc; cases hc
    rw [e] at hc
    cases (Option.some.inj hc)
    exact ⟨x, by rw [List.getElem?_append_right (by rw [h.1]; omega), h.1, e]; rfl, hx.upL hD⟩
/-- [f(i) for i in range(n)]: what each one is, in the heap -/
theorem lcRObj {σ : L2.St} {H : Hp} {Q : VK} {te : TE} {N j : Nat} {vs : List Nat} (Pv : Nat → V → Hp → Prop) (hP : ∀ i v H H', Pv i v H → Ex H H' → Pv i v H') (hU : ∀ i v H D l l', Pv i v H → H D = some (.lst l) → Pv i v (upd H D (.lst l'))) (hz : N < sizeLine) (hw : ∀ x, wipe ((wipe σ vs).set j (some x)) vs = wipe σ vs)
    (step : ∀ (i : Nat) (H1 : Hp) (R : VK), i < N → Ex H H1 → (∀ v H2, Ex H1 H2 → Pv i v H2 → R v H2) → te ((wipe σ vs).set j (some (.int (0 + (i : Int))))) H1 R)
    (k : ∀ D H2 us, H D = none → Ex H H2 → H2 D = some (.lst us) → us.length = N → (∀ i v, us[i]? = some v → Pv i v H2) → Q (.ref D) H2) : LC (Itr 0 N) (gName j) tYes te vs σ H Q := by
  intro D hD
  refine lc_it (walk_range (lo := 0) (n := N)) (fun n H1 => Ex H H1 ∧ ∃ us : List V, H1 D = some (.lst us) ∧ us.length = n ∧ ∀ i v, us[i]? = some v → Pv i v H1) ⟨ex_new hD, [], upd_same, rfl, fun i v h => by simp at h⟩ (fun n H1 _ ⟨e, _⟩ => trivial) ?_ (fun H1 ⟨e, us, h1, h2, h3⟩ => k D H1 us hD e h1 h2 h3)
  rintro n x H1 H2 hi ⟨e, us, h1, h2, h3⟩ ⟨rfl, hx⟩
  subst hx
  show wipe _ vs = wipe σ vs ∧ _
  refine ⟨hw _, ?_⟩
  unfold tYes
  dsimp only
  refine iteT (step n _ _ hi e fun v H2 e2 pv => ?_)
  have h1' := e2 _ _ h1
  refine ⟨_, h1', ?_, fun c o hc => ?_, us ++ [v], upd_same, by rw [List.length_append, h2]; rfl, fun i u hu => ?_⟩
  · rw [h2]; omega
  · rw [upd_ne (ne_of_none hc hD)]; exact e2 _ _ (e _ _ hc)
  · refine hU _ _ _ _ _ _ ?_ h1'
    rcases Nat.lt_or_ge i us.length with hi | hi
    · rw [List.getElem?_append_left hi] at hu
      exact hP _ _ _ _ (h3 i u hu) e2
    · rw [List.getElem?_append_right hi] at hu
      have e0 : i - us.length = 0 := by
        rcases Nat.eq_zero_or_pos (i - us.length) with z | z
        · exact z
        · rw [List.getElem?_eq_none (by simp; omega)] at hu; cases hu
      rw [e0] at hu
      have : i = n := by omega
      rw [this]
      cases (Option.some.inj hu)
      exact pv
/-- the pieces of all residues -/
def spPieces (C : RA) : Sp := fun vs H Q _ => ∃ p ps t, vs = [.ref p] ∧ RuAt C H t p ps ∧ t.fine ∧ ∀ l us H', Ex H H' → H' l = some (.lst us) → us.length = t.md → (∀ (i : Nat) v, us[i]? = some v → ∃ cs, PcsAt H' v cs ∧ PcsOk t (i : Int) cs) → Q (.ref l) H'
end L3
end
section
local macro_rules | `(tactic| tm_at "s1") => `(tactic| first
  | with_reducible first
    | refine L3.s_seq ?_ | refine L3.s_asg ?_ | refine L3.s_op ?_ | refine L3.s_c ?_ | refine L3.s_cb ?_ | refine L3.s_cons ?_ | refine L3.s_nil ?_ | refine L3.s_test ?_ | refine L3.s_bl ?_
    | refine L3.s_I0 ?_ | refine L3.s_and ?_ | refine L3.s_or ?_ | refine L3.s_not ?_ | refine L3.s_if ?_ | refine L3.s_next ?_ | refine L3.s_ret ?_ | refine L3.s_retN ?_ | refine L3.s_asgS ?_ | refine L3.s_drop ?_
    | refine L3.s_un ?_ | refine L3.s_U ?_ | refine L3.s_int ?_ | refine L3.s_intB ?_ | refine L3.s_abs ?_ | refine L3.s_andV ?_ | refine L3.s_orV ?_ | refine L3.s_notV ?_ | refine L3.s_ifE ?_ | refine L3.s_call ?_ | refine L3.s_lst ?_ | refine L3.s_tup ?_ | refine L3.s_tB ?_
    | refine L3.s_addI ?_ | refine L3.s_inS ?_ | refine L3.s_ninS ?_ | refine L3.s_slice ?_ | refine L3.s_part ?_ | refine L3.s_partI ?_ | refine L3.s_nopart ?_ | refine L3.s_cI ?_ | refine L3.s_cB ?_ | refine L3.s_chain ?_ | refine L3.s_bm ?_ | refine L3.s_lcS ?_ | refine L3.s_lcR ?_ | refine L3.s_strE ?_
    | refine L2.iteT ?_ | refine L2.iteF ?_ | refine L3.iteNF ?_ | refine L3.iteNT ?_
    | refine L3.s_eqI ?_ | refine L3.s_neI ?_ | refine L3.s_eqS ?_ | refine L3.s_neS ?_
    | refine L3.s_pair ?_ | refine L3.s_pair2 ?_ | refine L3.s_fld ?_ | refine L3.s_make ?_ | refine L3.s_m1 ?_ | refine L3.s_isstr ?_
    | refine L3.s_xfV ?_ | refine L3.s_lstN ?_ | refine L3.s_callF ?_ | refine L3.s_lcL ?_ | refine L3.s_par3 ?_ | refine L3.s_trip ?_ | refine L3.s_asgT' ?_ | refine L3.s_gC ?_ | refine L3.s_gN ?_ | refine L3.s_fldG ?_ | refine L3.s_raise1 ?_ | refine L3.s_raise2 ?_ | refine L3.s_star ?_ | refine L3.s_mkCR ?_ | refine L3.s_lcZ ?_ | refine L3.s_forL ?_ | refine L3.s_forT ?_ | refine L3.s_gNm ?_ | refine L3.s_forE ?_ | refine L3.s_stC ?_ | refine L3.s_cmC ?_ | refine L3.s_forR1 ?_ | refine L3.s_lcTp ?_ | refine L3.s_forZ ?_ | refine L3.s_orT ?_ | refine L3.s_mt ?_ | refine L3.s_revT ?_ | refine L3.s_revL ?_ | refine L3.s_slOwn ?_ | refine L3.s_sl3 ?_ | refine L3.s_lcO ?_ | refine L3.s_stR ?_
    | refine L3.s_dcL ?_ | refine L3.s_dcT ?_ | refine L3.s_dget ?_ | refine L3.s_forET ?_ | refine L3.s_din ?_ | refine L3.s_dnin ?_ | refine L3.s_mkKV ?_
    | refine L3.s_isN ?_ | refine L3.s_isB ?_ | refine L3.s_nisN ?_ | refine L3.s_nisB ?_
  | ((with_reducible refine' L3.s_var ?e ?_); (case e => rfl))
  | ((with_reducible refine' L3.s_aug ?e ?_); (case e => rfl))
  | ((with_reducible refine' L3.s_pow ?c ?_); (case c => exact ⟨by decide, by decide, by decide⟩)))
local macro_rules | `(tactic| tm_at "s") => `(tactic| repeat tm_at "s1")
namespace K53
open PySem PySem.NumText PySem.Spec PyProof.Rows L2 L3 LamX RZ ClX
abbrev s_need_rule : Stmt := topS 40
theorem sc_need_rule : FnScope ["rule"] ["rule"] (defScope s_need_rule) := ⟨rfl, rfl, rfl, by decide +kernel, rfl, by decide +kernel, by decide +kernel⟩
abbrev s_first_quotient : Stmt := topS 41
theorem sc_first_quotient : FnScope ["residue"] ["residue"] (defScope s_first_quotient) := ⟨rfl, rfl, rfl, by decide +kernel, rfl, by decide +kernel, by decide +kernel⟩
abbrev s_line_of : Stmt := topS 42
theorem sc_line_of : FnScope ["part", "modulus", "residue"] ["part", "modulus", "residue"] (defScope s_line_of) := ⟨rfl, rfl, rfl, by decide +kernel, rfl, by decide +kernel, by decide +kernel⟩
abbrev s_lines_of : Stmt := topS 43
abbrev names_lines_of : List Str := ["rule", "residue", "modulus", "part"]
theorem sc_lines_of : FnScope ["rule", "residue", "modulus", "part"] ["rule", "residue"] (defScope s_lines_of) := ⟨rfl, rfl, rfl, by decide +kernel, rfl, by decide +kernel, by decide +kernel⟩
abbrev s_turns_of : Stmt := topS 44
abbrev names_turns_of : List Str := ["rule", "residue", "first", "lines", "found", "rise", "start", "other", "begin", "at", "one"]
theorem sc_turns_of : FnScope ["rule", "residue", "first", "lines", "found", "rise", "start", "other", "begin", "at", "one"] ["rule", "residue"] (defScope s_turns_of) := ⟨rfl, rfl, rfl, by decide +kernel, rfl, by decide +kernel, by decide +kernel⟩
abbrev s_size_at : Stmt := topS 45
theorem sc_size_at : FnScope ["rule", "residue", "quotient"] ["rule", "residue", "quotient"] (defScope s_size_at) := ⟨rfl, rfl, rfl, by decide +kernel, rfl, by decide +kernel, by decide +kernel⟩
abbrev s_piece_from : Stmt := topS 46
theorem sc_piece_from : FnScope ["rule", "residue", "begin", "size", "rise"] ["rule", "residue", "begin"] (defScope s_piece_from) := ⟨rfl, rfl, rfl, by decide +kernel, rfl, by decide +kernel, by decide +kernel⟩
abbrev s_is_on : Stmt := topS 47
theorem sc_is_on : FnScope ["rule", "residue", "piece", "quotient"] ["rule", "residue", "piece", "quotient"] (defScope s_is_on) := ⟨rfl, rfl, rfl, by decide +kernel, rfl, by decide +kernel, by decide +kernel⟩
abbrev s_end_of : Stmt := topS 48
theorem sc_end_of : FnScope ["rule", "residue", "piece", "turns", "at", "begin", "last", "low", "quotient"] ["rule", "residue", "piece", "turns"] (defScope s_end_of) := ⟨rfl, rfl, rfl, by decide +kernel, rfl, by decide +kernel, by decide +kernel⟩
abbrev s_pieces_at : Stmt := topS 49
theorem sc_pieces_at : FnScope ["rule", "residue", "turns", "found", "begin"] ["rule", "residue"] (defScope s_pieces_at) := ⟨rfl, rfl, rfl, by decide +kernel, rfl, by decide +kernel, by decide +kernel⟩
abbrev s_pieces : Stmt := topS 50
abbrev names_pieces : List Str := ["rule", "residue"]
theorem sc_pieces : FnScope ["rule", "residue"] ["rule"] (defScope s_pieces) := ⟨rfl, rfl, rfl, by decide +kernel, rfl, by decide +kernel, by decide +kernel⟩
section
variable {P : Program} {w : World} {K : PySem.W.Frag} {mg : Str → Option Value} {base : Heap} {C : RA} {CR0 CY CS CR CM CE CL : Addr}
def spNeedRu (C : RA) : Sp := fun vs H Q _ => ∃ p ps t, vs = [.ref p] ∧ RuAt C H t p ps ∧ Q .non H
theorem ok_needRu {f : Addr} {fd : FuncData} (F : Fun K "need_rule" "need_rule" s_need_rule f fd) (T : Txt K mg C CR0 CY CS CR CM CL) (g_By : ∃ u, mg "By" = some u ∧ RelV (.ref CY) u) (kIY : ∀ i, i < 4 → PySem.W.kitOne K (.ref (C.at i)) (.ref CY) = some false) (e_BadRule : Er1 P w K mg base "BadRule" CR "part") : FnOk P w K mg base (L2.CX P w) 3 f fd ["rule"] (spNeedRu C) := by
  refine funO F sc_need_rule (fun vs H Q E h => ?_) (fun cd A fr s H vs Q E hr h => ?_)
  · obtain ⟨p, ps, t, rfl, _⟩ := h; rfl
  · obtain ⟨p, ps, t, rfl, ru, k⟩ := h
    refine ⟨_, (pss_cons (ps_if (pt_not (pt_val (pe_callB (KX.callIsi (K := K)) (by rfl) T.b_isinstance (by decide +kernel) (pa_cons (pv 0) (pa_cons (C8.pe_gc (by rfl) T.g_Rule) pa_nil))))) (pss_one (ps_raise1 e_BadRule hr rfl (takes_of rfl rfl rfl rfl) (pa_cons pe_str pa_nil))) pss_nil)
      (pss_one (ps_if (pt_val (pe_callB (KX.callIsi (K := K)) (by rfl) T.b_isinstance (by decide +kernel) (pa_cons (pv 0) (pa_cons (C8.pe_gc (by rfl) T.g_By) pa_nil)))) (pss_one (ps_raise1 e_BadRule hr rfl (takes_of rfl rfl rfl rfl) (pa_cons pe_str pa_nil))) pss_nil))), ?_⟩
    tm_at "s"
    refine s_isiC (.x (ru_ty T ru)) (T.kR _ t.ix_lt) ?_
    tm_at "s"
    refine s_isiC (.x (ru_ty T ru)) (kIY _ t.ix_lt) ?_
    tm_at "s"
    exact k
theorem ok_firstQ {f : Addr} {fd : FuncData} (F : Fun K "first_quotient" "first_quotient" s_first_quotient f fd) : FnOk P w K mg base CX0 1 f fd ["residue"] spFirstQ := by
  refine funO F sc_first_quotient (fun vs H Q E h => ?_) (fun cd A fr s H vs Q E hr h => ?_)
  · obtain ⟨r, rfl, _⟩ := h; rfl
  · obtain ⟨r, rfl, k⟩ := h
    refine ⟨_, (pss_one (ps_ret (pe_ifExp (pt_cmpR (KX.eqU (K := K) rfl hr.units) (pv 0) pe_int (nomark _)) pe_int pe_int))), ?_⟩
    unfold firstT at k
    tm_at "s"
    refine iteD (fun z => ?_) (fun z => ?_)
    · rw [if_pos z] at k
      tm_at "s"
      exact k
    · rw [if_neg z] at k
      tm_at "s"
      exact k
theorem ok_lineOf {f : Addr} {fd : FuncData} (F : Fun K "line_of" "line_of" s_line_of f fd) (T : Txt K mg C CR0 CY CS CR CM CL) : FnOk P w K mg base CX0 1 f fd ["part", "modulus", "residue"] (spLineOf C) := by
  refine funO F sc_line_of (fun vs H Q E h => ?_) (fun cd A fr s H vs Q E hr h => ?_)
  · obtain ⟨p, m, res, u, rfl, _⟩ := h; rfl
  · obtain ⟨p, m, res, u, rfl, ru, ok, un, m1, m5, hd, r0, r5, k⟩ := h
    refine ⟨_, (pss_cons (ps_if (pt_val (pe_callB (KX.callIsi (K := K)) (by rfl) T.b_isinstance (by decide +kernel) (pa_cons (pv 0) (pa_cons (C8.pe_gc (by rfl) T.g_Fixed) pa_nil)))) (pss_one (ps_ret (pe_tup (pa_cons pe_int (pa_cons (KX.fld (K := K) rfl (pv 0) rfl) pa_nil))))) pss_nil)
      (pss_one (ps_ret (pe_tup (pa_cons (pe_op opMul (KX.fld (K := K) rfl (pv 0) rfl) (pe_op op_fdivW (pv 1) (KX.fld (K := K) rfl (pv 0) rfl))) (pa_cons (pe_op op_fdivW (pe_op opAdd (pe_op opMul (KX.fld (K := K) rfl (pv 0) rfl) (pv 2)) (KX.fld (K := K) rfl (pv 0) rfl)) (KX.fld (K := K) rfl (pv 0) rfl)) pa_nil)))))), ?_⟩
    tm_at "s"
    refine s_isiC (.x (ru_ty T ru)) (T.kE _ 0 u.ix_lt (by decide)) ?_
    match u, ru, ok, un, hd, k with
    | .fx i, ⟨_, dx, t, hp, _⟩, _, _, _, k =>
      refine ⟨_, rfl, iteT' rfl ?_⟩
      tm_at "s"
      refine ⟨p, C.f, dx, _, _, rfl, hp, T.f.cl, T.nFs, rfl, ?_⟩
      tm_at "s"
      refine s_new (Nat.le_of_lt (small1000 (by simp))) fun q H1 nq e1 hq => ?_
      exact k _ H1 e1 ⟨q, rfl, hq⟩
    | .dv x y w', ⟨_, dx, t, hp, _⟩, ok, _, hd, k =>
      have hx := ok.1
      have hy := ok.2.1
      have hw := ok.2.2
      refine ⟨_, rfl, iteF' rfl ?_⟩
      tm_at "s"
      refine ⟨p, C.d, dx, _, _, rfl, hp, T.d.cl, T.nDx, rfl, ?_⟩
      tm_at "s"
      refine ⟨p, C.d, dx, _, _, rfl, hp, T.d.cl, T.nDw, rfl, ?_⟩
      refine s_divP (by omega) (by omega) ?_
      have e0 : 0 ≤ m / w' ∧ m / w' ≤ 5000 := ⟨Int.ediv_nonneg (by omega) (by omega), Int.le_trans (Int.ediv_le_self _ (by omega)) m5⟩
      tm_at "s"
      refine s_mulB (by omega) (by omega) ?_
      tm_at "s"
      refine ⟨p, C.d, dx, _, _, rfl, hp, T.d.cl, T.nDx, rfl, ?_⟩
      tm_at "s"
      refine s_mulB (by omega) (by omega) ?_
      tm_at "s"
      refine ⟨p, C.d, dx, _, _, rfl, hp, T.d.cl, T.nDy, rfl, ?_⟩
      tm_at "s"
      refine ⟨p, C.d, dx, _, _, rfl, hp, T.d.cl, T.nDw, rfl, ?_⟩
      refine s_divP (by omega) (by omega) ?_
      tm_at "s"
      refine s_new (Nat.le_of_lt (small1000 (by simp))) fun q H1 nq e1 hq => ?_
      exact k _ H1 e1 ⟨q, rfl, hq⟩
    | .jn lo a b, _, _, un, _, _ =>
      have un' : a.n + b.n = 1 := un
      have := a.n_pos
      have := b.n_pos
      omega
theorem ok_linesOf {f : Addr} {fd : FuncData} (F : Fun K "lines_of" "lines_of" s_lines_of f fd) (T : Txt K mg C CR0 CY CS CR CM CL) (c_line_of : FnO P w K mg base CX0 1 "line_of" ["part", "modulus", "residue"] (spLineOf C)) : FnOk P w K mg base CX0 2 f fd ["rule", "residue"] (spLinesOf C) := by
  refine funO F sc_lines_of (fun vs H Q E h => ?_) (fun cd A fr s H vs Q E hr h => ?_)
  · obtain ⟨p, ps, t, res, rfl, _⟩ := h; rfl
  · obtain ⟨p, ps, t, res, rfl, ru, ⟨fn, r0, r1⟩, k⟩ := h
    refine ⟨_, (pss_cons (ps_set (i := 2) sc_lines_of.nd rfl (Or.inr rfl) (KX.fld (K := K) rfl (pv 0) rfl))
      (pss_one (ps_ret (pe_lst (pa_cons (pe_tup (pa_cons pe_int (pa_cons pe_int pa_nil))) (pa_cons (pe_tup (pa_cons (pv 2) (pa_cons (pv 1) pa_nil))) (KX.star (K := K) rfl (pe_lc (own := [("part", 3)]) (g := gName 3) (tt := tYes) (by rfl) sc_lines_of.nd (pi_tup (KX.fld (K := K) rfl (pv 0) rfl)) (blkOk_by (own := [("part", 3)]) (N := names_lines_of) (sc := defScope s_lines_of) (by decide +kernel)) (fun _ _ _ _ _ => pg_name (i := 3) sc_lines_of.nd rfl (Or.inl rfl)) (fun _ _ _ _ _ => pts_nil) (fun _ _ _ _ _ => (pe_o c_line_of hr pass0 (pa_cons (pv 3) (pa_cons (pv 2) (pa_cons (pv 1) pa_nil)))))) pa_nil))))))), ?_⟩
    tm_at "s"
    obtain ⟨x, dx, fs, tp, cl, hp, h1, h2, h3⟩ := fld_of T ru fn.ok
    refine ⟨p, _, dx, _, _, rfl, hp, cl.cl, cl.nM, h3, ?_⟩
    tm_at "s"
    refine s_new (Nat.le_of_lt (small1000 (by simp))) fun t1 H1 n1 e1 ht1 => ?_
    try dsimp only
    tm_at "s"
    refine s_new (Nat.le_of_lt (small1000 (by simp))) fun t2 H2 n2 e2 ht2 => ?_
    have e12 := e1.trans e2
    have ru2 := ru.ex e12
    have hpl : ps.length = t.n := ru.len
    have hn6 := fn.n
    have md1 := RT.md_pos fn.ok
    have md5 := fn.md
    try dsimp only
    tm_at "s"
    refine ⟨p, _, dx, _, _, rfl, e12 _ _ hp, cl.cl, cl.nP, h1, ?_⟩
    refine ⟨tp, rfl, ⟨_, .inl (.inl (e12 _ _ h2))⟩, lcObjT (K := K) (fun i v H' => ∀ u, t.leaves[i]? = some u → Pr H' v (lnT ((t.md : Nat) : Int) res u).1 (lnT ((t.md : Nat) : Int) res u).2) (fun i v H H' h e u hu => (h u hu).ex e) (fun i v H D l l' h hD u hu => (h u hu).upL hD) (e12 _ _ h2) (by rw [List.length_map]; exact sz100k (by omega)) (fun _ => rfl) (fun i x H3 R hx e3 r => ?_) fun D H3 us nD e3 hD hul hus => ?_⟩
    · rw [List.getElem?_map] at hx
      obtain ⟨pi, hpi, rfl⟩ : ∃ pi, ps[i]? = some pi ∧ x = V.ref pi := by
        cases h : ps[i]? with
        | none => rw [h] at hx; cases hx
        | some pi => rw [h] at hx; exact ⟨pi, rfl, (Option.some.inj hx).symm⟩
      have hil : i < t.leaves.length := by rw [RT.len_leaves, ← hpl]; exact (List.getElem?_eq_some_iff.mp hpi).1
      have hu := List.getElem?_eq_getElem hil
      have hm := List.getElem_mem hil
      have rui := ru2.parts.get hu hpi
      generalize t.leaves[i] = u at hu hm rui
      tm_at "s"
      refine ⟨pi, _, res, u, rfl, rui.ex e3, RT.leaf_ok fn.ok hm, (RT.leaf_n hm).1, by omega, by omega, Int.ofNat_dvd.mpr (leaf_md hm), r0, by omega, fun v H4 e4 pr => ?_⟩
      exact r v H4 e4 fun u' hu' => by rw [hu] at hu'; cases hu'; exact pr
    rw [List.length_map] at hul
    refine ⟨D, us, rfl, .inr (.inl (.inl hD)), ?_⟩
    tm_at "s"
    refine s_new (n := (V.ref t1 :: V.ref t2 :: (us ++ [])).length) (Nat.le_trans (show _ ≤ 100 by simp; omega) (by rw [sizeLine_eq]; decide)) fun l H4 nl e4 hl => ?_
    have e34 := e3.trans e4
    refine k l _ H4 (e12.trans e34) hl ?_
    refine .cons ⟨t1, rfl, e34 _ _ (e2 _ _ ht1)⟩ (.cons ⟨t2, rfl, e34 _ _ ht2⟩ ?_)
    rw [List.append_nil]
    refine Prs.of (by rw [List.length_map, RT.len_leaves]; omega) fun i v q h1 h2 => ?_
    rw [List.getElem?_map] at h2
    cases h : t.leaves[i]? with
    | none => rw [h] at h2; cases h2
    | some u =>
      rw [h] at h2
      cases (Option.some.inj h2)
      exact (hus i v h1 u h).ex e4
theorem ok_turnsOf {f : Addr} {fd : FuncData} (F : Fun K "turns_of" "turns_of" s_turns_of f fd) (T : Txt K mg C CR0 CY CS CR CM CL) (b_sorted : mg "sorted" = none) (c_first_quotient : FnO P w K mg base CX0 1 "first_quotient" ["residue"] spFirstQ) (c_lines_of : FnO P w K mg base CX0 2 "lines_of" ["rule", "residue"] (spLinesOf C)) : FnOk P w K mg base CX0 3 f fd ["rule", "residue"] (spTurnsOf C) := by
  refine funO F sc_turns_of (fun vs H Q E h => ?_) (fun cd A fr s H vs Q E hr h => ?_)
  · obtain ⟨p, ps, t, res, rfl, _⟩ := h; rfl
  · obtain ⟨p, ps, t, res, rfl, ru, ro, k⟩ := h
    refine ⟨_, (pss_cons (ps_asg (pe_tup (pa_cons (pe_o c_first_quotient hr pass0 (pa_cons (pv 1) pa_nil)) (pa_cons (pe_o c_lines_of hr pass0 (pa_cons (pv 0) (pa_cons (pv 1) pa_nil))) pa_nil))) (KX.tup (K := K) rfl rfl (pgs_cons (pg_name (i := 2) sc_turns_of.nd rfl (Or.inr rfl)) (pgs_cons (pg_name (i := 3) sc_turns_of.nd rfl (Or.inl rfl)) pgs_nil))))
      (pss_cons (ps_set (i := 4) sc_turns_of.nd rfl (Or.inl rfl) (pe_disp (pps_cons (pv 2) pe_bl pps_nil) (by rfl) (by rfl) (fun z => by cases z) (by decide)))
      (pss_cons (ps_for (passes_of rfl) rfl (pi_list (pv 3)) (KX.tup (K := K) rfl rfl (pgs_cons (pg_name (i := 5) sc_turns_of.nd rfl (Or.inl rfl)) (pgs_cons (pg_name (i := 6) sc_turns_of.nd rfl (Or.inl rfl)) pgs_nil))) (pss_one (ps_for (passes_of rfl) rfl (pi_list (pv 3)) (KX.tup (K := K) rfl rfl (pgs_cons (pg_name (i := 7) sc_turns_of.nd rfl (Or.inl rfl)) (pgs_cons (pg_name (i := 8) sc_turns_of.nd rfl (Or.inl rfl)) pgs_nil))) (pss_one (ps_if (pt_cmpR op_gt (pv 5) (pv 7) (nomark _)) (pss_cons (ps_set (i := 9) sc_turns_of.nd rfl (Or.inl rfl) (pe_op op_fdivW (pe_op op_sub (pv 8) (pv 6)) (pe_op op_sub (pv 5) (pv 7))))
      (pss_one (ps_expr (pe_dupd (pv 4) (pe_dc (own := [("one", 10)]) (g := gName 10) (by rfl) sc_turns_of.nd (pi_tup (pe_tup (pa_cons (pv 9) (pa_cons (pe_op opAdd (pv 9) pe_int) pa_nil)))) (blkOk_by (own := [("one", 10)]) (N := names_turns_of) (sc := defScope s_turns_of) (by decide +kernel)) (fun _ _ _ _ _ => pg_name (i := 10) sc_turns_of.nd rfl (Or.inl rfl)) (fun _ _ _ _ _ => pts_one (pt_cmpR op_gt (pv 10) (pv 2) (nomark _))) (fun _ _ _ _ _ => (pv 10)) (fun _ _ _ _ _ => pe_bl)) ⟨by rfl, by rfl, by rfl, by rfl⟩)))) pss_nil)))))
      (pss_one (ps_ret (pe_callB (KX.sortedI (K := K) rfl) (by rfl) b_sorted (by decide +kernel) (pa_cons (pe_lock (pe_lc (own := [("one", 10)]) (g := gName 10) (tt := tYes) (by rfl) sc_turns_of.nd (pi_keys (pv 4)) (blkOk_by (own := [("one", 10)]) (N := names_turns_of) (sc := defScope s_turns_of) (by decide +kernel)) (fun _ _ _ _ _ => pg_name (i := 10) sc_turns_of.nd rfl (Or.inl rfl)) (fun _ _ _ _ _ => pts_nil) (fun _ _ _ _ _ => (pe_callTy (KX.callInt (K := K)) (by rfl) T.b_int (by decide +kernel) (pa_cons (pv 10) pa_nil))))) pa_nil))))))), ?_⟩
    tm_at "s"
    refine ⟨res, rfl, ?_⟩
    tm_at "s"
    refine ⟨p, ps, t, res, rfl, ru, ro, fun l xs H1 e1 hl prs => ?_⟩
    have fb := ro.1
    have bds := lns_bd fb ro.2.1 ro.2.2
    have hf1 : firstT res ≤ 10 ^ 31 := by unfold firstT; split <;> decide
    have hlen : (lnsT t res).length ≤ 8 := by
      have h1 := fb.n
      show ((t.leaves.map _).length + 1) + 1 ≤ 8
      rw [List.length_map, RT.len_leaves]; omega
    have hxl := prs.length
    generalize lnsT t res = ls at prs bds hlen hxl k
    generalize firstT res = first at hf1 k ⊢
    try dsimp only
    tm_at "s"
    refine s_new (Nat.le_of_lt (small1000 (by simp))) fun q2 H2 n2 e2 hq2 => ?_
    refine s_gT (xs := [.int first, .ref l]) hq2 rfl ?_
    tm_at "s"
    refine s_disp1 (k := .inl first) (v' := .bl true) (fun _ _ r => by tm_at "s"; exact r) (fun _ _ r => by tm_at "s"; exact r) fun D H3 nD e3 hD => ?_
    try dsimp only
    tm_at "s"
    have e13 := e2.trans e3
    have hl3 := e13 _ _ hl
    have prs3 := prs.ex e13
    have eH3 := e1.trans e13
    have lD : l ≠ D := fun z => by rw [z, hD] at hl3; cases hl3
    have hD' : H3 D = some (.dK (setI [first])) := hD
    have nDH : H D = none := (e1.trans e2).free nD
    clear hD e13 e1 e2 e3 hl prs hq2 n2 nD
    refine s_fL hl3 (fun i σ H' => ∃ (v5 v6 v7 v8 v9 v10 : Option V) (ks : List Int), σ = [some (.ref p), some (.int res), some (.int first), some (.ref l), some (.ref D), v5, v6, v7, v8, v9, v10] ∧ H' D = some (.dK (setI ks)) ∧ TurnsAt ls first i 0 ks ∧ ks.length ≤ 1 + 16 * i ∧ ∀ c o, c ≠ D → H3 c = some o → H' c = some o) ⟨_, _, _, _, _, _, [first], rfl, hD', TurnsAt.zero hf1, by simp, fun _ _ _ h => h⟩ (fun i σ H' ⟨_, _, _, _, _, _, _, _, _, _, _, kk⟩ => kk _ _ lD hl3) ?_ ?_
    · rintro i x _ H4 hx ⟨v5, v6, v7, v8, v9, v10, ks, rfl, hD4, ta, kl, kk4⟩
      obtain ⟨ln, hln, tp, rfl, hpr⟩ := prs3.get hx
      have il : i < ls.length := (List.getElem?_eq_some_iff.mp hln).1
      have bl := bds ln (List.mem_of_getElem? hln)
      have tpD : tp ≠ D := fun z => by rw [z, hD'] at hpr; cases hpr
      refine s_gT (xs := [.int ln.1, .int ln.2]) (kk4 _ _ tpD hpr) rfl ?_
      tm_at "s"
      refine s_fL (kk4 _ _ lD hl3) (fun j σ H' => ∃ (v7 v8 v9 v10 : Option V) (ks : List Int), σ = [some (.ref p), some (.int res), some (.int first), some (.ref l), some (.ref D), some (.int ln.1), some (.int ln.2), v7, v8, v9, v10] ∧ H' D = some (.dK (setI ks)) ∧ TurnsAt ls first i j ks ∧ ks.length ≤ 1 + 16 * i + 2 * j ∧ ∀ c o, c ≠ D → H3 c = some o → H' c = some o) ⟨_, _, _, _, ks, rfl, hD4, ta, by omega, kk4⟩ (fun j σ H' ⟨_, _, _, _, _, _, _, _, _, kk⟩ => kk _ _ lD hl3) ?_ ?_
      · rintro j x _ H5 hx ⟨v7, v8, v9, v10, ks, rfl, hD5, ta, kl, kk5⟩
        obtain ⟨lo, hlo, tp2, rfl, hpr2⟩ := prs3.get hx
        have jl : j < ls.length := (List.getElem?_eq_some_iff.mp hlo).1
        have bo := bds lo (List.mem_of_getElem? hlo)
        have tpD2 : tp2 ≠ D := fun z => by rw [z, hD'] at hpr2; cases hpr2
        refine s_gT (xs := [.int lo.1, .int lo.2]) (kk5 _ _ tpD2 hpr2) rfl ?_
        tm_at "s"
        refine iteD (fun z => ?_) (fun z => ?_)
        · tm_at "s"
          refine s_divP (by omega) (by omega) ?_
          have tb := turn_bd bl bo z
          have tadd := ta.add hln hlo z tb
          generalize (lo.2 - ln.2) / (ln.1 - lo.1) = at_ at tb tadd ⊢
          tm_at "s"
          refine s_dupd ?_
          tm_at "s"
          refine ⟨D, rfl, .inl ⟨_, .inl hD5⟩, ?_⟩
          refine s_dcT ?_
          tm_at "s"
          refine s_new (Nat.le_of_lt (small1000 (by simp))) fun t6 H6 n6 e6 ht6 => ?_
          have hD6 := e6 _ _ hD5
          refine ⟨t6, rfl, ⟨_, .inl (.inl ht6)⟩, dcTI (ks := [at_, at_ + 1]) (fun x => decide (first < x)) ht6 (by simp; omega) (sz100k (by simp)) (fun _ => rfl) (fun n G R _ r => ?_) (fun n G R r => ?_) (fun n G R r => ?_) fun D2 H7 nD2 e7 hD2 => ?_⟩
          · tm_at "s"
            exact r
          · tm_at "s"
            exact r
          · tm_at "s"
            exact r
          have hD7 := e7 _ _ hD6
          have kz := kl
          have fl : ([at_, at_ + 1].filter fun x => decide (first < x)).length ≤ 2 := List.length_filter_le _ _
          refine ⟨D2, _, _, rfl, hD7, hD2, (fun z => by rw [z, hD6] at nD2; cases nD2), ?_, ?_⟩
          · rw [setI_len, setI_len]
            exact Nat.le_trans (show _ ≤ 1000 by omega) (by rw [sizeLine_eq]; decide)
          rw [merge_setI]
          have hla := len_addT (first := first) (ks := ks) (z := at_)
          exact ⟨_, _, _, _, addT first ks at_, rfl, upd_same, tadd, by omega, fun c o hc h => by rw [upd_ne hc]; exact e7 _ _ (e6 _ _ (kk5 _ _ hc h))⟩
        · tm_at "s"
          exact ⟨_, _, _, _, ks, rfl, hD5, ta.skip hln hlo z, by omega, kk5⟩
      · rintro _ H5 ⟨v7, v8, v9, v10, ks, rfl, hD5, ta, kl, kk5⟩
        rw [hxl] at ta kl
        tm_at "s"
        exact ⟨_, _, _, _, _, _, ks, rfl, hD5, ta.next, by omega, kk5⟩
    · rintro _ H4 ⟨v5, v6, v7, v8, v9, v10, ks, rfl, hD4, ta, kl, kk4⟩
      rw [hxl] at ta kl
      try dsimp only
      tm_at "s"
      refine s_lcK (fun _ _ => true) (fun kk _ => kV kk) hD4 (by rw [setI_len]; exact sz100k (by omega)) (fun _ => rfl) (fun od R h => ?_) (fun kk v G R hkv hl e r => r) (fun kk v G R hkv hb hl e r => ?_) fun L G1 nL g1 hL => ?_
      · tm_at "s"
        exact h
      · unfold setI at hkv
        obtain ⟨z, _, e'⟩ := List.mem_map.mp hkv
        cases e'
        tm_at "s"
        exact .inl (.inl ⟨z, rfl, r G (Ex.refl G)⟩)
      have hL' : G1 L = some (.lst (ks.map V.int)) := by
        rw [hL]
        refine congrArg (fun x => some (HO.lst x)) ?_
        rw [List.filter_eq_self.mpr fun _ _ => rfl]
        unfold setI
        rw [List.map_map]
        rfl
      try dsimp only
      tm_at "s"
      refine s_sortI (.inl (.inl hL')) fun ts q G2 hp hs nq g2 hq => ?_
      exact k q ts G2 (fun c o h => g2 _ _ (g1 _ _ (kk4 _ _ (fun z => by rw [z, nDH] at h; cases h) (eH3 _ _ h)))) hq (ta.ok hp hs) (by rw [hp.length_eq]; omega) fun x hx => (ta.lo x (hp.mem_iff.mp hx)).2
theorem ok_sizeAt {f : Addr} {fd : FuncData} (F : Fun K "size_at" "size_at" s_size_at f fd) (T : Txt K mg C CR0 CY CS CR CM CL) (ca_own : ∀ j, j < 4 → CaO P w K mg base (C.at j) 10 "self" ["rest"] (spCallR C CE j)) : FnOk P w K mg base (L2.CX P w) 11 f fd ["rule", "residue", "quotient"] (spSizeAt C) := by
  refine funO F sc_size_at (fun vs H Q E h => ?_) (fun cd A fr s H vs Q E hr h => ?_)
  · obtain ⟨p, ps, t, res, q, rfl, _⟩ := h; rfl
  · obtain ⟨p, ps, t, res, q, rfl, ru, ro, q0, q1, k⟩ := h
    refine ⟨_, (pss_one (ps_ret (pe_any (n := 4) fun j hj => pe_caO (ca_own j hj) hr (passT (takes_of rfl rfl rfl rfl) (fun _ _ _ _ h => h)) (pv 0) (pa_cons (pe_op opAdd (pe_op opMul (KX.fld (K := K) rfl (pv 0) rfl) (pv 2)) (pv 1)) pa_nil)))), ?_⟩
    tm_at "s"
    obtain ⟨x, dx, fs, tp, cl, hp, h1, h2, h3⟩ := fld_of T ru ro.1.ok
    obtain ⟨b1, b2⟩ := rest_in ro q0 q1
    have md5 := ro.1.md
    have q35 : -(10 ^ 40) ≤ q ∧ q ≤ 10 ^ 40 := by
      have : 0 ≤ firstT res := by unfold firstT; split <;> decide
      omega
    refine ⟨t.ix, t.ix_lt, s_caO ?_⟩
    tm_at "s"
    refine ⟨p, rfl, ?_⟩
    tm_at "s"
    refine ⟨p, _, dx, _, _, rfl, hp, cl.cl, cl.nM, h3, ?_⟩
    tm_at "s"
    refine s_mulB (by omega) q35 ?_
    tm_at "s"
    exact ⟨⟨dx, fs, hp⟩, t, p, ps, _, rfl, ru, ro.1.ok, rfl, ro.1.n, .inl ⟨_, rfl, b1, b2, fun H1 e1 => k H1 e1⟩⟩
theorem ok_pieceFrom {f : Addr} {fd : FuncData} (F : Fun K "piece_from" "piece_from" s_piece_from f fd) (c_size_at : FnO P w K mg base (L2.CX P w) 11 "size_at" ["rule", "residue", "quotient"] (spSizeAt C)) : FnOk P w K mg base (L2.CX P w) 12 f fd ["rule", "residue", "begin"] (spPieceFrom C) := by
  refine funO F sc_piece_from (fun vs H Q E h => ?_) (fun cd A fr s H vs Q E hr h => ?_)
  · obtain ⟨p, ps, t, res, b, rfl, _⟩ := h; rfl
  · obtain ⟨p, ps, t, res, b, rfl, ru, ro, b0, b1, k⟩ := h
    refine ⟨_, (pss_cons (ps_set (i := 3) sc_piece_from.nd rfl (Or.inl rfl) (pe_o c_size_at hr (passT (takes_of rfl rfl rfl rfl) (fun _ _ _ _ h => h)) (pa_cons (pv 0) (pa_cons (pv 1) (pa_cons (pv 2) pa_nil)))))
      (pss_cons (ps_set (i := 4) sc_piece_from.nd rfl (Or.inl rfl) (pe_op op_sub (pe_o c_size_at hr (passT (takes_of rfl rfl rfl rfl) (fun _ _ _ _ h => h)) (pa_cons (pv 0) (pa_cons (pv 1) (pa_cons (pe_op opAdd (pv 2) pe_int) pa_nil)))) (pv 3)))
      (pss_one (ps_ret (pe_tup (pa_cons (pv 2) (pa_cons (pv 4) (pa_cons (pe_op op_sub (pv 3) (pe_op opMul (pv 4) (pv 2))) pa_nil)))))))), ?_⟩
    have w1 : (10 : Int) ^ 32 + 1 ≤ 10 ^ 35 := by decide +kernel
    have f0 : 0 ≤ firstT res := by unfold firstT; split <;> decide
    obtain ⟨s0, s1⟩ := sz_bd ro b0 (show b ≤ 10 ^ 32 + 1 by omega)
    obtain ⟨s2, s3⟩ := sz_bd (q := b + 1) ro (by omega) (show b + 1 ≤ 10 ^ 32 + 1 by omega)
    tm_at "s"
    refine ⟨p, ps, t, res, b, rfl, ru, ro, b0, by omega, fun H1 e1 => ?_⟩
    tm_at "s"
    refine ⟨p, ps, t, res, b + 1, rfl, ru.ex e1, ro, by omega, by omega, fun H2 e2 => ?_⟩
    have hc : ∀ x y : Int, x = szT t res b → y = szT t res (b + 1) → PcOn t res (b, y - x, x - (y - x) * b) := fun x y hx hy => by
      subst hx hy
      refine ⟨b0, b1, ?_, ?_, ?_, ?_⟩
      · show szT t res b = (szT t res (b + 1) - szT t res b) * b + (szT t res b - (szT t res (b + 1) - szT t res b) * b)
        generalize (szT t res (b + 1) - szT t res b) * b = z
        omega
      · show szT t res (b + 1) = (szT t res (b + 1) - szT t res b) * (b + 1) + (szT t res b - (szT t res (b + 1) - szT t res b) * b)
        rw [Int.mul_add, Int.mul_one]
        generalize (szT t res (b + 1) - szT t res b) * b = z
        omega
      · show (szT t res (b + 1) - szT t res b).natAbs ≤ 10 ^ 45
        exact Nat.le_trans (show _ ≤ 10 ^ 36 by omega) (by decide +kernel)
      · show (szT t res b - (szT t res (b + 1) - szT t res b) * b).natAbs ≤ 10 ^ 80
        have hm : ((szT t res (b + 1) - szT t res b) * b).natAbs ≤ 10 ^ 36 * 10 ^ 32 := by
          rw [Int.natAbs_mul]
          exact Nat.mul_le_mul (by omega) (by omega)
        generalize (szT t res (b + 1) - szT t res b) * b = z at hm
        have w2 : 10 ^ 36 + 10 ^ 36 * 10 ^ 32 ≤ 10 ^ 80 := by decide +kernel
        omega
    have hcc := hc _ _ rfl rfl
    generalize szT t res b = x at s0 s1 hcc ⊢
    generalize szT t res (b + 1) = y at s2 s3 hcc ⊢
    have w3 : (10 : Int) ^ 36 ≤ 10 ^ 40 := by decide +kernel
    have w4 : (10 : Int) ^ 32 ≤ 10 ^ 40 := by decide +kernel
    tm_at "s"
    refine s_mulB (by omega) (by omega) ?_
    tm_at "s"
    refine s_new (Nat.le_of_lt (small1000 (by simp))) fun q H3 n3 e3 hq => ?_
    exact k _ _ H3 (e1.trans (e2.trans e3)) ⟨q, rfl, hq⟩ rfl hcc
theorem ok_isOn {f : Addr} {fd : FuncData} (F : Fun K "is_on" "is_on" s_is_on f fd) (c_size_at : FnO P w K mg base (L2.CX P w) 11 "size_at" ["rule", "residue", "quotient"] (spSizeAt C)) : FnOk P w K mg base (L2.CX P w) 12 f fd ["rule", "residue", "piece", "quotient"] (spIsOn C) := by
  refine funO F sc_is_on (fun vs H Q E h => ?_) (fun cd A fr s H vs Q E hr h => ?_)
  · obtain ⟨p, ps, t, res, v, c, q, rfl, _⟩ := h; rfl
  · obtain ⟨p, ps, t, res, v, c, q, rfl, ru, ro, ⟨cp, rfl, hcp⟩, on, q0, q1, k⟩ := h
    refine ⟨_, (pss_one (ps_ret (pe_cmpR (KX.eqU (K := K) rfl hr.units) (pe_o c_size_at hr (passT (takes_of rfl rfl rfl rfl) (fun _ _ _ _ h => h)) (pa_cons (pv 0) (pa_cons (pv 1) (pa_cons (pv 3) pa_nil)))) (pe_op opAdd (pe_op opMul (pe_ix (KX.ixU (K := K)) (pv 2) pe_int (fun _ _ => rfl)) (pv 3)) (pe_ix (KX.ixU (K := K)) (pv 2) pe_int (fun _ _ => rfl))) (nomark _)))), ?_⟩
    have w1 : (10 : Int) ^ 33 ≤ 10 ^ 35 := by decide +kernel
    have f0 : 0 ≤ firstT res := by unfold firstT; split <;> decide
    tm_at "s"
    refine ⟨p, ps, t, res, q, rfl, ru, ro, q0, by omega, fun H1 e1 => ?_⟩
    have hcp1 := e1 _ _ hcp
    tm_at "s"
    refine s_iT hcp1 (v := .int c.2.1) rfl ?_
    tm_at "s"
    refine s_mulP (A := 10 ^ 45) (B := 10 ^ 35) on.2.2.2.2.1 (by omega) ?_
    tm_at "s"
    refine s_iT hcp1 (v := .int c.2.2) rfl ?_
    tm_at "s"
    exact k H1 e1
theorem ok_endOf {f : Addr} {fd : FuncData} (F : Fun K "end_of" "end_of" s_end_of f fd) (T : Txt K mg C CR0 CY CS CR CM CL) (c_is_on : FnO P w K mg base (L2.CX P w) 12 "is_on" ["rule", "residue", "piece", "quotient"] (spIsOn C)) : FnOk P w K mg base (L2.CX P w) 13 f fd ["rule", "residue", "piece", "turns"] (spEndOf C) := by
  refine funO F sc_end_of (fun vs H Q E h => ?_) (fun cd A fr s H vs Q E hr h => ?_)
  · obtain ⟨p, ps, t, res, v, c, l, ts, rfl, _⟩ := h; rfl
  · obtain ⟨p, ps, t, res, v, c, l, ts, rfl, ru, ro, ⟨cp, rfl, hcp⟩, on, hl, tok, tl, tb, k⟩ := h
    refine ⟨_, (pss_cons (ps_for (passes_of rfl) rfl (pi_enum (by rfl) T.b_enumerate (pa_cons (pv 3) pa_nil)) (KX.tup (K := K) rfl rfl (pgs_cons (pg_name (i := 4) sc_end_of.nd rfl (Or.inl rfl)) (pgs_cons (pg_name (i := 5) sc_end_of.nd rfl (Or.inl rfl)) pgs_nil))) (Evl.pss_cut (ps_set (i := 6) sc_end_of.nd rfl (Or.inl rfl) (pe_ifExp (pt_cmpR op_lt (pe_op opAdd (pv 4) pe_int) (pe_callB (KX.callLen (K := K)) (by rfl) T.b_len (by decide +kernel) (pa_cons (pv 3) pa_nil)) (nomark _)) (pe_op op_sub (pe_ix (KX.ixU (K := K)) (pv 3) (pe_op opAdd (pv 4) pe_int) (fun _ _ => rfl)) pe_int) pe_non))
      (Evl.pss_cut (ps_set (i := 7) sc_end_of.nd rfl (Or.inl rfl) (pe_ifExp (pt_cmpR op_gt (pv 5) (pe_op opAdd (pe_ix (KX.ixU (K := K)) (pv 2) pe_int (fun _ _ => rfl)) pe_int) (nomark _)) (pv 5) (pe_op opAdd (pe_ix (KX.ixU (K := K)) (pv 2) pe_int (fun _ _ => rfl)) pe_int)))
      (pss_one (ps_for (passes_of rfl) rfl (pi_tup (pe_tup (pa_cons (pv 7) (pa_cons (pe_op opAdd (pv 7) pe_int) pa_nil)))) (pg_name (i := 8) sc_end_of.nd rfl (Or.inl rfl)) (pss_one (ps_if (PW.pt (pw_and (PW.pt (pw_or (pt_cmpR opIs (pv 6) pe_non (nomark _)) (pw_or1 (pt_cmpR op_le (pv 8) (pv 6) (nomark _))))) (pw_and1 (pt_not (pt_val (pe_o c_is_on hr (passT (takes_of rfl rfl rfl rfl) (fun _ _ _ _ h => h)) (pa_cons (pv 0) (pa_cons (pv 1) (pa_cons (pv 2) (pa_cons (pv 8) pa_nil)))))))))) (pss_one (ps_ret (pv 8))) pss_nil)))))))
      (pss_one (ps_ret pe_non))), ?_⟩
    tm_at "s"
    obtain ⟨on0, on1, on2, on3, on4, on5⟩ := id on
    have f0 : 0 ≤ firstT res := by unfold firstT; split <;> decide
    have w1 : (10 : Int) ^ 32 + 3 ≤ 10 ^ 33 := by decide +kernel
    have w2 : (10 : Int) ^ 31 + 3 ≤ 10 ^ 33 := by decide +kernel
    refine ⟨l, _, rfl, .inl (.inl hl), forEn (fun i σ H' => ∃ (v4 v5 v6 v7 v8 : Option V), σ = [some (.ref p), some (.int res), some (.ref cp), some (.ref l), v4, v5, v6, v7, v8] ∧ Ex H H' ∧ UpTo (szT t res) c ts i) ⟨_, _, _, _, _, rfl, Ex.refl H, upTo_zero tok on0⟩ (fun i σ H' ⟨_, _, _, _, _, _, e, _⟩ => e _ _ hl) ?_ ?_⟩
    · rintro i x TT _ H1 hx ⟨v4, v5, v6, v7, v8, rfl, e1, up⟩ nT H2 e2 k2 h2
      obtain ⟨a, ha, rfl⟩ := get_int hx
      have hi : i < ts.length := (List.getElem?_eq_some_iff.mp ha).1
      have am := tb a (List.mem_of_getElem? ha)
      have e12 := e1.trans e2
      refine s_gT (xs := [.int (i : Int), .int a]) h2 rfl ?_
      tm_at "s"
      refine s_cut (M := fun σ H' => ∃ v6, σ = [some (.ref p), some (.int res), some (.ref cp), some (.ref l), some (.int (i : Int)), some (.int a), some v6, v7, v8] ∧ H2 = H' ∧ v6 = match ts[i + 1]? with | some b => V.int (b - 1) | none => V.non) ?_ ?_
      · tm_at "s"
        refine s_lenL (e12 _ _ hl) ?_
        rw [List.length_map]
        tm_at "s"
        refine iteD (fun z => ?_) (fun z => ?_)
        · have hn := List.getElem?_eq_getElem (l := ts) (i := i + 1) (by omega)
          tm_at "s"
          rw [show ((i : Int) + 1) = ((i + 1 : Nat) : Int) by omega]
          refine s_iL (e12 _ _ hl) (v := .int ts[i + 1]) (L3.atI_nat (by rw [List.getElem?_map, hn]; rfl)) ?_
          tm_at "s"
          exact ⟨_, rfl, rfl, by rw [hn]⟩
        · tm_at "s"
          exact ⟨_, rfl, rfl, by rw [List.getElem?_eq_none (by omega)]⟩
      rintro _ _ ⟨v6, rfl, rfl, hv6⟩
      refine s_cut (M := fun σ H' => σ = [some (.ref p), some (.int res), some (.ref cp), some (.ref l), some (.int (i : Int)), some (.int a), some v6, some (.int (max a (c.1 + 2))), v8] ∧ H2 = H') ?_ ?_
      · tm_at "s"
        refine s_iT (e12 _ _ hcp) (v := .int c.1) rfl ?_
        tm_at "s"
        refine iteD (fun z => ?_) (fun z => ?_)
        · tm_at "s"
          rw [show max a (c.1 + 2) = a by omega]
          exact ⟨rfl, rfl⟩
        · tm_at "s"
          refine s_iT (e12 _ _ hcp) (v := .int c.1) rfl ?_
          tm_at "s"
          rw [show max a (c.1 + 2) = c.1 + 2 by omega]
          exact ⟨rfl, rfl⟩
      rintro _ _ ⟨rfl, rfl⟩
      obtain ⟨lo, hlo⟩ : ∃ lo, lo = max a (c.1 + 2) := ⟨_, rfl⟩
      rw [← hlo]
      tm_at "s"
      refine s_new (Nat.le_of_lt (small1000 (by simp))) fun t3 H3 n3 e3 ht3 => ?_
      have e13 := e12.trans e3
      refine s_fT ht3 (fun j σ H' => ∃ v8, σ = [some (.ref p), some (.int res), some (.ref cp), some (.ref l), some (.int (i : Int)), some (.int a), some v6, some (.int lo), v8] ∧ Ex H3 H' ∧ ∀ m : Nat, m < j → (∀ b, ts[i + 1]? = some b → lo + (m : Int) < b) → szT t res (lo + (m : Int)) = pcV c (lo + (m : Int))) ⟨_, rfl, Ex.refl H3, fun m h => absurd h (Nat.not_lt_zero _)⟩ (fun j σ H' ⟨_, _, e, _⟩ => e _ _ ht3) ?_ ?_
      · rintro j x _ H4 hx ⟨v8, rfl, e4, look⟩
        have hj : j < 2 := (List.getElem?_eq_some_iff.mp hx).1
        have hx' : x = V.int (lo + (j : Int)) := by
          match j, hj, hx with
          | 0, _, hx => cases hx; rw [Int.natCast_zero, Int.add_zero]
          | 1, _, hx => cases hx; rfl
        subst hx'
        have e14 := e13.trans e4
        refine s_gNm ?_
        try dsimp only
        tm_at "s"
        have stay : (∀ m : Nat, m < j + 1 → (∀ b, ts[i + 1]? = some b → lo + (m : Int) < b) → szT t res (lo + (m : Int)) = pcV c (lo + (m : Int))) → ∀ H5, Ex H4 H5 → ∃ v8, [some (V.ref p), some (.int res), some (.ref cp), some (.ref l), some (.int (i : Int)), some (.int a), some v6, some (.int lo), some (.int (lo + (j : Int)))] = [some (.ref p), some (.int res), some (.ref cp), some (.ref l), some (.int (i : Int)), some (.int a), some v6, some (.int lo), v8] ∧ Ex H3 H5 ∧ ∀ m : Nat, m < j + 1 → (∀ b, ts[i + 1]? = some b → lo + (m : Int) < b) → szT t res (lo + (m : Int)) = pcV c (lo + (m : Int)) := fun h H5 e5 => ⟨_, rfl, e4.trans e5, h⟩
        have lo0 : firstT res ≤ lo + (j : Int) := by omega
        have lo1 : lo + (j : Int) ≤ 10 ^ 33 := by omega
        -- the look itself, behind the bound
        have go : (∀ b, ts[i + 1]? = some b → lo + (j : Int) < b) → ∀ (nx : L2.St → Hp → Prop) (bk : L2.St → Hp → Prop) (σ : L2.St), σ = [some (V.ref p), some (.int res), some (.ref cp), some (.ref l), some (.int (i : Int)), some (.int a), some v6, some (.int lo), some (.int (lo + (j : Int)))] → (∀ H5, Ex H4 H5 → (∀ m : Nat, m < j + 1 → (∀ b, ts[i + 1]? = some b → lo + (m : Int) < b) → szT t res (lo + (m : Int)) = pcV c (lo + (m : Int))) → nx σ H5) →
            tNot (tB (tCall (spIsOn C) [] E (tCons (tVar 0) (tCons (tVar 1) (tCons (tVar 2) (tCons (tVar 8) tNil)))))) σ H4 fun b H1 => if b = true then tRet (tVar 8) { nx := nx, rt := Q, bk := bk, ct := nx } σ H1 else tNext { nx := nx, rt := Q, bk := bk, ct := nx } σ H1 := fun hin nx bk σ hσ hk => by
          subst hσ
          tm_at "s"
          refine ⟨p, ps, t, res, .ref cp, c, lo + (j : Int), rfl, ru.ex e14, ro, ⟨cp, rfl, e14 _ _ hcp⟩, on, lo0, lo1, fun H5 e5 => ?_⟩
          refine ⟨_, rfl, ?_⟩
          by_cases z : szT t res (lo + (j : Int)) = pcV c (lo + (j : Int))
          · rw [decide_eq_true z]
            tm_at "s"
            exact hk H5 e5 fun m hm hb => by
              by_cases z2 : m < j
              · exact look m z2 hb
              · rw [show m = j by omega]; exact z
          · rw [decide_eq_false z]
            tm_at "s"
            refine k _ (some (lo + (j : Int))) H5 (e14.trans e5) (.inr ⟨_, rfl, rfl⟩) ?_
            match j, hj, look, z, hin with
            | 0, _, _, z, _ => exact by rw [Int.natCast_zero, Int.add_zero] at z ⊢; exact end_lo ha on2 on3 up hlo z
            | 1, _, look, z, hin => exact end_hi ha on2 on3 up hlo (by have := look 0 (by decide); rw [Int.natCast_zero, Int.add_zero] at this; exact this fun b hb => by have := hin b hb; omega) z
        have hv : (ts[i + 1]? = none ∧ v6 = V.non) ∨ ∃ b, ts[i + 1]? = some b ∧ v6 = V.int (b - 1) := by
          cases hn : ts[i + 1]? with
          | none => rw [hn] at hv6; exact .inl ⟨rfl, hv6⟩
          | some b => rw [hn] at hv6; exact .inr ⟨b, rfl, hv6⟩
        clear hv6
        rcases hv with ⟨hn, rfl⟩ | ⟨b, hn, rfl⟩
        · refine iteD (fun _ => ?_) (fun z => absurd rfl z)
          refine iteT' rfl ?_
          exact go (fun b hb => by rw [hn] at hb; cases hb) _ _ _ rfl fun H5 e5 h => stay h H5 e5
        · refine iteD (fun z => by cases z) (fun _ => ?_)
          tm_at "s"
          refine iteD (fun z => ?_) (fun z => ?_)
          · exact go (fun b' hb => by rw [hn] at hb; cases hb; omega) _ _ _ rfl fun H5 e5 h => stay h H5 e5
          · tm_at "s"
            refine stay (fun m hm hb => ?_) H4 (Ex.refl H4)
            by_cases z2 : m < j
            · exact look m z2 hb
            · have := hb b hn
              omega
      · rintro _ H4 ⟨v8, rfl, e4, look⟩
        try dsimp only
        tm_at "s"
        exact ⟨_, _, _, _, _, rfl, e13.trans e4, upTo_next ro.1.ok tok ha on2 on3 up (fun lo' h hb => by rw [h, ← hlo]; have := look 0 (show 0 < 2 by decide); rw [Int.natCast_zero, Int.add_zero] at this; exact this (by rw [hlo, ← h]; exact hb)) (fun lo' h hb => by rw [h, ← hlo]; exact look 1 (show 1 < 2 by decide) (by rw [hlo, ← h]; exact hb))⟩
    · rintro _ H1 ⟨v4, v5, v6, v7, v8, rfl, e1, up⟩
      rw [List.length_map] at up
      try dsimp only
      tm_at "s"
      exact k _ _ H1 e1 (.inl ⟨rfl, rfl⟩) (end_none up)
theorem ok_piecesAt {f : Addr} {fd : FuncData} (F : Fun K "pieces_at" "pieces_at" s_pieces_at f fd) (T : Txt K mg C CR0 CY CS CR CM CL) (c_turns_of : FnO P w K mg base CX0 3 "turns_of" ["rule", "residue"] (spTurnsOf C)) (c_first_quotient : FnO P w K mg base CX0 1 "first_quotient" ["residue"] spFirstQ)
    (c_piece_from : FnO P w K mg base (L2.CX P w) 12 "piece_from" ["rule", "residue", "begin"] (spPieceFrom C)) (c_end_of : FnO P w K mg base (L2.CX P w) 13 "end_of" ["rule", "residue", "piece", "turns"] (spEndOf C)) : FnOk P w K mg base (L2.CX P w) 14 f fd ["rule", "residue"] (spPiecesAt C) := by
  refine funO F sc_pieces_at (fun vs H Q E h => ?_) (fun cd A fr s H vs Q E hr h => ?_)
  · obtain ⟨p, ps, t, res, rfl, _⟩ := h; rfl
  · obtain ⟨p, ps, t, res, rfl, ru, ro, k⟩ := h
    refine ⟨_, (pss_cons (ps_par3 (by rfl) sc_pieces_at.nd (i := 2) (j := 3) (l := 4) rfl rfl rfl (by decide) (by decide) (by decide) rfl rfl rfl (pa_cons (pe_o c_turns_of hr pass0 (pa_cons (pv 0) (pa_cons (pv 1) pa_nil))) (pa_cons (pe_lst pa_nil) (pa_cons (pe_o c_first_quotient hr pass0 (pa_cons (pv 1) pa_nil)) pa_nil))) (by rfl))
      (pss_cons (ps_while (passes_of rfl) (pt_cmpR opIsNot (pv 4) pe_non (nomark _)) (pss_cons (ps_expr (pe_bm PySem.F.plainAttrs_list PySem.F.slot_list_append PySem.F.type_list_append mt_append (pv 3) (pa_cons (pe_o c_piece_from hr (passT (takes_of rfl rfl rfl rfl) (fun _ _ _ _ h => h)) (pa_cons (pv 0) (pa_cons (pv 1) (pa_cons (pv 4) pa_nil)))) pa_nil)))
      (pss_one (ps_set (i := 4) sc_pieces_at.nd rfl (Or.inl rfl) (pe_o c_end_of hr (passT (takes_of rfl rfl rfl rfl) (fun _ _ _ _ h => h)) (pa_cons (pv 0) (pa_cons (pv 1) (pa_cons (pe_ix (KX.ixU (K := K)) (pv 3) (pe_un un_neg pe_int) (fun _ _ => rfl)) (pa_cons (pv 2) pa_nil)))))))))
      (pss_one (ps_ret (pe_callTy call_tuple_of (by rfl) T.b_tuple (by decide +kernel) (pa_cons (pv 3) pa_nil)))))), ?_⟩
    tm_at "s"
    refine ⟨p, ps, t, res, rfl, ru, ro, fun l ts H1 e1 hl tok tl tb => ?_⟩
    tm_at "s"
    refine s_new (n := 0) (Nat.zero_le _) fun F0 H2 nF e2 hF => ?_
    try dsimp only
    tm_at "s"
    refine ⟨res, rfl, ?_⟩
    tm_at "s"
    have hl2 := e2 _ _ hl
    have lF : l ≠ F0 := ne_of_none hl nF
    have nFH : H F0 = none := e1.free nF
    have kk2 : ∀ c o, H c = some o → H2 c = some o := fun c o h => e2 _ _ (e1 _ _ h)
    tm_at "s"
    refine ⟨fun mm σ H' => ∃ (cs : List Pc) (xs : List V) (vb : V) (nx : Option Int), σ = [some (.ref p), some (.int res), some (.ref l), some (.ref F0), some vb] ∧ H' F0 = some (.lst xs) ∧ PcL H' xs cs ∧ NxAt vb nx ∧ Pre (szT t res) (firstT res) cs nx ∧ (∀ c ∈ cs, PcOn t res c ∧ BdT (lnsT t res) (firstT res) c.1) ∧ (∀ b, nx = some b → firstT res ≤ b ∧ b ≤ 10 ^ 32 ∧ BdT (lnsT t res) (firstT res) b ∧ cs.length ≤ rankT ts b) ∧ cs.length ≤ 201 ∧ mm = (match nx with | none => 0 | some b => ts.length + 1 - rankT ts b) ∧ ∀ c o, c ≠ F0 → H2 c = some o → H' c = some o,
      ⟨_, [], [], .int (firstT res), some (firstT res), rfl, hF, ⟨rfl, fun i c h => by simp at h⟩, .inr ⟨_, rfl, rfl⟩, rfl, (fun _ h => nomatch h), (fun b hb => by cases hb; exact ⟨Int.le_refl _, by unfold firstT; split <;> decide, .inl (Int.le_refl _), Nat.zero_le _⟩), by decide, rfl, fun _ _ _ h => h⟩, ?_⟩
    rintro mm _ H3 ⟨cs, xs, vb, nx, rfl, hF3, pcl, nxa, pre, pon, nb, cl, hmm, kk3⟩
    rcases nxa with ⟨rfl, rfl⟩ | ⟨b, rfl, rfl⟩
    · tm_at "s"
      refine iteND (fun z => absurd rfl z) (fun _ => ?_)
      tm_at "s"
      refine ⟨F0, xs, rfl, .inl ⟨.inl (.inl hF3), fun q nq => ?_⟩⟩
      have e4 : Ex H3 (upd H3 q (.tup xs)) := ex_new nq
      exact k _ cs _ (fun c o h => e4 _ _ (kk3 _ _ (fun z => by rw [z, nFH] at h; cases h) (kk2 _ _ h))) ⟨q, xs, rfl, upd_same, pcl.1, fun i c hc => let ⟨x, a, b⟩ := pcl.2 i c hc; ⟨x, a, b.ex e4⟩⟩ ⟨pre, cl, pon⟩
    · obtain ⟨b0, b1, bb, br⟩ := nb b rfl
      have rl := rank_le (ts := ts) (q := b)
      tm_at "s"
      refine iteND (fun _ => ?_) (fun z => by cases z)
      refine ⟨fun σ' H' => ∃ (cs' : List Pc) (xs' : List V) (vb' : V) (nx' : Option Int), σ' = [some (.ref p), some (.int res), some (.ref l), some (.ref F0), some vb'] ∧ H' F0 = some (.lst xs') ∧ PcL H' xs' cs' ∧ NxAt vb' nx' ∧ Pre (szT t res) (firstT res) cs' nx' ∧ (∀ c ∈ cs', PcOn t res c ∧ BdT (lnsT t res) (firstT res) c.1) ∧ (∀ b2, nx' = some b2 → firstT res ≤ b2 ∧ b2 ≤ 10 ^ 32 ∧ BdT (lnsT t res) (firstT res) b2 ∧ cs'.length ≤ rankT ts b2 ∧ rankT ts b < rankT ts b2) ∧ cs'.length ≤ 201 ∧ ∀ c o, c ≠ F0 → H2 c = some o → H' c = some o, ?_, ?_⟩
      · rintro _ H5 ⟨cs', xs', vb', nx', rfl, hF5, pcl', nxa', pre', pon', nb', cl', kk5⟩
        refine ⟨_, ?_, cs', xs', vb', nx', rfl, hF5, pcl', nxa', pre', pon', fun b2 h => ⟨(nb' b2 h).1, (nb' b2 h).2.1, (nb' b2 h).2.2.1, (nb' b2 h).2.2.2.1⟩, cl', rfl, kk5⟩
        rw [hmm]
        cases nx' with
        | none => show 0 < ts.length + 1 - rankT ts b; omega
        | some b2 =>
          have := (nb' b2 rfl).2.2.2.2
          have := rank_le (ts := ts) (q := b2)
          show ts.length + 1 - rankT ts b2 < ts.length + 1 - rankT ts b
          omega
      · tm_at "s"
        refine ⟨.inl ⟨rfl, _, .inl (.inl hF3)⟩, ?_⟩
        tm_at "s"
        refine ⟨p, ps, t, res, b, rfl, ru.imp (fun q zs h => kk3 _ _ (fun z => by rw [z, nFH] at h; cases h) (kk2 _ _ h)) (fun q c' dx g v fs h => kk3 _ _ (fun z => by rw [z, nFH] at h; cases h) (kk2 _ _ h)), ro, b0, b1, fun v c H4 e4 pc hc on => ?_⟩
        have hF4 := e4 _ _ hF3
        tm_at "s"
        have hxl := pcl.1
        refine s_app hF4 (sz100k (by omega)) ?_
        have pcl5 := (pcl.ex e4).snoc pc hF4 (l' := xs ++ [v])
        have pc5 : PcAt (upd H4 F0 (.lst (xs ++ [v]))) v c := pc.upL hF4
        have hF5 : (upd H4 F0 (.lst (xs ++ [v]))) F0 = some (.lst (xs ++ [v])) := upd_same
        have kk5 : ∀ c o, c ≠ F0 → H2 c = some o → (upd H4 F0 (.lst (xs ++ [v]))) c = some o := fun c o hc h => by rw [upd_ne hc]; exact e4 _ _ (kk3 _ _ hc h)
        generalize upd H4 F0 (.lst (xs ++ [v])) = H5 at pcl5 pc5 hF5 kk5 ⊢
        have nF2 : ∀ {c o}, H c = some o → c ≠ F0 := fun h z => by rw [z, nFH] at h; cases h
        try dsimp only
        tm_at "s"
        refine s_iL hF5 (v := v) (atI_snoc xs v) ?_
        tm_at "s"
        refine ⟨p, ps, t, res, v, c, l, ts, rfl, ru.imp (fun q zs h => kk5 _ _ (nF2 h) (kk2 _ _ h)) (fun q c' dx g v fs h => kk5 _ _ (nF2 h) (kk2 _ _ h)), ro, pc5, on, kk5 _ _ lF hl2, tok, tl, tb, fun y nx H6 e6 nxa he => ?_⟩
        obtain ⟨on0, on1, on2, on3, _⟩ := id on
        subst hc
        tm_at "s"
        refine ⟨cs ++ [c], xs ++ [v], y, nx, rfl, e6 _ _ hF5, pcl5.ex e6, nxa, pre.snoc on2 on3 he, fun c' hc' => ?_, fun b2 hb2 => ?_, by rw [List.length_append, List.length_singleton]; omega, fun c' o hc' h => e6 _ _ (kk5 _ _ hc' h)⟩
        · rcases List.mem_append.mp hc' with h | h
          · exact pon c' h
          · rw [List.mem_singleton.mp h]; exact ⟨on, bb⟩
        · subst hb2
          have h1 := end_rank ro.1.ok tok on0 on2 on3 he
          obtain ⟨at_, am, af, ab⟩ := end_bd ro.1.ok tok on0 on2 on3 he
          have atb := tb at_ am
          have bb2 : BdT (lnsT t res) (firstT res) b2 := by
            rcases tok.src at_ am with h | ⟨l, hl, o, ho, hlt, hx⟩
            · omega
            · exact .inr ⟨l, hl, o, ho, hlt, by omega⟩
          have h3 := he.1
          have w1 : (10 : Int) ^ 31 + 1 ≤ 10 ^ 32 := by decide +kernel
          rw [List.length_append, List.length_singleton]
          exact ⟨by omega, by omega, bb2, by omega, h1.1⟩
theorem ok_pieces {f : Addr} {fd : FuncData} (F : Fun K "pieces" "pieces" s_pieces f fd) (T : Txt K mg C CR0 CY CS CR CM CL) (c_need_rule : FnO P w K mg base (L2.CX P w) 3 "need_rule" ["rule"] (spNeedRu C)) (c_pieces_at : FnO P w K mg base (L2.CX P w) 14 "pieces_at" ["rule", "residue"] (spPiecesAt C)) : FnOk P w K mg base (L2.CX P w) 15 f fd ["rule"] (spPieces C) := by
  refine funO F sc_pieces (fun vs H Q E h => ?_) (fun cd A fr s H vs Q E hr h => ?_)
  · obtain ⟨p, ps, t, rfl, _⟩ := h; rfl
  · obtain ⟨p, ps, t, rfl, ru, fn, k⟩ := h
    refine ⟨_, (pss_cons (ps_expr (pe_o c_need_rule hr (passT (takes_of rfl rfl rfl rfl) (fun _ _ _ _ h => h)) (pa_cons (pv 0) pa_nil)))
      (pss_one (ps_ret (pe_lc (own := [("residue", 1)]) (g := gName 1) (tt := tYes) (by rfl) sc_pieces.nd (pi_range1 (by rfl) T.b_range (pa_cons (KX.fld (K := K) rfl (pv 0) rfl) pa_nil)) (blkOk_by (own := [("residue", 1)]) (N := names_pieces) (sc := defScope s_pieces) (by decide +kernel)) (fun _ _ _ _ _ => pg_name (i := 1) sc_pieces.nd rfl (Or.inl rfl)) (fun _ _ _ _ _ => pts_nil) (fun _ _ _ _ _ => (pe_o c_pieces_at hr passF (pa_cons (pv 0) (pa_cons (pv 1) pa_nil)))))))), ?_⟩
    have md5 := fn.md
    obtain ⟨x, dx, fs, tp, cl, hp, h1, h2, h3⟩ := fld_of T ru fn.ok
    tm_at "s"
    refine ⟨p, ps, t, rfl, ru, ?_⟩
    tm_at "s"
    refine ⟨p, _, dx, _, _, rfl, hp, cl.cl, cl.nM, h3, ?_⟩
    tm_at "s"
    refine ⟨by omega, by omega, ?_⟩
    refine lcRObj (fun i v H' => ∃ cs, PcsAt H' v cs ∧ PcsOk t (i : Int) cs) (fun i v H1 H2 ⟨cs, h1, h2⟩ e => ⟨cs, h1.ex e, h2⟩) (fun i v H1 D l l' ⟨cs, h1, h2⟩ hD => ⟨cs, h1.upL hD, h2⟩) (sz100k (by omega)) (fun _ => rfl) (fun i H1 R hi e1 r => ?_) fun D H2 us nD e2 hD hul hus => ?_
    · tm_at "s"
      have hi : i < t.md := by omega
      refine ⟨p, ps, t, 0 + (i : Int), rfl, ru.ex e1, ⟨fn, by omega, by omega⟩, fun v cs H3 e3 pa po => ?_⟩
      rw [Int.zero_add] at po
      exact r v H3 e3 ⟨cs, pa, po⟩
    · exact k D us H2 e2 hD (by omega) hus
end
end K53
end
section
namespace L3
open PySem PySem.NumText PySem.Spec PyProof.Rows L2 LamX RZ ClX
theorem PcsOk.ne {t : RT} {res : Int} {cs : List Pc} (h : PcsOk t res cs) : cs ≠ [] := fun z => by
  have h := h.1
  rw [z] at h
  cases h
/-- the piece at an index -/
theorem Pre.get {f : Int → Int} : ∀ {b : Int} {cs : List Pc} {i : Nat} {c : Pc}, Pre f b cs none → cs[i]? = some c →
    b ≤ c.1 ∧ f c.1 = pcV c c.1 ∧ f (c.1 + 1) = pcV c (c.1 + 1) ∧ ((cs[i + 1]? = none ∧ ∀ q, c.1 ≤ q → f q = pcV c q) ∨ ∃ d, cs[i + 1]? = some d ∧ c.1 + 2 ≤ d.1 ∧ f d.1 ≠ pcV c d.1 ∧ ∀ q, c.1 ≤ q → q < d.1 → f q = pcV c q)
  | b, p :: r, 0, c, ⟨e1, e2, e3, h⟩, hc => by
    cases Option.some.inj hc
    subst e1
    refine ⟨Int.le_refl _, e2, e3, ?_⟩
    rcases h with ⟨hr, _, h⟩ | ⟨b2, a1, a2, a3, a4⟩
    · subst hr; exact .inl ⟨rfl, h⟩
    · cases r with
      | nil => cases a4
      | cons d r' =>
        have hd : d.1 = b2 := a4.1
        subst hd
        exact .inr ⟨d, rfl, a1, a2, a3⟩
  | b, p :: r, i + 1, c, ⟨e1, e2, e3, h⟩, hc => by
    rcases h with ⟨hr, _, h⟩ | ⟨b2, a1, a2, a3, a4⟩
    · subst hr; cases hc
    · have hc' : r[i]? = some c := by rw [List.getElem?_cons_succ] at hc; exact hc
      obtain ⟨x1, x2, x3, x4⟩ := Pre.get a4 hc'
      refine ⟨by omega, x2, x3, ?_⟩
      rw [List.getElem?_cons_succ]
      exact x4
  | _, [], _, _, h, hc => by cases hc
theorem Pre.head {f : Int → Int} {b : Int} {cs : List Pc} {c : Pc} (h : Pre f b cs none) (hc : cs[0]? = some c) : c.1 = b := by
  cases cs with
  | nil => cases hc
  | cons p r => cases Option.some.inj hc; exact h.1
def pcD (c : Pc) : PyData := .tuple [.int c.1, .int c.2.1, .int c.2.2]
theorem pc_dp {K : PySem.W.Frag} {H : Hp} {v : V} {c : Pc} (h : PcAt H v c) : Dp K H v (pcD c) := by
  obtain ⟨p, rfl, h⟩ := h
  exact .tup (.inl (.inl h)) (dpInts [c.1, c.2.1, c.2.2])
theorem pcL_dp {K : PySem.W.Frag} {H : Hp} : ∀ {xs : List V} {cs : List Pc}, xs.length = cs.length → (∀ (i : Nat) c, cs[i]? = some c → ∃ x, xs[i]? = some x ∧ PcAt H x c) → DpAll K H xs (cs.map pcD)
  | [], [], _, _ => .nil
  | x :: xs, c :: cs, hl, h => by
    obtain ⟨y, h1, h2⟩ := h 0 c rfl
    cases Option.some.inj h1
    exact .cons (pc_dp h2) (pcL_dp (by simpa using hl) fun i c' hc => h (i + 1) c' (by simpa using hc))
  | [], _ :: _, hl, _ => by simp at hl
  | _ :: _, [], hl, _ => by simp at hl
theorem pcs_dp {K : PySem.W.Frag} {H : Hp} {v : V} {cs : List Pc} (h : PcsAt H v cs) : Dp K H v (.tuple (cs.map pcD)) := by
  obtain ⟨p, xs, rfl, h1, h2, h3⟩ := h
  exact .tup (.inl (.inl h1)) (pcL_dp h2 h3)
end L3
end
section
namespace L3
open PySem PySem.NumText PySem.Spec PyProof.Rows L2 LamX RZ
def restL (total : Int) (sizes : List Int) : List Int := (List.range (sizes.length + 1)).map (restG total sizes)
theorem restL_len (total : Int) (sizes : List Int) : (restL total sizes).length = sizes.length + 1 := by unfold restL; rw [List.length_map, List.length_range]
theorem restL_at {total : Int} {sizes : List Int} {k : Nat} (h : k ≤ sizes.length) : (restL total sizes)[k]? = some (restG total sizes k) := by
  unfold restL; rw [List.getElem?_map, List.getElem?_range (by omega)]; rfl
theorem restG_drop (total : Int) (sizes : List Int) (k : Nat) : restG total sizes k = total - sizes.sum + (sizes.drop k).sum := by
  unfold restG
  have := sum_split sizes k
  omega
theorem GrOut.few {ℓ : Int → Int → Int} {total : Int} {most : Nat} {sizes rests : List Int} (g : GrOut ℓ total most sizes rests) (h : rests.length = sizes.length) : sizes.sum = total ∧ restsOf sizes ++ [0] = restL total sizes := by
  have e : sizes.sum = total := by rcases g.en with ⟨_, e⟩ | ⟨e, _⟩ <;> omega
  refine ⟨e, ?_⟩
  refine List.ext_getElem? fun i => ?_
  rcases Nat.lt_trichotomy i sizes.length with c | c | c
  · rw [List.getElem?_append_left (by rw [restsOf_len]; exact c), restsOf_get c, restL_at (Nat.le_of_lt c), restG_drop, e]
    congr 1
    omega
  · subst c
    rw [List.getElem?_append_right (by rw [restsOf_len]; exact Nat.le_refl _), restsOf_len, Nat.sub_self, restL_at (Nat.le_refl _), restG_all (Nat.le_refl _), e, Int.sub_self]
    rfl
  · rw [List.getElem?_eq_none (by rw [List.length_append, restsOf_len, List.length_singleton]; omega), List.getElem?_eq_none (by rw [restL_len]; omega)]
end L3
end
section
namespace L3
open PySem PySem.NumText PySem.Spec PyProof.Rows L2 LamX RZ
theorem eqv_ls (ns ms : List Int) : PyData.eqv (lsD ns) (lsD ms) = decide (ns = ms) := by
  unfold lsD
  rw [← eqv_ints ns ms]
  rfl
theorem LsAt.at_ {H : Hp} : ∀ {qs : List Addr} {nss : List (List Int)} {i : Nat} {q : Addr} {ns : List Int}, LsAt H qs nss → qs[i]? = some q → nss[i]? = some ns → H q = some (.lst (ns.map V.int))
  | _ :: _, _ :: _, 0, _, _, ⟨a, _⟩, h1, h2 => by cases h1; cases h2; exact a
  | _ :: _, _ :: _, i + 1, _, _, ⟨_, b⟩, h1, h2 => LsAt.at_ b h1 h2
  | [], [], _, _, _, _, h1, _ => by cases h1
  | [], _ :: _, _, _, _, h, _, _ => h.elim
  | _ :: _, [], _, _, _, h, _, _ => h.elim
theorem LsAt.ex {H H' : Hp} {qs : List Addr} {nss : List (List Int)} (h : LsAt H qs nss) (e : Ex H H') : LsAt H' qs nss := h.imp fun q _ n hn => e _ _ hn
structure AllC (t : Nat) (nss : List (List Int)) : Prop where
  mem : ∀ m, m ∈ nss ↔ (∀ n ∈ m, 1 ≤ n) ∧ m.sum = (t : Int)
  len : nss.length ≤ 2 ^ t
structure PartC (t i : Nat) (nss : List (List Int)) : Prop where
  mem : ∀ m, m ∈ nss ↔ ∃ (s : Int) (r : List Int), m = s :: r ∧ 1 ≤ s ∧ s ≤ (i : Int) ∧ (∀ n ∈ r, 1 ≤ n) ∧ r.sum = (t : Int) - s
  len : nss.length + 2 ^ (t - i) ≤ 2 ^ t
theorem PartC.nil (t : Nat) : PartC t 0 [] := ⟨fun m => by
  constructor
  · intro h; cases h
  · rintro ⟨s, r, _, h1, h2, _⟩; omega, by simp⟩
theorem PartC.next {t i : Nat} {nss mss : List (List Int)} (h : PartC t i nss) (hi : i < t) (ha : AllC (t - (i + 1)) mss) : PartC t (i + 1) (nss ++ mss.map (((i : Int) + 1) :: ·)) := ⟨fun m => by
  rw [List.mem_append, h.mem]
  constructor
  · rintro (⟨s, r, e, h1, h2, h3⟩ | h1)
    · exact ⟨s, r, e, h1, by omega, h3⟩
    · obtain ⟨r, hr, rfl⟩ := List.mem_map.mp h1
      obtain ⟨h2, h3⟩ := (ha.mem r).mp hr
      exact ⟨(i : Int) + 1, r, rfl, by omega, by omega, h2, by rw [h3]; omega⟩
  · rintro ⟨s, r, e, h1, h2, h3, h4⟩
    by_cases c : s ≤ (i : Int)
    · exact .inl ⟨s, r, e, h1, c, h3, h4⟩
    · have : s = (i : Int) + 1 := by omega
      subst this
      exact .inr (List.mem_map.mpr ⟨r, (ha.mem r).mpr ⟨h3, by rw [h4]; omega⟩, e.symm⟩), by
  have h1 := h.len
  have h2 := ha.len
  rw [List.length_append, List.length_map]
  have e : 2 ^ (t - i) = 2 ^ (t - (i + 1)) + 2 ^ (t - (i + 1)) := by
    rw [show t - i = (t - (i + 1)) + 1 by omega, Nat.pow_succ]; omega
  omega⟩
theorem PartC.done {t : Nat} {nss : List (List Int)} (h : PartC t t nss) (ht : 0 < t) : AllC t nss := ⟨fun m => by
  rw [h.mem]
  constructor
  · rintro ⟨s, r, rfl, h1, h2, h3, h4⟩
    refine ⟨fun n hn => ?_, by rw [List.sum_cons, h4]; omega⟩
    rcases List.mem_cons.mp hn with rfl | hn
    · exact h1
    · exact h3 n hn
  · rintro ⟨h1, h2⟩
    cases m with
    | nil => rw [List.sum_nil] at h2; omega
    | cons s r =>
      rw [List.sum_cons] at h2
      have h3 : ∀ n ∈ r, 1 ≤ n := fun n hn => h1 n (List.mem_cons_of_mem _ hn)
      have h4 := sum_ge_len h3
      exact ⟨s, r, rfl, h1 s List.mem_cons_self, by omega, h3, by omega⟩, by have := h.len; rw [Nat.sub_self] at this; omega⟩
def WithinC (ℓ : Int → Int → Int) (t : Int) (m : List Int) : Prop := ∀ (i : Nat) s, m[i]? = some s → s ≤ ℓ (t - (m.take i).sum) (i : Int)
theorem GrAt.within {ℓ : Int → Int → Int} {total : Int} {sizes rests : List Int} (g : GrAt ℓ total sizes rests) : WithinC ℓ total sizes := fun i s h => by
  rw [← (g.at_ i s h).2.2]; exact Int.le_refl _
end L3
end
section
namespace L3
open PySem PySem.NumText PySem.Spec PyProof.Rows L2 LamX RZ ItX
theorem sp_void {P : Program} {w : World} {K : PySem.W.Frag} {mg : Str → Option Value} {base : Heap} {CX : CXT} {f : Addr} {fd : FuncData} {ps : List Str} {sp : Sp} (h : ∀ vs H Q E, ¬ sp vs H Q E) (k : Nat) : FnOk P w K mg base CX k f fd ps sp :=
  ⟨fun vs H Q E z => (h vs H Q E z).elim, fun A fr s H as us vs Q E hr e0 hb r z => (h _ _ _ _ z).elim⟩
end L3
end
section
local macro_rules | `(tactic| tm_at "s1") => `(tactic| first
  | with_reducible first
    | refine L3.s_seq ?_ | refine L3.s_asg ?_ | refine L3.s_op ?_ | refine L3.s_c ?_ | refine L3.s_cb ?_ | refine L3.s_cons ?_ | refine L3.s_nil ?_ | refine L3.s_test ?_ | refine L3.s_bl ?_
    | refine L3.s_I0 ?_ | refine L3.s_and ?_ | refine L3.s_or ?_ | refine L3.s_not ?_ | refine L3.s_if ?_ | refine L3.s_next ?_ | refine L3.s_ret ?_ | refine L3.s_retN ?_ | refine L3.s_asgS ?_ | refine L3.s_drop ?_
    | refine L3.s_un ?_ | refine L3.s_U ?_ | refine L3.s_int ?_ | refine L3.s_intB ?_ | refine L3.s_abs ?_ | refine L3.s_andV ?_ | refine L3.s_orV ?_ | refine L3.s_notV ?_ | refine L3.s_ifE ?_ | refine L3.s_call ?_ | refine L3.s_lst ?_ | refine L3.s_tup ?_ | refine L3.s_tB ?_
    | refine L3.s_addI ?_ | refine L3.s_inS ?_ | refine L3.s_ninS ?_ | refine L3.s_slice ?_ | refine L3.s_part ?_ | refine L3.s_partI ?_ | refine L3.s_nopart ?_ | refine L3.s_cI ?_ | refine L3.s_cB ?_ | refine L3.s_chain ?_ | refine L3.s_bm ?_ | refine L3.s_lcS ?_ | refine L3.s_lcR ?_ | refine L3.s_strE ?_
    | refine L2.iteT ?_ | refine L2.iteF ?_ | refine L3.iteNF ?_ | refine L3.iteNT ?_
    | refine L3.s_eqI ?_ | refine L3.s_neI ?_ | refine L3.s_eqS ?_ | refine L3.s_neS ?_
    | refine L3.s_pair ?_ | refine L3.s_pair2 ?_ | refine L3.s_fld ?_ | refine L3.s_make ?_ | refine L3.s_m1 ?_ | refine L3.s_isstr ?_
    | refine L3.s_xfV ?_ | refine L3.s_lstN ?_ | refine L3.s_callF ?_ | refine L3.s_lcL ?_ | refine L3.s_par3 ?_ | refine L3.s_trip ?_ | refine L3.s_asgT' ?_ | refine L3.s_gC ?_ | refine L3.s_gN ?_ | refine L3.s_fldG ?_ | refine L3.s_raise1 ?_ | refine L3.s_raise2 ?_ | refine L3.s_star ?_ | refine L3.s_mkCR ?_ | refine L3.s_lcZ ?_ | refine L3.s_forL ?_ | refine L3.s_forT ?_ | refine L3.s_gNm ?_ | refine L3.s_forE ?_ | refine L3.s_stC ?_ | refine L3.s_cmC ?_ | refine L3.s_forR1 ?_ | refine L3.s_lcTp ?_ | refine L3.s_forZ ?_ | refine L3.s_orT ?_ | refine L3.s_mt ?_ | refine L3.s_revT ?_ | refine L3.s_revL ?_ | refine L3.s_slOwn ?_ | refine L3.s_sl3 ?_ | refine L3.s_lcO ?_ | refine L3.s_stR ?_
    | refine L3.s_dcL ?_ | refine L3.s_dcT ?_ | refine L3.s_dget ?_ | refine L3.s_forET ?_ | refine L3.s_din ?_ | refine L3.s_dnin ?_ | refine L3.s_mkKV ?_
    | refine L3.s_isN ?_ | refine L3.s_isB ?_ | refine L3.s_nisN ?_ | refine L3.s_nisB ?_
  | ((with_reducible refine' L3.s_var ?e ?_); (case e => rfl))
  | ((with_reducible refine' L3.s_aug ?e ?_); (case e => rfl))
  | ((with_reducible refine' L3.s_pow ?c ?_); (case c => exact ⟨by decide, by decide, by decide⟩)))
local macro_rules | `(tactic| tm_at "s") => `(tactic| repeat tm_at "s1")
namespace K53
open PySem PySem.NumText PySem.Spec PyProof.Rows L2 L3 LamX RZ ClX
abbrev s__law_row_right : Stmt := topS 62
abbrev names__law_row_right : List Str := ["_law_made", "_law_modulus_here", "_law_residue", "_law_row", "_law_at", "_law_piece", "_law_begin", "_law_rise", "_law_start", "_law_last", "_law_some", "_law_sizes", "_law_size_here", "_law_spot"]
theorem sc__law_row_right : FnScope ["_law_made", "_law_modulus_here", "_law_residue", "_law_row", "_law_at", "_law_piece", "_law_begin", "_law_rise", "_law_start", "_law_last", "_law_some", "_law_sizes", "_law_size_here", "_law_spot"] ["_law_made", "_law_modulus_here", "_law_residue", "_law_row"] (defScope s__law_row_right) := ⟨rfl, rfl, rfl, by decide +kernel, rfl, by decide +kernel, by decide +kernel⟩
def spRowF : Sp := fun vs H Q _ => ∃ t v res row cs, vs = [v, .int ((t.md : Nat) : Int), .int res, row] ∧ PmAt H t v ∧ ResOk t res ∧ PcsAt H row cs ∧ PcsOk t res cs ∧ ∀ H', Ex H H' → Q (.bl true) H'
section
variable {P : Program} {w : World} {K : PySem.W.Frag} {mg : Str → Option Value} {base : Heap} {C : RA} {CR0 CY CS CR CM CE CL : Addr}
theorem ok_rowRight {f : Addr} {fd : FuncData} (F : Fun K "_law_row_right" "_law_row_right" s__law_row_right f fd) (T : Txt K mg C CR0 CY CS CR CM CL) (c__law_size : Fn P w K mg base CX0 9 "_law_size" ["_law_made", "_law_rest"] spSizeM) :
    FnG P w K mg base CX0 11 f fd ["_law_made", "_law_modulus_here", "_law_residue", "_law_row"] spRowF := by
  refine funG F sc__law_row_right (fun vs H Q E h => ?_) (fun cd A fr s H vs Q E hr hg h => ?_)
  · obtain ⟨t, v, res, row, cs, rfl, _⟩ := h; rfl
  · obtain ⟨t, v, res, row, cs, rfl, pl, ro, pcs, pok, k⟩ := h
    refine ⟨_, (pss_cons (ps_for (passes_of rfl) rfl (pi_enumT (by rfl) T.b_enumerate (pa_cons (pv 3) pa_nil)) (KX.tup (K := K) rfl rfl (pgs_cons (pg_name (i := 4) sc__law_row_right.nd rfl (Or.inl rfl)) (pgs_cons (pg_name (i := 5) sc__law_row_right.nd rfl (Or.inl rfl)) pgs_nil))) (pss_cons (ps_asg (pv 5) (KX.tup (K := K) rfl rfl (pgs_cons (pg_name (i := 6) sc__law_row_right.nd rfl (Or.inl rfl)) (pgs_cons (pg_name (i := 7) sc__law_row_right.nd rfl (Or.inr rfl)) (pgs_cons (pg_name (i := 8) sc__law_row_right.nd rfl (Or.inr rfl)) pgs_nil)))))
      (Evl.pss_cut (ps_set (i := 9) sc__law_row_right.nd rfl (Or.inl rfl) (pe_ifExp (pt_cmpR op_lt (pe_op opAdd (pv 4) pe_int) (pe_callB (KX.callLen (K := K)) (by rfl) T.b_len (by decide +kernel) (pa_cons (pv 3) pa_nil)) (nomark _)) (pe_op op_sub (pe_ix (KX.ixU (K := K)) (pe_ix (KX.ixU (K := K)) (pv 3) (pe_op opAdd (pv 4) pe_int) (fun _ _ => rfl)) pe_int (fun _ _ => rfl)) pe_int) (pe_op opAdd (pv 6) (pe_op op_pow pe_int pe_int))))
      (pss_cons (ps_set (i := 10) sc__law_row_right.nd rfl (Or.inl rfl) (pe_lst (pa_cons (pv 6) (pa_cons (pe_op opAdd (pv 6) pe_int) (pa_cons (pe_op op_fdivW (pe_op opAdd (pv 6) (pv 9)) pe_int) (pa_cons (pe_op op_fdivW (pe_op opAdd (pv 6) (pe_op opMul pe_int (pv 9))) pe_int) (pa_cons (pv 9) pa_nil)))))))
      (pss_cons (ps_setLc (i := 11) (own := [("_law_spot", 13)]) (g := gName 13) (tt := tYes) (by rfl) sc__law_row_right.nd rfl rfl (sw_true rfl rfl rfl (by decide +kernel)) (pi_list (pv 10)) (blkOk_by (own := [("_law_spot", 13)]) (N := names__law_row_right) (sc := defScope s__law_row_right) (by decide +kernel)) (fun _ _ _ _ _ => pg_name (i := 13) sc__law_row_right.nd rfl (Or.inl rfl)) (fun _ _ _ _ _ => pts_nil) (fun _ _ _ _ _ => (pe_f c__law_size hr hg pass0 (pa_cons (pv 0) (pa_cons (pe_op opAdd (pe_op opMul (pv 1) (pv 13)) (pv 2)) pa_nil)))))
      (pss_cons (ps_if (pt_cmpR (KX.neU (K := K) rfl hr.units) (pv 11) (pe_lc (own := [("_law_spot", 13)]) (g := gName 13) (tt := tYes) (by rfl) sc__law_row_right.nd (pi_list (pv 10)) (blkOk_by (own := [("_law_spot", 13)]) (N := names__law_row_right) (sc := defScope s__law_row_right) (by decide +kernel)) (fun _ _ _ _ _ => pg_name (i := 13) sc__law_row_right.nd rfl (Or.inl rfl)) (fun _ _ _ _ _ => pts_nil) (fun _ _ _ _ _ => (pe_op opAdd (pe_op opMul (pv 7) (pv 13)) (pv 8)))) (nomark _)) (pss_one (ps_ret pe_bl)) pss_nil)
      (pss_cons (ps_set (i := 12) sc__law_row_right.nd rfl (Or.inl rfl) (pe_f c__law_size hr hg pass0 (pa_cons (pv 0) (pa_cons (pe_op opAdd (pe_op opMul (pv 1) (pe_op opAdd (pv 9) pe_int)) (pv 2)) pa_nil))))
      (pss_one (ps_if (PW.pt (pw_and (pt_cmpR op_lt (pe_op opAdd (pv 4) pe_int) (pe_callB (KX.callLen (K := K)) (by rfl) T.b_len (by decide +kernel) (pa_cons (pv 3) pa_nil)) (nomark _)) (pw_and1 (pt_cmpR (KX.eqU (K := K) rfl hr.units) (pv 12) (pe_op opAdd (pe_op opMul (pv 7) (pe_op opAdd (pv 9) pe_int)) (pv 8)) (nomark _))))) (pss_one (ps_ret pe_bl)) pss_nil)))))))))
      (pss_one (ps_ret (pe_cmpR (KX.eqU (K := K) rfl hr.units) (pe_ix (KX.ixU (K := K)) (pe_ix (KX.ixU (K := K)) (pv 3) pe_int (fun _ _ => rfl)) pe_int (fun _ _ => rfl)) (pe_ifExp (pt_cmpR (KX.eqU (K := K) rfl hr.units) (pv 2) pe_int (nomark _)) pe_int pe_int) (nomark _))))), ?_⟩
    obtain ⟨rp, xs, rfl, hrow, hxl, hxs⟩ := id pcs
    have f0 : 0 ≤ firstT res := by unfold firstT; split <;> decide
    have md5 := ro.1.md
    have n6 := ro.1.n
    tm_at "s"
    refine ⟨rp, xs, rfl, .inl (.inl hrow), forEnT (fun i σ H' => ∃ (v4 v5 v6 v7 v8 v9 v10 v11 v12 v13 : Option V), σ = [some v, some (.int ((t.md : Nat) : Int)), some (.int res), some (.ref rp), v4, v5, v6, v7, v8, v9, v10, v11, v12, v13] ∧ Ex H H') ⟨_, _, _, _, _, _, _, _, _, _, rfl, Ex.refl H⟩ (fun i σ H' ⟨_, _, _, _, _, _, _, _, _, _, _, e⟩ => e _ _ hrow) ?_ ?_⟩
    · rintro i x TT _ H2 hx ⟨v4, v5, v6, v7, v8, v9, v10, v11, v12, v13, rfl, e2⟩ nT H3 e3 k3 h3
      have il : i < cs.length := by rw [← hxl]; exact (List.getElem?_eq_some_iff.mp hx).1
      have hci := List.getElem?_eq_getElem il
      obtain ⟨y, hy, ⟨cp, rfl, hcp⟩⟩ := hxs i _ hci
      rw [hx] at hy
      cases hy
      obtain ⟨on, _⟩ := pok.2.2 _ (List.mem_of_getElem? hci)
      obtain ⟨g1, g2, g3, g4⟩ := pok.1.get hci
      have bd1 : ∀ d, cs[i + 1]? = some d → d.1 ≤ 10 ^ 32 := fun d hd => (pok.2.2 d (List.mem_of_getElem? hd)).1.2.1
      generalize cs[i] = c at hci hcp on g1 g2 g3 g4
      obtain ⟨o0, o1, o2, o3, o4, o5⟩ := id on
      have e13 := e2.trans e3
      have hcp3 := e13 _ _ hcp
      refine s_gT (xs := [.int (i : Int), .ref cp]) h3 rfl ?_
      tm_at "s"
      refine s_gT (xs := [.int c.1, .int c.2.1, .int c.2.2]) hcp3 rfl ?_
      tm_at "s"
      refine s_cut (M := fun σ H' => ∃ L : Int, σ = [some v, some (.int ((t.md : Nat) : Int)), some (.int res), some (.ref rp), some (.int (i : Int)), some (.ref cp), some (.int c.1), some (.int c.2.1), some (.int c.2.2), some (.int L), v10, v11, v12, v13] ∧ H3 = H' ∧ c.1 + 1 ≤ L ∧ L ≤ 10 ^ 33 ∧ (∀ q, c.1 ≤ q → q ≤ L → szT t res q = pcV c q) ∧ (i + 1 < cs.length → szT t res (L + 1) ≠ pcV c (L + 1))) ?_ ?_
      · tm_at "s"
        refine s_lenT (e13 _ _ hrow) ?_
        tm_at "s"
        refine iteD (fun z => ?_) (fun z => ?_)
        · rcases g4 with ⟨q, _⟩ | ⟨d, q, q1, q2, q3⟩
          · rw [List.getElem?_eq_none_iff] at q; omega
          obtain ⟨y, hy, ⟨dp, rfl, hdp⟩⟩ := hxs (i + 1) d q
          have smd := bd1 d q
          tm_at "s"
          rw [show ((i : Int) + 1) = ((i + 1 : Nat) : Int) by omega]
          refine s_iT (e13 _ _ hrow) (v := .ref dp) (L3.atI_nat hy) ?_
          tm_at "s"
          refine s_iT (e13 _ _ hdp) (v := .int d.1) rfl ?_
          try dsimp only
          tm_at "s"
          have w32 : (10 : Int) ^ 32 ≤ 10 ^ 33 := by decide +kernel
          exact ⟨d.1 - 1, rfl, rfl, by omega, by omega, fun q h1 h2 => q3 q h1 (by omega), fun _ => by rw [Int.sub_add_cancel]; exact q2⟩
        · rcases g4 with ⟨q, q3⟩ | ⟨d, q, _⟩
          · tm_at "s"
            have w32 : (10 : Int) ^ 32 + 10 ^ 31 ≤ 10 ^ 33 := by decide +kernel
            have w31 : (1 : Int) ≤ 10 ^ 31 := by decide +kernel
            exact ⟨c.1 + 10 ^ 31, rfl, rfl, by omega, by omega, fun q h _ => q3 q h, fun h => by omega⟩
          · have := (List.getElem?_eq_some_iff.mp q).1
            omega
      rintro _ _ ⟨L, rfl, rfl, hL2, hL33, hLon, hLno⟩
      have w35 : (10 : Int) ^ 33 + 1 ≤ 10 ^ 35 := by decide +kernel
      try dsimp only
      tm_at "s"
      refine s_divP (by decide) (by decide) ?_
      try dsimp only
      tm_at "s"
      refine s_mulB (by decide) (by omega) ?_
      try dsimp only
      tm_at "s"
      refine s_divP (by decide) (by decide) ?_
      try dsimp only
      tm_at "s"
      refine s_new (Nat.le_of_lt (small1000 (by simp))) fun q1 H4 n4 e4 h4 => ?_
      obtain ⟨zs, hz, hzl, hzs⟩ : ∃ zs : List Int, H4 q1 = some (.lst (zs.map V.int)) ∧ zs.length = 5 ∧ ∀ z ∈ zs, c.1 ≤ z ∧ z ≤ L := by
        refine ⟨[c.1, c.1 + 1, (c.1 + L) / 2, (c.1 + 2 * L) / 3, L], h4, rfl, fun z hz => ?_⟩
        simp only [List.mem_cons, List.not_mem_nil, or_false] at hz
        rcases hz with rfl | rfl | rfl | rfl | rfl <;> omega
      clear h4
      have e14 := e13.trans e4
      try dsimp only
      tm_at "s"
      refine ⟨q1, rfl, ⟨_, .inl (.inl hz)⟩, lcLI (K := K) (fun _ => true) (fun i => V.int (szT t res (zs.getD i 0))) hz (by rw [List.length_map, hzl]; exact sz100k (by decide)) (fun _ => rfl) (fun i x I8 R hx g8 r => r) (fun j x G R hx _ ge r => ?_) fun D1 H5 nD1 e5 hD1 => ?_⟩
      · obtain ⟨q, hq, rfl⟩ := get_int hx
        have hgd : zs.getD j 0 = q := by rw [List.getD_eq_getElem?_getD, hq]; rfl
        obtain ⟨q0, q9⟩ := hzs q (List.mem_of_getElem? hq)
        obtain ⟨b1, b2⟩ := rest_in ro (show firstT res ≤ q by omega) (by omega)
        rw [hgd] at r
        tm_at "s"
        refine s_mulB (by omega) (by omega) ?_
        tm_at "s"
        exact ⟨t, v, _, rfl, pl.ex (e14.trans ge), ro.1.ok, by omega, b1, b2, fun G2 g2 => r G2 g2⟩
      have e15 := e14.trans e5
      try dsimp only
      tm_at "s"
      refine ⟨q1, rfl, ⟨_, .inl (.inl (e5 _ _ hz))⟩, lcLI (K := K) (fun _ => true) (fun i => V.int (szT t res (zs.getD i 0))) (e5 _ _ hz) (by rw [List.length_map, hzl]; exact sz100k (by decide)) (fun _ => rfl) (fun i x I8 R hx g8 r => r) (fun j x G R hx _ ge r => ?_) fun D2 H6 nD2 e6 hD2 => ?_⟩
      · obtain ⟨q, hq, rfl⟩ := get_int hx
        have hgd : zs.getD j 0 = q := by rw [List.getD_eq_getElem?_getD, hq]; rfl
        obtain ⟨q0, q9⟩ := hzs q (List.mem_of_getElem? hq)
        have hpc : szT t res q = c.2.1 * q + c.2.2 := hLon q q0 q9
        rw [hgd, hpc] at r
        tm_at "s"
        refine s_mulP (A := 10 ^ 45) (B := 10 ^ 33) o4 (by omega) ?_
        tm_at "s"
        exact r G (Ex.refl G)
      have e16 := e15.trans e6
      have mapI : ∀ (l : List Nat), l.map (fun i => V.int (szT t res (zs.getD i 0))) = (l.map fun i => szT t res (zs.getD i 0)).map V.int := fun l => by rw [List.map_map]; rfl
      rw [mapI] at hD1 hD2
      generalize (List.map (fun i => szT t res (zs.getD i 0)) _ : List Int) = ns at hD1 hD2
      tm_at "s"
      refine .inr (s_neD (d := lsD ns) (e := lsD ns) (.lst (.inl (.inl (e6 _ _ hD1))) (dpInts ns)) (.lst (.inl (.inl hD2)) (dpInts ns)) (shInts ns) (shInts ns) ?_)
      rw [eqv_ls, decide_eq_true rfl]
      refine ⟨_, rfl, ?_⟩
      refine iteF ?_
      obtain ⟨b1, b2⟩ := rest_in ro (show firstT res ≤ L + 1 by omega) (by omega)
      try dsimp only
      tm_at "s"
      refine s_mulB (by omega) (by omega) ?_
      tm_at "s"
      refine ⟨t, v, _, rfl, pl.ex e16, ro.1.ok, by omega, b1, b2, fun H7 e7 => ?_⟩
      have e17 := e16.trans e7
      try dsimp only
      tm_at "s"
      refine s_lenT (e17 _ _ hrow) ?_
      try dsimp only
      tm_at "s"
      refine iteD (fun z => ?_) (fun _ => ?_)
      · have hno := hLno (by omega)
        have hsz : chunkT (((t.md : Nat) : Int) * (L + 1) + res) t ≠ c.2.1 * (L + 1) + c.2.2 := hno
        generalize chunkT (((t.md : Nat) : Int) * (L + 1) + res) t = zz at hsz ⊢
        try dsimp only
        tm_at "s"
        refine s_mulP (A := 10 ^ 45) (B := 10 ^ 35) o4 (by omega) ?_
        try dsimp only
        tm_at "s"
        refine iteD (fun z => absurd z hsz) (fun _ => ?_)
        try dsimp only
        tm_at "s"
        exact ⟨_, _, _, _, _, _, _, _, _, _, rfl, e17⟩
      · try dsimp only
        tm_at "s"
        exact ⟨_, _, _, _, _, _, _, _, _, _, rfl, e17⟩
    · rintro _ H2 ⟨v4, v5, v6, v7, v8, v9, v10, v11, v12, v13, rfl, e2⟩
      have hpos : 0 < cs.length := List.length_pos_iff.mpr pok.ne
      have hc0 := List.getElem?_eq_getElem hpos
      obtain ⟨x0, hx0, ⟨p0, rfl, hp0⟩⟩ := hxs 0 _ hc0
      have hhd := pok.1.head hc0
      try dsimp only
      tm_at "s"
      refine s_iT (e2 _ _ hrow) (v := .ref p0) (L3.atI_nat (j := 0) hx0) ?_
      try dsimp only
      tm_at "s"
      refine s_iT (e2 _ _ hp0) (v := .int cs[0].1) rfl ?_
      try dsimp only
      tm_at "s"
      rw [hhd]
      unfold firstT
      refine iteD (fun z => ?_) (fun z => ?_)
      · rw [if_pos z]
        tm_at "s"
        exact k H2 e2
      · rw [if_neg z]
        tm_at "s"
        exact k H2 e2
end
end K53
end
section
namespace L3
open PySem PySem.NumText PySem.Spec PyProof.Rows L2 LamX RZ ClX
/-- the sizes tell the pieces -/
theorem Pre.uniq {f : Int → Int} : ∀ {b : Int} {cs ds : List Pc}, Pre f b cs none → Pre f b ds none → cs = ds
  | b, [], _, h, _ => by cases h
  | b, _ :: _, [], _, h => by cases h
  | b, p :: r, q :: s, ⟨e1, e2, e3, h⟩, ⟨g1, g2, g3, k⟩ => by
    have hp : p = q := by
      obtain ⟨a, ri, st⟩ := p
      obtain ⟨a', ri', st'⟩ := q
      simp only [pcV] at e1 e2 e3 g1 g2 g3
      subst e1
      subst g1
      rw [Int.mul_add, Int.mul_one] at e3 g3
      have hr : ri = ri' := by
        generalize ri * a' = A at e2 e3
        generalize ri' * a' = B at g2 g3
        omega
      subst hr
      have hs : st = st' := by omega
      rw [hs]
    subst hp
    congr 1
    rcases h with ⟨h1, _, h2⟩ | ⟨b2, h1, h2, h3, h4⟩
    · rcases k with ⟨k1, _, _⟩ | ⟨c2, k1, k2, _, _⟩
      · rw [h1, k1]
      · exact absurd (h2 c2 (by omega)) k2
    · rcases k with ⟨_, _, k2⟩ | ⟨c2, k1, k2, k3, k4⟩
      · exact absurd (k2 b2 (by omega)) h2
      · have e : b2 = c2 := by
          by_cases z : b2 < c2
          · exact absurd (k3 b2 (by omega) z) h2
          · by_cases z2 : c2 < b2
            · exact absurd (h3 c2 (by omega) z2) k2
            · omega
        subst e
        exact Pre.uniq h4 k4
def spRight52 : Sp := fun vs H Q _ => ∃ p n, vs = [.ref p] ∧ Pen H p n ∧ n + 100 < lim ∧ ∀ H' m, m ≤ n + 50 → Pen H' p m → Q (.bl true) H'
end L3
end
section
local macro_rules | `(tactic| tm_at "s1") => `(tactic| first
  | with_reducible first
    | refine L3.s_seq ?_ | refine L3.s_asg ?_ | refine L3.s_op ?_ | refine L3.s_c ?_ | refine L3.s_cb ?_ | refine L3.s_cons ?_ | refine L3.s_nil ?_ | refine L3.s_test ?_ | refine L3.s_bl ?_
    | refine L3.s_I0 ?_ | refine L3.s_and ?_ | refine L3.s_or ?_ | refine L3.s_not ?_ | refine L3.s_if ?_ | refine L3.s_next ?_ | refine L3.s_ret ?_ | refine L3.s_retN ?_ | refine L3.s_asgS ?_ | refine L3.s_drop ?_
    | refine L3.s_un ?_ | refine L3.s_U ?_ | refine L3.s_int ?_ | refine L3.s_intB ?_ | refine L3.s_abs ?_ | refine L3.s_andV ?_ | refine L3.s_orV ?_ | refine L3.s_notV ?_ | refine L3.s_ifE ?_ | refine L3.s_call ?_ | refine L3.s_lst ?_ | refine L3.s_tup ?_ | refine L3.s_tB ?_
    | refine L3.s_addI ?_ | refine L3.s_inS ?_ | refine L3.s_ninS ?_ | refine L3.s_slice ?_ | refine L3.s_part ?_ | refine L3.s_partI ?_ | refine L3.s_nopart ?_ | refine L3.s_cI ?_ | refine L3.s_cB ?_ | refine L3.s_chain ?_ | refine L3.s_bm ?_ | refine L3.s_lcS ?_ | refine L3.s_lcR ?_ | refine L3.s_strE ?_
    | refine L2.iteT ?_ | refine L2.iteF ?_ | refine L3.iteNF ?_ | refine L3.iteNT ?_
    | refine L3.s_eqI ?_ | refine L3.s_neI ?_ | refine L3.s_eqS ?_ | refine L3.s_neS ?_
    | refine L3.s_pair ?_ | refine L3.s_pair2 ?_ | refine L3.s_fld ?_ | refine L3.s_make ?_ | refine L3.s_m1 ?_ | refine L3.s_isstr ?_
    | refine L3.s_xfV ?_ | refine L3.s_lstN ?_ | refine L3.s_callF ?_ | refine L3.s_lcL ?_ | refine L3.s_par3 ?_ | refine L3.s_trip ?_ | refine L3.s_asgT' ?_ | refine L3.s_gC ?_ | refine L3.s_gN ?_ | refine L3.s_fldG ?_ | refine L3.s_raise1 ?_ | refine L3.s_raise2 ?_ | refine L3.s_star ?_ | refine L3.s_mkCR ?_ | refine L3.s_lcZ ?_ | refine L3.s_forL ?_ | refine L3.s_forT ?_ | refine L3.s_gNm ?_ | refine L3.s_forE ?_ | refine L3.s_stC ?_ | refine L3.s_cmC ?_ | refine L3.s_forR1 ?_ | refine L3.s_lcTp ?_ | refine L3.s_forZ ?_ | refine L3.s_orT ?_ | refine L3.s_mt ?_ | refine L3.s_revT ?_ | refine L3.s_revL ?_ | refine L3.s_slOwn ?_ | refine L3.s_sl3 ?_ | refine L3.s_lcO ?_ | refine L3.s_stR ?_
    | refine L3.s_dcL ?_ | refine L3.s_dcT ?_ | refine L3.s_dget ?_ | refine L3.s_forET ?_ | refine L3.s_din ?_ | refine L3.s_dnin ?_ | refine L3.s_mkKV ?_
    | refine L3.s_isN ?_ | refine L3.s_isB ?_ | refine L3.s_nisN ?_ | refine L3.s_nisB ?_
  | ((with_reducible refine' L3.s_var ?e ?_); (case e => rfl))
  | ((with_reducible refine' L3.s_aug ?e ?_); (case e => rfl))
  | ((with_reducible refine' L3.s_pow ?c ?_); (case c => exact ⟨by decide, by decide, by decide⟩)))
local macro_rules | `(tactic| tm_at "s") => `(tactic| repeat tm_at "s1")
namespace K53
open PySem PySem.NumText PySem.Spec PyProof.Rows L2 L3 LamX RZ ClX
abbrev s__law_right : Stmt := topS 63
abbrev names__law_right : List Str := ["_law_pen_here", "_law_made", "_law_rule_so", "_law_modulus_here", "_law_told", "_law_residue"]
theorem sc__law_right : FnScope ["_law_pen_here", "_law_made", "_law_rule_so", "_law_modulus_here", "_law_told", "_law_residue"] ["_law_pen_here"] (defScope s__law_right) := ⟨rfl, rfl, rfl, by decide +kernel, rfl, by decide +kernel, by decide +kernel⟩
section
variable {P : Program} {w : World} {K : PySem.W.Frag} {mg : Str → Option Value} {base : Heap} {C : RA} {CR0 CY CS CR CM CE CL : Addr}
theorem ok_right {f : Addr} {fd : FuncData} (F : Fun K "_law_right" "_law_right" s__law_right f fd) (T : Txt K mg C CR0 CY CS CR CM CL) (c__law_far : Fn P w K mg base CX0 3 "_law_far" ["_law_pen_here"] spFar) (c__law_rule : Fn P w K mg base CX0 13 "_law_rule" ["_law_made"] (spRuleM C 6)) (c__law_modulus : Fn P w K mg base CX0 8 "_law_modulus" ["_law_made"] (spModM 7))
    (c_pieces : FnO P w K mg base (L2.CX P w) 15 "pieces" ["rule"] (spPieces C)) (c__law_row_right : Fn P w K mg base CX0 11 "_law_row_right" ["_law_made", "_law_modulus_here", "_law_residue", "_law_row"] spRowF) :
    FnG P w K mg base CX0 17 f fd ["_law_pen_here"] spRight52 := by
  refine funG F sc__law_right (fun vs H Q E h => ?_) (fun cd A fr s H vs Q E hr hg h => ?_)
  · obtain ⟨p, n, rfl, _⟩ := h; rfl
  · obtain ⟨p, n, rfl, pen, hn, k⟩ := h
    refine ⟨_, (pss_cons (ps_set (i := 1) sc__law_right.nd rfl (Or.inr rfl) (pe_f c__law_far hr hg pass0 (pa_cons (pv 0) pa_nil)))
      (pss_cons (ps_asg (pe_tup (pa_cons (pe_f c__law_rule hr hg pass0 (pa_cons (pv 1) pa_nil)) (pa_cons (pe_f c__law_modulus hr hg pass0 (pa_cons (pv 1) pa_nil)) pa_nil))) (KX.tup (K := K) rfl rfl (pgs_cons (pg_name (i := 2) sc__law_right.nd rfl (Or.inl rfl)) (pgs_cons (pg_name (i := 3) sc__law_right.nd rfl (Or.inr rfl)) pgs_nil))))
      (pss_cons (ps_set (i := 4) sc__law_right.nd rfl (Or.inr rfl) (pe_o c_pieces hr passF (pa_cons (pv 2) pa_nil)))
      (pss_cons (ps_if (pt_cmpR (KX.neU (K := K) rfl hr.units) (pe_callB (KX.callLen (K := K)) (by rfl) T.b_len (by decide +kernel) (pa_cons (pv 4) pa_nil)) (pv 3) (nomark _)) (pss_one (ps_ret pe_bl)) pss_nil)
      (pss_one (ps_ret (pe_cmpR (KX.eqU (K := K) rfl hr.units) (pe_lc (own := [("_law_residue", 5)]) (g := gName 5) (by rfl) sc__law_right.nd (pi_range1 (by rfl) T.b_range (pa_cons (pv 3) pa_nil)) (blkOk_by (own := [("_law_residue", 5)]) (N := names__law_right) (sc := defScope s__law_right) (by decide +kernel)) (fun _ _ _ _ _ => pg_name (i := 5) sc__law_right.nd rfl (Or.inl rfl)) (fun _ _ _ _ _ => pts_one (pt_not (pt_val (pe_f c__law_row_right hr hg pass0 (pa_cons (pv 1) (pa_cons (pv 3) (pa_cons (pv 5) (pa_cons (pe_ix (KX.ixU (K := K)) (pv 4) (pv 5) (fun _ _ => rfl)) pa_nil)))))))) (fun _ _ _ _ _ => (pv 5))) (pe_lst pa_nil) (nomark _)))))))), ?_⟩
    tm_at "s"
    refine ⟨p, n, rfl, pen, by omega, fun t v H2 n2 hn2 ok tn md sm pm pen2 k2 => ?_⟩
    have md12 : t.md ≤ 120 := Nat.le_of_dvd (by decide) md
    have fn : t.fine := ⟨ok, by omega, by omega⟩
    try dsimp only
    tm_at "s"
    refine ⟨t, v, rfl, pm, fn, by omega, fun q ps H3 e3 ru => ?_⟩
    tm_at "s"
    refine ⟨t, v, rfl, pm.ex e3, ok, by omega, fun H4 e4 => ?_⟩
    tm_at "s"
    refine s_new (Nat.le_of_lt (small1000 (by simp))) fun qt H4b nqt e4b hqt => ?_
    refine s_gT (xs := [.ref q, .int ((t.md : Nat) : Int)]) hqt rfl ?_
    tm_at "s"
    refine ⟨q, ps, t, rfl, (ru.ex e4).ex e4b, fn, fun l us H5 e5 hl hul hus => ?_⟩
    have e35 := e3.trans (e4.trans (e4b.trans e5))
    try dsimp only
    tm_at "s"
    refine s_lenL hl ?_
    rw [hul]
    tm_at "s"
    refine iteND (fun z => absurd rfl z) (fun _ => ?_)
    try dsimp only
    tm_at "s"
    refine ⟨by omega, by omega, ?_⟩
    have pm5 := pm.ex e35
    refine lcRno (fun _ => rfl) (fun i G R hi ge r => ?_) fun D H6 nD e6 hD => ?_
    · have hi : i < t.md := by omega
      obtain ⟨y, hy⟩ : ∃ y, us[i]? = some y := ⟨_, List.getElem?_eq_getElem (by omega)⟩
      obtain ⟨cs, pa, po⟩ := hus i y hy
      tm_at "s"
      rw [Int.zero_add]
      refine s_iL (ge _ _ hl) (v := y) (L3.atI_nat hy) ?_
      tm_at "s"
      refine ⟨t, v, (i : Int), y, cs, rfl, pm5.ex ge, ⟨fn, by omega, by omega⟩, pa.ex ge, po, fun G2 g2 => ?_⟩
      refine ⟨_, rfl, ?_⟩
      exact r G2 g2
    tm_at "s"
    refine s_new (n := 0) (Nat.zero_le _) fun z4 H7 nz4 e7 hz4 => ?_
    refine .inr (s_eqD (d := .list []) (e := .list []) (.lst (.inl (.inl (e7 _ _ hD))) .nil) (.lst (.inl (.inl hz4)) .nil) (by decide +kernel) (by decide +kernel) ?_)
    rw [show (PyData.list []).eqv (.list []) = true by decide +kernel]
    exact k H7 n2 (by omega) (pen2.ex (e35.trans (e6.trans e7)))
end
end K53
end
section
local macro_rules | `(tactic| tm_at "s1") => `(tactic| first
  | with_reducible first
    | refine L3.s_seq ?_ | refine L3.s_asg ?_ | refine L3.s_op ?_ | refine L3.s_c ?_ | refine L3.s_cb ?_ | refine L3.s_cons ?_ | refine L3.s_nil ?_ | refine L3.s_test ?_ | refine L3.s_bl ?_
    | refine L3.s_I0 ?_ | refine L3.s_and ?_ | refine L3.s_or ?_ | refine L3.s_not ?_ | refine L3.s_if ?_ | refine L3.s_next ?_ | refine L3.s_ret ?_ | refine L3.s_retN ?_ | refine L3.s_asgS ?_ | refine L3.s_drop ?_
    | refine L3.s_un ?_ | refine L3.s_U ?_ | refine L3.s_int ?_ | refine L3.s_intB ?_ | refine L3.s_abs ?_ | refine L3.s_andV ?_ | refine L3.s_orV ?_ | refine L3.s_notV ?_ | refine L3.s_ifE ?_ | refine L3.s_call ?_ | refine L3.s_lst ?_ | refine L3.s_tup ?_ | refine L3.s_tB ?_
    | refine L3.s_addI ?_ | refine L3.s_inS ?_ | refine L3.s_ninS ?_ | refine L3.s_slice ?_ | refine L3.s_part ?_ | refine L3.s_partI ?_ | refine L3.s_nopart ?_ | refine L3.s_cI ?_ | refine L3.s_cB ?_ | refine L3.s_chain ?_ | refine L3.s_bm ?_ | refine L3.s_lcS ?_ | refine L3.s_lcR ?_ | refine L3.s_strE ?_
    | refine L2.iteT ?_ | refine L2.iteF ?_ | refine L3.iteNF ?_ | refine L3.iteNT ?_
    | refine L3.s_eqI ?_ | refine L3.s_neI ?_ | refine L3.s_eqS ?_ | refine L3.s_neS ?_
    | refine L3.s_pair ?_ | refine L3.s_pair2 ?_ | refine L3.s_fld ?_ | refine L3.s_make ?_ | refine L3.s_m1 ?_ | refine L3.s_isstr ?_
    | refine L3.s_xfV ?_ | refine L3.s_lstN ?_ | refine L3.s_callF ?_ | refine L3.s_lcL ?_ | refine L3.s_par3 ?_ | refine L3.s_trip ?_ | refine L3.s_asgT' ?_ | refine L3.s_gC ?_ | refine L3.s_gN ?_ | refine L3.s_fldG ?_ | refine L3.s_raise1 ?_ | refine L3.s_raise2 ?_ | refine L3.s_star ?_ | refine L3.s_mkCR ?_ | refine L3.s_lcZ ?_ | refine L3.s_forL ?_ | refine L3.s_forT ?_ | refine L3.s_gNm ?_ | refine L3.s_forE ?_ | refine L3.s_stC ?_ | refine L3.s_cmC ?_ | refine L3.s_forR1 ?_ | refine L3.s_lcTp ?_ | refine L3.s_forZ ?_ | refine L3.s_orT ?_ | refine L3.s_mt ?_ | refine L3.s_revT ?_ | refine L3.s_revL ?_ | refine L3.s_slOwn ?_ | refine L3.s_sl3 ?_ | refine L3.s_lcO ?_ | refine L3.s_stR ?_
    | refine L3.s_dcL ?_ | refine L3.s_dcT ?_ | refine L3.s_dget ?_ | refine L3.s_forET ?_ | refine L3.s_din ?_ | refine L3.s_dnin ?_ | refine L3.s_mkKV ?_
    | refine L3.s_isN ?_ | refine L3.s_isB ?_ | refine L3.s_nisN ?_ | refine L3.s_nisB ?_
  | ((with_reducible refine' L3.s_var ?e ?_); (case e => rfl))
  | ((with_reducible refine' L3.s_aug ?e ?_); (case e => rfl))
  | ((with_reducible refine' L3.s_pow ?c ?_); (case c => exact ⟨by decide, by decide, by decide⟩)))
local macro_rules | `(tactic| tm_at "s") => `(tactic| repeat tm_at "s1")
namespace K53
open PySem PySem.NumText PySem.Spec PyProof.Rows L2 L3 LamX RZ ClX
abbrev s_law : Stmt := topS 64
theorem sc_law : FnScope ["_law_script", "_law_pen_here", "_law_turn", "_law_found"] ["_law_script"] (defScope s_law) := ⟨rfl, rfl, rfl, by decide +kernel, rfl, by decide +kernel, by decide +kernel⟩
def tT : RT := .jn true (.dv 1 0 1) (.fx (10 ^ 30))
theorem fnT : tT.fine := ⟨⟨⟨⟨by decide, by decide⟩, ⟨by decide, by decide⟩, by decide, by decide⟩, by decide +kernel, by decide +kernel⟩, by decide, by decide +kernel⟩
def cT : List Pc := [(1, 1, 0), (10 ^ 30 + 1, 0, 10 ^ 30)]
theorem szT0 (q : Int) : szT tT 0 q = max 1 (min q (min q (10 ^ 30))) := by
  show max 1 (min (((Nat.lcm 1 1 : Nat) : Int) * q + 0) (min ((1 * (((Nat.lcm 1 1 : Nat) : Int) * q + 0) + 0) / 1) (10 ^ 30))) = _
  rw [show ((Nat.lcm 1 1 : Nat) : Int) = 1 by decide +kernel, Int.ediv_one]
  simp only [Int.one_mul, Int.add_zero]
theorem preT : Pre (szT tT 0) (firstT 0) cT none := by
  have w : (10 : Int) ≤ 10 ^ 30 := by decide +kernel
  refine ⟨rfl, ?_, ?_, .inr ⟨10 ^ 30 + 1, ?_, ?_, fun q h1 h2 => ?_, rfl, ?_, ?_, .inl ⟨rfl, rfl, fun q h => ?_⟩⟩⟩
  all_goals (try rw [show firstT 0 = 1 from rfl] at *)
  · rw [szT0]; unfold pcV; dsimp only; omega
  · rw [szT0]; unfold pcV; dsimp only; omega
  · omega
  all_goals (rw [szT0]; unfold pcV; dsimp only; omega)
def spLaw (K : PySem.W.Frag) (TT : List (Addr × Str)) : Sp := fun vs H Q _ => ∃ a ns, vs = [.ref a] ∧ SqL K H a (ns.map V.int) ∧ (ns : List Int).length ≤ 63 ∧ Tabs TT H ∧ ∀ H', Q (.bl true) H'
section
variable {P : Program} {w : World} {K : PySem.W.Frag} {mg : Str → Option Value} {base : Heap} {C : RA} {CR0 CY CS CR CM CE CL : Addr}
theorem ok_law {f : Addr} {fd : FuncData} (F : Fun K "law" "law" s_law f fd) (T : Txt K mg C CR0 CY CS CR CM CL) (c__law_pen : Fn P w K mg base CX0 1 "_law_pen" ["_law_script"] (spPen K)) (c__law_right : Fn P w K mg base CX0 17 "_law_right" ["_law_pen_here"] spRight52)
    (m_Fixed_1 : McO P w K mg base (L2.CX P w) 4 "Fixed" C.f ["self", "size"] (spFx C.f CS) []) (m_Divided_3 : McO P w K mg base (L2.CX P w) 3 "Divided" C.d ["self", "x", "y", "w"] (spDv C.d CR) [])
    (op_and : OpC P w K mg base CR0 (c5 C CY) .BitAnd 6 (spOpJ K C CR CM true)) (c_pieces : FnO P w K mg base (L2.CX P w) 15 "pieces" ["rule"] (spPieces C)) :
    FnG P w K mg base CX0 18 f fd ["_law_script"] (spLaw K []) := by
  refine funG F sc_law (fun vs H Q E h => ?_) (fun cd A' fr s H vs Q E hr hg h => ?_)
  · obtain ⟨a, ns, rfl, _⟩ := h; rfl
  · obtain ⟨a, ns, rfl, hs, hl, _, k⟩ := h
    refine ⟨_, (pss_cons (ps_set (i := 1) sc_law.nd rfl (Or.inl rfl) (pe_f c__law_pen hr hg pass0 (pa_cons (pv 0) pa_nil)))
      (pss_cons (ps_for (passes_of rfl) rfl (pi_range1 (by rfl) T.b_range (pa_cons pe_int pa_nil)) (pg_name (i := 2) sc_law.nd rfl (Or.inl rfl)) (pss_one (ps_if (pt_not (pt_val (pe_f c__law_right hr hg pass0 (pa_cons (pv 1) pa_nil)))) (pss_one (ps_ret pe_bl)) pss_nil)))
      (pss_cons (ps_set (i := 3) sc_law.nd rfl (Or.inl rfl) (pe_o c_pieces hr passF (pa_cons (pe_op (opC (K := K) rfl op_and hr passF (by omega)) (pe_mko m_Divided_3 hr passF (pa_cons pe_int (pa_cons pe_int (pa_cons pe_int pa_nil)))) (pe_mko m_Fixed_1 hr passF (pa_cons (pe_op op_pow pe_int pe_int) pa_nil))) pa_nil)))
      (pss_one (ps_ret (pe_cmpR (KX.eqU (K := K) rfl hr.units) (pv 3) (pe_lst (pa_cons (pe_tup (pa_cons (pe_tup (pa_cons pe_int (pa_cons pe_int (pa_cons pe_int pa_nil)))) (pa_cons (pe_tup (pa_cons (pe_op opAdd (pe_op op_pow pe_int pe_int) pe_int) (pa_cons pe_int (pa_cons (pe_op op_pow pe_int pe_int) pa_nil)))) pa_nil))) pa_nil)) (nomark _))))))), ?_⟩
    tm_at "s"
    refine ⟨a, ns, rfl, hs, hl, fun p H1 hp e1 p1 => ?_⟩
    try dsimp only
    tm_at "s"
    refine ⟨by decide, by decide, ?_⟩
    refine forRg (n := 6) (fun i σ H' => (∃ v2, σ = [some (.ref a), some (.ref p), v2, none]) ∧ ∃ m', m' ≤ 50 * i ∧ Pen H' p m') ⟨⟨_, rfl⟩, 0, by omega, p1⟩ ?_ ?_
    · rintro i _ H2 hi ⟨⟨v2, rfl⟩, m', hm', p2⟩
      have hi : i < 6 := hi
      refine s_gNm ?_
      try dsimp only
      tm_at "s"
      refine ⟨p, m', rfl, p2, by unfold lim; omega, fun H3 m3 hm3 p3 => ?_⟩
      tm_at "s"
      exact ⟨⟨_, rfl⟩, m3, by omega, p3⟩
    · rintro _ H2 ⟨⟨v2, rfl⟩, m', hm', p2⟩
      clear p1 e1
      try dsimp only
      tm_at "s"
      refine s_mkDv (by decide) (by decide) (by decide) fun q1 H3 n3 e3 d1 => ?_
      try dsimp only
      tm_at "s"
      refine s_mkFx (dvs := []) (by decide +kernel) fun q2 H4 n4 e4 f2 => ?_
      refine s_opJ (lo := true) (a := .dv 1 0 1) (b := .fx (10 ^ 30)) (pa := [q1]) (pb := [q2]) ⟨rfl, d1.ex e4⟩ ⟨rfl, f2⟩ fnT fun q5 H5 n5 e5 ru5 => ?_
      try dsimp only
      tm_at "s"
      refine ⟨q5, [q1, q2], tT, rfl, ru5, fnT, fun lT us J7 g7 hlT hulT husT => ?_⟩
      have mdT : tT.md = 1 := by decide +kernel
      rw [mdT] at hulT
      obtain ⟨y0, rfl⟩ : ∃ y0, us = [y0] := by
        match us, hulT with
        | [y0], _ => exact ⟨y0, rfl⟩
      obtain ⟨cs0, pa0, po0⟩ := husT 0 y0 rfl
      obtain rfl : cs0 = cT := po0.1.uniq preT
      try dsimp only
      tm_at "s"
      refine s_new (Nat.le_of_lt (small1000 (by simp))) fun z1 I1 nz1 f1 hz1 => ?_
      try dsimp only
      tm_at "s"
      refine s_new (Nat.le_of_lt (small1000 (by simp))) fun z2 I2 nz2 f2 hz2 => ?_
      try dsimp only
      tm_at "s"
      refine s_new (Nat.le_of_lt (small1000 (by simp))) fun z3 I3 nz3 f3 hz3 => ?_
      try dsimp only
      tm_at "s"
      refine s_new (Nat.le_of_lt (small1000 (by simp))) fun z4 I4 nz4 f4 hz4 => ?_
      have f14 := f1.trans (f2.trans (f3.trans f4))
      have dl : DpAll K I4 [V.ref z3] [.tuple (cT.map pcD)] := .cons (.tup (.inl (.inl (f4 _ _ hz3))) (.cons (.tup (.inl (.inl (f4 _ _ (f3 _ _ (f2 _ _ hz1))))) (dpInts [1, 1, 0])) (.cons (.tup (.inl (.inl (f4 _ _ (f3 _ _ hz2)))) (dpInts [10 ^ 30 + 1, 0, 10 ^ 30])) .nil))) .nil
      refine .inr (s_eqD (d := .list [.tuple (cT.map pcD)]) (e := .list [.tuple (cT.map pcD)]) (.lst (.inl (.inl (f14 _ _ hlT))) (.cons (pcs_dp (pa0.ex f14)) .nil)) (.lst (.inl (.inl hz4)) dl) (by decide +kernel) (by decide +kernel) ?_)
      rw [show PyData.eqv (.list [.tuple (cT.map pcD)]) (.list [.tuple (cT.map pcD)]) = true by decide +kernel]
      exact k I4
end
end K53
end
section
namespace K53
open PySem PySem.Spec PyProof.Rows L2 L3 LamX
abbrev s_BadSize___init__ : Stmt := inClass (topS 4) 0
theorem ns_BadSize : NdefX.NScope ["self", "value", "__class__"] ["self", "value"] ["__class__"] (defScope s_BadSize___init__) := NdefX.nscope_by (by decide +kernel)
theorem ok_BadSize {P : Program} {w : World} {K : PySem.W.Frag} {mg : Str → Option Value} {base : Heap} {C f cda cc : Addr} {kV doc pm ct oc : Value} {an od : Option Addr} {osl : Array (Option Value)}
    (lk : K.lookup f = some ⟨oc, od, .func (PySem.W.fnX "__init__" "BadSize.__init__" (defArgs s_BadSize___init__) (defBody s_BadSize___init__) (defScope s_BadSize___init__) [("__class__", cc)] .none kV doc pm an (.ref cda) ct), osl⟩) (hcd : PySem.W.codeIn K (.ref cda) "BadSize.__init__" = true)
    (T : SupF P K mg C f cda cc (defScope s_BadSize___init__)) (n1 : PySem.W.findIn K (.ref C) "value" = some none) :
    FnOk P w K mg base CX0 1 f (PySem.W.fnX "__init__" "BadSize.__init__" (defArgs s_BadSize___init__) (defBody s_BadSize___init__) (defScope s_BadSize___init__) [("__class__", cc)] .none kV doc pm an (.ref cda) ct) ["self", "value"] (spErr1 C "value") :=
  okErr1 (g1 := "value") (x := "value") rfl lk hcd T ns_BadSize rfl rfl (fun env _ => ⟨_, rfl⟩) (by decide) (by decide) n1 (fun env _ => rfl)
abbrev s_BadRule___init__ : Stmt := inClass (topS 6) 0
theorem ns_BadRule : NdefX.NScope ["self", "part", "__class__"] ["self", "part"] ["__class__"] (defScope s_BadRule___init__) := NdefX.nscope_by (by decide +kernel)
theorem ok_BadRule {P : Program} {w : World} {K : PySem.W.Frag} {mg : Str → Option Value} {base : Heap} {C f cda cc : Addr} {kV doc pm ct oc : Value} {an od : Option Addr} {osl : Array (Option Value)}
    (lk : K.lookup f = some ⟨oc, od, .func (PySem.W.fnX "__init__" "BadRule.__init__" (defArgs s_BadRule___init__) (defBody s_BadRule___init__) (defScope s_BadRule___init__) [("__class__", cc)] .none kV doc pm an (.ref cda) ct), osl⟩) (hcd : PySem.W.codeIn K (.ref cda) "BadRule.__init__" = true)
    (T : SupF P K mg C f cda cc (defScope s_BadRule___init__)) (n1 : PySem.W.findIn K (.ref C) "part" = some none) :
    FnOk P w K mg base CX0 1 f (PySem.W.fnX "__init__" "BadRule.__init__" (defArgs s_BadRule___init__) (defBody s_BadRule___init__) (defScope s_BadRule___init__) [("__class__", cc)] .none kV doc pm an (.ref cda) ct) ["self", "part"] (spErr1 C "part") :=
  okErr1 (g1 := "part") (x := "part") rfl lk hcd T ns_BadRule rfl rfl (fun env _ => ⟨_, rfl⟩) (by decide) (by decide) n1 (fun env _ => rfl)
abbrev s_TooMany___init__ : Stmt := inClass (topS 8) 0
theorem ns_TooMany : NdefX.NScope ["self", "what", "most", "__class__"] ["self", "what", "most"] ["__class__"] (defScope s_TooMany___init__) := NdefX.nscope_by (by decide +kernel)
theorem ok_TooMany {P : Program} {w : World} {K : PySem.W.Frag} {mg : Str → Option Value} {base : Heap} {C f cda cc : Addr} {kV doc pm ct oc : Value} {an od : Option Addr} {osl : Array (Option Value)}
    (lk : K.lookup f = some ⟨oc, od, .func (PySem.W.fnX "__init__" "TooMany.__init__" (defArgs s_TooMany___init__) (defBody s_TooMany___init__) (defScope s_TooMany___init__) [("__class__", cc)] .none kV doc pm an (.ref cda) ct), osl⟩) (hcd : PySem.W.codeIn K (.ref cda) "TooMany.__init__" = true)
    (T : SupF P K mg C f cda cc (defScope s_TooMany___init__)) (n1 : PySem.W.findIn K (.ref C) "what" = some none) (n2 : PySem.W.findIn K (.ref C) "most" = some none) :
    FnOk P w K mg base CX0 1 f (PySem.W.fnX "__init__" "TooMany.__init__" (defArgs s_TooMany___init__) (defBody s_TooMany___init__) (defScope s_TooMany___init__) [("__class__", cc)] .none kV doc pm an (.ref cda) ct) ["self", "what", "most"] (spErr2 C "what" "most") :=
  okErr2 (g1 := "what") (g2 := "most") (x := "what") (y := "most") rfl lk hcd T ns_TooMany rfl rfl (fun env _ => ⟨_, rfl⟩) (by decide) (by decide) (by decide) (by decide) n1 n2 (fun env _ => rfl) (fun env _ => rfl)
abbrev s_BadRest___init__ : Stmt := inClass (topS 5) 0
theorem ns_BadRest : NdefX.NScope ["self", "value", "__class__"] ["self", "value"] ["__class__"] (defScope s_BadRest___init__) := NdefX.nscope_by (by decide +kernel)
theorem ok_BadRest {P : Program} {w : World} {K : PySem.W.Frag} {mg : Str → Option Value} {base : Heap} {C f cda cc : Addr} {kV doc pm ct oc : Value} {an od : Option Addr} {osl : Array (Option Value)}
    (lk : K.lookup f = some ⟨oc, od, .func (PySem.W.fnX "__init__" "BadRest.__init__" (defArgs s_BadRest___init__) (defBody s_BadRest___init__) (defScope s_BadRest___init__) [("__class__", cc)] .none kV doc pm an (.ref cda) ct), osl⟩) (hcd : PySem.W.codeIn K (.ref cda) "BadRest.__init__" = true)
    (T : SupF P K mg C f cda cc (defScope s_BadRest___init__)) (n1 : PySem.W.findIn K (.ref C) "value" = some none) :
    FnOk P w K mg base CX0 1 f (PySem.W.fnX "__init__" "BadRest.__init__" (defArgs s_BadRest___init__) (defBody s_BadRest___init__) (defScope s_BadRest___init__) [("__class__", cc)] .none kV doc pm an (.ref cda) ct) ["self", "value"] (spErr1 C "value") :=
  okErr1 (g1 := "value") (x := "value") rfl lk hcd T ns_BadRest rfl rfl (fun env _ => ⟨_, rfl⟩) (by decide) (by decide) n1 (fun env _ => rfl)
end K53
end
section
namespace K53
open PySem PySem.Spec PyProof.Rows L2 L3 LamX
theorem fnMk {P : Program} {w : World} {K : PySem.W.Frag} {mg : Str → Option Value} {base : Heap} {CX : CXT} {k : Nat} {x qual : Str} {st : Stmt} {f : Addr} {fd : FuncData} {ps : List Str} {sp : Sp} (F : Fun K x qual st f fd) (ok : FnG P w K mg base CX k f fd ps sp) (m : mg x = some (.ref f))
    (hb : ∀ (kV doc pm : Value) (an : Option Addr) (cdv ct : Value) (us : List Value), us.length = ps.length → bindArgs (PySem.W.fnOf x qual (defArgs st) (defBody st) (defScope st) .none kV doc pm an cdv ct) ⟨us, []⟩ = pure (ps.zip us))
    (hk : ∀ (kV doc pm : Value) (an : Option Addr) (cdv ct : Value) (us : List Value), us.length = ps.length → bindArgs (PySem.W.fnOf x qual (defArgs st) (defBody st) (defScope st) .none kV doc pm an cdv ct) ⟨[], ps.zip us⟩ = pure (ps.zip us)) : Fn P w K mg base CX k x ps sp := by
  have kp := F.kp
  obtain ⟨oc, od, kV, doc, pm, an, cd, ct, sl, rfl, lk, hcd⟩ := F.ex
  exact ⟨⟨f, _, ok, m, kp, .all (hb kV doc pm an cd ct), fun s ws _ hl => .of_eq (hk kV doc pm an cd ct ws hl)⟩⟩
theorem bMk {K : PySem.W.Frag} {x qual : Str} {st : Stmt} {f : Addr} {fd : FuncData} {ps : List Str} (F : Fun K x qual st f fd)
    (hb : ∀ (kV doc pm : Value) (an : Option Addr) (cdv ct : Value) (us : List Value), us.length = ps.length → bindArgs (PySem.W.fnOf x qual (defArgs st) (defBody st) (defScope st) .none kV doc pm an cdv ct) ⟨us, []⟩ = pure (ps.zip us)) : L2.Binds K fd ps [] := by
  obtain ⟨oc, od, kV, doc, pm, an, cd, ct, sl, rfl, lk, hcd⟩ := F.ex
  exact .all (hb kV doc pm an cd ct)
theorem bmMk {K : PySem.W.Frag} {x qual : Str} {st : Stmt} {f : Addr} {fd : FuncData} {c : Str} {ps : List Str} (F : Fun K x qual st f fd)
    (hk : ∀ (kV doc pm : Value) (an : Option Addr) (cdv ct : Value) (a : Value) (us : List Value), us.length = ps.length → bindArgs (PySem.W.fnOf x qual (defArgs st) (defBody st) (defScope st) .none kV doc pm an cdv ct) ⟨[a], ps.zip us⟩ = pure ((c :: ps).zip (a :: us))) : ∀ (s : Shared) (a : Value) (ws : List Value), K.In s.heap → ws.length = ps.length → BindsTo s fd ⟨[a], ps.zip ws⟩ ((c :: ps).zip (a :: ws)) := by
  obtain ⟨oc, od, kV, doc, pm, an, cd, ct, sl, rfl, lk, hcd⟩ := F.ex
  exact fun s a ws _ hl => .of_eq (hk kV doc pm an cd ct a ws hl)
theorem all_mk {l : PySem.W.OpenLaw} {w : World} {K : PySem.W.Frag} {h : Heap} {mg : Str → Option Value} {fa AF AD AL AG CR0 CY CL CS CR CM CE  : Addr} (X : K.In h) (G : h.Ns mainGlobals mg) (hfa : mg "law" = some (.ref fa))
    {f1 : Addr} {od1 an1 : Option Addr} {sl1 : Array (Option Value)} {oc1 kV1 dc1 pm1 cd1 ct1 : Value}
    {f2 : Addr} {od2 an2 : Option Addr} {sl2 : Array (Option Value)} {oc2 kV2 dc2 pm2 cd2 ct2 : Value}
    {f3 : Addr} {od3 an3 : Option Addr} {sl3 : Array (Option Value)} {oc3 kV3 dc3 pm3 cd3 ct3 : Value}
    {f4 : Addr} {od4 an4 : Option Addr} {sl4 : Array (Option Value)} {oc4 kV4 dc4 pm4 cd4 ct4 : Value}
    {f5 : Addr} {od5 an5 : Option Addr} {sl5 : Array (Option Value)} {oc5 kV5 dc5 pm5 cd5 ct5 : Value}
    {f6 : Addr} {od6 an6 : Option Addr} {sl6 : Array (Option Value)} {oc6 kV6 dc6 pm6 cd6 ct6 : Value}
    {f7 : Addr} {od7 an7 : Option Addr} {sl7 : Array (Option Value)} {oc7 kV7 dc7 pm7 cd7 ct7 : Value}
    {f8 : Addr} {od8 an8 : Option Addr} {sl8 : Array (Option Value)} {oc8 kV8 dc8 pm8 cd8 ct8 : Value}
    {f9 : Addr} {od9 an9 : Option Addr} {sl9 : Array (Option Value)} {oc9 kV9 dc9 pm9 cd9 ct9 : Value}
    {f10 : Addr} {od10 an10 : Option Addr} {sl10 : Array (Option Value)} {oc10 kV10 dc10 pm10 cd10 ct10 : Value}
    {f11 : Addr} {od11 an11 : Option Addr} {sl11 : Array (Option Value)} {oc11 kV11 dc11 pm11 cd11 ct11 : Value}
    {f12 : Addr} {od12 an12 : Option Addr} {sl12 : Array (Option Value)} {oc12 kV12 dc12 pm12 cd12 ct12 : Value}
    {f13 : Addr} {od13 an13 : Option Addr} {sl13 : Array (Option Value)} {oc13 kV13 dc13 pm13 cd13 ct13 : Value}
    {f14 : Addr} {od14 an14 : Option Addr} {sl14 : Array (Option Value)} {oc14 kV14 dc14 pm14 cd14 ct14 : Value}
    {f15 : Addr} {od15 an15 : Option Addr} {sl15 : Array (Option Value)} {oc15 kV15 dc15 pm15 cd15 ct15 : Value}
    {f16 : Addr} {od16 an16 : Option Addr} {sl16 : Array (Option Value)} {oc16 kV16 dc16 pm16 cd16 ct16 : Value}
    {f17 : Addr} {od17 an17 : Option Addr} {sl17 : Array (Option Value)} {oc17 kV17 dc17 pm17 cd17 ct17 : Value}
    {f18 : Addr} {od18 an18 : Option Addr} {sl18 : Array (Option Value)} {oc18 kV18 dc18 pm18 cd18 ct18 : Value}
    {f19 : Addr} {od19 an19 : Option Addr} {sl19 : Array (Option Value)} {oc19 kV19 dc19 pm19 cd19 ct19 : Value}
    {f20 : Addr} {od20 an20 : Option Addr} {sl20 : Array (Option Value)} {oc20 kV20 dc20 pm20 cd20 ct20 : Value}
    {f21 : Addr} {od21 an21 : Option Addr} {sl21 : Array (Option Value)} {oc21 kV21 dc21 pm21 cd21 ct21 : Value}
    {f22 : Addr} {od22 an22 : Option Addr} {sl22 : Array (Option Value)} {oc22 kV22 dc22 pm22 cd22 ct22 : Value}
    {f23 : Addr} {od23 an23 : Option Addr} {sl23 : Array (Option Value)} {oc23 kV23 dc23 pm23 cd23 ct23 : Value}
    {f24 : Addr} {od24 an24 : Option Addr} {sl24 : Array (Option Value)} {oc24 kV24 dc24 pm24 cd24 ct24 : Value}
    {f25 : Addr} {od25 an25 : Option Addr} {sl25 : Array (Option Value)} {oc25 kV25 dc25 pm25 cd25 ct25 : Value}
    {f26 : Addr} {od26 an26 : Option Addr} {sl26 : Array (Option Value)} {oc26 kV26 dc26 pm26 cd26 ct26 : Value}
    {f27 : Addr} {od27 an27 : Option Addr} {sl27 : Array (Option Value)} {oc27 kV27 dc27 pm27 cd27 ct27 : Value}
    {f28 : Addr} {od28 an28 : Option Addr} {sl28 : Array (Option Value)} {oc28 kV28 dc28 pm28 cd28 ct28 : Value}
    {f29 : Addr} {od29 an29 : Option Addr} {sl29 : Array (Option Value)} {oc29 kV29 dc29 pm29 cd29 ct29 : Value}
    {f30 : Addr} {od30 an30 : Option Addr} {sl30 : Array (Option Value)} {oc30 kV30 dc30 pm30 cd30 ct30 : Value}
    {g_AF___init__ : Addr} {od_AF___init__ an_AF___init__ : Option Addr} {sl_AF___init__ : Array (Option Value)} {oc_AF___init__ kV_AF___init__ dc_AF___init__ pm_AF___init__ cd_AF___init__ ct_AF___init__ : Value}
    {g_AF_wish : Addr} {od_AF_wish an_AF_wish : Option Addr} {sl_AF_wish : Array (Option Value)} {oc_AF_wish kV_AF_wish dc_AF_wish pm_AF_wish cd_AF_wish ct_AF_wish : Value}
    {g_AF___call__ : Addr} {od_AF___call__ an_AF___call__ : Option Addr} {sl_AF___call__ : Array (Option Value)} {oc_AF___call__ kV_AF___call__ dc_AF___call__ pm_AF___call__ cd_AF___call__ ct_AF___call__ : Value}
    {g_AF___and__ : Addr} {od_AF___and__ an_AF___and__ : Option Addr} {sl_AF___and__ : Array (Option Value)} {oc_AF___and__ kV_AF___and__ dc_AF___and__ pm_AF___and__ cd_AF___and__ ct_AF___and__ : Value}
    {g_AF___or__ : Addr} {od_AF___or__ an_AF___or__ : Option Addr} {sl_AF___or__ : Array (Option Value)} {oc_AF___or__ kV_AF___or__ dc_AF___or__ pm_AF___or__ cd_AF___or__ ct_AF___or__ : Value}
    {g_AD___init__ : Addr} {od_AD___init__ an_AD___init__ : Option Addr} {sl_AD___init__ : Array (Option Value)} {oc_AD___init__ kV_AD___init__ dc_AD___init__ pm_AD___init__ cd_AD___init__ ct_AD___init__ : Value}
    {g_AD_wish : Addr} {od_AD_wish an_AD_wish : Option Addr} {sl_AD_wish : Array (Option Value)} {oc_AD_wish kV_AD_wish dc_AD_wish pm_AD_wish cd_AD_wish ct_AD_wish : Value}
    {g_AD___call__ : Addr} {od_AD___call__ an_AD___call__ : Option Addr} {sl_AD___call__ : Array (Option Value)} {oc_AD___call__ kV_AD___call__ dc_AD___call__ pm_AD___call__ cd_AD___call__ ct_AD___call__ : Value}
    {g_AD___and__ : Addr} {od_AD___and__ an_AD___and__ : Option Addr} {sl_AD___and__ : Array (Option Value)} {oc_AD___and__ kV_AD___and__ dc_AD___and__ pm_AD___and__ cd_AD___and__ ct_AD___and__ : Value}
    {g_AD___or__ : Addr} {od_AD___or__ an_AD___or__ : Option Addr} {sl_AD___or__ : Array (Option Value)} {oc_AD___or__ kV_AD___or__ dc_AD___or__ pm_AD___or__ cd_AD___or__ ct_AD___or__ : Value}
    {g_AL___init__ : Addr} {od_AL___init__ an_AL___init__ : Option Addr} {sl_AL___init__ : Array (Option Value)} {oc_AL___init__ kV_AL___init__ dc_AL___init__ pm_AL___init__ cd_AL___init__ ct_AL___init__ : Value}
    {g_AL_wish : Addr} {od_AL_wish an_AL_wish : Option Addr} {sl_AL_wish : Array (Option Value)} {oc_AL_wish kV_AL_wish dc_AL_wish pm_AL_wish cd_AL_wish ct_AL_wish : Value}
    {g_AL___call__ : Addr} {od_AL___call__ an_AL___call__ : Option Addr} {sl_AL___call__ : Array (Option Value)} {oc_AL___call__ kV_AL___call__ dc_AL___call__ pm_AL___call__ cd_AL___call__ ct_AL___call__ : Value}
    {g_AL___and__ : Addr} {od_AL___and__ an_AL___and__ : Option Addr} {sl_AL___and__ : Array (Option Value)} {oc_AL___and__ kV_AL___and__ dc_AL___and__ pm_AL___and__ cd_AL___and__ ct_AL___and__ : Value}
    {g_AL___or__ : Addr} {od_AL___or__ an_AL___or__ : Option Addr} {sl_AL___or__ : Array (Option Value)} {oc_AL___or__ kV_AL___or__ dc_AL___or__ pm_AL___or__ cd_AL___or__ ct_AL___or__ : Value}
    {g_AG___init__ : Addr} {od_AG___init__ an_AG___init__ : Option Addr} {sl_AG___init__ : Array (Option Value)} {oc_AG___init__ kV_AG___init__ dc_AG___init__ pm_AG___init__ cd_AG___init__ ct_AG___init__ : Value}
    {g_AG_wish : Addr} {od_AG_wish an_AG_wish : Option Addr} {sl_AG_wish : Array (Option Value)} {oc_AG_wish kV_AG_wish dc_AG_wish pm_AG_wish cd_AG_wish ct_AG_wish : Value}
    {g_AG___call__ : Addr} {od_AG___call__ an_AG___call__ : Option Addr} {sl_AG___call__ : Array (Option Value)} {oc_AG___call__ kV_AG___call__ dc_AG___call__ pm_AG___call__ cd_AG___call__ ct_AG___call__ : Value}
    {g_AG___and__ : Addr} {od_AG___and__ an_AG___and__ : Option Addr} {sl_AG___and__ : Array (Option Value)} {oc_AG___and__ kV_AG___and__ dc_AG___and__ pm_AG___and__ cd_AG___and__ ct_AG___and__ : Value}
    {g_AG___or__ : Addr} {od_AG___or__ an_AG___or__ : Option Addr} {sl_AG___or__ : Array (Option Value)} {oc_AG___or__ kV_AG___or__ dc_AG___or__ pm_AG___or__ cd_AG___or__ ct_AG___or__ : Value}
    {g_CY___init__ : Addr} {od_CY___init__ an_CY___init__ : Option Addr} {sl_CY___init__ : Array (Option Value)} {oc_CY___init__ kV_CY___init__ dc_CY___init__ pm_CY___init__ cd_CY___init__ ct_CY___init__ : Value}
    {g_CY___and__ : Addr} {od_CY___and__ an_CY___and__ : Option Addr} {sl_CY___and__ : Array (Option Value)} {oc_CY___and__ kV_CY___and__ dc_CY___and__ pm_CY___and__ cd_CY___and__ ct_CY___and__ : Value}
    {g_CY___or__ : Addr} {od_CY___or__ an_CY___or__ : Option Addr} {sl_CY___or__ : Array (Option Value)} {oc_CY___or__ kV_CY___or__ dc_CY___or__ pm_CY___or__ cd_CY___or__ ct_CY___or__ : Value}
    {fZS ccZS cdZS : Addr} {odZS anZS cldZS cddZS : Option Addr} {slZS cslZS ccsZS : Array (Option Value)} {ocZS kVZS dcZS pmZS ctZS clZS cclZS : Value} {vsZS : Array Value} {fileZS : Str} {tfZS : Tok}
    {fZR ccZR cdZR : Addr} {odZR anZR cldZR cddZR : Option Addr} {slZR cslZR ccsZR : Array (Option Value)} {ocZR kVZR dcZR pmZR ctZR clZR cclZR : Value} {vsZR : Array Value} {fileZR : Str} {tfZR : Tok}
    {fZM ccZM cdZM : Addr} {odZM anZM cldZM cddZM : Option Addr} {slZM cslZM ccsZM : Array (Option Value)} {ocZM kVZM dcZM pmZM ctZM clZM cclZM : Value} {vsZM : Array Value} {fileZM : Str} {tfZM : Tok}
    {fZE ccZE cdZE : Addr} {odZE anZE cldZE cddZE : Option Addr} {slZE cslZE ccsZE : Array (Option Value)} {ocZE kVZE dcZE pmZE ctZE clZE cclZE : Value} {vsZE : Array Value} {fileZE : Str} {tfZE : Tok}
    {tMS tMD tMA tMP tMR : Tok}
    (a1 : PySem.W.nsIn K mainGlobals "is_integer" = some (some (.ref f1)))
    (l1 : K.lookup f1 = some ⟨oc1, od1, .func (PySem.W.fnOf "is_integer" "is_integer" (defArgs s_is_integer) (defBody s_is_integer) (defScope s_is_integer) .none kV1 dc1 pm1 an1 cd1 ct1), sl1⟩)
    (c1 : PySem.W.codeIn K cd1 "is_integer" = true)
    (k1 : PySem.W.keepIn K (.ref f1) = true)
    (a2 : PySem.W.nsIn K mainGlobals "is_within" = some (some (.ref f2)))
    (l2 : K.lookup f2 = some ⟨oc2, od2, .func (PySem.W.fnOf "is_within" "is_within" (defArgs s_is_within) (defBody s_is_within) (defScope s_is_within) .none kV2 dc2 pm2 an2 cd2 ct2), sl2⟩)
    (c2 : PySem.W.codeIn K cd2 "is_within" = true)
    (k2 : PySem.W.keepIn K (.ref f2) = true)
    (a3 : PySem.W.nsIn K mainGlobals "is_size" = some (some (.ref f3)))
    (l3 : K.lookup f3 = some ⟨oc3, od3, .func (PySem.W.fnOf "is_size" "is_size" (defArgs s_is_size) (defBody s_is_size) (defScope s_is_size) .none kV3 dc3 pm3 an3 cd3 ct3), sl3⟩)
    (c3 : PySem.W.codeIn K cd3 "is_size" = true)
    (k3 : PySem.W.keepIn K (.ref f3) = true)
    (a4 : PySem.W.nsIn K mainGlobals "need_rest" = some (some (.ref f4)))
    (l4 : K.lookup f4 = some ⟨oc4, od4, .func (PySem.W.fnOf "need_rest" "need_rest" (defArgs s_need_rest) (defBody s_need_rest) (defScope s_need_rest) .none kV4 dc4 pm4 an4 cd4 ct4), sl4⟩)
    (c4 : PySem.W.codeIn K cd4 "need_rest" = true)
    (k4 : PySem.W.keepIn K (.ref f4) = true)
    (a5 : PySem.W.nsIn K mainGlobals "cut_to" = some (some (.ref f5)))
    (l5 : K.lookup f5 = some ⟨oc5, od5, .func (PySem.W.fnOf "cut_to" "cut_to" (defArgs s_cut_to) (defBody s_cut_to) (defScope s_cut_to) .none kV5 dc5 pm5 an5 cd5 ct5), sl5⟩)
    (c5 : PySem.W.codeIn K cd5 "cut_to" = true)
    (k5 : PySem.W.keepIn K (.ref f5) = true)
    (a6 : PySem.W.nsIn K mainGlobals "is_joinable" = some (some (.ref f6)))
    (l6 : K.lookup f6 = some ⟨oc6, od6, .func (PySem.W.fnOf "is_joinable" "is_joinable" (defArgs s_is_joinable) (defBody s_is_joinable) (defScope s_is_joinable) .none kV6 dc6 pm6 an6 cd6 ct6), sl6⟩)
    (c6 : PySem.W.codeIn K cd6 "is_joinable" = true)
    (k6 : PySem.W.keepIn K (.ref f6) = true)
    (a7 : PySem.W.nsIn K mainGlobals "need_joined" = some (some (.ref f7)))
    (l7 : K.lookup f7 = some ⟨oc7, od7, .func (PySem.W.fnOf "need_joined" "need_joined" (defArgs s_need_joined) (defBody s_need_joined) (defScope s_need_joined) .none kV7 dc7 pm7 an7 cd7 ct7), sl7⟩)
    (c7 : PySem.W.codeIn K cd7 "need_joined" = true)
    (k7 : PySem.W.keepIn K (.ref f7) = true)
    (a8 : PySem.W.nsIn K mainGlobals "need_sides" = some (some (.ref f8)))
    (l8 : K.lookup f8 = some ⟨oc8, od8, .func (PySem.W.fnOf "need_sides" "need_sides" (defArgs s_need_sides) (defBody s_need_sides) (defScope s_need_sides) .none kV8 dc8 pm8 an8 cd8 ct8), sl8⟩)
    (c8 : PySem.W.codeIn K cd8 "need_sides" = true)
    (k8 : PySem.W.keepIn K (.ref f8) = true)
    (a9 : PySem.W.nsIn K mainGlobals "need_rule" = some (some (.ref f9)))
    (l9 : K.lookup f9 = some ⟨oc9, od9, .func (PySem.W.fnOf "need_rule" "need_rule" (defArgs s_need_rule) (defBody s_need_rule) (defScope s_need_rule) .none kV9 dc9 pm9 an9 cd9 ct9), sl9⟩)
    (c9 : PySem.W.codeIn K cd9 "need_rule" = true)
    (k9 : PySem.W.keepIn K (.ref f9) = true)
    (a10 : PySem.W.nsIn K mainGlobals "first_quotient" = some (some (.ref f10)))
    (l10 : K.lookup f10 = some ⟨oc10, od10, .func (PySem.W.fnOf "first_quotient" "first_quotient" (defArgs s_first_quotient) (defBody s_first_quotient) (defScope s_first_quotient) .none kV10 dc10 pm10 an10 cd10 ct10), sl10⟩)
    (c10 : PySem.W.codeIn K cd10 "first_quotient" = true)
    (k10 : PySem.W.keepIn K (.ref f10) = true)
    (a11 : PySem.W.nsIn K mainGlobals "line_of" = some (some (.ref f11)))
    (l11 : K.lookup f11 = some ⟨oc11, od11, .func (PySem.W.fnOf "line_of" "line_of" (defArgs s_line_of) (defBody s_line_of) (defScope s_line_of) .none kV11 dc11 pm11 an11 cd11 ct11), sl11⟩)
    (c11 : PySem.W.codeIn K cd11 "line_of" = true)
    (k11 : PySem.W.keepIn K (.ref f11) = true)
    (a12 : PySem.W.nsIn K mainGlobals "lines_of" = some (some (.ref f12)))
    (l12 : K.lookup f12 = some ⟨oc12, od12, .func (PySem.W.fnOf "lines_of" "lines_of" (defArgs s_lines_of) (defBody s_lines_of) (defScope s_lines_of) .none kV12 dc12 pm12 an12 cd12 ct12), sl12⟩)
    (c12 : PySem.W.codeIn K cd12 "lines_of" = true)
    (k12 : PySem.W.keepIn K (.ref f12) = true)
    (a13 : PySem.W.nsIn K mainGlobals "turns_of" = some (some (.ref f13)))
    (l13 : K.lookup f13 = some ⟨oc13, od13, .func (PySem.W.fnOf "turns_of" "turns_of" (defArgs s_turns_of) (defBody s_turns_of) (defScope s_turns_of) .none kV13 dc13 pm13 an13 cd13 ct13), sl13⟩)
    (c13 : PySem.W.codeIn K cd13 "turns_of" = true)
    (k13 : PySem.W.keepIn K (.ref f13) = true)
    (a14 : PySem.W.nsIn K mainGlobals "size_at" = some (some (.ref f14)))
    (l14 : K.lookup f14 = some ⟨oc14, od14, .func (PySem.W.fnOf "size_at" "size_at" (defArgs s_size_at) (defBody s_size_at) (defScope s_size_at) .none kV14 dc14 pm14 an14 cd14 ct14), sl14⟩)
    (c14 : PySem.W.codeIn K cd14 "size_at" = true)
    (k14 : PySem.W.keepIn K (.ref f14) = true)
    (a15 : PySem.W.nsIn K mainGlobals "piece_from" = some (some (.ref f15)))
    (l15 : K.lookup f15 = some ⟨oc15, od15, .func (PySem.W.fnOf "piece_from" "piece_from" (defArgs s_piece_from) (defBody s_piece_from) (defScope s_piece_from) .none kV15 dc15 pm15 an15 cd15 ct15), sl15⟩)
    (c15 : PySem.W.codeIn K cd15 "piece_from" = true)
    (k15 : PySem.W.keepIn K (.ref f15) = true)
    (a16 : PySem.W.nsIn K mainGlobals "is_on" = some (some (.ref f16)))
    (l16 : K.lookup f16 = some ⟨oc16, od16, .func (PySem.W.fnOf "is_on" "is_on" (defArgs s_is_on) (defBody s_is_on) (defScope s_is_on) .none kV16 dc16 pm16 an16 cd16 ct16), sl16⟩)
    (c16 : PySem.W.codeIn K cd16 "is_on" = true)
    (k16 : PySem.W.keepIn K (.ref f16) = true)
    (a17 : PySem.W.nsIn K mainGlobals "end_of" = some (some (.ref f17)))
    (l17 : K.lookup f17 = some ⟨oc17, od17, .func (PySem.W.fnOf "end_of" "end_of" (defArgs s_end_of) (defBody s_end_of) (defScope s_end_of) .none kV17 dc17 pm17 an17 cd17 ct17), sl17⟩)
    (c17 : PySem.W.codeIn K cd17 "end_of" = true)
    (k17 : PySem.W.keepIn K (.ref f17) = true)
    (a18 : PySem.W.nsIn K mainGlobals "pieces_at" = some (some (.ref f18)))
    (l18 : K.lookup f18 = some ⟨oc18, od18, .func (PySem.W.fnOf "pieces_at" "pieces_at" (defArgs s_pieces_at) (defBody s_pieces_at) (defScope s_pieces_at) .none kV18 dc18 pm18 an18 cd18 ct18), sl18⟩)
    (c18 : PySem.W.codeIn K cd18 "pieces_at" = true)
    (k18 : PySem.W.keepIn K (.ref f18) = true)
    (a19 : PySem.W.nsIn K mainGlobals "pieces" = some (some (.ref f19)))
    (l19 : K.lookup f19 = some ⟨oc19, od19, .func (PySem.W.fnOf "pieces" "pieces" (defArgs s_pieces) (defBody s_pieces) (defScope s_pieces) .none kV19 dc19 pm19 an19 cd19 ct19), sl19⟩)
    (c19 : PySem.W.codeIn K cd19 "pieces" = true)
    (k19 : PySem.W.keepIn K (.ref f19) = true)
    (a20 : PySem.W.nsIn K mainGlobals "_law_pen" = some (some (.ref f20)))
    (l20 : K.lookup f20 = some ⟨oc20, od20, .func (PySem.W.fnOf "_law_pen" "_law_pen" (defArgs s__law_pen) (defBody s__law_pen) (defScope s__law_pen) .none kV20 dc20 pm20 an20 cd20 ct20), sl20⟩)
    (c20 : PySem.W.codeIn K cd20 "_law_pen" = true)
    (k20 : PySem.W.keepIn K (.ref f20) = true)
    (a21 : PySem.W.nsIn K mainGlobals "_law_draw" = some (some (.ref f21)))
    (l21 : K.lookup f21 = some ⟨oc21, od21, .func (PySem.W.fnOf "_law_draw" "_law_draw" (defArgs s__law_draw) (defBody s__law_draw) (defScope s__law_draw) .none kV21 dc21 pm21 an21 cd21 ct21), sl21⟩)
    (c21 : PySem.W.codeIn K cd21 "_law_draw" = true)
    (k21 : PySem.W.keepIn K (.ref f21) = true)
    (a22 : PySem.W.nsIn K mainGlobals "_law_pick" = some (some (.ref f22)))
    (l22 : K.lookup f22 = some ⟨oc22, od22, .func (PySem.W.fnOf "_law_pick" "_law_pick" (defArgs s__law_pick) (defBody s__law_pick) (defScope s__law_pick) .none kV22 dc22 pm22 an22 cd22 ct22), sl22⟩)
    (c22 : PySem.W.codeIn K cd22 "_law_pick" = true)
    (k22 : PySem.W.keepIn K (.ref f22) = true)
    (a23 : PySem.W.nsIn K mainGlobals "_law_far" = some (some (.ref f23)))
    (l23 : K.lookup f23 = some ⟨oc23, od23, .func (PySem.W.fnOf "_law_far" "_law_far" (defArgs s__law_far) (defBody s__law_far) (defScope s__law_far) .none kV23 dc23 pm23 an23 cd23 ct23), sl23⟩)
    (c23 : PySem.W.codeIn K cd23 "_law_far" = true)
    (k23 : PySem.W.keepIn K (.ref f23) = true)
    (a24 : PySem.W.nsIn K mainGlobals "_law_rule" = some (some (.ref f24)))
    (l24 : K.lookup f24 = some ⟨oc24, od24, .func (PySem.W.fnOf "_law_rule" "_law_rule" (defArgs s__law_rule) (defBody s__law_rule) (defScope s__law_rule) .none kV24 dc24 pm24 an24 cd24 ct24), sl24⟩)
    (c24 : PySem.W.codeIn K cd24 "_law_rule" = true)
    (k24 : PySem.W.keepIn K (.ref f24) = true)
    (a25 : PySem.W.nsIn K mainGlobals "_law_wish" = some (some (.ref f25)))
    (l25 : K.lookup f25 = some ⟨oc25, od25, .func (PySem.W.fnOf "_law_wish" "_law_wish" (defArgs s__law_wish) (defBody s__law_wish) (defScope s__law_wish) .none kV25 dc25 pm25 an25 cd25 ct25), sl25⟩)
    (c25 : PySem.W.codeIn K cd25 "_law_wish" = true)
    (k25 : PySem.W.keepIn K (.ref f25) = true)
    (a26 : PySem.W.nsIn K mainGlobals "_law_modulus" = some (some (.ref f26)))
    (l26 : K.lookup f26 = some ⟨oc26, od26, .func (PySem.W.fnOf "_law_modulus" "_law_modulus" (defArgs s__law_modulus) (defBody s__law_modulus) (defScope s__law_modulus) .none kV26 dc26 pm26 an26 cd26 ct26), sl26⟩)
    (c26 : PySem.W.codeIn K cd26 "_law_modulus" = true)
    (k26 : PySem.W.keepIn K (.ref f26) = true)
    (a27 : PySem.W.nsIn K mainGlobals "_law_size" = some (some (.ref f27)))
    (l27 : K.lookup f27 = some ⟨oc27, od27, .func (PySem.W.fnOf "_law_size" "_law_size" (defArgs s__law_size) (defBody s__law_size) (defScope s__law_size) .none kV27 dc27 pm27 an27 cd27 ct27), sl27⟩)
    (c27 : PySem.W.codeIn K cd27 "_law_size" = true)
    (k27 : PySem.W.keepIn K (.ref f27) = true)
    (a28 : PySem.W.nsIn K mainGlobals "_law_row_right" = some (some (.ref f28)))
    (l28 : K.lookup f28 = some ⟨oc28, od28, .func (PySem.W.fnOf "_law_row_right" "_law_row_right" (defArgs s__law_row_right) (defBody s__law_row_right) (defScope s__law_row_right) .none kV28 dc28 pm28 an28 cd28 ct28), sl28⟩)
    (c28 : PySem.W.codeIn K cd28 "_law_row_right" = true)
    (k28 : PySem.W.keepIn K (.ref f28) = true)
    (a29 : PySem.W.nsIn K mainGlobals "_law_right" = some (some (.ref f29)))
    (l29 : K.lookup f29 = some ⟨oc29, od29, .func (PySem.W.fnOf "_law_right" "_law_right" (defArgs s__law_right) (defBody s__law_right) (defScope s__law_right) .none kV29 dc29 pm29 an29 cd29 ct29), sl29⟩)
    (c29 : PySem.W.codeIn K cd29 "_law_right" = true)
    (k29 : PySem.W.keepIn K (.ref f29) = true)
    (a30 : PySem.W.nsIn K mainGlobals "law" = some (some (.ref f30)))
    (l30 : K.lookup f30 = some ⟨oc30, od30, .func (PySem.W.fnOf "law" "law" (defArgs s_law) (defBody s_law) (defScope s_law) .none kV30 dc30 pm30 an30 cd30 ct30), sl30⟩)
    (c30 : PySem.W.codeIn K cd30 "law" = true)
    (k30 : PySem.W.keepIn K (.ref f30) = true)
    (a_AF : PySem.W.nsIn K mainGlobals "Fixed" = some (some (.ref AF)))
    (a_AF___init__ : PySem.W.findIn K (.ref AF) "__init__" = some (some (.ref g_AF___init__)))
    (l_AF___init__ : K.lookup g_AF___init__ = some ⟨oc_AF___init__, od_AF___init__, .func (PySem.W.fnOf "__init__" "Fixed.__init__" (defArgs s_Fixed___init__) (defBody s_Fixed___init__) (defScope s_Fixed___init__) .none kV_AF___init__ dc_AF___init__ pm_AF___init__ an_AF___init__ cd_AF___init__ ct_AF___init__), sl_AF___init__⟩)
    (c_AF___init__ : PySem.W.codeIn K cd_AF___init__ "Fixed.__init__" = true)
    (k_AF___init__ : PySem.W.keepIn K (.ref g_AF___init__) = true)
    (i_AF___init__ : PySem.W.isFn K (.ref g_AF___init__) = true)
    (a_AF_wish : PySem.W.findIn K (.ref AF) "wish" = some (some (.ref g_AF_wish)))
    (l_AF_wish : K.lookup g_AF_wish = some ⟨oc_AF_wish, od_AF_wish, .func (PySem.W.fnOf "wish" "Fixed.wish" (defArgs s_Fixed_wish) (defBody s_Fixed_wish) (defScope s_Fixed_wish) .none kV_AF_wish dc_AF_wish pm_AF_wish an_AF_wish cd_AF_wish ct_AF_wish), sl_AF_wish⟩)
    (c_AF_wish : PySem.W.codeIn K cd_AF_wish "Fixed.wish" = true)
    (k_AF_wish : PySem.W.keepIn K (.ref g_AF_wish) = true)
    (i_AF_wish : PySem.W.isFn K (.ref g_AF_wish) = true)
    (a_AF___call__ : PySem.W.findIn K (.ref AF) "__call__" = some (some (.ref g_AF___call__)))
    (l_AF___call__ : K.lookup g_AF___call__ = some ⟨oc_AF___call__, od_AF___call__, .func (PySem.W.fnOf "__call__" "Fixed.__call__" (defArgs s_Fixed___call__) (defBody s_Fixed___call__) (defScope s_Fixed___call__) .none kV_AF___call__ dc_AF___call__ pm_AF___call__ an_AF___call__ cd_AF___call__ ct_AF___call__), sl_AF___call__⟩)
    (c_AF___call__ : PySem.W.codeIn K cd_AF___call__ "Fixed.__call__" = true)
    (k_AF___call__ : PySem.W.keepIn K (.ref g_AF___call__) = true)
    (i_AF___call__ : PySem.W.isFn K (.ref g_AF___call__) = true)
    (a_AF___and__ : PySem.W.findIn K (.ref AF) "__and__" = some (some (.ref g_AF___and__)))
    (l_AF___and__ : K.lookup g_AF___and__ = some ⟨oc_AF___and__, od_AF___and__, .func (PySem.W.fnOf "__and__" "Fixed.__and__" (defArgs s_Fixed___and__) (defBody s_Fixed___and__) (defScope s_Fixed___and__) .none kV_AF___and__ dc_AF___and__ pm_AF___and__ an_AF___and__ cd_AF___and__ ct_AF___and__), sl_AF___and__⟩)
    (c_AF___and__ : PySem.W.codeIn K cd_AF___and__ "Fixed.__and__" = true)
    (k_AF___and__ : PySem.W.keepIn K (.ref g_AF___and__) = true)
    (i_AF___and__ : PySem.W.isFn K (.ref g_AF___and__) = true)
    (a_AF___or__ : PySem.W.findIn K (.ref AF) "__or__" = some (some (.ref g_AF___or__)))
    (l_AF___or__ : K.lookup g_AF___or__ = some ⟨oc_AF___or__, od_AF___or__, .func (PySem.W.fnOf "__or__" "Fixed.__or__" (defArgs s_Fixed___or__) (defBody s_Fixed___or__) (defScope s_Fixed___or__) .none kV_AF___or__ dc_AF___or__ pm_AF___or__ an_AF___or__ cd_AF___or__ ct_AF___or__), sl_AF___or__⟩)
    (c_AF___or__ : PySem.W.codeIn K cd_AF___or__ "Fixed.__or__" = true)
    (k_AF___or__ : PySem.W.keepIn K (.ref g_AF___or__) = true)
    (i_AF___or__ : PySem.W.isFn K (.ref g_AF___or__) = true)
    (mk_AF : PySem.W.makesIn K AF = true)
    (pg_AF : PySem.W.plainGet K AF Str.empty = true)
    (hd_AF : PySem.W.hasDictIn K AF = true)
    (po_AF : PySem.W.plainOver K AF = true)
    (sa_AF : PySem.W.findIn K (.ref AF) "__setattr__" = some (some (.builtin "object.__setattr__")))
    (kc_AF : PySem.W.keepIn K (.ref AF) = true)
    (ya_AF : PySem.W.findIn K (.ref AF) "__class__" = some (some (.builtin "object.__class__")))
    (yb : PySem.W.specialIn K (.builtin "object.__class__") "__get__" = some (some (.builtin "getset_descriptor.__get__")))
    (yc : PySem.W.takesIn K (.builtin "object.__class__") = some true)
    (yd_AF : PySem.W.mroIn K AF (.type "object") = some true)
    (yk_AF : PySem.W.kitOne K (.ref AF) (.ref AF) = some true)
    (n_AF_size : PySem.W.findIn K (.ref AF) "size" = some none)
    (n_AF_modulus : PySem.W.findIn K (.ref AF) "modulus" = some none)
    (n_AF_parts : PySem.W.findIn K (.ref AF) "parts" = some none)
    (a_AD : PySem.W.nsIn K mainGlobals "Divided" = some (some (.ref AD)))
    (a_AD___init__ : PySem.W.findIn K (.ref AD) "__init__" = some (some (.ref g_AD___init__)))
    (l_AD___init__ : K.lookup g_AD___init__ = some ⟨oc_AD___init__, od_AD___init__, .func (PySem.W.fnOf "__init__" "Divided.__init__" (defArgs s_Divided___init__) (defBody s_Divided___init__) (defScope s_Divided___init__) .none kV_AD___init__ dc_AD___init__ pm_AD___init__ an_AD___init__ cd_AD___init__ ct_AD___init__), sl_AD___init__⟩)
    (c_AD___init__ : PySem.W.codeIn K cd_AD___init__ "Divided.__init__" = true)
    (k_AD___init__ : PySem.W.keepIn K (.ref g_AD___init__) = true)
    (i_AD___init__ : PySem.W.isFn K (.ref g_AD___init__) = true)
    (a_AD_wish : PySem.W.findIn K (.ref AD) "wish" = some (some (.ref g_AD_wish)))
    (l_AD_wish : K.lookup g_AD_wish = some ⟨oc_AD_wish, od_AD_wish, .func (PySem.W.fnOf "wish" "Divided.wish" (defArgs s_Divided_wish) (defBody s_Divided_wish) (defScope s_Divided_wish) .none kV_AD_wish dc_AD_wish pm_AD_wish an_AD_wish cd_AD_wish ct_AD_wish), sl_AD_wish⟩)
    (c_AD_wish : PySem.W.codeIn K cd_AD_wish "Divided.wish" = true)
    (k_AD_wish : PySem.W.keepIn K (.ref g_AD_wish) = true)
    (i_AD_wish : PySem.W.isFn K (.ref g_AD_wish) = true)
    (a_AD___call__ : PySem.W.findIn K (.ref AD) "__call__" = some (some (.ref g_AD___call__)))
    (l_AD___call__ : K.lookup g_AD___call__ = some ⟨oc_AD___call__, od_AD___call__, .func (PySem.W.fnOf "__call__" "Divided.__call__" (defArgs s_Divided___call__) (defBody s_Divided___call__) (defScope s_Divided___call__) .none kV_AD___call__ dc_AD___call__ pm_AD___call__ an_AD___call__ cd_AD___call__ ct_AD___call__), sl_AD___call__⟩)
    (c_AD___call__ : PySem.W.codeIn K cd_AD___call__ "Divided.__call__" = true)
    (k_AD___call__ : PySem.W.keepIn K (.ref g_AD___call__) = true)
    (i_AD___call__ : PySem.W.isFn K (.ref g_AD___call__) = true)
    (a_AD___and__ : PySem.W.findIn K (.ref AD) "__and__" = some (some (.ref g_AD___and__)))
    (l_AD___and__ : K.lookup g_AD___and__ = some ⟨oc_AD___and__, od_AD___and__, .func (PySem.W.fnOf "__and__" "Divided.__and__" (defArgs s_Divided___and__) (defBody s_Divided___and__) (defScope s_Divided___and__) .none kV_AD___and__ dc_AD___and__ pm_AD___and__ an_AD___and__ cd_AD___and__ ct_AD___and__), sl_AD___and__⟩)
    (c_AD___and__ : PySem.W.codeIn K cd_AD___and__ "Divided.__and__" = true)
    (k_AD___and__ : PySem.W.keepIn K (.ref g_AD___and__) = true)
    (i_AD___and__ : PySem.W.isFn K (.ref g_AD___and__) = true)
    (a_AD___or__ : PySem.W.findIn K (.ref AD) "__or__" = some (some (.ref g_AD___or__)))
    (l_AD___or__ : K.lookup g_AD___or__ = some ⟨oc_AD___or__, od_AD___or__, .func (PySem.W.fnOf "__or__" "Divided.__or__" (defArgs s_Divided___or__) (defBody s_Divided___or__) (defScope s_Divided___or__) .none kV_AD___or__ dc_AD___or__ pm_AD___or__ an_AD___or__ cd_AD___or__ ct_AD___or__), sl_AD___or__⟩)
    (c_AD___or__ : PySem.W.codeIn K cd_AD___or__ "Divided.__or__" = true)
    (k_AD___or__ : PySem.W.keepIn K (.ref g_AD___or__) = true)
    (i_AD___or__ : PySem.W.isFn K (.ref g_AD___or__) = true)
    (mk_AD : PySem.W.makesIn K AD = true)
    (pg_AD : PySem.W.plainGet K AD Str.empty = true)
    (hd_AD : PySem.W.hasDictIn K AD = true)
    (po_AD : PySem.W.plainOver K AD = true)
    (sa_AD : PySem.W.findIn K (.ref AD) "__setattr__" = some (some (.builtin "object.__setattr__")))
    (kc_AD : PySem.W.keepIn K (.ref AD) = true)
    (ya_AD : PySem.W.findIn K (.ref AD) "__class__" = some (some (.builtin "object.__class__")))
    (yd_AD : PySem.W.mroIn K AD (.type "object") = some true)
    (yk_AD : PySem.W.kitOne K (.ref AD) (.ref AD) = some true)
    (n_AD_x : PySem.W.findIn K (.ref AD) "x" = some none)
    (n_AD_y : PySem.W.findIn K (.ref AD) "y" = some none)
    (n_AD_w : PySem.W.findIn K (.ref AD) "w" = some none)
    (n_AD_modulus : PySem.W.findIn K (.ref AD) "modulus" = some none)
    (n_AD_parts : PySem.W.findIn K (.ref AD) "parts" = some none)
    (a_AL : PySem.W.nsIn K mainGlobals "Lesser" = some (some (.ref AL)))
    (a_AL___init__ : PySem.W.findIn K (.ref AL) "__init__" = some (some (.ref g_AL___init__)))
    (l_AL___init__ : K.lookup g_AL___init__ = some ⟨oc_AL___init__, od_AL___init__, .func (PySem.W.fnOf "__init__" "Lesser.__init__" (defArgs s_Lesser___init__) (defBody s_Lesser___init__) (defScope s_Lesser___init__) .none kV_AL___init__ dc_AL___init__ pm_AL___init__ an_AL___init__ cd_AL___init__ ct_AL___init__), sl_AL___init__⟩)
    (c_AL___init__ : PySem.W.codeIn K cd_AL___init__ "Lesser.__init__" = true)
    (k_AL___init__ : PySem.W.keepIn K (.ref g_AL___init__) = true)
    (i_AL___init__ : PySem.W.isFn K (.ref g_AL___init__) = true)
    (a_AL_wish : PySem.W.findIn K (.ref AL) "wish" = some (some (.ref g_AL_wish)))
    (l_AL_wish : K.lookup g_AL_wish = some ⟨oc_AL_wish, od_AL_wish, .func (PySem.W.fnOf "wish" "Lesser.wish" (defArgs s_Lesser_wish) (defBody s_Lesser_wish) (defScope s_Lesser_wish) .none kV_AL_wish dc_AL_wish pm_AL_wish an_AL_wish cd_AL_wish ct_AL_wish), sl_AL_wish⟩)
    (c_AL_wish : PySem.W.codeIn K cd_AL_wish "Lesser.wish" = true)
    (k_AL_wish : PySem.W.keepIn K (.ref g_AL_wish) = true)
    (i_AL_wish : PySem.W.isFn K (.ref g_AL_wish) = true)
    (a_AL___call__ : PySem.W.findIn K (.ref AL) "__call__" = some (some (.ref g_AL___call__)))
    (l_AL___call__ : K.lookup g_AL___call__ = some ⟨oc_AL___call__, od_AL___call__, .func (PySem.W.fnOf "__call__" "Lesser.__call__" (defArgs s_Lesser___call__) (defBody s_Lesser___call__) (defScope s_Lesser___call__) .none kV_AL___call__ dc_AL___call__ pm_AL___call__ an_AL___call__ cd_AL___call__ ct_AL___call__), sl_AL___call__⟩)
    (c_AL___call__ : PySem.W.codeIn K cd_AL___call__ "Lesser.__call__" = true)
    (k_AL___call__ : PySem.W.keepIn K (.ref g_AL___call__) = true)
    (i_AL___call__ : PySem.W.isFn K (.ref g_AL___call__) = true)
    (a_AL___and__ : PySem.W.findIn K (.ref AL) "__and__" = some (some (.ref g_AL___and__)))
    (l_AL___and__ : K.lookup g_AL___and__ = some ⟨oc_AL___and__, od_AL___and__, .func (PySem.W.fnOf "__and__" "Lesser.__and__" (defArgs s_Lesser___and__) (defBody s_Lesser___and__) (defScope s_Lesser___and__) .none kV_AL___and__ dc_AL___and__ pm_AL___and__ an_AL___and__ cd_AL___and__ ct_AL___and__), sl_AL___and__⟩)
    (c_AL___and__ : PySem.W.codeIn K cd_AL___and__ "Lesser.__and__" = true)
    (k_AL___and__ : PySem.W.keepIn K (.ref g_AL___and__) = true)
    (i_AL___and__ : PySem.W.isFn K (.ref g_AL___and__) = true)
    (a_AL___or__ : PySem.W.findIn K (.ref AL) "__or__" = some (some (.ref g_AL___or__)))
    (l_AL___or__ : K.lookup g_AL___or__ = some ⟨oc_AL___or__, od_AL___or__, .func (PySem.W.fnOf "__or__" "Lesser.__or__" (defArgs s_Lesser___or__) (defBody s_Lesser___or__) (defScope s_Lesser___or__) .none kV_AL___or__ dc_AL___or__ pm_AL___or__ an_AL___or__ cd_AL___or__ ct_AL___or__), sl_AL___or__⟩)
    (c_AL___or__ : PySem.W.codeIn K cd_AL___or__ "Lesser.__or__" = true)
    (k_AL___or__ : PySem.W.keepIn K (.ref g_AL___or__) = true)
    (i_AL___or__ : PySem.W.isFn K (.ref g_AL___or__) = true)
    (mk_AL : PySem.W.makesIn K AL = true)
    (pg_AL : PySem.W.plainGet K AL Str.empty = true)
    (hd_AL : PySem.W.hasDictIn K AL = true)
    (po_AL : PySem.W.plainOver K AL = true)
    (sa_AL : PySem.W.findIn K (.ref AL) "__setattr__" = some (some (.builtin "object.__setattr__")))
    (kc_AL : PySem.W.keepIn K (.ref AL) = true)
    (ya_AL : PySem.W.findIn K (.ref AL) "__class__" = some (some (.builtin "object.__class__")))
    (yd_AL : PySem.W.mroIn K AL (.type "object") = some true)
    (yk_AL : PySem.W.kitOne K (.ref AL) (.ref AL) = some true)
    (n_AL_one : PySem.W.findIn K (.ref AL) "one" = some none)
    (n_AL_other : PySem.W.findIn K (.ref AL) "other" = some none)
    (n_AL_modulus : PySem.W.findIn K (.ref AL) "modulus" = some none)
    (n_AL_parts : PySem.W.findIn K (.ref AL) "parts" = some none)
    (a_AG : PySem.W.nsIn K mainGlobals "Greater" = some (some (.ref AG)))
    (a_AG___init__ : PySem.W.findIn K (.ref AG) "__init__" = some (some (.ref g_AG___init__)))
    (l_AG___init__ : K.lookup g_AG___init__ = some ⟨oc_AG___init__, od_AG___init__, .func (PySem.W.fnOf "__init__" "Greater.__init__" (defArgs s_Greater___init__) (defBody s_Greater___init__) (defScope s_Greater___init__) .none kV_AG___init__ dc_AG___init__ pm_AG___init__ an_AG___init__ cd_AG___init__ ct_AG___init__), sl_AG___init__⟩)
    (c_AG___init__ : PySem.W.codeIn K cd_AG___init__ "Greater.__init__" = true)
    (k_AG___init__ : PySem.W.keepIn K (.ref g_AG___init__) = true)
    (i_AG___init__ : PySem.W.isFn K (.ref g_AG___init__) = true)
    (a_AG_wish : PySem.W.findIn K (.ref AG) "wish" = some (some (.ref g_AG_wish)))
    (l_AG_wish : K.lookup g_AG_wish = some ⟨oc_AG_wish, od_AG_wish, .func (PySem.W.fnOf "wish" "Greater.wish" (defArgs s_Greater_wish) (defBody s_Greater_wish) (defScope s_Greater_wish) .none kV_AG_wish dc_AG_wish pm_AG_wish an_AG_wish cd_AG_wish ct_AG_wish), sl_AG_wish⟩)
    (c_AG_wish : PySem.W.codeIn K cd_AG_wish "Greater.wish" = true)
    (k_AG_wish : PySem.W.keepIn K (.ref g_AG_wish) = true)
    (i_AG_wish : PySem.W.isFn K (.ref g_AG_wish) = true)
    (a_AG___call__ : PySem.W.findIn K (.ref AG) "__call__" = some (some (.ref g_AG___call__)))
    (l_AG___call__ : K.lookup g_AG___call__ = some ⟨oc_AG___call__, od_AG___call__, .func (PySem.W.fnOf "__call__" "Greater.__call__" (defArgs s_Greater___call__) (defBody s_Greater___call__) (defScope s_Greater___call__) .none kV_AG___call__ dc_AG___call__ pm_AG___call__ an_AG___call__ cd_AG___call__ ct_AG___call__), sl_AG___call__⟩)
    (c_AG___call__ : PySem.W.codeIn K cd_AG___call__ "Greater.__call__" = true)
    (k_AG___call__ : PySem.W.keepIn K (.ref g_AG___call__) = true)
    (i_AG___call__ : PySem.W.isFn K (.ref g_AG___call__) = true)
    (a_AG___and__ : PySem.W.findIn K (.ref AG) "__and__" = some (some (.ref g_AG___and__)))
    (l_AG___and__ : K.lookup g_AG___and__ = some ⟨oc_AG___and__, od_AG___and__, .func (PySem.W.fnOf "__and__" "Greater.__and__" (defArgs s_Greater___and__) (defBody s_Greater___and__) (defScope s_Greater___and__) .none kV_AG___and__ dc_AG___and__ pm_AG___and__ an_AG___and__ cd_AG___and__ ct_AG___and__), sl_AG___and__⟩)
    (c_AG___and__ : PySem.W.codeIn K cd_AG___and__ "Greater.__and__" = true)
    (k_AG___and__ : PySem.W.keepIn K (.ref g_AG___and__) = true)
    (i_AG___and__ : PySem.W.isFn K (.ref g_AG___and__) = true)
    (a_AG___or__ : PySem.W.findIn K (.ref AG) "__or__" = some (some (.ref g_AG___or__)))
    (l_AG___or__ : K.lookup g_AG___or__ = some ⟨oc_AG___or__, od_AG___or__, .func (PySem.W.fnOf "__or__" "Greater.__or__" (defArgs s_Greater___or__) (defBody s_Greater___or__) (defScope s_Greater___or__) .none kV_AG___or__ dc_AG___or__ pm_AG___or__ an_AG___or__ cd_AG___or__ ct_AG___or__), sl_AG___or__⟩)
    (c_AG___or__ : PySem.W.codeIn K cd_AG___or__ "Greater.__or__" = true)
    (k_AG___or__ : PySem.W.keepIn K (.ref g_AG___or__) = true)
    (i_AG___or__ : PySem.W.isFn K (.ref g_AG___or__) = true)
    (mk_AG : PySem.W.makesIn K AG = true)
    (pg_AG : PySem.W.plainGet K AG Str.empty = true)
    (hd_AG : PySem.W.hasDictIn K AG = true)
    (po_AG : PySem.W.plainOver K AG = true)
    (sa_AG : PySem.W.findIn K (.ref AG) "__setattr__" = some (some (.builtin "object.__setattr__")))
    (kc_AG : PySem.W.keepIn K (.ref AG) = true)
    (ya_AG : PySem.W.findIn K (.ref AG) "__class__" = some (some (.builtin "object.__class__")))
    (yd_AG : PySem.W.mroIn K AG (.type "object") = some true)
    (yk_AG : PySem.W.kitOne K (.ref AG) (.ref AG) = some true)
    (n_AG_one : PySem.W.findIn K (.ref AG) "one" = some none)
    (n_AG_other : PySem.W.findIn K (.ref AG) "other" = some none)
    (n_AG_modulus : PySem.W.findIn K (.ref AG) "modulus" = some none)
    (n_AG_parts : PySem.W.findIn K (.ref AG) "parts" = some none)
    (a_CY : PySem.W.nsIn K mainGlobals "By" = some (some (.ref CY)))
    (a_CY___init__ : PySem.W.findIn K (.ref CY) "__init__" = some (some (.ref g_CY___init__)))
    (l_CY___init__ : K.lookup g_CY___init__ = some ⟨oc_CY___init__, od_CY___init__, .func (PySem.W.fnOf "__init__" "By.__init__" (defArgs s_By___init__) (defBody s_By___init__) (defScope s_By___init__) .none kV_CY___init__ dc_CY___init__ pm_CY___init__ an_CY___init__ cd_CY___init__ ct_CY___init__), sl_CY___init__⟩)
    (c_CY___init__ : PySem.W.codeIn K cd_CY___init__ "By.__init__" = true)
    (k_CY___init__ : PySem.W.keepIn K (.ref g_CY___init__) = true)
    (i_CY___init__ : PySem.W.isFn K (.ref g_CY___init__) = true)
    (a_CY___and__ : PySem.W.findIn K (.ref CY) "__and__" = some (some (.ref g_CY___and__)))
    (l_CY___and__ : K.lookup g_CY___and__ = some ⟨oc_CY___and__, od_CY___and__, .func (PySem.W.fnOf "__and__" "By.__and__" (defArgs s_By___and__) (defBody s_By___and__) (defScope s_By___and__) .none kV_CY___and__ dc_CY___and__ pm_CY___and__ an_CY___and__ cd_CY___and__ ct_CY___and__), sl_CY___and__⟩)
    (c_CY___and__ : PySem.W.codeIn K cd_CY___and__ "By.__and__" = true)
    (k_CY___and__ : PySem.W.keepIn K (.ref g_CY___and__) = true)
    (i_CY___and__ : PySem.W.isFn K (.ref g_CY___and__) = true)
    (a_CY___or__ : PySem.W.findIn K (.ref CY) "__or__" = some (some (.ref g_CY___or__)))
    (l_CY___or__ : K.lookup g_CY___or__ = some ⟨oc_CY___or__, od_CY___or__, .func (PySem.W.fnOf "__or__" "By.__or__" (defArgs s_By___or__) (defBody s_By___or__) (defScope s_By___or__) .none kV_CY___or__ dc_CY___or__ pm_CY___or__ an_CY___or__ cd_CY___or__ ct_CY___or__), sl_CY___or__⟩)
    (c_CY___or__ : PySem.W.codeIn K cd_CY___or__ "By.__or__" = true)
    (k_CY___or__ : PySem.W.keepIn K (.ref g_CY___or__) = true)
    (i_CY___or__ : PySem.W.isFn K (.ref g_CY___or__) = true)
    (mk_CY : PySem.W.makesIn K CY = true)
    (pg_CY : PySem.W.plainGet K CY Str.empty = true)
    (hd_CY : PySem.W.hasDictIn K CY = true)
    (po_CY : PySem.W.plainOver K CY = true)
    (sa_CY : PySem.W.findIn K (.ref CY) "__setattr__" = some (some (.builtin "object.__setattr__")))
    (kc_CY : PySem.W.keepIn K (.ref CY) = true)
    (ya_CY : PySem.W.findIn K (.ref CY) "__class__" = some (some (.builtin "object.__class__")))
    (yd_CY : PySem.W.mroIn K CY (.type "object") = some true)
    (yk_CY : PySem.W.kitOne K (.ref CY) (.ref CY) = some true)
    (n_CY_function : PySem.W.findIn K (.ref CY) "function" = some none)
    (n_CY_modulus : PySem.W.findIn K (.ref CY) "modulus" = some none)
    (n_CY_parts : PySem.W.findIn K (.ref CY) "parts" = some none)
    (a_CR0 : PySem.W.nsIn K mainGlobals "Rule" = some (some (.ref CR0)))
    (a_CL : PySem.W.nsIn K mainGlobals "LateError" = some (some (.ref CL)))
    (a_lcm : PySem.W.nsIn K mainGlobals "lcm" = some (some (.builtin "math.lcm")))
    (aZS : PySem.W.nsIn K mainGlobals "BadSize" = some (some (.ref CS)))
    (iZS : PySem.W.findIn K (.ref CS) "__init__" = some (some (.ref fZS)))
    (tZS : PySem.W.typeIn K (.ref fZS) = some (.type "function"))
    (lZS : K.lookup fZS = some ⟨ocZS, odZS, .func (PySem.W.fnX "__init__" "BadSize.__init__" (defArgs s_BadSize___init__) (defBody s_BadSize___init__) (defScope s_BadSize___init__) [("__class__", ccZS)] .none kVZS dcZS pmZS anZS (.ref cdZS) ctZS), slZS⟩)
    (cZS : PySem.W.codeIn K (.ref cdZS) "BadSize.__init__" = true)
    (eZS : ∃ nm q N bs bm sn sub ab col dd k0 k1 k2 k3 k5, K.lookup CS = some (excClassObj nm q CS N bs bm true sn sub ab col dd k0 k1 k2 k3 k5 "ValueError.__new__") ∧ PySem.HandSPX.refsVE bm = true)
    (sZS : PySem.W.findIn K (.ref CS) "__setattr__" = some (some (.builtin "object.__setattr__")))
    (xZS : PySem.W.subIn K (.ref CS) (.type "BaseException") = some true)
    (yZS : PySem.W.typeIn K (.ref CS) = some (.type "type"))
    (kZS : PySem.W.keepIn K (.ref CS) = true)
    (qZS : K.lookup ccZS = some ⟨clZS, cldZS, .cell (some (.ref CS)), cslZS⟩)
    (uZS : K.lookup cdZS = some ⟨cclZS, cddZS, .fields vsZS, ccsZS⟩)
    (vZS : vsZS[2]? = some (.str fileZS tfZS))
    (wZS : ((l.prog.main.file : Str) == fileZS) = true)
    (mZS : PySem.W.mroIn K CS (.ref CS) = some true)
    (pZS : PySem.W.ks_superIn K CS CS "__init__" = some (some (.builtin "ValueError.__init__")))
    (bZS : PySem.W.subIn K (.ref CS) (.type "ValueError") = some true)
    (zS : PySem.W.nsIn K mainGlobals "super" = some none)
    (tS : (l.prog.main.scope.names.lookup ("super" : Str)).isSome = false)
    (oB : PySem.W.nsIn K cStatics "thirdparty.any" = some none)
    (nZS_value : PySem.W.findIn K (.ref CS) "value" = some none)
    (gZS : PySem.W.findIn K (.ref CS) "__getattribute__" = some (some (.builtin "BaseException.__getattribute__")))
    (hZS : PySem.W.findIn K (.ref CS) "__getattr__" = some none)
    (dZS : PySem.W.hasDictIn K CS = true)
    (jZS : PySem.W.findIn K (.ref CS) "__class__" = some (some (.builtin "object.__class__")))
    (rZS : PySem.W.mroIn K CS (.type "object") = some true)
    (k1ZS : PySem.W.kitOne K (.ref CS) (.ref CS) = some true)
    (emZS : PySem.W.exmOne K (.ref CS) (.ref CL) = some true)
    (aZR : PySem.W.nsIn K mainGlobals "BadRule" = some (some (.ref CR)))
    (iZR : PySem.W.findIn K (.ref CR) "__init__" = some (some (.ref fZR)))
    (tZR : PySem.W.typeIn K (.ref fZR) = some (.type "function"))
    (lZR : K.lookup fZR = some ⟨ocZR, odZR, .func (PySem.W.fnX "__init__" "BadRule.__init__" (defArgs s_BadRule___init__) (defBody s_BadRule___init__) (defScope s_BadRule___init__) [("__class__", ccZR)] .none kVZR dcZR pmZR anZR (.ref cdZR) ctZR), slZR⟩)
    (cZR : PySem.W.codeIn K (.ref cdZR) "BadRule.__init__" = true)
    (eZR : ∃ nm q N bs bm sn sub ab col dd k0 k1 k2 k3 k5, K.lookup CR = some (excClassObj nm q CR N bs bm true sn sub ab col dd k0 k1 k2 k3 k5 "ValueError.__new__") ∧ PySem.HandSPX.refsVE bm = true)
    (sZR : PySem.W.findIn K (.ref CR) "__setattr__" = some (some (.builtin "object.__setattr__")))
    (xZR : PySem.W.subIn K (.ref CR) (.type "BaseException") = some true)
    (yZR : PySem.W.typeIn K (.ref CR) = some (.type "type"))
    (kZR : PySem.W.keepIn K (.ref CR) = true)
    (qZR : K.lookup ccZR = some ⟨clZR, cldZR, .cell (some (.ref CR)), cslZR⟩)
    (uZR : K.lookup cdZR = some ⟨cclZR, cddZR, .fields vsZR, ccsZR⟩)
    (vZR : vsZR[2]? = some (.str fileZR tfZR))
    (wZR : ((l.prog.main.file : Str) == fileZR) = true)
    (mZR : PySem.W.mroIn K CR (.ref CR) = some true)
    (pZR : PySem.W.ks_superIn K CR CR "__init__" = some (some (.builtin "ValueError.__init__")))
    (bZR : PySem.W.subIn K (.ref CR) (.type "ValueError") = some true)
    (nZR_part : PySem.W.findIn K (.ref CR) "part" = some none)
    (gZR : PySem.W.findIn K (.ref CR) "__getattribute__" = some (some (.builtin "BaseException.__getattribute__")))
    (hZR : PySem.W.findIn K (.ref CR) "__getattr__" = some none)
    (dZR : PySem.W.hasDictIn K CR = true)
    (jZR : PySem.W.findIn K (.ref CR) "__class__" = some (some (.builtin "object.__class__")))
    (rZR : PySem.W.mroIn K CR (.type "object") = some true)
    (k1ZR : PySem.W.kitOne K (.ref CR) (.ref CR) = some true)
    (emZR : PySem.W.exmOne K (.ref CR) (.ref CL) = some true)
    (aZM : PySem.W.nsIn K mainGlobals "TooMany" = some (some (.ref CM)))
    (iZM : PySem.W.findIn K (.ref CM) "__init__" = some (some (.ref fZM)))
    (tZM : PySem.W.typeIn K (.ref fZM) = some (.type "function"))
    (lZM : K.lookup fZM = some ⟨ocZM, odZM, .func (PySem.W.fnX "__init__" "TooMany.__init__" (defArgs s_TooMany___init__) (defBody s_TooMany___init__) (defScope s_TooMany___init__) [("__class__", ccZM)] .none kVZM dcZM pmZM anZM (.ref cdZM) ctZM), slZM⟩)
    (cZM : PySem.W.codeIn K (.ref cdZM) "TooMany.__init__" = true)
    (eZM : ∃ nm q N bs bm sn sub ab col dd k0 k1 k2 k3 k5, K.lookup CM = some (excClassObj nm q CM N bs bm true sn sub ab col dd k0 k1 k2 k3 k5 "ValueError.__new__") ∧ PySem.HandSPX.refsVE bm = true)
    (sZM : PySem.W.findIn K (.ref CM) "__setattr__" = some (some (.builtin "object.__setattr__")))
    (xZM : PySem.W.subIn K (.ref CM) (.type "BaseException") = some true)
    (yZM : PySem.W.typeIn K (.ref CM) = some (.type "type"))
    (kZM : PySem.W.keepIn K (.ref CM) = true)
    (qZM : K.lookup ccZM = some ⟨clZM, cldZM, .cell (some (.ref CM)), cslZM⟩)
    (uZM : K.lookup cdZM = some ⟨cclZM, cddZM, .fields vsZM, ccsZM⟩)
    (vZM : vsZM[2]? = some (.str fileZM tfZM))
    (wZM : ((l.prog.main.file : Str) == fileZM) = true)
    (mZM : PySem.W.mroIn K CM (.ref CM) = some true)
    (pZM : PySem.W.ks_superIn K CM CM "__init__" = some (some (.builtin "ValueError.__init__")))
    (bZM : PySem.W.subIn K (.ref CM) (.type "ValueError") = some true)
    (nZM_what : PySem.W.findIn K (.ref CM) "what" = some none)
    (nZM_most : PySem.W.findIn K (.ref CM) "most" = some none)
    (gZM : PySem.W.findIn K (.ref CM) "__getattribute__" = some (some (.builtin "BaseException.__getattribute__")))
    (hZM : PySem.W.findIn K (.ref CM) "__getattr__" = some none)
    (dZM : PySem.W.hasDictIn K CM = true)
    (jZM : PySem.W.findIn K (.ref CM) "__class__" = some (some (.builtin "object.__class__")))
    (rZM : PySem.W.mroIn K CM (.type "object") = some true)
    (k1ZM : PySem.W.kitOne K (.ref CM) (.ref CM) = some true)
    (emZM : PySem.W.exmOne K (.ref CM) (.ref CL) = some true)
    (aZE : PySem.W.nsIn K mainGlobals "BadRest" = some (some (.ref CE)))
    (iZE : PySem.W.findIn K (.ref CE) "__init__" = some (some (.ref fZE)))
    (tZE : PySem.W.typeIn K (.ref fZE) = some (.type "function"))
    (lZE : K.lookup fZE = some ⟨ocZE, odZE, .func (PySem.W.fnX "__init__" "BadRest.__init__" (defArgs s_BadRest___init__) (defBody s_BadRest___init__) (defScope s_BadRest___init__) [("__class__", ccZE)] .none kVZE dcZE pmZE anZE (.ref cdZE) ctZE), slZE⟩)
    (cZE : PySem.W.codeIn K (.ref cdZE) "BadRest.__init__" = true)
    (eZE : ∃ nm q N bs bm sn sub ab col dd k0 k1 k2 k3 k5, K.lookup CE = some (excClassObj nm q CE N bs bm true sn sub ab col dd k0 k1 k2 k3 k5 "ValueError.__new__") ∧ PySem.HandSPX.refsVE bm = true)
    (sZE : PySem.W.findIn K (.ref CE) "__setattr__" = some (some (.builtin "object.__setattr__")))
    (xZE : PySem.W.subIn K (.ref CE) (.type "BaseException") = some true)
    (yZE : PySem.W.typeIn K (.ref CE) = some (.type "type"))
    (kZE : PySem.W.keepIn K (.ref CE) = true)
    (qZE : K.lookup ccZE = some ⟨clZE, cldZE, .cell (some (.ref CE)), cslZE⟩)
    (uZE : K.lookup cdZE = some ⟨cclZE, cddZE, .fields vsZE, ccsZE⟩)
    (vZE : vsZE[2]? = some (.str fileZE tfZE))
    (wZE : ((l.prog.main.file : Str) == fileZE) = true)
    (mZE : PySem.W.mroIn K CE (.ref CE) = some true)
    (pZE : PySem.W.ks_superIn K CE CE "__init__" = some (some (.builtin "ValueError.__init__")))
    (bZE : PySem.W.subIn K (.ref CE) (.type "ValueError") = some true)
    (nZE_value : PySem.W.findIn K (.ref CE) "value" = some none)
    (gZE : PySem.W.findIn K (.ref CE) "__getattribute__" = some (some (.builtin "BaseException.__getattribute__")))
    (hZE : PySem.W.findIn K (.ref CE) "__getattr__" = some none)
    (dZE : PySem.W.hasDictIn K CE = true)
    (jZE : PySem.W.findIn K (.ref CE) "__class__" = some (some (.builtin "object.__class__")))
    (rZE : PySem.W.mroIn K CE (.type "object") = some true)
    (k1ZE : PySem.W.kitOne K (.ref CE) (.ref CE) = some true)
    (emZE : PySem.W.exmOne K (.ref CE) (.ref CL) = some true)
    (kJ_AF : PySem.W.kitAny K (.ref AF) [.ref AF, .ref AD, .ref AL, .ref AG] = some true)
    (kJ_AD : PySem.W.kitAny K (.ref AD) [.ref AF, .ref AD, .ref AL, .ref AG] = some true)
    (kJ_AL : PySem.W.kitAny K (.ref AL) [.ref AF, .ref AD, .ref AL, .ref AG] = some true)
    (kJ_AG : PySem.W.kitAny K (.ref AG) [.ref AF, .ref AD, .ref AL, .ref AG] = some true)
    (kYJ : PySem.W.kitAny K (.ref CY) [.ref AF, .ref AD, .ref AL, .ref AG] = some false)
    (kTJ : (numTys.all fun T => decide (PySem.W.kitAny K (.type T) [.ref AF, .ref AD, .ref AL, .ref AG] = some false)) = true)
    (kE_AFAF : PySem.W.kitOne K (.ref AF) (.ref AF) = some true)
    (kE_AFAD : PySem.W.kitOne K (.ref AF) (.ref AD) = some false)
    (kE_AFAL : PySem.W.kitOne K (.ref AF) (.ref AL) = some false)
    (kE_AFAG : PySem.W.kitOne K (.ref AF) (.ref AG) = some false)
    (kE_ADAF : PySem.W.kitOne K (.ref AD) (.ref AF) = some false)
    (kE_ADAD : PySem.W.kitOne K (.ref AD) (.ref AD) = some true)
    (kE_ADAL : PySem.W.kitOne K (.ref AD) (.ref AL) = some false)
    (kE_ADAG : PySem.W.kitOne K (.ref AD) (.ref AG) = some false)
    (kE_ALAF : PySem.W.kitOne K (.ref AL) (.ref AF) = some false)
    (kE_ALAD : PySem.W.kitOne K (.ref AL) (.ref AD) = some false)
    (kE_ALAL : PySem.W.kitOne K (.ref AL) (.ref AL) = some true)
    (kE_ALAG : PySem.W.kitOne K (.ref AL) (.ref AG) = some false)
    (kE_AGAF : PySem.W.kitOne K (.ref AG) (.ref AF) = some false)
    (kE_AGAD : PySem.W.kitOne K (.ref AG) (.ref AD) = some false)
    (kE_AGAL : PySem.W.kitOne K (.ref AG) (.ref AL) = some false)
    (kE_AGAG : PySem.W.kitOne K (.ref AG) (.ref AG) = some true)
    (kYE_AF : PySem.W.kitOne K (.ref CY) (.ref AF) = some false)
    (kTE_AF : (numTys.all fun T => decide (PySem.W.kitOne K (.type T) (.ref AF) = some false)) = true)
    (kR_AF : PySem.W.kitOne K (.ref AF) (.ref CR0) = some true)
    (kYE_AD : PySem.W.kitOne K (.ref CY) (.ref AD) = some false)
    (kTE_AD : (numTys.all fun T => decide (PySem.W.kitOne K (.type T) (.ref AD) = some false)) = true)
    (kR_AD : PySem.W.kitOne K (.ref AD) (.ref CR0) = some true)
    (kYE_AL : PySem.W.kitOne K (.ref CY) (.ref AL) = some false)
    (kTE_AL : (numTys.all fun T => decide (PySem.W.kitOne K (.type T) (.ref AL) = some false)) = true)
    (kR_AL : PySem.W.kitOne K (.ref AL) (.ref CR0) = some true)
    (kYE_AG : PySem.W.kitOne K (.ref CY) (.ref AG) = some false)
    (kTE_AG : (numTys.all fun T => decide (PySem.W.kitOne K (.type T) (.ref AG) = some false)) = true)
    (kR_AG : PySem.W.kitOne K (.ref AG) (.ref CR0) = some true)
    (gMS : PySem.W.nsIn K mainGlobals "MOST_SIZE" = some (some (.int 1000000000000000000000000000000 tMS)))
    (gMD : PySem.W.nsIn K mainGlobals "MOST_DIVISOR" = some (some (.int 24 tMD)))
    (gMA : PySem.W.nsIn K mainGlobals "MOST_ADDED" = some (some (.int 1000 tMA)))
    (gMP : PySem.W.nsIn K mainGlobals "MOST_PARTS" = some (some (.int 6 tMP)))
    (gMR : PySem.W.nsIn K mainGlobals "MOST_RESIDUES" = some (some (.int 5000 tMR)))
    (sf_AF : PySem.W.selfFirst K AF = true)
    (mr_AF : (PySem.W.clsIn K AF).map (·.mro) = some [.ref AF, .ref CR0, .type "object"])
    (o_and_AF : othersB K AF .BitAnd = true)
    (u_and_AF : PySem.W.findIn K (.ref AF) (dunderI (.BitAnd : Operator).info.2) = some none)
    (r_and_AF : PySem.W.findIn K (.ref AF) (dunderR (.BitAnd : Operator).info.2) = some none)
    (o_or_AF : othersB K AF .BitOr = true)
    (u_or_AF : PySem.W.findIn K (.ref AF) (dunderI (.BitOr : Operator).info.2) = some none)
    (r_or_AF : PySem.W.findIn K (.ref AF) (dunderR (.BitOr : Operator).info.2) = some none)
    (ne_AFAD : AF ≠ AD)
    (sb_AFAD : PySem.W.subIn K (.ref AD) (.ref AF) = some false)
    (ne_AFAL : AF ≠ AL)
    (sb_AFAL : PySem.W.subIn K (.ref AL) (.ref AF) = some false)
    (ne_AFAG : AF ≠ AG)
    (sb_AFAG : PySem.W.subIn K (.ref AG) (.ref AF) = some false)
    (ne_AFCY : AF ≠ CY)
    (sb_AFCY : PySem.W.subIn K (.ref CY) (.ref AF) = some false)
    (sf_AD : PySem.W.selfFirst K AD = true)
    (mr_AD : (PySem.W.clsIn K AD).map (·.mro) = some [.ref AD, .ref CR0, .type "object"])
    (o_and_AD : othersB K AD .BitAnd = true)
    (u_and_AD : PySem.W.findIn K (.ref AD) (dunderI (.BitAnd : Operator).info.2) = some none)
    (r_and_AD : PySem.W.findIn K (.ref AD) (dunderR (.BitAnd : Operator).info.2) = some none)
    (o_or_AD : othersB K AD .BitOr = true)
    (u_or_AD : PySem.W.findIn K (.ref AD) (dunderI (.BitOr : Operator).info.2) = some none)
    (r_or_AD : PySem.W.findIn K (.ref AD) (dunderR (.BitOr : Operator).info.2) = some none)
    (ne_ADAF : AD ≠ AF)
    (sb_ADAF : PySem.W.subIn K (.ref AF) (.ref AD) = some false)
    (ne_ADAL : AD ≠ AL)
    (sb_ADAL : PySem.W.subIn K (.ref AL) (.ref AD) = some false)
    (ne_ADAG : AD ≠ AG)
    (sb_ADAG : PySem.W.subIn K (.ref AG) (.ref AD) = some false)
    (ne_ADCY : AD ≠ CY)
    (sb_ADCY : PySem.W.subIn K (.ref CY) (.ref AD) = some false)
    (sf_AL : PySem.W.selfFirst K AL = true)
    (mr_AL : (PySem.W.clsIn K AL).map (·.mro) = some [.ref AL, .ref CR0, .type "object"])
    (o_and_AL : othersB K AL .BitAnd = true)
    (u_and_AL : PySem.W.findIn K (.ref AL) (dunderI (.BitAnd : Operator).info.2) = some none)
    (r_and_AL : PySem.W.findIn K (.ref AL) (dunderR (.BitAnd : Operator).info.2) = some none)
    (o_or_AL : othersB K AL .BitOr = true)
    (u_or_AL : PySem.W.findIn K (.ref AL) (dunderI (.BitOr : Operator).info.2) = some none)
    (r_or_AL : PySem.W.findIn K (.ref AL) (dunderR (.BitOr : Operator).info.2) = some none)
    (ne_ALAF : AL ≠ AF)
    (sb_ALAF : PySem.W.subIn K (.ref AF) (.ref AL) = some false)
    (ne_ALAD : AL ≠ AD)
    (sb_ALAD : PySem.W.subIn K (.ref AD) (.ref AL) = some false)
    (ne_ALAG : AL ≠ AG)
    (sb_ALAG : PySem.W.subIn K (.ref AG) (.ref AL) = some false)
    (ne_ALCY : AL ≠ CY)
    (sb_ALCY : PySem.W.subIn K (.ref CY) (.ref AL) = some false)
    (sf_AG : PySem.W.selfFirst K AG = true)
    (mr_AG : (PySem.W.clsIn K AG).map (·.mro) = some [.ref AG, .ref CR0, .type "object"])
    (o_and_AG : othersB K AG .BitAnd = true)
    (u_and_AG : PySem.W.findIn K (.ref AG) (dunderI (.BitAnd : Operator).info.2) = some none)
    (r_and_AG : PySem.W.findIn K (.ref AG) (dunderR (.BitAnd : Operator).info.2) = some none)
    (o_or_AG : othersB K AG .BitOr = true)
    (u_or_AG : PySem.W.findIn K (.ref AG) (dunderI (.BitOr : Operator).info.2) = some none)
    (r_or_AG : PySem.W.findIn K (.ref AG) (dunderR (.BitOr : Operator).info.2) = some none)
    (ne_AGAF : AG ≠ AF)
    (sb_AGAF : PySem.W.subIn K (.ref AF) (.ref AG) = some false)
    (ne_AGAD : AG ≠ AD)
    (sb_AGAD : PySem.W.subIn K (.ref AD) (.ref AG) = some false)
    (ne_AGAL : AG ≠ AL)
    (sb_AGAL : PySem.W.subIn K (.ref AL) (.ref AG) = some false)
    (ne_AGCY : AG ≠ CY)
    (sb_AGCY : PySem.W.subIn K (.ref CY) (.ref AG) = some false)
    (sf_CY : PySem.W.selfFirst K CY = true)
    (mr_CY : (PySem.W.clsIn K CY).map (·.mro) = some [.ref CY, .ref CR0, .type "object"])
    (o_and_CY : othersB K CY .BitAnd = true)
    (u_and_CY : PySem.W.findIn K (.ref CY) (dunderI (.BitAnd : Operator).info.2) = some none)
    (r_and_CY : PySem.W.findIn K (.ref CY) (dunderR (.BitAnd : Operator).info.2) = some none)
    (o_or_CY : othersB K CY .BitOr = true)
    (u_or_CY : PySem.W.findIn K (.ref CY) (dunderI (.BitOr : Operator).info.2) = some none)
    (r_or_CY : PySem.W.findIn K (.ref CY) (dunderR (.BitOr : Operator).info.2) = some none)
    (ne_CYAF : CY ≠ AF)
    (sb_CYAF : PySem.W.subIn K (.ref AF) (.ref CY) = some false)
    (ne_CYAD : CY ≠ AD)
    (sb_CYAD : PySem.W.subIn K (.ref AD) (.ref CY) = some false)
    (ne_CYAL : CY ≠ AL)
    (sb_CYAL : PySem.W.subIn K (.ref AL) (.ref CY) = some false)
    (ne_CYAG : CY ≠ AG)
    (sb_CYAG : PySem.W.subIn K (.ref AG) (.ref CY) = some false)
    (v_and : PySem.W.findIn K (.ref CR0) (dunderI (.BitAnd : Operator).info.2) = some none)
    (x_and : PySem.W.findIn K (.type "object") (dunderI (.BitAnd : Operator).info.2) = some none)
    (v_or : PySem.W.findIn K (.ref CR0) (dunderI (.BitOr : Operator).info.2) = some none)
    (x_or : PySem.W.findIn K (.type "object") (dunderI (.BitOr : Operator).info.2) = some none)
    (km_AF : PySem.W.keepIn K (.ref g_AF_wish) = true)
    (km_AD : PySem.W.keepIn K (.ref g_AD_wish) = true)
    (km_AL : PySem.W.keepIn K (.ref g_AL_wish) = true)
    (km_AG : PySem.W.keepIn K (.ref g_AG_wish) = true)
    (kIY_AF : PySem.W.kitOne K (.ref AF) (.ref CY) = some false)
    (kIY_AD : PySem.W.kitOne K (.ref AD) (.ref CY) = some false)
    (kIY_AL : PySem.W.kitOne K (.ref AL) (.ref CY) = some false)
    (kIY_AG : PySem.W.kitOne K (.ref AG) (.ref CY) = some false)
    (cq_AF : PySem.W.fnIn K g_AF___call__ = true)
    (cq_AD : PySem.W.fnIn K g_AD___call__ = true)
    (cq_AL : PySem.W.fnIn K g_AL___call__ = true)
    (cq_AG : PySem.W.fnIn K g_AG___call__ = true)
    (z_isinstance : PySem.W.nsIn K mainGlobals "isinstance" = some none)
    (z_int : PySem.W.nsIn K mainGlobals "int" = some none)
    (z_bool : PySem.W.nsIn K mainGlobals "bool" = some none)
    (z_len : PySem.W.nsIn K mainGlobals "len" = some none)
    (z_abs : PySem.W.nsIn K mainGlobals "abs" = some none)
    (z_list : PySem.W.nsIn K mainGlobals "list" = some none)
    (z_tuple : PySem.W.nsIn K mainGlobals "tuple" = some none)
    (z_range : PySem.W.nsIn K mainGlobals "range" = some none)
    (z_repr : PySem.W.nsIn K mainGlobals "repr" = some none)
    (z_str : PySem.W.nsIn K mainGlobals "str" = some none)
    (z_min : PySem.W.nsIn K mainGlobals "min" = some none)
    (z_max : PySem.W.nsIn K mainGlobals "max" = some none)
    (z_all : PySem.W.nsIn K mainGlobals "all" = some none)
    (z_enumerate : PySem.W.nsIn K mainGlobals "enumerate" = some none)
    (z_sorted : PySem.W.nsIn K mainGlobals "sorted" = some none)
    (hPd0 : ([] : List Addr).Nodup)
    : LawG l w K CX0 18 63 "_law_script" mg fa h := by
  have e := hfa.symm.trans (PySem.W.mg_of X G a30)
  cases e
  have hPd : (([] : List (Addr × Str)).map (·.1)).Nodup := hPd0
  have T : Txt K mg ⟨AF, AD, AL, AG⟩ CR0 CY CS CR CM CL := ⟨PySem.W.mg_none_of X G z_isinstance, PySem.W.mg_none_of X G z_int, PySem.W.mg_none_of X G z_bool, PySem.W.mg_none_of X G z_len, PySem.W.mg_none_of X G z_abs, PySem.W.mg_none_of X G z_list, PySem.W.mg_none_of X G z_tuple, PySem.W.mg_none_of X G z_range, PySem.W.mg_none_of X G z_repr, PySem.W.mg_none_of X G z_str, PySem.W.mg_none_of X G z_min, PySem.W.mg_none_of X G z_max, PySem.W.mg_none_of X G z_all, PySem.W.mg_none_of X G z_enumerate, PySem.W.mg_of X G a_CL, PySem.W.mg_of X G a_lcm, ⟨_, PySem.W.mg_of X G a_CR0, rfl⟩, ⟨⟨_, PySem.W.mg_of X G a_AF, rfl⟩, ⟨pg_AF, hd_AF, po_AF, sa_AF⟩, yk_AF, ya_AF, yb, yc, yd_AF, n_AF_modulus, n_AF_parts⟩, ⟨⟨_, PySem.W.mg_of X G a_AD, rfl⟩, ⟨pg_AD, hd_AD, po_AD, sa_AD⟩, yk_AD, ya_AD, yb, yc, yd_AD, n_AD_modulus, n_AD_parts⟩, ⟨⟨_, PySem.W.mg_of X G a_AL, rfl⟩, ⟨pg_AL, hd_AL, po_AL, sa_AL⟩, yk_AL, ya_AL, yb, yc, yd_AL, n_AL_modulus, n_AL_parts⟩, ⟨⟨_, PySem.W.mg_of X G a_AG, rfl⟩, ⟨pg_AG, hd_AG, po_AG, sa_AG⟩, yk_AG, ya_AG, yb, yc, yd_AG, n_AG_modulus, n_AG_parts⟩, ⟨⟨_, PySem.W.mg_of X G a_CY, rfl⟩, ⟨pg_CY, hd_CY, po_CY, sa_CY⟩, yk_CY, ya_CY, yb, yc, yd_CY, n_CY_modulus, n_CY_parts⟩, ⟨⟨_, PySem.W.mg_of X G aZS, rfl⟩, ⟨gZS, hZS, xZS, dZS, jZS, yb, yc, rZS⟩, ⟨gZS, hZS, xZS, dZS⟩, (List.forall_mem_cons.mpr ⟨nZS_value, (fun _ h => nomatch h)⟩), k1ZS, emZS⟩, ⟨⟨_, PySem.W.mg_of X G aZR, rfl⟩, ⟨gZR, hZR, xZR, dZR, jZR, yb, yc, rZR⟩, ⟨gZR, hZR, xZR, dZR⟩, (List.forall_mem_cons.mpr ⟨nZR_part, (fun _ h => nomatch h)⟩), k1ZR, emZR⟩, ⟨⟨_, PySem.W.mg_of X G aZM, rfl⟩, ⟨gZM, hZM, xZM, dZM, jZM, yb, yc, rZM⟩, ⟨gZM, hZM, xZM, dZM⟩, (List.forall_mem_cons.mpr ⟨nZM_what, (List.forall_mem_cons.mpr ⟨nZM_most, (fun _ h => nomatch h)⟩)⟩), k1ZM, emZM⟩, (fun i hi => match i, hi with | 0, _ => kJ_AF | 1, _ => kJ_AD | 2, _ => kJ_AL | 3, _ => kJ_AG | i + 4, h => absurd h (by omega)), kYJ, kTJ, (fun i j hi hj => match i, j, hi, hj with | 0, 0, _, _ => kE_AFAF | 0, 1, _, _ => kE_AFAD | 0, 2, _, _ => kE_AFAL | 0, 3, _, _ => kE_AFAG | 1, 0, _, _ => kE_ADAF | 1, 1, _, _ => kE_ADAD | 1, 2, _, _ => kE_ADAL | 1, 3, _, _ => kE_ADAG | 2, 0, _, _ => kE_ALAF | 2, 1, _, _ => kE_ALAD | 2, 2, _, _ => kE_ALAL | 2, 3, _, _ => kE_ALAG | 3, 0, _, _ => kE_AGAF | 3, 1, _, _ => kE_AGAD | 3, 2, _, _ => kE_AGAL | 3, 3, _, _ => kE_AGAG | i + 4, _, h, _ => absurd h (by omega) | 0, j + 4, _, h => absurd h (by omega) | 1, j + 4, _, h => absurd h (by omega) | 2, j + 4, _, h => absurd h (by omega) | 3, j + 4, _, h => absurd h (by omega)), (fun i hi => match i, hi with | 0, _ => kYE_AF | 1, _ => kYE_AD | 2, _ => kYE_AL | 3, _ => kYE_AG | i + 4, h => absurd h (by omega)), (fun i hi => match i, hi with | 0, _ => kTE_AF | 1, _ => kTE_AD | 2, _ => kTE_AL | 3, _ => kTE_AG | i + 4, h => absurd h (by omega)), (fun i hi => match i, hi with | 0, _ => kR_AF | 1, _ => kR_AD | 2, _ => kR_AL | 3, _ => kR_AG | i + 4, h => absurd h (by omega)), n_AF_size, n_AD_x, n_AD_y, n_AD_w, n_AL_one, n_AL_other, n_AG_one, n_AG_other, n_CY_function, ⟨_, PySem.W.mg_of X G gMS, ⟨_, rfl⟩⟩, ⟨_, PySem.W.mg_of X G gMD, ⟨_, rfl⟩⟩, ⟨_, PySem.W.mg_of X G gMA, ⟨_, rfl⟩⟩, ⟨_, PySem.W.mg_of X G gMP, ⟨_, rfl⟩⟩, ⟨_, PySem.W.mg_of X G gMR, ⟨_, rfl⟩⟩⟩
  have F1 := fun_mk (st := s_is_integer) l1 c1 k1
  have F2 := fun_mk (st := s_is_within) l2 c2 k2
  have F3 := fun_mk (st := s_is_size) l3 c3 k3
  have F4 := fun_mk (st := s_need_rest) l4 c4 k4
  have F5 := fun_mk (st := s_cut_to) l5 c5 k5
  have F6 := fun_mk (st := s_is_joinable) l6 c6 k6
  have F7 := fun_mk (st := s_need_joined) l7 c7 k7
  have F8 := fun_mk (st := s_need_sides) l8 c8 k8
  have F9 := fun_mk (st := s_need_rule) l9 c9 k9
  have F10 := fun_mk (st := s_first_quotient) l10 c10 k10
  have F11 := fun_mk (st := s_line_of) l11 c11 k11
  have F12 := fun_mk (st := s_lines_of) l12 c12 k12
  have F13 := fun_mk (st := s_turns_of) l13 c13 k13
  have F14 := fun_mk (st := s_size_at) l14 c14 k14
  have F15 := fun_mk (st := s_piece_from) l15 c15 k15
  have F16 := fun_mk (st := s_is_on) l16 c16 k16
  have F17 := fun_mk (st := s_end_of) l17 c17 k17
  have F18 := fun_mk (st := s_pieces_at) l18 c18 k18
  have F19 := fun_mk (st := s_pieces) l19 c19 k19
  have F20 := fun_mk (st := s__law_pen) l20 c20 k20
  have F21 := fun_mk (st := s__law_draw) l21 c21 k21
  have F22 := fun_mk (st := s__law_pick) l22 c22 k22
  have F23 := fun_mk (st := s__law_far) l23 c23 k23
  have F24 := fun_mk (st := s__law_rule) l24 c24 k24
  have F25 := fun_mk (st := s__law_wish) l25 c25 k25
  have F26 := fun_mk (st := s__law_modulus) l26 c26 k26
  have F27 := fun_mk (st := s__law_size) l27 c27 k27
  have F28 := fun_mk (st := s__law_row_right) l28 c28 k28
  have F29 := fun_mk (st := s__law_right) l29 c29 k29
  have F30 := fun_mk (st := s_law) l30 c30 k30
  have F_AF___init__ := fun_mk l_AF___init__ c_AF___init__ k_AF___init__
  have F_AF_wish := fun_mk l_AF_wish c_AF_wish k_AF_wish
  have F_AF___call__ := fun_mk l_AF___call__ c_AF___call__ k_AF___call__
  have F_AF___and__ := fun_mk l_AF___and__ c_AF___and__ k_AF___and__
  have F_AF___or__ := fun_mk l_AF___or__ c_AF___or__ k_AF___or__
  have F_AD___init__ := fun_mk l_AD___init__ c_AD___init__ k_AD___init__
  have F_AD_wish := fun_mk l_AD_wish c_AD_wish k_AD_wish
  have F_AD___call__ := fun_mk l_AD___call__ c_AD___call__ k_AD___call__
  have F_AD___and__ := fun_mk l_AD___and__ c_AD___and__ k_AD___and__
  have F_AD___or__ := fun_mk l_AD___or__ c_AD___or__ k_AD___or__
  have F_AL___init__ := fun_mk l_AL___init__ c_AL___init__ k_AL___init__
  have F_AL_wish := fun_mk l_AL_wish c_AL_wish k_AL_wish
  have F_AL___call__ := fun_mk l_AL___call__ c_AL___call__ k_AL___call__
  have F_AL___and__ := fun_mk l_AL___and__ c_AL___and__ k_AL___and__
  have F_AL___or__ := fun_mk l_AL___or__ c_AL___or__ k_AL___or__
  have F_AG___init__ := fun_mk l_AG___init__ c_AG___init__ k_AG___init__
  have F_AG_wish := fun_mk l_AG_wish c_AG_wish k_AG_wish
  have F_AG___call__ := fun_mk l_AG___call__ c_AG___call__ k_AG___call__
  have F_AG___and__ := fun_mk l_AG___and__ c_AG___and__ k_AG___and__
  have F_AG___or__ := fun_mk l_AG___or__ c_AG___or__ k_AG___or__
  have F_CY___init__ := fun_mk l_CY___init__ c_CY___init__ k_CY___init__
  have F_CY___and__ := fun_mk l_CY___and__ c_CY___and__ k_CY___and__
  have F_CY___or__ := fun_mk l_CY___or__ c_CY___or__ k_CY___or__
  refine ⟨PySem.W.fnOf "law" "law" (defArgs s_law) (defBody s_law) (defScope s_law) .none kV30 dc30 pm30 an30 cd30 ct30, [], spLaw K [], ?_, ?_, ?_, (fun s u => BindsTo.of_eq rfl), ?_, fun base kb nb tb => ?_⟩
  · intro p hp
    cases hp
  · intro p hp
    cases hp
  · intro p hp
    cases hp
  · intro H a ns hl hH hS
    refine ⟨a, ns, rfl, hS, hl, (fun p hp => ?_), fun _ => rfl⟩
    cases hp
  have SZS : SupF l.prog K mg CS fZS cdZS ccZS (defScope s_BadSize___init__) := ⟨⟨eZS, sZS, xZS, yZS, kZS⟩, ⟨_, _, _, qZS⟩, ⟨_, _, _, _, _, _, uZS, vZS, wZS⟩, mZS, PySem.W.mg_none_of X G zS, tS, oB, pZS, bZS, by decide +kernel, by decide +kernel⟩
  have e_BadSize : Er1 l.prog w K mg base "BadSize" CS "value" := ⟨⟨eZS, sZS, xZS, yZS, kZS⟩, PySem.W.mg_of X G aZS, fZS, _, "value", iZS, tZS, ok_BadSize lZS cZS SZS nZS_value, .all (fun us hl => match us, hl with | [_, _], _ => rfl)⟩
  have SZR : SupF l.prog K mg CR fZR cdZR ccZR (defScope s_BadRule___init__) := ⟨⟨eZR, sZR, xZR, yZR, kZR⟩, ⟨_, _, _, qZR⟩, ⟨_, _, _, _, _, _, uZR, vZR, wZR⟩, mZR, PySem.W.mg_none_of X G zS, tS, oB, pZR, bZR, by decide +kernel, by decide +kernel⟩
  have e_BadRule : Er1 l.prog w K mg base "BadRule" CR "part" := ⟨⟨eZR, sZR, xZR, yZR, kZR⟩, PySem.W.mg_of X G aZR, fZR, _, "part", iZR, tZR, ok_BadRule lZR cZR SZR nZR_part, .all (fun us hl => match us, hl with | [_, _], _ => rfl)⟩
  have SZM : SupF l.prog K mg CM fZM cdZM ccZM (defScope s_TooMany___init__) := ⟨⟨eZM, sZM, xZM, yZM, kZM⟩, ⟨_, _, _, qZM⟩, ⟨_, _, _, _, _, _, uZM, vZM, wZM⟩, mZM, PySem.W.mg_none_of X G zS, tS, oB, pZM, bZM, by decide +kernel, by decide +kernel⟩
  have e_TooMany : Er2 l.prog w K mg base "TooMany" CM "what" "most" := ⟨⟨eZM, sZM, xZM, yZM, kZM⟩, PySem.W.mg_of X G aZM, fZM, _, "what", "most", iZM, tZM, ok_TooMany lZM cZM SZM nZM_what nZM_most, .all (fun us hl => match us, hl with | [_, _, _], _ => rfl)⟩
  have SZE : SupF l.prog K mg CE fZE cdZE ccZE (defScope s_BadRest___init__) := ⟨⟨eZE, sZE, xZE, yZE, kZE⟩, ⟨_, _, _, qZE⟩, ⟨_, _, _, _, _, _, uZE, vZE, wZE⟩, mZE, PySem.W.mg_none_of X G zS, tS, oB, pZE, bZE, by decide +kernel, by decide +kernel⟩
  have e_BadRest : Er1 l.prog w K mg base "BadRest" CE "value" := ⟨⟨eZE, sZE, xZE, yZE, kZE⟩, PySem.W.mg_of X G aZE, fZE, _, "value", iZE, tZE, ok_BadRest lZE cZE SZE nZE_value, .all (fun us hl => match us, hl with | [_, _], _ => rfl)⟩
  have c_is_integer : FnO l.prog w K mg base CX0 1 "is_integer" ["value"] spIsI := ⟨⟨f1, _, ok_is_integer F1 T, PySem.W.mg_of X G a1, k1, bMk F1 (fun _ _ _ _ _ _ us hl => match us, hl with | [_], _ => rfl)⟩⟩
  have c_is_within : FnO l.prog w K mg base CX0 2 "is_within" ["value", "least", "most"] spWithin := ⟨⟨f2, _, ok_is_within F2 T c_is_integer, PySem.W.mg_of X G a2, k2, bMk F2 (fun _ _ _ _ _ _ us hl => match us, hl with | [_, _, _], _ => rfl)⟩⟩
  have c_is_size : FnO l.prog w K mg base CX0 3 "is_size" ["value"] spSize := ⟨⟨f3, _, ok_is_size F3 T c_is_within, PySem.W.mg_of X G a3, k3, bMk F3 (fun _ _ _ _ _ _ us hl => match us, hl with | [_], _ => rfl)⟩⟩
  have c_is_joinable : FnO l.prog w K mg base CX0 1 "is_joinable" ["value"] (spJnb K ⟨AF, AD, AL, AG⟩) := ⟨⟨f6, _, ok_jnb F6 T, PySem.W.mg_of X G a6, k6, bMk F6 (fun _ _ _ _ _ _ us hl => match us, hl with | [_], _ => rfl)⟩⟩
  have c_need_joined : FnO l.prog w K mg base (L2.CX l.prog w) 3 "need_joined" ["one", "other"] (spNeedJ K ⟨AF, AD, AL, AG⟩ CR CM) := ⟨⟨f7, _, ok_needJ F7 T c_is_joinable e_BadRule e_TooMany, PySem.W.mg_of X G a7, k7, bMk F7 (fun _ _ _ _ _ _ us hl => match us, hl with | [_, _], _ => rfl)⟩⟩
  have c_need_sides : FnO l.prog w K mg base (L2.CX l.prog w) 3 "need_sides" ["one", "other"] (spNeedS K ⟨AF, AD, AL, AG⟩ CR) := ⟨⟨f8, _, ok_needS F8 T c_is_joinable e_BadRule, PySem.W.mg_of X G a8, k8, bMk F8 (fun _ _ _ _ _ _ us hl => match us, hl with | [_, _], _ => rfl)⟩⟩
  have c_need_rest : FnO l.prog w K mg base (L2.CX l.prog w) 3 "need_rest" ["rest"] (spNeedR CE) := ⟨⟨f4, _, ok_needR F4 T ⟨_, PySem.W.mg_of X G aZE, rfl⟩ c_is_integer e_BadRest, PySem.W.mg_of X G a4, k4, bMk F4 (fun _ _ _ _ _ _ us hl => match us, hl with | [_], _ => rfl)⟩⟩
  have o_AF := ok_fixed (P := l.prog) (w := w) (base := base) F_AF___init__ T c_is_size e_BadSize
  have m_Fixed_1 : McO l.prog w K mg base (L2.CX l.prog w) 4 "Fixed" AF ["self", "size"] (spFx AF CS) [] := ⟨⟨g_AF___init__, _, _, o_AF, PySem.W.mg_of X G a_AF, ⟨mk_AF, a_AF___init__, i_AF___init__, kc_AF⟩, bMk F_AF___init__ (fun _ _ _ _ _ _ us hl => match us, hl with | [_, _], _ => rfl), .nil⟩⟩
  have o_AD := ok_divided (P := l.prog) (w := w) (base := base) F_AD___init__ T c_is_within e_BadRule
  have m_Divided_3 : McO l.prog w K mg base (L2.CX l.prog w) 3 "Divided" AD ["self", "x", "y", "w"] (spDv AD CR) [] := ⟨⟨g_AD___init__, _, _, o_AD, PySem.W.mg_of X G a_AD, ⟨mk_AD, a_AD___init__, i_AD___init__, kc_AD⟩, bMk F_AD___init__ (fun _ _ _ _ _ _ us hl => match us, hl with | [_, _, _, _], _ => rfl), .nil⟩⟩
  have o_AL := ok_Lesser (P := l.prog) (w := w) (base := base) F_AL___init__ T c_need_joined
  have m_Lesser_2 : McO l.prog w K mg base (L2.CX l.prog w) 4 "Lesser" AL ["self", "one", "other"] (spJn0 K ⟨AF, AD, AL, AG⟩ CR CM true) [] := ⟨⟨g_AL___init__, _, _, o_AL, PySem.W.mg_of X G a_AL, ⟨mk_AL, a_AL___init__, i_AL___init__, kc_AL⟩, bMk F_AL___init__ (fun _ _ _ _ _ _ us hl => match us, hl with | [_, _, _], _ => rfl), .nil⟩⟩
  have o_AG := ok_Greater (P := l.prog) (w := w) (base := base) F_AG___init__ T c_need_joined
  have m_Greater_2 : McO l.prog w K mg base (L2.CX l.prog w) 4 "Greater" AG ["self", "one", "other"] (spJn0 K ⟨AF, AD, AL, AG⟩ CR CM false) [] := ⟨⟨g_AG___init__, _, _, o_AG, PySem.W.mg_of X G a_AG, ⟨mk_AG, a_AG___init__, i_AG___init__, kc_AG⟩, bMk F_AG___init__ (fun _ _ _ _ _ _ us hl => match us, hl with | [_, _, _], _ => rfl), .nil⟩⟩
  have o_CY := ok_by (P := l.prog) (w := w) (base := base) F_CY___init__ T
  have m_By_1 : McO l.prog w K mg base (L2.CX l.prog w) 1 "By" CY ["self", "function"] (spBy CY) [] := ⟨⟨g_CY___init__, _, _, o_CY, PySem.W.mg_of X G a_CY, ⟨mk_CY, a_CY___init__, i_CY___init__, kc_CY⟩, bMk F_CY___init__ (fun _ _ _ _ _ _ us hl => match us, hl with | [_, _], _ => rfl), .nil⟩⟩
  have op_and : OpC l.prog w K mg base CR0 (K53.c5 ⟨AF, AD, AL, AG⟩ CY) .BitAnd 6 (spOpJ K ⟨AF, AD, AL, AG⟩ CR CM true) := ⟨(fun i hi => match i, hi with | 0, _ => ⟨sf_AF, o_and_AF, u_and_AF, v_and, x_and, mr_AF⟩ | 1, _ => ⟨sf_AD, o_and_AD, u_and_AD, v_and, x_and, mr_AD⟩ | 2, _ => ⟨sf_AL, o_and_AL, u_and_AL, v_and, x_and, mr_AL⟩ | 3, _ => ⟨sf_AG, o_and_AG, u_and_AG, v_and, x_and, mr_AG⟩ | 4, _ => ⟨sf_CY, o_and_CY, u_and_CY, v_and, x_and, mr_CY⟩ | i + 5, h => absurd h (by show ¬ i + 5 < 5; omega)), (fun i j hi hj hn => match i, j, hi, hj, hn with | 0, 0, _, _, h => absurd rfl h | 0, 1, _, _, _ => ⟨ne_AFAD, sb_AFAD⟩ | 0, 2, _, _, _ => ⟨ne_AFAL, sb_AFAL⟩ | 0, 3, _, _, _ => ⟨ne_AFAG, sb_AFAG⟩ | 0, 4, _, _, _ => ⟨ne_AFCY, sb_AFCY⟩ | 1, 0, _, _, _ => ⟨ne_ADAF, sb_ADAF⟩ | 1, 1, _, _, h => absurd rfl h | 1, 2, _, _, _ => ⟨ne_ADAL, sb_ADAL⟩ | 1, 3, _, _, _ => ⟨ne_ADAG, sb_ADAG⟩ | 1, 4, _, _, _ => ⟨ne_ADCY, sb_ADCY⟩ | 2, 0, _, _, _ => ⟨ne_ALAF, sb_ALAF⟩ | 2, 1, _, _, _ => ⟨ne_ALAD, sb_ALAD⟩ | 2, 2, _, _, h => absurd rfl h | 2, 3, _, _, _ => ⟨ne_ALAG, sb_ALAG⟩ | 2, 4, _, _, _ => ⟨ne_ALCY, sb_ALCY⟩ | 3, 0, _, _, _ => ⟨ne_AGAF, sb_AGAF⟩ | 3, 1, _, _, _ => ⟨ne_AGAD, sb_AGAD⟩ | 3, 2, _, _, _ => ⟨ne_AGAL, sb_AGAL⟩ | 3, 3, _, _, h => absurd rfl h | 3, 4, _, _, _ => ⟨ne_AGCY, sb_AGCY⟩ | 4, 0, _, _, _ => ⟨ne_CYAF, sb_CYAF⟩ | 4, 1, _, _, _ => ⟨ne_CYAD, sb_CYAD⟩ | 4, 2, _, _, _ => ⟨ne_CYAL, sb_CYAL⟩ | 4, 3, _, _, _ => ⟨ne_CYAG, sb_CYAG⟩ | 4, 4, _, _, h => absurd rfl h | i + 5, _, h, _, _ => absurd h (by show ¬ i + 5 < 5; omega) | 0, j + 5, _, h, _ => absurd h (by show ¬ j + 5 < 5; omega) | 1, j + 5, _, h, _ => absurd h (by show ¬ j + 5 < 5; omega) | 2, j + 5, _, h, _ => absurd h (by show ¬ j + 5 < 5; omega) | 3, j + 5, _, h, _ => absurd h (by show ¬ j + 5 < 5; omega) | 4, j + 5, _, h, _ => absurd h (by show ¬ j + 5 < 5; omega)), (fun i hi => match i, hi with | 0, _ => ⟨g_AF___and__, _, a_AF___and__, r_and_AF, i_AF___and__, ok_Fixed__and__ F_AF___and__ T c_need_sides m_Lesser_2, bMk F_AF___and__ (fun _ _ _ _ _ _ us hl => match us, hl with | [_, _], _ => rfl)⟩ | 1, _ => ⟨g_AD___and__, _, a_AD___and__, r_and_AD, i_AD___and__, ok_Divided__and__ F_AD___and__ T c_need_sides m_Lesser_2, bMk F_AD___and__ (fun _ _ _ _ _ _ us hl => match us, hl with | [_, _], _ => rfl)⟩ | 2, _ => ⟨g_AL___and__, _, a_AL___and__, r_and_AL, i_AL___and__, ok_Lesser__and__ F_AL___and__ T c_need_sides m_Lesser_2, bMk F_AL___and__ (fun _ _ _ _ _ _ us hl => match us, hl with | [_, _], _ => rfl)⟩ | 3, _ => ⟨g_AG___and__, _, a_AG___and__, r_and_AG, i_AG___and__, ok_Greater__and__ F_AG___and__ T c_need_sides m_Lesser_2, bMk F_AG___and__ (fun _ _ _ _ _ _ us hl => match us, hl with | [_, _], _ => rfl)⟩ | 4, _ => ⟨g_CY___and__, _, a_CY___and__, r_and_CY, i_CY___and__, ok_By__and__ F_CY___and__ T c_need_sides m_Lesser_2, bMk F_CY___and__ (fun _ _ _ _ _ _ us hl => match us, hl with | [_, _], _ => rfl)⟩ | i + 5, h => absurd h (by show ¬ i + 5 < 5; omega))⟩
  have op_or : OpC l.prog w K mg base CR0 (K53.c5 ⟨AF, AD, AL, AG⟩ CY) .BitOr 6 (spOpJ K ⟨AF, AD, AL, AG⟩ CR CM false) := ⟨(fun i hi => match i, hi with | 0, _ => ⟨sf_AF, o_or_AF, u_or_AF, v_or, x_or, mr_AF⟩ | 1, _ => ⟨sf_AD, o_or_AD, u_or_AD, v_or, x_or, mr_AD⟩ | 2, _ => ⟨sf_AL, o_or_AL, u_or_AL, v_or, x_or, mr_AL⟩ | 3, _ => ⟨sf_AG, o_or_AG, u_or_AG, v_or, x_or, mr_AG⟩ | 4, _ => ⟨sf_CY, o_or_CY, u_or_CY, v_or, x_or, mr_CY⟩ | i + 5, h => absurd h (by show ¬ i + 5 < 5; omega)), (fun i j hi hj hn => match i, j, hi, hj, hn with | 0, 0, _, _, h => absurd rfl h | 0, 1, _, _, _ => ⟨ne_AFAD, sb_AFAD⟩ | 0, 2, _, _, _ => ⟨ne_AFAL, sb_AFAL⟩ | 0, 3, _, _, _ => ⟨ne_AFAG, sb_AFAG⟩ | 0, 4, _, _, _ => ⟨ne_AFCY, sb_AFCY⟩ | 1, 0, _, _, _ => ⟨ne_ADAF, sb_ADAF⟩ | 1, 1, _, _, h => absurd rfl h | 1, 2, _, _, _ => ⟨ne_ADAL, sb_ADAL⟩ | 1, 3, _, _, _ => ⟨ne_ADAG, sb_ADAG⟩ | 1, 4, _, _, _ => ⟨ne_ADCY, sb_ADCY⟩ | 2, 0, _, _, _ => ⟨ne_ALAF, sb_ALAF⟩ | 2, 1, _, _, _ => ⟨ne_ALAD, sb_ALAD⟩ | 2, 2, _, _, h => absurd rfl h | 2, 3, _, _, _ => ⟨ne_ALAG, sb_ALAG⟩ | 2, 4, _, _, _ => ⟨ne_ALCY, sb_ALCY⟩ | 3, 0, _, _, _ => ⟨ne_AGAF, sb_AGAF⟩ | 3, 1, _, _, _ => ⟨ne_AGAD, sb_AGAD⟩ | 3, 2, _, _, _ => ⟨ne_AGAL, sb_AGAL⟩ | 3, 3, _, _, h => absurd rfl h | 3, 4, _, _, _ => ⟨ne_AGCY, sb_AGCY⟩ | 4, 0, _, _, _ => ⟨ne_CYAF, sb_CYAF⟩ | 4, 1, _, _, _ => ⟨ne_CYAD, sb_CYAD⟩ | 4, 2, _, _, _ => ⟨ne_CYAL, sb_CYAL⟩ | 4, 3, _, _, _ => ⟨ne_CYAG, sb_CYAG⟩ | 4, 4, _, _, h => absurd rfl h | i + 5, _, h, _, _ => absurd h (by show ¬ i + 5 < 5; omega) | 0, j + 5, _, h, _ => absurd h (by show ¬ j + 5 < 5; omega) | 1, j + 5, _, h, _ => absurd h (by show ¬ j + 5 < 5; omega) | 2, j + 5, _, h, _ => absurd h (by show ¬ j + 5 < 5; omega) | 3, j + 5, _, h, _ => absurd h (by show ¬ j + 5 < 5; omega) | 4, j + 5, _, h, _ => absurd h (by show ¬ j + 5 < 5; omega)), (fun i hi => match i, hi with | 0, _ => ⟨g_AF___or__, _, a_AF___or__, r_or_AF, i_AF___or__, ok_Fixed__or__ F_AF___or__ T c_need_sides m_Greater_2, bMk F_AF___or__ (fun _ _ _ _ _ _ us hl => match us, hl with | [_, _], _ => rfl)⟩ | 1, _ => ⟨g_AD___or__, _, a_AD___or__, r_or_AD, i_AD___or__, ok_Divided__or__ F_AD___or__ T c_need_sides m_Greater_2, bMk F_AD___or__ (fun _ _ _ _ _ _ us hl => match us, hl with | [_, _], _ => rfl)⟩ | 2, _ => ⟨g_AL___or__, _, a_AL___or__, r_or_AL, i_AL___or__, ok_Lesser__or__ F_AL___or__ T c_need_sides m_Greater_2, bMk F_AL___or__ (fun _ _ _ _ _ _ us hl => match us, hl with | [_, _], _ => rfl)⟩ | 3, _ => ⟨g_AG___or__, _, a_AG___or__, r_or_AG, i_AG___or__, ok_Greater__or__ F_AG___or__ T c_need_sides m_Greater_2, bMk F_AG___or__ (fun _ _ _ _ _ _ us hl => match us, hl with | [_, _], _ => rfl)⟩ | 4, _ => ⟨g_CY___or__, _, a_CY___or__, r_or_CY, i_CY___or__, ok_By__or__ F_CY___or__ T c_need_sides m_Greater_2, bMk F_CY___or__ (fun _ _ _ _ _ _ us hl => match us, hl with | [_, _], _ => rfl)⟩ | i + 5, h => absurd h (by show ¬ i + 5 < 5; omega))⟩
  have c__law_pen : Fn l.prog w K mg base CX0 1 "_law_pen" ["_law_script"] (spPen K) := fnMk F20 (ok_pen F20 T) (PySem.W.mg_of X G a20) (fun _ _ _ _ _ _ us hl => match us, hl with | [_], _ => rfl) (fun _ _ _ _ _ _ us hl => match us, hl with | [_], _ => rfl)
  have c__law_draw : Fn l.prog w K mg base CX0 1 "_law_draw" ["_law_pen_here", "_law_many"] spDraw := fnMk F21 (ok_draw F21 T) (PySem.W.mg_of X G a21) (fun _ _ _ _ _ _ us hl => match us, hl with | [_, _], _ => rfl) (fun _ _ _ _ _ _ us hl => match us, hl with | [_, _], _ => rfl)
  have c__law_pick : Fn l.prog w K mg base CX0 2 "_law_pick" ["_law_pen_here", "_law_some"] spPick := fnMk F22 (ok_pick F22 T c__law_draw) (PySem.W.mg_of X G a22) (fun _ _ _ _ _ _ us hl => match us, hl with | [_, _], _ => rfl) (fun _ _ _ _ _ _ us hl => match us, hl with | [_, _], _ => rfl)
  have mt_all : ∀ m j, j < 4 → Mt l.prog w K mg base (L2.CX l.prog w) (m + 3) (RA.at ⟨AF, AD, AL, AG⟩ j) "wish" "self" ["rest"] (spWish ⟨AF, AD, AL, AG⟩ CE j m) := by
    intro m
    induction m with
    | zero =>
      intro j hj
      match j, hj with
      | 0, _ => exact ⟨⟨g_AF_wish, _, ⟨pg_AF, hd_AF, po_AF, sa_AF⟩, ⟨a_AF_wish, i_AF_wish, km_AF⟩, sp_void (fun vs H Q E z => by obtain ⟨t, p, ps, y, _, _, _, h1, h2, _⟩ := z; have := t.n_pos; omega) 3, bMk F_AF_wish (fun _ _ _ _ _ _ us hl => match us, hl with | [_, _], _ => rfl), bmMk F_AF_wish (fun _ _ _ _ _ _ a us hl => match us, hl with | [_], _ => rfl)⟩⟩
      | 1, _ => exact ⟨⟨g_AD_wish, _, ⟨pg_AD, hd_AD, po_AD, sa_AD⟩, ⟨a_AD_wish, i_AD_wish, km_AD⟩, sp_void (fun vs H Q E z => by obtain ⟨t, p, ps, y, _, _, _, h1, h2, _⟩ := z; have := t.n_pos; omega) 3, bMk F_AD_wish (fun _ _ _ _ _ _ us hl => match us, hl with | [_, _], _ => rfl), bmMk F_AD_wish (fun _ _ _ _ _ _ a us hl => match us, hl with | [_], _ => rfl)⟩⟩
      | 2, _ => exact ⟨⟨g_AL_wish, _, ⟨pg_AL, hd_AL, po_AL, sa_AL⟩, ⟨a_AL_wish, i_AL_wish, km_AL⟩, sp_void (fun vs H Q E z => by obtain ⟨t, p, ps, y, _, _, _, h1, h2, _⟩ := z; have := t.n_pos; omega) 3, bMk F_AL_wish (fun _ _ _ _ _ _ us hl => match us, hl with | [_, _], _ => rfl), bmMk F_AL_wish (fun _ _ _ _ _ _ a us hl => match us, hl with | [_], _ => rfl)⟩⟩
      | 3, _ => exact ⟨⟨g_AG_wish, _, ⟨pg_AG, hd_AG, po_AG, sa_AG⟩, ⟨a_AG_wish, i_AG_wish, km_AG⟩, sp_void (fun vs H Q E z => by obtain ⟨t, p, ps, y, _, _, _, h1, h2, _⟩ := z; have := t.n_pos; omega) 3, bMk F_AG_wish (fun _ _ _ _ _ _ us hl => match us, hl with | [_, _], _ => rfl), bmMk F_AG_wish (fun _ _ _ _ _ _ a us hl => match us, hl with | [_], _ => rfl)⟩⟩
      | j + 4, h => exact absurd h (by omega)
    | succ m ih =>
      intro j hj
      match j, hj with
      | 0, _ => exact ⟨⟨g_AF_wish, _, ⟨pg_AF, hd_AF, po_AF, sa_AF⟩, ⟨a_AF_wish, i_AF_wish, km_AF⟩, ok_Fwish F_AF_wish T m c_need_rest, bMk F_AF_wish (fun _ _ _ _ _ _ us hl => match us, hl with | [_, _], _ => rfl), bmMk F_AF_wish (fun _ _ _ _ _ _ a us hl => match us, hl with | [_], _ => rfl)⟩⟩
      | 1, _ => exact ⟨⟨g_AD_wish, _, ⟨pg_AD, hd_AD, po_AD, sa_AD⟩, ⟨a_AD_wish, i_AD_wish, km_AD⟩, ok_Dwish F_AD_wish T m c_need_rest, bMk F_AD_wish (fun _ _ _ _ _ _ us hl => match us, hl with | [_, _], _ => rfl), bmMk F_AD_wish (fun _ _ _ _ _ _ a us hl => match us, hl with | [_], _ => rfl)⟩⟩
      | 2, _ => exact ⟨⟨g_AL_wish, _, ⟨pg_AL, hd_AL, po_AL, sa_AL⟩, ⟨a_AL_wish, i_AL_wish, km_AL⟩, ok_Lwish F_AL_wish T m ih, bMk F_AL_wish (fun _ _ _ _ _ _ us hl => match us, hl with | [_, _], _ => rfl), bmMk F_AL_wish (fun _ _ _ _ _ _ a us hl => match us, hl with | [_], _ => rfl)⟩⟩
      | 3, _ => exact ⟨⟨g_AG_wish, _, ⟨pg_AG, hd_AG, po_AG, sa_AG⟩, ⟨a_AG_wish, i_AG_wish, km_AG⟩, ok_Gwish F_AG_wish T m ih, bMk F_AG_wish (fun _ _ _ _ _ _ us hl => match us, hl with | [_, _], _ => rfl), bmMk F_AG_wish (fun _ _ _ _ _ _ a us hl => match us, hl with | [_], _ => rfl)⟩⟩
      | j + 4, h => exact absurd h (by omega)
  have mt_wish := mt_all 6
  have c_cut_to : FnO l.prog w K mg base CX0 1 "cut_to" ["wish", "rest"] spCutTo := ⟨⟨f5, _, ok_cutto F5 T, PySem.W.mg_of X G a5, k5, bMk F5 (fun _ _ _ _ _ _ us hl => match us, hl with | [_, _], _ => rfl)⟩⟩
  have mt_AL := mt_wish 2 (by decide)
  have mt_AG := mt_wish 3 (by decide)
  have ca_own : ∀ j, j < 4 → CaO l.prog w K mg base (RA.at (⟨AF, AD, AL, AG⟩ : RA) j) 10 "self" ["rest"] (spCallR (⟨AF, AD, AL, AG⟩ : RA) CE j) := by
    intro j hj
    match j, hj with
      | 0, _ => exact ⟨⟨g_AF___call__, _, ⟨a_AF___call__, i_AF___call__, cq_AF⟩, FnOk.mono (ok_Fcall F_AF___call__ T c_need_rest c_cut_to) (by decide), bMk F_AF___call__ (fun _ _ _ _ _ _ us hl => match us, hl with | [_, _], _ => rfl), bmMk F_AF___call__ (fun _ _ _ _ _ _ a us hl => match us, hl with | [_], _ => rfl)⟩⟩
      | 1, _ => exact ⟨⟨g_AD___call__, _, ⟨a_AD___call__, i_AD___call__, cq_AD⟩, FnOk.mono (ok_Dcall F_AD___call__ T c_need_rest c_cut_to) (by decide), bMk F_AD___call__ (fun _ _ _ _ _ _ us hl => match us, hl with | [_, _], _ => rfl), bmMk F_AD___call__ (fun _ _ _ _ _ _ a us hl => match us, hl with | [_], _ => rfl)⟩⟩
      | 2, _ => exact ⟨⟨g_AL___call__, _, ⟨a_AL___call__, i_AL___call__, cq_AL⟩, FnOk.mono (ok_Lcall F_AL___call__ T mt_AL c_cut_to) (by decide), bMk F_AL___call__ (fun _ _ _ _ _ _ us hl => match us, hl with | [_, _], _ => rfl), bmMk F_AL___call__ (fun _ _ _ _ _ _ a us hl => match us, hl with | [_], _ => rfl)⟩⟩
      | 3, _ => exact ⟨⟨g_AG___call__, _, ⟨a_AG___call__, i_AG___call__, cq_AG⟩, FnOk.mono (ok_Gcall F_AG___call__ T mt_AG c_cut_to) (by decide), bMk F_AG___call__ (fun _ _ _ _ _ _ us hl => match us, hl with | [_, _], _ => rfl), bmMk F_AG___call__ (fun _ _ _ _ _ _ a us hl => match us, hl with | [_], _ => rfl)⟩⟩
      | j + 4, h => exact absurd h (by omega)
  have c_need_rule : FnO l.prog w K mg base (L2.CX l.prog w) 3 "need_rule" ["rule"] (spNeedRu ⟨AF, AD, AL, AG⟩) := ⟨⟨f9, _, ok_needRu F9 T ⟨_, PySem.W.mg_of X G a_CY, rfl⟩ (fun i hi => match i, hi with | 0, _ => kIY_AF | 1, _ => kIY_AD | 2, _ => kIY_AL | 3, _ => kIY_AG | i + 4, h => absurd h (by omega)) e_BadRule, PySem.W.mg_of X G a9, k9, bMk F9 (fun _ _ _ _ _ _ us hl => match us, hl with | [_], _ => rfl)⟩⟩
  have c_first_quotient : FnO l.prog w K mg base CX0 1 "first_quotient" ["residue"] spFirstQ := ⟨⟨f10, _, ok_firstQ F10, PySem.W.mg_of X G a10, k10, bMk F10 (fun _ _ _ _ _ _ us hl => match us, hl with | [_], _ => rfl)⟩⟩
  have c_line_of : FnO l.prog w K mg base CX0 1 "line_of" ["part", "modulus", "residue"] (spLineOf ⟨AF, AD, AL, AG⟩) := ⟨⟨f11, _, ok_lineOf F11 T, PySem.W.mg_of X G a11, k11, bMk F11 (fun _ _ _ _ _ _ us hl => match us, hl with | [_, _, _], _ => rfl)⟩⟩
  have c_lines_of : FnO l.prog w K mg base CX0 2 "lines_of" ["rule", "residue"] (spLinesOf ⟨AF, AD, AL, AG⟩) := ⟨⟨f12, _, ok_linesOf F12 T c_line_of, PySem.W.mg_of X G a12, k12, bMk F12 (fun _ _ _ _ _ _ us hl => match us, hl with | [_, _], _ => rfl)⟩⟩
  have c_turns_of : FnO l.prog w K mg base CX0 3 "turns_of" ["rule", "residue"] (spTurnsOf ⟨AF, AD, AL, AG⟩) := ⟨⟨f13, _, ok_turnsOf F13 T (PySem.W.mg_none_of X G z_sorted) c_first_quotient c_lines_of, PySem.W.mg_of X G a13, k13, bMk F13 (fun _ _ _ _ _ _ us hl => match us, hl with | [_, _], _ => rfl)⟩⟩
  have c_size_at : FnO l.prog w K mg base (L2.CX l.prog w) 11 "size_at" ["rule", "residue", "quotient"] (spSizeAt ⟨AF, AD, AL, AG⟩) := ⟨⟨f14, _, ok_sizeAt F14 T ca_own, PySem.W.mg_of X G a14, k14, bMk F14 (fun _ _ _ _ _ _ us hl => match us, hl with | [_, _, _], _ => rfl)⟩⟩
  have c_piece_from : FnO l.prog w K mg base (L2.CX l.prog w) 12 "piece_from" ["rule", "residue", "begin"] (spPieceFrom ⟨AF, AD, AL, AG⟩) := ⟨⟨f15, _, ok_pieceFrom F15 c_size_at, PySem.W.mg_of X G a15, k15, bMk F15 (fun _ _ _ _ _ _ us hl => match us, hl with | [_, _, _], _ => rfl)⟩⟩
  have c_is_on : FnO l.prog w K mg base (L2.CX l.prog w) 12 "is_on" ["rule", "residue", "piece", "quotient"] (spIsOn ⟨AF, AD, AL, AG⟩) := ⟨⟨f16, _, ok_isOn F16 c_size_at, PySem.W.mg_of X G a16, k16, bMk F16 (fun _ _ _ _ _ _ us hl => match us, hl with | [_, _, _, _], _ => rfl)⟩⟩
  have c_end_of : FnO l.prog w K mg base (L2.CX l.prog w) 13 "end_of" ["rule", "residue", "piece", "turns"] (spEndOf ⟨AF, AD, AL, AG⟩) := ⟨⟨f17, _, ok_endOf F17 T c_is_on, PySem.W.mg_of X G a17, k17, bMk F17 (fun _ _ _ _ _ _ us hl => match us, hl with | [_, _, _, _], _ => rfl)⟩⟩
  have c_pieces_at : FnO l.prog w K mg base (L2.CX l.prog w) 14 "pieces_at" ["rule", "residue"] (spPiecesAt ⟨AF, AD, AL, AG⟩) := ⟨⟨f18, _, ok_piecesAt F18 T c_turns_of c_first_quotient c_piece_from c_end_of, PySem.W.mg_of X G a18, k18, bMk F18 (fun _ _ _ _ _ _ us hl => match us, hl with | [_, _], _ => rfl)⟩⟩
  have c_pieces : FnO l.prog w K mg base (L2.CX l.prog w) 15 "pieces" ["rule"] (spPieces ⟨AF, AD, AL, AG⟩) := ⟨⟨f19, _, ok_pieces F19 T c_need_rule c_pieces_at, PySem.W.mg_of X G a19, k19, bMk F19 (fun _ _ _ _ _ _ us hl => match us, hl with | [_], _ => rfl)⟩⟩
  have c__law_far : Fn l.prog w K mg base CX0 3 "_law_far" ["_law_pen_here"] spFar := fnMk F23 (ok_far F23 T c__law_draw c__law_pick) (PySem.W.mg_of X G a23) (fun _ _ _ _ _ _ us hl => match us, hl with | [_], _ => rfl) (fun _ _ _ _ _ _ us hl => match us, hl with | [_], _ => rfl)
  have r__law_rule : ∀ m, Fn l.prog w K mg base CX0 (m + 7) "_law_rule" ["_law_made"] (spRuleM ⟨AF, AD, AL, AG⟩ m) := by
    intro m
    induction m with
    | zero => exact fnMk F24 (FnG.of (sp_void (fun vs H Q E z => by obtain ⟨t, v, _, _, _, h, _⟩ := z; have := t.n_pos; omega) 7)) (PySem.W.mg_of X G a24) (fun _ _ _ _ _ _ us hl => match us, hl with | [_], _ => rfl) (fun _ _ _ _ _ _ us hl => match us, hl with | [_], _ => rfl)
    | succ m ih => exact fnMk F24 (ok_rule F24 T m ih m_Fixed_1 m_Divided_3 op_and op_or) (PySem.W.mg_of X G a24) (fun _ _ _ _ _ _ us hl => match us, hl with | [_], _ => rfl) (fun _ _ _ _ _ _ us hl => match us, hl with | [_], _ => rfl)
  have c__law_rule : Fn l.prog w K mg base CX0 13 "_law_rule" ["_law_made"] (spRuleM ⟨AF, AD, AL, AG⟩ 6) := r__law_rule 6
  have r__law_wish : ∀ m, Fn l.prog w K mg base CX0 (m + 1) "_law_wish" ["_law_made", "_law_rest"] (spWishM m) := by
    intro m
    induction m with
    | zero => exact fnMk F25 (FnG.of (sp_void (fun vs H Q E z => by obtain ⟨t, v, r, _, _, _, h, _⟩ := z; have := t.n_pos; omega) 1)) (PySem.W.mg_of X G a25) (fun _ _ _ _ _ _ us hl => match us, hl with | [_, _], _ => rfl) (fun _ _ _ _ _ _ us hl => match us, hl with | [_, _], _ => rfl)
    | succ m ih => exact fnMk F25 (ok_wishM F25 T m ih) (PySem.W.mg_of X G a25) (fun _ _ _ _ _ _ us hl => match us, hl with | [_, _], _ => rfl) (fun _ _ _ _ _ _ us hl => match us, hl with | [_, _], _ => rfl)
  have c__law_wish : Fn l.prog w K mg base CX0 8 "_law_wish" ["_law_made", "_law_rest"] (spWishM 7) := r__law_wish 7
  have r__law_modulus : ∀ m, Fn l.prog w K mg base CX0 (m + 1) "_law_modulus" ["_law_made"] (spModM m) := by
    intro m
    induction m with
    | zero => exact fnMk F26 (FnG.of (sp_void (fun vs H Q E z => by obtain ⟨t, v, _, _, _, h, _⟩ := z; have := t.n_pos; omega) 1)) (PySem.W.mg_of X G a26) (fun _ _ _ _ _ _ us hl => match us, hl with | [_], _ => rfl) (fun _ _ _ _ _ _ us hl => match us, hl with | [_], _ => rfl)
    | succ m ih => exact fnMk F26 (ok_modM F26 T m ih) (PySem.W.mg_of X G a26) (fun _ _ _ _ _ _ us hl => match us, hl with | [_], _ => rfl) (fun _ _ _ _ _ _ us hl => match us, hl with | [_], _ => rfl)
  have c__law_modulus : Fn l.prog w K mg base CX0 8 "_law_modulus" ["_law_made"] (spModM 7) := r__law_modulus 7
  have c__law_size : Fn l.prog w K mg base CX0 9 "_law_size" ["_law_made", "_law_rest"] spSizeM := fnMk F27 (ok_sizeM F27 T c__law_wish) (PySem.W.mg_of X G a27) (fun _ _ _ _ _ _ us hl => match us, hl with | [_, _], _ => rfl) (fun _ _ _ _ _ _ us hl => match us, hl with | [_, _], _ => rfl)
  have c__law_row_right : Fn l.prog w K mg base CX0 11 "_law_row_right" ["_law_made", "_law_modulus_here", "_law_residue", "_law_row"] spRowF := fnMk F28 (ok_rowRight F28 T c__law_size) (PySem.W.mg_of X G a28) (fun _ _ _ _ _ _ us hl => match us, hl with | [_, _, _, _], _ => rfl) (fun _ _ _ _ _ _ us hl => match us, hl with | [_, _, _, _], _ => rfl)
  have c__law_right : Fn l.prog w K mg base CX0 17 "_law_right" ["_law_pen_here"] spRight52 := fnMk F29 (ok_right F29 T c__law_far c__law_rule c__law_modulus c_pieces c__law_row_right) (PySem.W.mg_of X G a29) (fun _ _ _ _ _ _ us hl => match us, hl with | [_], _ => rfl) (fun _ _ _ _ _ _ us hl => match us, hl with | [_], _ => rfl)
  exact ok_law F30 T c__law_pen c__law_right m_Fixed_1 m_Divided_3 op_and c_pieces
end K53
end
section
set_option maxRecDepth 100000 in
set_option maxHeartbeats 0 in
theorem PySem.Challenge.cw_latechunks_k53_pieces_with_far_begins_holds : PySem.Challenge.rw_latechunks_k53_pieces_with_far_begins.Holds :=
  K53H.head @K53.all_mk
end
