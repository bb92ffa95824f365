import PyProof.Rows.All
import HandS.Head0
import HandS.Head1
import HandS.Head2
import HandS.Head3
import KE.KNestM
import PySem.Challenge.RW_latechunks_k72_judging_batches_refused
import Wide.All
import OpenK.AllK
import Wide.FinOn
import HandS.ForMost
import HandS.Wide
import HandS.IsInst
import HandS.Defaults
import HandS.Evl
import HandS.EndTab
import HandS.Lambda
import HandS.Style
import HandS.Steps
import HandS.Text
import PyProof.ReprRoads
import PyProof.ListStr
import PyProof.StrOps2
import HandS.Walk
import HandS.ExcInit
import HandS.Nested
import HandS.ExcValue
import KE.KExcSuper
import HandS.ExcIs
import HandS.ExcField
import KE.KOpsOwn
import PyProof.Rows.Range3
import PyProof.Conv_bool
import HandS.HotCalls
import PyProof.EqAt
import HandS.ClsMeth
import HandS.MakeKwOnly
import HandS.FStr
import KE.KCallOwn
import PyProof.Rows.StrOr
import PyProof.TypeEq
import HandS.DeepEq
import KE.KEqDict
import HandS.Star
import HandS.Zip
import HandS.Flow
import HandS.TupMul
import OpenK.KOps
import HandS.TupAny
import HandS.SortInts
import HandS.IterVal
import OpenK.KMeth
import KE.KOwnIter
import PyProof.SliceList
import PyProof.IsiBase
import HandS.OwnEq
import HandS.Gcd
import HandS.Deep
import HandS.DictComp
import KE.KFmtOwn
import PyProof.CallStr
import KE.GoesMore
import KE.GoesEnum
import HandS.Iter
import HandS.MakeKw
import HandS.Small
import HandS.OwnIter
import HandS.ListItems
import HandS.Flt
import HandS.Strs
import HandS.SetFor
import KE.KItemsList
import KE.KPairComp
import PyProof.Walk
import PyProof.WalkLemmas
import HandS.Records
set_option Elab.async false
set_option linter.all false
set_option maxRecDepth 100000
set_option maxHeartbeats 4000000
section
namespace L3
open PySem PySem.W
def looseN : List PySem.Str := (["_wall", "MOST_SIZE", "SIGNS", "WORDS", "is_integer", "is_within", "is_size", "is_name", "LateError", "BadName", "BadSize", "BadSpeed", "BadCost", "BadFee", "BadTotal", "BadRatio", "BadRest", "BadChunks", "BadCrew", "BadSetting", "BadRule", "BadText", "NoWorker", "TooMany", "MOST_FIGURES", "number_of", "is_figures", "MOST_ITEMS", "need_total", "rounded_up"] : List PySem.Str) ++ (["Paper", "Denial", "MOST_WORKERS", "MOST_SPEED", "is_speed", "need_speed", "need_speeds", "need_other", "need_other_crews", "first_with", "Crew", "read_speeds", "common", "Ratio", "told_of", "above", "quotient", "remainder", "MOST_COST", "MOST_FEE", "need_spot", "need_other_settings", "Setting", "behind_stroke", "number_at", "MOST_OVER", "BatchBound", "BatchEndless", "Batched", "need_batched"] : List PySem.Str) ++ (["rise_of", "lates_from", "greatest_batched", "shows_batched", "is_bound", "MOST_PARTS", "MOST_RESIDUES", "MOST_DIVISOR", "MOST_ADDED", "Rule", "need_rest", "cut_to", "Fixed", "Divided", "Lesser", "Greater", "is_joinable", "need_joined", "need_sides", "word_at", "need_numbers", "bounds_of", "rule_end", "rule_told", "_law_pen", "_law_draw", "_law_pick", "_law_heard", "_law_both"] : List PySem.Str)
end L3
open PySem PySem.W PyProof.Rows
open PySem.Calls HandSHeadRun
theorem K72H.runA (w : World) : (wholeF (fun p => stepQ (denQ tabQ) p w) fenceQ 30000 (OpenLaw.row PySem.Challenge.rw_latechunks_k72_judging_batches_refused).prog).map (fun x => looksF (OpenLaw.row PySem.Challenge.rw_latechunks_k72_judging_batches_refused).prog x.1.heap x.2.abs) = some true := by
  kernel_rfl
theorem K72H.runB (w : World) : (wholeF (fun p => stepQ (denQ tabQ) p w) fenceQ 30000 (OpenLaw.row PySem.Challenge.rw_latechunks_k72_judging_batches_refused).prog).map (fun x => seenQ (view (OpenLaw.row PySem.Challenge.rw_latechunks_k72_judging_batches_refused).prog [0, 103]) L3.looseN (importedModules (OpenLaw.row PySem.Challenge.rw_latechunks_k72_judging_batches_refused).prog.main.body) (fun s => xlAt (view (OpenLaw.row PySem.Challenge.rw_latechunks_k72_judging_batches_refused).prog [0, 103]) [] s && recOk (OpenRow.toRowW (OpenLaw.row PySem.Challenge.rw_latechunks_k72_judging_batches_refused)).records s) x.2.abs) = some (openGood (view (OpenLaw.row PySem.Challenge.rw_latechunks_k72_judging_batches_refused).prog [0, 103]) L3.looseN) := by
  kernel_rfl
end
section
namespace L3
open PySem PySem.Spec PyProof.Rows L2
def PenO (a c : Addr) (n : Nat) : HO := .ext fun h => ∃ (spot rest : Int) (t u : Tok) (k : Nat),
  h.get? a = some { cls := .type "list", data := .seq #[.ref c, .int spot t, .int rest u] k } ∧ 0 ≤ spot ∧ spot ≤ n
theorem PenO_ok {P : Program} {w : World} {H : Hp} {h : Heap} {a c : Addr} {n : Nat} {spot rest : Int} {t u : Tok} {k : Nat}
    (e : h.get? a = some { cls := .type "list", data := .seq #[.ref c, .int spot t, .int rest u] k }) (h0 : 0 ≤ spot) (h1 : spot ≤ n) :
    ObjOk P w H h a (PenO a c n) :=
  ⟨⟨spot, rest, t, u, k, e, h0, h1⟩, ⟨_, e⟩, fun _ _ ⟨s, r, t, u, k, q, z⟩ f => ⟨s, r, t, u, k, f _ q, z⟩⟩
section
variable {X : Cx} {pins : List (Addr × Obj)} {σ : L2.St} {H : Hp} {s : Shared}
theorem Inv.penOpen {a c : Addr} {n : Nat} (I : Inv X pins σ H s) (h : H a = some (PenO a c n)) :
    ∃ spot rest : Int, 0 ≤ spot ∧ spot ≤ n ∧ Inv X pins σ (upd H a (.lst [.ref c, .int spot, .int rest])) s := by
  obtain ⟨⟨spot, rest, t, u, k, e, h0, h1⟩, _, _⟩ := (show ObjOk X.prog X.w H s.heap a (PenO a c n) from I.hok a _ h)
  refine ⟨spot, rest, h0, h1, ?_⟩
  have mu : Mut (H a) := by rw [h]; exact True.intro
  have := I.write (t' := s.toks) (h' := s.heap) (x := a) (e := a) (o := .lst [.ref c, .int spot, .int rest]) mu (.inl rfl) (fun _ _ _ q => q) ⟨_, e⟩
    ⟨(by rw [sizeLine_eq]; show 3 ≤ 16777216; decide), [.ref c, .int spot t, .int rest u], k, .cons rfl (.cons ⟨t, rfl⟩ (.cons ⟨u, rfl⟩ .nil)), e⟩
  exact this
theorem vals3 {x y z : V} {us : List Value} (r : Vals [x, y, z] us) : ∃ u v w, us = [u, v, w] ∧ RelV x u ∧ RelV y v ∧ RelV z w := by
  cases r with
  | cons r1 r =>
    cases r with
    | cons r2 r =>
      cases r with
      | cons r3 r =>
        cases r
        exact ⟨_, _, _, rfl, r1, r2, r3⟩
theorem Inv.penClose {a c : Addr} {n : Nat} {spot rest : Int} (I : Inv X pins σ H s) (h : H a = some (.lst [.ref c, .int spot, .int rest])) (h0 : 0 ≤ spot) (h1 : spot ≤ n) :
    Inv X pins σ (upd H a (PenO a c n)) s := by
  obtain ⟨_, its, k, r, e⟩ := (show ObjOk X.prog X.w H s.heap a (.lst _) from I.hok a _ h)
  obtain ⟨u, v, w, rfl, r1, ⟨t, r2⟩, ⟨t', r3⟩⟩ := vals3 r
  cases (show u = .ref c from r1)
  subst r2 r3
  have mu : Mut (H a) := by rw [h]; exact True.intro
  exact I.write (t' := s.toks) (h' := s.heap) (x := a) (e := a) (o := PenO a c n) mu (.inl rfl) (fun _ _ _ q => q) ⟨_, e⟩ (PenO_ok e h0 h1)
end
/-- inside: the list is known, behind: it is hidden again -/
def penBack (a c : Addr) (n : Nat) (P : Hp → Prop) (H : Hp) : Prop := ∃ spot rest : Int, H a = some (.lst [.ref c, .int spot, .int rest]) ∧ 0 ≤ spot ∧ spot ≤ n ∧ P (upd H a (PenO a c n))
def tPen (a c : Addr) (n m : Nat) (t : TS) : TS := fun D σ H => H a = some (PenO a c n) ∧ ∀ spot rest : Int, 0 ≤ spot → spot ≤ n →
  t { nx := fun σ' => penBack a c m (D.nx σ'), rt := fun v => penBack a c m (D.rt v), bk := fun σ' => penBack a c m (D.bk σ'), ct := fun σ' => penBack a c m (D.ct σ') } σ (upd H a (.lst [.ref c, .int spot, .int rest]))
theorem pss_pen {X : Cx} {sts : List Stmt} {t : TS} (a c : Addr) (n m : Nat) (h : PSs X sts t) : PSs X sts (tPen a c n m t) := by
  refine ⟨fun pins s σ H D I hw => ?_⟩
  obtain ⟨ha, hw⟩ := hw
  obtain ⟨spot, rest, h0, h1, I1⟩ := Inv.penOpen I ha
  refine thn (h.run pins s σ _ _ I1 (hw spot rest h0 h1)) fun f s' q => ?_
  cases f with
  | next =>
    obtain ⟨σ', H', I', sp, re, e, g0, g1, z⟩ := q
    exact ⟨σ', _, Inv.penClose I' e g0 g1, z⟩
  | brk =>
    obtain ⟨σ', H', I', sp, re, e, g0, g1, z⟩ := q
    exact ⟨σ', _, Inv.penClose I' e g0 g1, z⟩
  | cont =>
    obtain ⟨σ', H', I', sp, re, e, g0, g1, z⟩ := q
    exact ⟨σ', _, Inv.penClose I' e g0 g1, z⟩
  | ret u =>
    obtain ⟨v, σ', H', I', r, sp, re, e, g0, g1, z⟩ := q
    exact ⟨v, σ', _, Inv.penClose I' e g0 g1, r, z⟩
end L3
namespace L3
open PySem PySem.Spec PyProof.Rows L2
section
variable {σ : L2.St} {H : Hp} {D : Ends} {t u : TS} {te ta tb : TE} {Q : VK} {v x y : V} {K : PySem.W.Frag}
theorem iteB {b : Bool} {A B : Prop} (h1 : b = true → A) (h2 : b = false → B) : if b = true then A else B := by
  cases b with
  | true => exact iteT (h1 rfl)
  | false => exact iteF (h2 rfl)
theorem iteD {c : Prop} {_ : Decidable c} {A B : Prop} (h1 : c → A) (h2 : ¬ c → B) : if decide c = true then A else B := iteB (fun h => h1 (of_decide_eq_true h)) (fun h => h2 (of_decide_eq_false h))
theorem s_seq (h : t { D with nx := u D } σ H) : tSeq t u D σ H := h
theorem s_next (h : D.nx σ H) : tNext D σ H := h
theorem s_asg {i : Nat} (h : te σ H fun x H1 => D.nx (σ.set i (some x)) H1) : tAsg te (gName i) D σ H := h
theorem s_asgS {to ti : TE} {t : TSet} (h : te σ H fun v H1 => to σ H1 fun o H2 => ti σ H2 fun i H3 => t o i v H3 fun H4 => D.nx σ H4) : tAsg te (gSub to ti t) D σ H := h
theorem s_drop (h : te σ H fun _ H1 => D.nx σ H1) : tDrop te D σ H := h
theorem s_ret (h : te σ H D.rt) : tRet te D σ H := h
theorem s_retN (h : D.rt .non H) : tRetN D σ H := h
theorem s_if {c : TT} (h : c σ H fun b H1 => if b = true then t D σ H1 else u D σ H1) : tIfS c t u D σ H := h
theorem s_var {i : Nat} (e : σ[i]? = some (some v)) (h : Q v H) : tVar i σ H Q := ⟨v, e, h⟩
theorem s_c (h : Q v H) : tC v σ H Q := h
theorem s_op {r : R2} (h : ta σ H fun x H1 => tb σ H1 fun y H2 => r x y H2 Q) : tOp r ta tb σ H Q := h
theorem s_un {r : V → Hp → VK → Prop} (h : ta σ H fun x H1 => r x H1 Q) : tUn r ta σ H Q := h
theorem s_cb {r : List V → Hp → VK → Prop} {tt : TA} (h : tt σ H fun vs H1 => r vs H1 Q) : tCB r tt σ H Q := h
theorem s_nil {Q : List V → Hp → Prop} (h : Q [] H) : tNil σ H Q := h
theorem s_cons {Q : List V → Hp → Prop} {tr : TA} (h : ta σ H fun x H1 => tr σ H1 fun xs H2 => Q (x :: xs) H2) : tCons ta tr σ H Q := h
theorem s_test {Q : Bool → Hp → Prop} (h : te σ H fun x H' => ∃ k, x = .bl k ∧ Q k H') : tTest te σ H Q := h
theorem s_tB {Q : Bool → Hp → Prop} (h : te σ H fun x H' => ∃ k, x = .bl k ∧ Q k H') : tB te σ H Q := h
theorem s_bl {R : Bool → Prop} {b : Bool} (h : R b) : ∃ k, V.bl b = .bl k ∧ R k := ⟨b, rfl, h⟩
theorem s_and {c d : TT} {Q : Bool → Hp → Prop} (h : c σ H fun b H1 => if b = true then d σ H1 Q else Q false H1) : tAnd c d σ H Q := h
theorem s_or {c d : TT} {Q : Bool → Hp → Prop} (h : c σ H fun b H1 => if b = true then Q true H1 else d σ H1 Q) : tOr c d σ H Q := h
theorem s_not {c : TT} {Q : Bool → Hp → Prop} (h : c σ H fun b H1 => Q (!b) H1) : tNot c σ H Q := h
theorem s_andV (h : ta σ H fun x H1 => ∃ c, x = .bl c ∧ if c = true then tb σ H1 Q else Q (.bl false) H1) : tAndV ta tb σ H Q := h
theorem s_orV (h : ta σ H fun x H1 => ∃ c, x = .bl c ∧ if c = true then Q (.bl true) H1 else tb σ H1 Q) : tOrV ta tb σ H Q := h
theorem s_notV (h : ta σ H fun x H1 => ∃ c, x = .bl c ∧ Q (.bl (!c)) H1) : tNotV ta σ H Q := h
theorem s_ifE {c : TT} (h : c σ H fun b H1 => if b = true then ta σ H1 Q else tb σ H1 Q) : tIf c ta tb σ H Q := h
theorem s_call {sp : Sp} {dvs : List V} {E : XK} {tt : TA} (h : tt σ H fun vs H1 => sp (vs ++ dvs) H1 Q E) : tCall sp dvs E tt σ H Q := h
theorem s_I0 {g : Int → Int → V} {i j : Int} (h : Q (g i j) H) : rI0 g (.int i) (.int j) H Q := ⟨i, j, rfl, rfl, h⟩
theorem s_I {C : Int → Int → Prop} {g : Int → Int → V} {i j : Int} (c : C i j) (h : Q (g i j) H) : rI C g (.int i) (.int j) H Q := ⟨i, j, rfl, rfl, c, h⟩
theorem s_U {g : Int → V} {i : Int} (h : Q (g i) H) : rU g (.int i) H Q := ⟨i, rfl, h⟩
theorem s_setL {p : Addr} {xs : List V} {i : Int} {j : Nat} {R : Hp → Prop} (hp : H p = some (.lst xs)) (e : ixN xs.length i = some j) (h : R (upd H p (.lst (xs.set j v)))) : rSetL (.ref p) (.int i) v H R := ⟨p, xs, i, j, rfl, rfl, hp, e, h⟩
theorem s_int {R : Int → Prop} {R' : Bool → Prop} {i : Int} (h : R i) : (∃ j, [V.int i] = [V.int j] ∧ R j) ∨ ∃ k, [V.int i] = [V.bl k] ∧ R' k := .inl ⟨i, rfl, h⟩
theorem s_intB {R : Int → Prop} {R' : Bool → Prop} {b : Bool} (h : R' b) : (∃ j, [V.bl b] = [V.int j] ∧ R j) ∨ ∃ k, [V.bl b] = [V.bl k] ∧ R' k := .inr ⟨b, rfl, h⟩
theorem s_abs {R : Int → Prop} {i : Int} (h : R i) : ∃ j, [V.int i] = [V.int j] ∧ R j := ⟨i, rfl, h⟩
theorem s_lenL {R : Nat → Prop} {p : Addr} {xs : List V} (hp : H p = some (.lst xs)) (h : R xs.length) : ∃ x n, [V.ref p] = [x] ∧ LenV K x H n ∧ R n := ⟨_, _, rfl, .inl ⟨xs, .inl (.inl hp), rfl⟩, h⟩
theorem s_lenS {R : Nat → Prop} {z : Str} (hz : z.length ≤ sizeLine) (h : R z.length) : ∃ x n, [V.str z] = [x] ∧ LenV K x H n ∧ R n := ⟨_, _, rfl, ⟨hz, rfl⟩, h⟩
/-- all that is tracked stays -/
theorem ex_new {p : Addr} {o : HO} (h : H p = none) : ∀ b u, H b = some u → upd H p o b = some u := fun b u e => by
  rw [upd_ne (ne_of_none e h)]; exact e
def Ex (H H' : Hp) : Prop := ∀ b o, H b = some o → H' b = some o
theorem Ex.refl (H : Hp) : Ex H H := fun _ _ h => h
theorem Ex.trans {H H1 H2 : Hp} (a : Ex H H1) (b : Ex H1 H2) : Ex H H2 := fun x o h => b x o (a x o h)
theorem Ex.free {H H' : Hp} (e : Ex H H') {p : Addr} (h : H' p = none) : H p = none := by
  cases q : H p with
  | none => rfl
  | some o => rw [e _ _ q] at h; cases h
/-- what is wanted of a new thing (kept from being reduced) -/
def ap (Q : VK) (v : V) (H : Hp) : Prop := Q v H
theorem s_lst {tt : TA} (h : tt σ H fun xs H1 => xs.length ≤ sizeLine ∧ ∀ p, H1 p = none → ap Q (.ref p) (upd H1 p (.lst xs))) : tLst tt σ H Q := h
theorem s_tup {tt : TA} (h : tt σ H fun xs H1 => xs.length ≤ sizeLine ∧ ∀ p, H1 p = none → ap Q (.ref p) (upd H1 p (.tup xs))) : tTup tt σ H Q := h
theorem s_new {o : HO} {n : Nat} (hz : n ≤ sizeLine) (h : ∀ p H2, H p = none → Ex H H2 → H2 p = some o → Q (.ref p) H2) : n ≤ sizeLine ∧ ∀ p, H p = none → ap Q (.ref p) (upd H p o) :=
  ⟨hz, fun p hp => h p _ hp (ex_new hp) upd_same⟩
theorem s_cut {M : L2.St → Hp → Prop} (h : t { D with nx := M } σ H) (k : ∀ σ' H', M σ' H' → u D σ' H') : Evl.tCut t u D σ H := ⟨M, h, k⟩
theorem dpInts {H : Hp} : ∀ ns : List Int, DpAll K H (ns.map V.int) (ns.map PyData.int)
  | [] => .nil
  | _ :: r => .cons (.int _) (dpInts r)
end
end L3
namespace L3
open PySem PySem.Spec PyProof.Rows L2
def lim : Nat := 1000000
/-- the pen's cells: a list of numbers, hidden too -/
def ScO (c : Addr) (ns : List Int) : HO := .ext fun h => ∃ (its : List Value) (k : Nat), (ns.map V.int).length ≤ sizeLine ∧ Vals (ns.map V.int) its ∧ h.get? c = some { cls := .type "list", data := .seq its.toArray k }
section
variable {X : Cx} {pins : List (Addr × Obj)} {σ : L2.St} {H : Hp} {s : Shared}
theorem Inv.scOpen {c : Addr} {ns : List Int} (I : Inv X pins σ H s) (h : H c = some (ScO c ns)) : Inv X pins σ (upd H c (.lst (ns.map V.int))) s := by
  obtain ⟨⟨its, k, hz, r, e⟩, _, _⟩ := (show ObjOk X.prog X.w H s.heap c (ScO c ns) from I.hok c _ h)
  have mu : Mut (H c) := by rw [h]; exact True.intro
  exact I.write (t' := s.toks) (h' := s.heap) (x := c) (e := c) (o := .lst (ns.map V.int)) mu (.inl rfl) (fun _ _ _ q => q) ⟨_, e⟩ ⟨hz, its, k, r, e⟩
theorem Inv.scClose {c : Addr} {ns : List Int} (I : Inv X pins σ H s) (h : H c = some (.lst (ns.map V.int))) : Inv X pins σ (upd H c (ScO c ns)) s := by
  obtain ⟨hz, its, k, r, e⟩ := (show ObjOk X.prog X.w H s.heap c (.lst _) from I.hok c _ h)
  have mu : Mut (H c) := by rw [h]; exact True.intro
  exact I.write (t' := s.toks) (h' := s.heap) (x := c) (e := c) (o := ScO c ns) mu (.inl rfl) (fun _ _ _ q => q) ⟨_, e⟩
    ⟨⟨its, k, hz, r, e⟩, ⟨_, e⟩, fun _ _ ⟨i, k, z, r, q⟩ f => ⟨i, k, z, r, f _ q⟩⟩
end
def scBack (c : Addr) (ns : List Int) (P : Hp → Prop) (H : Hp) : Prop := H c = some (.lst (ns.map V.int)) ∧ P (upd H c (ScO c ns))
def tSc (c : Addr) (ns : List Int) (t : TS) : TS := fun D σ H => H c = some (ScO c ns) ∧
  t { nx := fun σ' => scBack c ns (D.nx σ'), rt := fun v => scBack c ns (D.rt v), bk := fun σ' => scBack c ns (D.bk σ'), ct := fun σ' => scBack c ns (D.ct σ') } σ (upd H c (.lst (ns.map V.int)))
theorem pss_sc {X : Cx} {sts : List Stmt} {t : TS} (c : Addr) (ns : List Int) (h : PSs X sts t) : PSs X sts (tSc c ns t) := by
  refine ⟨fun pins s σ H D I hw => ?_⟩
  obtain ⟨ha, hw⟩ := hw
  refine thn (h.run pins s σ _ _ (Inv.scOpen I ha) hw) fun f s' q => ?_
  cases f with
  | next =>
    obtain ⟨σ', H', I', e, z⟩ := q
    exact ⟨σ', _, Inv.scClose I' e, z⟩
  | brk =>
    obtain ⟨σ', H', I', e, z⟩ := q
    exact ⟨σ', _, Inv.scClose I' e, z⟩
  | cont =>
    obtain ⟨σ', H', I', e, z⟩ := q
    exact ⟨σ', _, Inv.scClose I' e, z⟩
  | ret u =>
    obtain ⟨v, σ', H', I', r, e, z⟩ := q
    exact ⟨v, σ', _, Inv.scClose I' e, r, z⟩
def Pen (H : Hp) (a : Addr) (n : Nat) : Prop := ∃ c ns, H a = some (PenO a c n) ∧ H c = some (ScO c ns) ∧ ns.length ≤ 63 ∧ c ≠ a
def NoTbl : HO → Prop
  | .tbl _ => False
  | _ => True
/-- all but the pen at a and the tables of code objects stays -/
def Xt (a : Addr) (H H' : Hp) : Prop := ∀ b o, b ≠ a → NoTbl o → H b = some o → H' b = some o
abbrev rInt1 : List V → Hp → VK → Prop := fun xs H Q => (∃ i, xs = [V.int i] ∧ Q (V.int i) H) ∨ ∃ k, xs = [V.bl k] ∧ Q (V.int (if k then 1 else 0)) H
abbrev rLen1 (K : PySem.W.Frag) : List V → Hp → VK → Prop := fun xs H Q => ∃ x n, xs = [x] ∧ LenV K x H n ∧ Q (V.int ((n : Nat) : Int)) H
abbrev rAbs1 : List V → Hp → VK → Prop := fun xs H Q => ∃ i, xs = [V.int i] ∧ Q (V.int (if i < 0 then -i else i)) H
/-- == and != of flat things, or of data -/
def rEqU (K : PySem.W.Frag) : R2 := fun x y H Q => rEq x y H Q ∨ rEqD K x y H Q
def rNeU (K : PySem.W.Frag) : R2 := fun x y H Q => rNe x y H Q ∨ rNeD K x y H Q
theorem dec_eqI (i j : Int) : decide (V.int i = V.int j) = decide (i = j) := by
  by_cases h : i = j
  · subst h; simp
  · rw [decide_eq_false h, decide_eq_false (fun z => h (V.int.inj z))]
theorem dec_eqS (i j : Str) : decide (V.str i = V.str j) = decide (i = j) := by
  by_cases h : i = j
  · subst h; simp
  · rw [decide_eq_false h, decide_eq_false (fun z => h (V.str.inj z))]
section
variable {K : PySem.W.Frag} {H : Hp} {Q : VK} {x y : V}
theorem s_eqI {i j : Int} (h : Q (.bl (decide (i = j))) H) : rEqU K (.int i) (.int j) H Q := .inl ⟨rfl, by rw [dec_eqI]; exact h⟩
theorem s_neI {i j : Int} (h : Q (.bl (!decide (i = j))) H) : rNeU K (.int i) (.int j) H Q := .inl ⟨rfl, by rw [dec_eqI]; exact h⟩
theorem s_eqS {i j : Str} (h : Q (.bl (decide (i = j))) H) : rEqU K (.str i) (.str j) H Q := .inl ⟨rfl, by rw [dec_eqS]; exact h⟩
theorem s_neS {i j : Str} (h : Q (.bl (!decide (i = j))) H) : rNeU K (.str i) (.str j) H Q := .inl ⟨rfl, by rw [dec_eqS]; exact h⟩
theorem s_neD' {d e : PyData} (hd : Dp K H x d) (he : Dp K H y e) (sd : SeqAt.shaped d = true) (se : SeqAt.shaped e = true) (h : Q (.bl (!PyData.eqv d e)) H) : rNeU K x y H Q := .inr ⟨d, e, hd, he, sd, se, h⟩
end
end L3
end
section
namespace L3
open PySem PySem.Spec PyProof.Rows L2
structure FnG (P : Program) (w : World) (K : PySem.W.Frag) (mg : Str → Option Value) (base : Heap) (CX : CXT) (k : Nat) (f : Addr) (fd : FuncData) (ps : List Str) (sp : Sp) : Prop where
  len : ∀ vs H Q E, sp vs H Q E → vs.length = ps.length
  run : ∀ (A : Around) (fr : List Env) (s : Shared) (H : Hp) (as : Args) (us : List Value) (vs : List V) (Q : VK) (E : XK), Room k A → A.guards = some [] → Env0 P w K mg base A fr s H →
    BindsTo s fd as (ps.zip us) → Vals vs us → sp vs H Q E → codeAny (model P w) A (.call (.ref f) as) (CR CX fr P w H s Q E) s
theorem FnG.of {P : Program} {w : World} {K : PySem.W.Frag} {mg : Str → Option Value} {base : Heap} {CX : CXT} {k : Nat} {f : Addr} {fd : FuncData} {ps : List Str} {sp : Sp} (F : FnOk P w K mg base CX k f fd ps sp) : FnG P w K mg base CX k f fd ps sp :=
  ⟨F.len, fun A fr s H as us vs Q E r _ => F.run A fr s H as us vs Q E r⟩
/-- THE RULE for such a def -/
theorem funG {P : Program} {w : World} {K : PySem.W.Frag} {mg : Str → Option Value} {base : Heap} {CX : CXT} {x qual : Str} {st : Stmt} {f : Addr} {fd : FuncData} {N ps : List Str} {k : Nat} {sp : Sp}
    (F : Fun K x qual st f fd) (S : FnScope N ps (defScope st)) (len : ∀ vs H Q E, sp vs H Q E → vs.length = ps.length)
    (body : ∀ (cd : Value) (A : Around) (fr : List Env) (s : Shared) (H : Hp) (vs : List V) (Q : VK) (E : XK), Room k (A.deeper (envOfC qual (defScope st) s.heap.objs.size f cd)) → A.guards = some [] → sp vs H Q E →
      ∃ t, PSs (cxOf CX P w K mg base N qual (defScope st) f cd A fr s H E) (defBody st) t ∧ t { nx := fun _ H' => Q .non H', rt := Q } (L2.start N vs) H) :
    FnG P w K mg base CX (k + 1) f fd ps sp := by
  obtain ⟨oc, od, kV, doc, pm, an, cd, ct, sl, rfl, lk, hcd⟩ := F.ex
  exact ⟨len, fun A fr s H as us vs Q E hr hg e0 hb r h => LamX.run_ofS lk hcd S hr e0 hb r (len _ _ _ _ h) fun hr' => body cd A fr s H vs Q E hr' hg h⟩
/-- a def whose code object is known (it makes lambdas) -/
structure FunC (K : PySem.W.Frag) (x qual : Str) (st : Stmt) (c f : Addr) (fd : FuncData) : Prop where
  ex : ∃ (oc : Value) (od : Option Addr) (kV doc pm : Value) (an : Option Addr) (ct : Value) (osl : Array (Option Value)),
    fd = PySem.W.fnOf x qual (defArgs st) (defBody st) (defScope st) .none kV doc pm an (.ref c) ct ∧ K.lookup f = some ⟨oc, od, .func fd, osl⟩ ∧ PySem.W.codeIn K (.ref c) qual = true
theorem FunC.fun {K : PySem.W.Frag} {x qual : Str} {st : Stmt} {c f : Addr} {fd : FuncData} (F : FunC K x qual st c f fd) (k : PySem.W.keepIn K (.ref f) = true) : Fun K x qual st f fd := by
  obtain ⟨oc, od, kV, doc, pm, an, ct, sl, e, l, h⟩ := F.ex
  exact ⟨⟨oc, od, kV, doc, pm, an, .ref c, ct, sl, e, l, h⟩, k⟩
theorem funGC {P : Program} {w : World} {K : PySem.W.Frag} {mg : Str → Option Value} {base : Heap} {CX : CXT} {x qual : Str} {st : Stmt} {c f : Addr} {fd : FuncData} {N ps : List Str} {k : Nat} {sp : Sp}
    (F : FunC K x qual st c f fd) (S : FnScope N ps (defScope st)) (len : ∀ vs H Q E, sp vs H Q E → vs.length = ps.length)
    (body : ∀ (A : Around) (fr : List Env) (s : Shared) (H : Hp) (vs : List V) (Q : VK) (E : XK), Room k (A.deeper (envOfC qual (defScope st) s.heap.objs.size f (.ref c))) → A.guards = some [] → sp vs H Q E →
      ∃ t, PSs (cxOf CX P w K mg base N qual (defScope st) f (.ref c) A fr s H E) (defBody st) t ∧ t { nx := fun _ H' => Q .non H', rt := Q } (L2.start N vs) H) :
    FnG P w K mg base CX (k + 1) f fd ps sp := by
  obtain ⟨oc, od, kV, doc, pm, an, ct, sl, rfl, lk, hcd⟩ := F.ex
  exact ⟨len, fun A fr s H as us vs Q E hr hg e0 hb r h => LamX.run_ofS lk hcd S hr e0 hb r (len _ _ _ _ h) fun hr' => body A fr s H vs Q E hr' hg h⟩
section
variable {X : Cx} {CX : CXT} {k : Nat} {f : Addr} {fd : FuncData} {ps : List Str} {sp : Sp} {E : XK} {x : Str} {p pos : Pos} {e : Expr} {es : List Expr} {t : TA}
theorem runG {pins : List (Addr × Obj)} {σ : L2.St} {H : Hp} {s : Shared} {Q : VK} {us : List Value} {vs : List V} (F : FnG X.prog X.w X.K X.mg X.base CX k f fd ps sp) (hr : Room k X.A) (hg : X.A.guards = some [])
    (hb : Binds X.K fd ps []) (hx : Passes CX X E) (I : Inv X pins σ H s) (r : Vals vs us) (h : sp vs H Q E) : wpAny (model X.prog X.w) X.A (call (.ref f) us) (EP X pins σ Q) X.xe s := by
  have hl : (us ++ []).length = ps.length := by rw [List.append_nil, ← r.length]; exact F.len _ _ _ _ h
  have b := hb s us I.kIn hl
  rw [List.append_nil] at b
  refine wpAny_call (codeAny_mono (F.run X.A X.stack s H ⟨us, []⟩ us vs Q E hr hg I.env0 b r h) fun q s' z => ?_)
  match q, z with
  | .error e, z => exact hx pins σ H s e s' I z
  | .ok (.ret u), z => exact I.after z
/-- a def of the module, called by its name, as one bundle -/
structure Fn (P : Program) (w : World) (K : PySem.W.Frag) (mg : Str → Option Value) (base : Heap) (CX : CXT) (k : Nat) (x : Str) (ps : List Str) (sp : Sp) : Prop where
  ex : ∃ (f : Addr) (fd : FuncData), FnG P w K mg base CX k f fd ps sp ∧ mg x = some (.ref f) ∧ PySem.W.keepIn K (.ref f) = true ∧ Binds K fd ps [] ∧
    ∀ (s : Shared) (ws : List Value), K.In s.heap → ws.length = ps.length → BindsTo s fd ⟨[], ps.zip ws⟩ (ps.zip ws)
theorem pe_f {j : Nat} (c : Fn X.prog X.w X.K X.mg X.base CX k x ps sp) (hr : Room j X.A) (hg : X.A.guards = some []) (hx : Passes CX X E) (ha : PA X (e :: es) t) (hk : k ≤ j := by decide) (gl : Gl X x := by rfl)
    (hdb : (x == ("__debug__" : Str)) = false := by decide) (he : starEach (e :: es) X.env = (false, eval e X.env) :: starEach es X.env := by rfl) (hpl : (backTo pos (starEach es X.env)).any (·.1) = false := by rfl) :
    PE X (.Call (.Name x p) (e :: es) [] pos) (tCall sp [] E t) := by
  obtain ⟨f, fd, F, m, kp, b, _⟩ := c.ex
  constructor
  intro pins s σ H Q I h
  refine wpAny_Call_Name_kw (ld_glob I gl m ?_ hdb)
  refine PySem.W.callWith_K (h₀ := X.base) I.ok.mod.kin kp (thn (ha.run pos pins s σ H _ I h) fun us s1 q => ?_) he hpl
  obtain ⟨vs, H1, I1, r, q⟩ := q
  rw [List.append_nil] at q
  exact ⟨I1.kIn, runG F (hr.mono hk) hg b hx I1 r q⟩
end
end L3
namespace L3
open PySem PySem.Spec PyProof.Rows L2 LamX
/-- what is tracked at the law's entry: the script, locked, where it is no object of the module's own; the tables -/
def H0 (K : PySem.W.Frag) (a : Addr) (o : Obj) (xs : List V) (ts : List Addr) : Hp := fun b =>
  if b ∈ ts then some (.tbl #[]) else if b = a ∧ (K.lookup a).isNone = true then some (.frz o (.lst xs)) else none
theorem lawG {P : Program} {w : World} {K : PySem.W.Frag} {mg mb : Str → Option Value} {CX : CXT} {k : Nat} {fa a : Addr} {cs : List (Addr × Addr)} {fd : FuncData} {x : Str} {sp : Sp} {s : Shared} {vs : List Value} {ns : List Int}
    (kin : K.In s.heap) (glo : s.heap.Ns mainGlobals mg) (blt : s.heap.Ns builtinsNs mb) (bls : ∀ y : Str, y ≠ "__name__" → mb y = bootBuiltins y) (lims : s.heap.NoLimit) (gen : s.gens = #[])
    (tabs : ∀ p ∈ cs, s.heap.get? p.2 = some { cls := .none, data := .fields #[] }) (tabK : ∀ p ∈ cs, K.lookup p.2 = none) (codes : ∀ p ∈ cs, PySem.W.CodeHd s.heap p.1 p.2)
    (bmod : ∃ (bm : Addr) (ob : Obj), mg "__builtins__" = some (.ref bm) ∧ bm ≠ builtinsNs ∧ s.heap.get? bm = some ob ∧ ob.cls = .type "module" ∧ ob.dict = some builtinsNs ∧ ob.data = .plain)
    (scr : s.heap.get? a = some { cls := .type "list", data := .seq vs.toArray }) (hInts : IntsAre vs ns) (few : ns.length ≤ sizeLine) (room : Room k callerA)
    (F : ∀ base : Heap, K.In base → base.Ns mainGlobals mg → (∀ p ∈ cs, TabB base mg p.1 p.2) → FnG P w K mg base CX k fa fd [x] sp)
    (bind : ∀ (s : Shared) (u : Value), BindsTo s fd ⟨[u], []⟩ [(x, u)])
    (says : ∀ H : Hp, (∀ p ∈ cs, H p.2 = some (.tbl #[])) → SqL K H a (ns.map V.int) → sp [.ref a] H (fun v _ => v = .bl true) fun _ _ _ => False)
    (none' : ∀ H e s', CX [] H s (fun _ _ _ => False) e s' → False) :
    codeAny (model P w) callerA (.call (.ref fa) ⟨[.ref a], []⟩) (fun r s' => r = .ok (.ret (.bool true)) ∧ OldK s.heap s'.heap ∧ s'.os = s.os ∧ AllBare s'.gens) s := by
  have rv := vals_ints hInts
  have lv := hInts.length
  generalize hts : cs.map (·.2) = ts
  have mem : ∀ p ∈ cs, p.2 ∈ ts := fun p hp => by rw [← hts]; exact List.mem_map.mpr ⟨p, hp, rfl⟩
  have isT : ∀ b ∈ ts, s.heap.get? b = some { cls := .none, data := .fields #[] } ∧ K.lookup b = none := fun b hb => by
    rw [← hts] at hb
    obtain ⟨p, hp, rfl⟩ := List.mem_map.mp hb
    exact ⟨tabs p hp, tabK p hp⟩
  have aT : a ∉ ts := fun z => by
    have q := (isT a z).1
    rw [scr] at q
    exact nomatch congrArg Obj.data (Option.some.inj q)
  generalize hH : H0 K a { cls := .type "list", data := .seq vs.toArray } (ns.map V.int) ts = H
  have atT : ∀ b ∈ ts, H b = some (.tbl #[]) := fun b hb => by rw [← hH]; exact if_pos hb
  have cases_ : ∀ b, H b = none ∨ b ∈ ts ∨ (b = a ∧ K.lookup a = none ∧ H b = some (.frz { cls := .type "list", data := .seq vs.toArray } (.lst (ns.map V.int)))) := fun b => by
    by_cases h1 : b ∈ ts
    · exact .inr (.inl h1)
    · by_cases h2 : b = a ∧ (K.lookup a).isNone = true
      · refine .inr (.inr ⟨h2.1, by simpa using h2.2, ?_⟩)
        rw [← hH]; unfold H0; rw [if_neg h1, if_pos h2]
      · left; rw [← hH]; unfold H0; rw [if_neg h1, if_neg h2]
  have hok : HOk P w H s.heap := fun b o e => by
    rcases cases_ b with q | q | ⟨rfl, _, q⟩
    · rw [q] at e; cases e
    · rw [atT b q] at e; cases e; exact (isT b q).1
    · rw [q] at e; cases e
      exact ⟨scr, by rw [List.length_map]; exact few, vs, _, rv, scr⟩
  have sq : SqL K H a (ns.map V.int) := by
    cases hk : K.lookup a with
    | none => exact .inl (.inr ⟨_, by rw [← hH]; unfold H0; rw [if_neg aT, if_pos ⟨rfl, by rw [hk]; rfl⟩]⟩)
    | some o =>
      have z := kin a o hk
      rw [scr] at z
      cases z
      exact .inr ⟨_, vs.toArray, _, hk, rfl, rfl, rfl, by rw [List.size_toArray, lv]; exact few, by simpa using rv⟩
  -- what isn't tracked lies in the ground
  have gr : ∀ {b : Addr} {o : Obj}, s.heap.get? b = some o → H b = none → (hidT s.heap H).get? b = some o := fun e n => hidT_get e n
  have free : ∀ {b : Addr} {o : Obj}, s.heap.get? b = some o → (∀ us n, o.data ≠ .seq us n) → o.data ≠ .fields #[] → H b = none := fun {b o} e h1 h2 => by
    rcases cases_ b with q | q | ⟨rfl, _, _⟩
    · exact q
    · rw [(isT b q).1] at e; cases e; exact (h2 rfl).elim
    · rw [scr] at e; cases e; exact (h1 _ _ rfl).elim
  have ns' : ∀ {b : Addr} {m : Str → Option Value}, s.heap.Ns b m → (hidT s.heap H).Ns b m := fun {b m} h => by
    obtain ⟨o, es, ep, e, d, r⟩ := h
    exact ⟨o, es, ep, gr e (free e (fun _ _ z => by rw [d] at z; cases z) fun z => by rw [d] at z; cases z), d, r⟩
  have kin' : K.In (hidT s.heap H) := fun b o e => gr (kin b o e) (by
    rcases cases_ b with q | q | ⟨rfl, q, _⟩
    · exact q
    · rw [(isT b q).2] at e; cases e
    · rw [q] at e; cases e)
  have lim' : (hidT s.heap H).NoLimit := by
    obtain ⟨mc, h1, h2⟩ := lims
    exact ⟨mc, ns' h1, h2⟩
  have tb : ∀ p ∈ cs, TabB (hidT s.heap H) mg p.1 p.2 := fun p hp => by
    refine ⟨?_, ?_, fun z => ?_⟩
    · obtain ⟨o, us, file, tf, flags, tg, inF, text, tt, e1, r1, r2, r3, r⟩ := codes p hp
      refine ⟨o, us, file, tf, flags, tg, inF, text, tt, gr e1 (free e1 (fun _ _ z => by rw [r2] at z; cases z) fun z => ?_), r1, r2, r3, r⟩
      rw [r2] at z
      cases z
      simp at r3
    · obtain ⟨bm, ob, b1, b2, b3, b4, b5, b6⟩ := bmod
      refine ⟨bm, ob, b1, b2, fun z => ?_, fun z => ?_, gr b3 (free b3 (fun _ _ z => by rw [b6] at z; cases z) fun z => by rw [b6] at z; cases z), b4, b5, b6⟩
      · obtain ⟨o, es, ep, e, hd, _⟩ := glo
        rw [z, e] at b3; cases b3; rw [hd] at b6; cases b6
      · rw [z, tabs p hp] at b3; cases b3; cases b6
    · obtain ⟨o, es, ep, e, hd, _⟩ := glo
      rw [z, tabs p hp] at e; cases e; cases hd
  have e0 : Env0 P w K mg (hidT s.heap H) callerA [] s H :=
    ⟨rfl, ⟨kin', ns' glo, ⟨mb, ns' blt, bls⟩, lim'⟩, fun b o e => of_hidT e, Nat.le_of_eq (hidT_size _ _), trivial, fun b hb => absurd (show b ∈ ([] : List Addr) from hb) (by simp), hok, .of_eq gen⟩
  refine codeAny_mono ((F _ kin' (ns' glo) tb).run callerA [] s H ⟨[.ref a], []⟩ [.ref a] [.ref a] _ _ room rfl e0 (bind s (.ref a)) (.cons rfl .nil) (says H (fun p hp => atT _ (mem p hp)) sq)) fun r s' h => ?_
  match r, h with
  | .error e, h => exact (none' H e s' h).elim
  | .ok (.ret u), h =>
    obtain ⟨v, H', os, bare, un, hok', r', q⟩ := h
    have q' : v = .bl true := q
    subst q'
    obtain rfl : u = Value.bool true := r'
    have nofr : ∀ b : Addr, b ∉ frs [] := fun b z => absurd (show b ∈ ([] : List Addr) from z) (by simp)
    have kept : ∀ b o, b ∉ ts → s.heap.get? b = some o → s'.heap.get? b = some o := fun b o nb e => by
      rcases cases_ b with q | q | ⟨_, _, q⟩
      · exact un.keep b o e q (nofr b) (by simp)
      · exact absurd q nb
      · have e1 := (hok b _ q).1
        have e2 := (hok' b _ (un.frzs b _ _ q)).1
        rw [e] at e1; cases e1; exact e2
    have tgrow : ∀ p ∈ cs, ∃ more : Array Value, s'.heap.get? p.2 = some { cls := .none, data := .fields more } := fun p hp => by
      obtain ⟨more, z⟩ := un.tbls p.2 #[] (atT _ (mem p hp))
      exact ⟨_, hok' p.2 _ z⟩
    have back : ∀ b ∈ ts, ∃ p ∈ cs, p.2 = b := fun b hb => by
      rw [← hts] at hb
      obtain ⟨p, hp, e⟩ := List.mem_map.mp hb
      exact ⟨p, hp, e⟩
    refine ⟨rfl, ⟨fun b o e => ?_, fun b o e => ?_⟩, os, bare⟩
    · by_cases hb : b ∈ ts
      · obtain ⟨p, hp, rfl⟩ := back b hb
        obtain ⟨more, hm⟩ := tgrow p hp
        rw [tabs p hp] at e
        cases e
        refine .inr (.inl ⟨((codes p hp).tab (tabs p hp)).isCodeTable, rfl, #[], more, rfl, ?_⟩)
        rw [Array.empty_append]
        exact hm
      · exact .inl (kept b o hb e)
    · by_cases hb : b ∈ ts
      · obtain ⟨p, hp, rfl⟩ := back b hb
        obtain ⟨more, hm⟩ := tgrow p hp
        exact ⟨_, hm⟩
      · exact ⟨o, kept b o hb e⟩
/-- what a law's own text must bring -/
structure LawG (l : PySem.W.OpenLaw) (w : World) (K : PySem.W.Frag) (CX : CXT) (k n : Nat) (x : Str) (mg : Str → Option Value) (fa : Addr) (h : Heap) : Prop where
  ex : ∃ (fd : FuncData) (cs : List (Addr × Addr)) (sp : Sp), (∀ p ∈ cs, h.get? p.2 = some { cls := .none, data := .fields #[] }) ∧ (∀ p ∈ cs, K.lookup p.2 = none) ∧ (∀ p ∈ cs, PySem.W.CodeHd h p.1 p.2) ∧
    (∀ (s : Shared) (u : Value), BindsTo s fd ⟨[u], []⟩ [(x, u)]) ∧
    (∀ (H : Hp) (a : Addr) (ns : List Int), ns.length ≤ n → (∀ p ∈ cs, H p.2 = some (.tbl #[])) → SqL K H a (ns.map V.int) → sp [.ref a] H (fun v _ => v = .bl true) fun _ _ _ => False) ∧
    ∀ base : Heap, K.In base → base.Ns mainGlobals mg → (∀ p ∈ cs, TabB base mg p.1 p.2) → FnG l.prog w K mg base CX k fa fd [x] sp
theorem walkG {l : PySem.W.OpenLaw} {n k : Nat} {q : Program} {loose : List Str} {XP : (Str → Option Value) → Heap → Prop} {YP : World → Heap → Prop} {d : DefRec} {K : Params → PySem.W.Frag} {CX : World → CXT} {x : Str}
    (hn : l.most = some n) (hn2 : n ≤ sizeLine) (hdf : d.params.defaults = []) (hr : Room k callerA) (hY : ∀ (w : World) (h : Heap), YP w h → (K w.params).In h)
    (F : ∀ (w : World) (mg : Str → Option Value) (fa : Addr) (h : Heap), YP w h → (K w.params).In h → h.Ns mainGlobals mg → mg d.name = some (.ref fa) → LawG l w (K w.params) (CX w) k n x mg fa h)
    (hCX : ∀ (w : World) (H : Hp) (s : Shared) (e : Value) (s' : Shared), CX w [] H s (fun _ _ _ => False) e s' → False) :
    PySem.W.WalkO q loose XP YP l.row.toRowW d [] (fun f vs => PySem.call f vs) := by
  refine Att.attach_callB hn hdf fun w s₀ s₁ mg mb fa o pm cd doc a vs ns G Y ho hd hcd hmg hobj hints hlen _ hg => ?_
  have kx := hY w _ Y
  obtain ⟨fd, cs, sp, t1, t2, t3, hb, hs, hF⟩ := (F w mg fa _ Y kx G.T.g hmg).ex
  exact lawG kx G.T.g G.T.b G.T.builtins G.T.nolimit hg t1 t2 t3 G.T.bmain hobj hints (Nat.le_trans hlen hn2) hr hF hb (fun H hH hS => hs H a ns hlen hH hS) fun H e s' => hCX w H s₁ e s'
end L3
end
section
namespace L3
open PySem PySem.Spec PyProof.Rows L2
section
variable {X : Cx}
def repS (z : Str) (n : Nat) : Str := ⟨(List.replicate n z.cps).foldl (· ++ ·) #[]⟩
def rMulS : R2 := fun x y H Q => ∃ z n, x = .str z ∧ y = .int n ∧ 2 ≤ n ∧ n ≤ 100000 ∧ z.length = 1 ∧ Q (.str (repS z n.toNat)) H
theorem repS_len (z : Str) (n : Nat) : (repS z n).length = n * z.length := by
  have h : ∀ (l : List (Array Nat)) (a : Array Nat), (l.foldl (· ++ ·) a).size = a.size + (l.map (·.size)).sum := by
    intro l
    induction l with
    | nil => intro a; simp
    | cons b r ih => intro a; rw [List.foldl_cons, ih, Array.size_append, List.map_cons, List.sum_cons]; omega
  show ((List.replicate n z.cps).foldl (· ++ ·) #[]).size = _
  rw [h, List.map_replicate, List.sum_replicate_nat]
  simp [Str.length]
theorem op_mulS : OpR X (binaryOp .Mult) rMulS := by
  intro pins s σ H x y v u Q I rx ry h
  obtain ⟨z, n, rfl, rfl, h1, h2, h3, q⟩ := h
  obtain ⟨t, rfl⟩ := rx
  obtain ⟨t', rfl⟩ := ry
  have c1 : ¬ n < 1 := by omega
  have c2 : (n == 1 || z.length == 0) = false := by
    rw [h3, show (n == 1) = false from beq_eq_false_iff_ne.mpr (by omega)]
    rfl
  refine P.mul_str (by rw [decide_eq_false (by omega), decide_eq_false (by omega)]; rfl) (fun _ _ => ?_) (fun _ _ => ?_) ?_
  · rw [h3]
    have : (1 : Int) ≤ (2 ^ 63 - 1) / n := Int.le_ediv_of_mul_le (by omega) (by omega)
    omega
  · unfold PySem.Builtin.Str.tooLong
    rw [h3]
    exact decide_eq_false (by rw [sizeLine_eq]; omega)
  · rw [if_neg c1, c2, if_neg (by decide)]
    refine ⟨?_, ⟨.str (repS z n.toNat), H, I.tok _, ⟨_, rfl⟩, q⟩⟩
    show (repS z n.toNat).length ≤ sizeLine
    rw [repS_len, h3, sizeLine_eq]
    omega
theorem vals_of_get : ∀ {xs : List V} {us : List Value}, xs.length = us.length → (∀ (i : Nat) x u, xs[i]? = some x → us[i]? = some u → RelV x u) → Vals xs us
  | [], [], _, _ => .nil
  | x :: xs, u :: us, hl, h => .cons (h 0 x u rfl rfl) (vals_of_get (by simpa using hl) fun i y v a b => h (i + 1) y v (by simpa using a) (by simpa using b))
  | [], _ :: _, hl, _ => by simp at hl
  | _ :: _, [], hl, _ => by simp at hl
def chars (z : Str) : List V := z.cps.toList.map fun c => V.str ⟨#[c]⟩
def rListS : List V → Hp → VK → Prop := fun xs H Q => ∃ z, xs = [.str z] ∧ z.length ≤ sizeLine ∧ ∀ l, H l = none → ap Q (.ref l) (upd H l (.lst (chars z)))
theorem call_listS (hc : X.calm = true) : CallR X (.type "list") rListS := by
  intro pins s σ H xs us Q I r h
  obtain ⟨z, rfl, hz, q⟩ := h
  obtain ⟨u, rfl, rx⟩ := vals1 r
  obtain ⟨t, rfl⟩ := rx
  refine call_list_str (I.ok.hd hc) z t (fun h' tk acc c k e it => ?_) hz
  have rl : Vals (chars z) acc.toList := by
    refine vals_of_get ?_ fun i x u hx hu => ?_
    · unfold chars
      rw [List.length_map, Array.length_toList, Array.length_toList, it.1]
    · obtain ⟨c, t, e1, rfl⟩ := it.2 i u (by simpa using hu)
      have e2 : z.cps.toList[i]? = some c := by simpa using e1
      unfold chars at hx
      rw [List.getElem?_map, e2] at hx
      cases hx
      exact ⟨t, rfl⟩
  refine ⟨.ref s.heap.objs.size, _, I.laid (t' := tk) k (Nat.le_refl _) (o := .lst (chars z)) ⟨by unfold chars; rw [List.length_map]; exact hz, acc.toList, c, rl, by simpa using e⟩, rfl, q _ (I.hok.fresh (Nat.le_refl _))⟩
end
end L3
namespace L3
open PySem PySem.Calls PySem.NumText PyProof.Rows PySem.W PySem.W.KIN
def DigitsFree (h : Heap) : Prop := ∃ mc, h.Ns cStatics mc ∧ mc "sys.int_max_str_digits" = none
theorem wp_digits {M : Model} {A : Around} {E : Value → Shared → Prop} {s : Shared} {Q : Nat → Shared → Prop} (hm : DigitsFree s.heap) (h : Q 4300 s) : wpAny M A PySem.Builtin.intMaxStrDigits Q E s := by
  obtain ⟨mc, h1, h2⟩ := hm
  unfold PySem.Builtin.intMaxStrDigits
  refine wpAny_bind (wpAny_nsGet h1 ?_)
  rw [h2]
  exact wpAny_pure h
theorem wp_textL {M : Model} {A : Around} {E : Value → Shared → Prop} {s : Shared} {Q : Value → Shared → Prop} {v : Value} {text : List Nat} {n : Int} (hm : DigitsFree s.heap)
    (hs : ¬ (text.takeWhile (· != 0)).length ≤ 640) (hr : (int_private% "readNumeral") 4300 10 (text.takeWhile (· != 0)) = (int_private% "Numeral.value") n)
    (ha : ((text.takeWhile (· != 0)).length == text.length) = true) (h : Q (.int n s.toks) { s with toks := s.toks + 1 }) :
    wpAny M A ((int_private% "intFromText") v text 10) Q E s := by
  obtain ⟨hp, g, d, tk, os⟩ := s
  repeat (any_goals (first
    | assumption
    | (with_reducible refine wpAny_ite_false (decide_eq_false hs) ?_)
    | (with_reducible refine wpAny_ite_true (decide_eq_true ha) ?_)
    | (with_reducible refine wp_digits hm ?_)
    | wp_step))
  all_goals (try rw [hr])
  all_goals (try dsimp only)
  repeat (any_goals (first
    | assumption
    | (with_reducible refine wpAny_ite_true (decide_eq_true ha) ?_)
    | wp_step))
structure HidL (p : Prop) : Prop where
  out : p
theorem meets_textL {x : PySem.Str} {u : Tok} {n : Int} (hl : ¬ (numSeenOf x).length ≤ 640) (hr : (int_private% "readNumeral") 4300 10 (numSeenOf x) = (int_private% "Numeral.value") n)
    (ha : ((numSeenOf x).length == (numTextOf x).length) = true) : Meets (Builtin.«int.__new__» ⟨[.type "int", .str x u], []⟩) (fun _ R s => DigitsFree s.heap ∧ R (.ok (.ret (.int n s.toks))) { s with toks := s.toks + 1 }) := by
  intro prog w A R s h
  obtain ⟨hm, h⟩ := h
  obtain ⟨hp, g, d, tk, os⟩ := s
  have g1 := F.conv_sub_int
  have g2 := F.madeHere_int
  have g3 := str_int
  have g4 := str_idx
  have g5 := str_trunc
  have g6 : typeOf (.str x u) = pure (.type "str") := rfl
  have hk := HidL.mk (And.intro hl (And.intro hr ha))
  clear hl hr ha
  repeat (any_goals (first
    | assumption
    | ((with_reducible show wpAny _ _ ((int_private% "intFromText") _ _ _) _ _ _); refine wp_textL hm hk.out.1 hk.out.2.1 hk.out.2.2 ?_)
    | wp_step))
theorem call_textL {prog : Program} {w : World} {A : Around} {E : Value → Shared → Prop} {s : Shared} {Q : Value → Shared → Prop} {x : PySem.Str} {u : Tok} {n : Int} (hm : DigitsFree s.heap) (hl : ¬ (numSeenOf x).length ≤ 640) (hr : (int_private% "readNumeral") 4300 10 (numSeenOf x) = (int_private% "Numeral.value") n)
    (ha : ((numSeenOf x).length == (numTextOf x).length) = true) (h : Q (.int n s.toks) { s with toks := s.toks + 1 }) :
    wpAny (model prog w) A (call (.type "int") [.str x u]) Q E s := call_int_1 (meets_textL hl hr ha) ⟨hm, rfl, h⟩
end L3
namespace L3
open PySem PySem.Spec PyProof.Rows L2
namespace FnK
theorem slot : Slot "function" "__getattribute__" "object.__getattribute__" := .of (owner := "object") (n := "__getattribute__")
  (by rw [typeLookup_type, builtinLookup_eq_fast]; kernel_rfl) (by decide +kernel) (by decide +kernel) (by decide +kernel) (by first | exact .inl (by decide +kernel) | exact .inr (by decide +kernel)) (by rw [isSubtype_type]; kernel_rfl)
theorem look : typeLookup (.type "function") "__class__" = pure (some (.builtin "object.__class__")) := by
  rw [typeLookup_type, builtinLookup_eq_fast]; kernel_rfl
theorem below : isSubtype (.type "function") (.type (".".intercalate ("object.__class__".cutAt '.').dropLast)) = pure true := by
  rw [F.owner_object_class, isSubtype_type]; kernel_rfl
section
variable {prog : Program} {w : World} {A : Around} {E : Value → Shared → Prop} {hp : Heap} {gs : Array GenState} {dr : Drawn} {tk : Nat} {os : OsState} {f : Addr} {ob : Obj}
theorem got {R : Result → Shared → Prop} (e : hp.get? f = some ob) (c : ob.cls = .type "function") (k : R (.ok (.ret (.type "function"))) ⟨hp, gs, dr, tk, os⟩) :
    codeAny (model prog w) A (.call (.builtin "getset_descriptor.__get__") ⟨[.builtin "object.__class__", .ref f, .type "function"], []⟩) R ⟨hp, gs, dr, tk, os⟩ := by
  have y1 : (⟨hp, gs, dr, tk, os⟩ : Shared).TypeIs (.ref f) "function" := ⟨_, e, c⟩
  have y2 : (⟨hp, gs, dr, tk, os⟩ : Shared).TypeIs (.builtin "object.__class__") "getset_descriptor" := F.typeOf_object_class
  have y3 := below
  refine codeAny_call_builtin F.slot_gs_get.plain F.entry_gs_get (F.slot_gs_get.check _ _ _ _ _ _ _ _ y2 (F.args_gs_get _ _ _) ?_)
  repeat (any_goals (first | assumption | wp_step))
  refine ⟨Code.quiet_builtin _ (by decide +kernel), codeAny_builtin F.entry_object_class ?_⟩
  repeat (any_goals (first | assumption | wp_step))
theorem entry {t : Tok} {Q : Fin → Shared → Prop} (e : hp.get? f = some ob) (c : ob.cls = .type "function") (k : Q (.done (.ret (.type "function"))) ⟨hp, gs, dr, tk, os⟩) :
    wpAny (model prog w) A (Builtin.«object.__getattribute__» ⟨[.ref f, .str "__class__" t], []⟩) Q E ⟨hp, gs, dr, tk, os⟩ := by
  have y1 : (⟨hp, gs, dr, tk, os⟩ : Shared).TypeIs (.ref f) "function" := ⟨_, e, c⟩
  have y2 : (⟨hp, gs, dr, tk, os⟩ : Shared).TypeIs (.builtin "object.__class__") "getset_descriptor" := F.typeOf_object_class
  have y3 := look
  have y4 := F.typeOf_object_class
  have y5 := F.slot_gs_get.lookup
  have y6 := F.slot_gs_set.lookup
  repeat (any_goals (first | assumption | wp_step))
  refine got e c ?_
  repeat (any_goals (first | assumption | wp_step))
theorem by_ {t : Tok} {Q : Value → Shared → Prop} (e : hp.get? f = some ob) (c : ob.cls = .type "function") (k : Q (.type "function") ⟨hp, gs, dr, tk, os⟩) :
    wpAny (model prog w) A (getAttrBy (.ref f) (.str "__class__" t) false) Q E ⟨hp, gs, dr, tk, os⟩ := by
  have y1 : (⟨hp, gs, dr, tk, os⟩ : Shared).TypeIs (.ref f) "function" := ⟨_, e, c⟩
  have y2 := slot.lookup
  have y3 := slot.bind (.ref f)
  repeat (any_goals (first | assumption | wp_step))
  refine codeAny_call_builtin slot.plain F.entry_object_getattribute (slot.check _ _ _ _ _ _ _ _ y1 (F.args_object_getattribute_2 _ _) (entry e c ?_))
  repeat (any_goals (first | assumption | wp_step))
theorem attr {Q : Option Value → Shared → Prop} (e : hp.get? f = some ob) (c : ob.cls = .type "function") (k : Q (some (.type "function")) ⟨hp, gs, dr, tk + 1, os⟩) :
    wpAny (model prog w) A (getAttr? (.ref f) "__class__") Q E ⟨hp, gs, dr, tk, os⟩ := by
  unfold getAttr? getAttrBy?
  repeat (any_goals (first | assumption | with_reducible apply by_ e c | wp_step))
end
theorem kit {K : PySem.W.Frag} {f : Addr} : PySem.W.KitX K (.ref f) (.type "function") (PySem.W.KitAt f "function") :=
  PySem.W.kitx_of PySem.W.kitAt_ty (fun {_ _ _ _ _ s} p k => by
    obtain ⟨hp, gs, dr, tk, os⟩ := s
    obtain ⟨o, h1, h2⟩ := p
    exact attr h1 h2 k)
end FnK
/-- a function object -/
def FnV (f : Addr) : HO := .ext fun h => ∃ o, h.get? f = some o ∧ o.cls = .type "function"
/-- a value's type -/
inductive TyA (K : PySem.W.Frag) (H : Hp) : V → Value → Prop where
  | x {v : V} {t : Value} (h : TyX K H v t) : TyA K H v t
  | fn {f : Addr} (e : H f = some (FnV f)) : TyA K H (.ref f) (.type "function")
def rIsiA (K : PySem.W.Frag) : List V → Hp → VK → Prop := fun xs H Q => ∃ (x c : V) (t u : Value) (b : Bool), xs = [x, c] ∧ ClsV c u ∧ TyA K H x t ∧ PySem.W.kitOne K t u = some b ∧ Q (.bl b) H
theorem callIsi {X : Cx} : CallR X (.builtin "isinstance") (rIsiA X.K) := by
  intro pins s σ H xs us Q I r h
  obtain ⟨x, c, t, u, b, rfl, k, ty, e, q⟩ := h
  cases ty with
  | x ty => exact call_isi pins s σ H _ us Q I r ⟨x, c, t, u, b, rfl, k, ty, e, q⟩
  | @fn f ef =>
    obtain ⟨u1, u2, rfl, r1, r2⟩ := vals2 r
    have e2 := k.eq r2
    subst e2
    cases (show u1 = Value.ref f from r1)
    obtain ⟨⟨o, h1, h2⟩, _, _⟩ := (show ObjOk X.prog X.w H s.heap f (FnV f) from I.hok f _ ef)
    exact PySem.W.kia_one (FnK.kit (K := X.K) (f := f)) I.kIn ⟨o, h1, h2⟩ e (fun z => nomatch z) fun tk => ⟨.bl b, H, I.tok tk, rfl, q⟩
end L3
namespace L3
open PySem PySem.Spec PyProof.Rows L2 LamX
theorem Tabs.up {T : List (Addr × Str)} {H : Hp} {p : Addr} {o : HO} (t : Tabs T H) (h : H p = none) : Tabs T (upd H p o) := t.ext (ex_new h)
section
variable {X : Cx}
def rAddU : R2 := fun x y H Q => rI0 (fun i j => V.int (i + j)) x y H Q ∨ (∃ i j, x = .str i ∧ y = .str j ∧ i.length + j.length ≤ sizeLine ∧ Q (.str (i ++ j)) H) ∨ rCat x y H Q
theorem opAdd : OpR X (binaryOp .Add) rAddU := OpR.or op_add (OpR.or op_add_str op_cat)
def rMulU : R2 := fun x y H Q => rI IntMulOk (fun i j => V.int (i * j)) x y H Q ∨ rMulS x y H Q ∨ rRep x y H Q
theorem opMul : OpR X (binaryOp .Mult) rMulU := OpR.or (opI fun _ _ _ _ _ _ _ hc q => mul_int q hc) (OpR.or op_mulS op_rep)
theorem opEq (hu : X.A.units + 64 < cLine) : OpR X (compareOp .Eq) (rEqU X.K) := OpR.or op_eq (op_eqD hu)
theorem opNe (hu : X.A.units + 64 < cLine) : OpR X (compareOp .NotEq) (rNeU X.K) := OpR.or op_ne (op_neD hu)
def rIsU : R2 := fun x y H Q => (y = .non ∧ Q (.bl (decide (x = .non))) H) ∨ rIsB x y H Q
theorem opIs : OpR X (compareOp .Is) rIsU := OpR.or op_isN op_isBl
def rIsNotU : R2 := fun x y H Q => (y = .non ∧ Q (.bl (!decide (x = .non))) H) ∨ rNotB x y H Q
def rInU (K : PySem.W.Frag) : R2 := fun x y H Q => rInS x y H Q ∨ rIn K false x y H Q
theorem opIn : OpR X (compareOp .In) (rInU X.K) := OpR.or op_inS op_in_seq
def rNotInU (K : PySem.W.Frag) : R2 := fun x y H Q => rNotInS x y H Q ∨ rIn K true x y H Q
theorem IxR.or {r r' : R2} (h : IxR X r) (h' : IxR X r') : IxR X (fun x y H Q => r x y H Q ∨ r' x y H Q) := by
  intro value slice pins s σ H x y v u Q I rx ry q hs
  rcases q with q | q
  · exact h value slice pins s σ H x y v u Q I rx ry q hs
  · exact h' value slice pins s σ H x y v u Q I rx ry q hs
def rIxU (K : PySem.W.Frag) : R2 := fun x y H Q => rIxL K x y H Q ∨ rIxT K x y H Q ∨ rIxS x y H Q
theorem ixU : IxR X (rIxU X.K) := IxR.or ix_list (IxR.or ix_tup ix_str)
def rSlU (K : PySem.W.Frag) : V → Option Int → Option Int → Hp → VK → Prop := fun x lo hi H Q => rSlL K x lo hi H Q ∨ rSlS x lo hi H Q
theorem slU : SlR X (rSlU X.K) := SlR.or sl_list sl_str
theorem CallR.or {f : Value} {r r' : List V → Hp → VK → Prop} (h : CallR X f r) (h' : CallR X f r') : CallR X f (fun xs H Q => r xs H Q ∨ r' xs H Q) := by
  intro pins s σ H xs us Q I rs q
  rcases q with q | q
  · exact h pins s σ H xs us Q I rs q
  · exact h' pins s σ H xs us Q I rs q
/-- int(x): an int, a bool, a text -/
def rIntT : List V → Hp → VK → Prop := fun xs H Q => ∃ a n, xs = [.str a] ∧ PySem.intText? a = some n ∧ a.length ≤ 640 ∧ Q (.int n) H
def rIntL (K : PySem.W.Frag) : List V → Hp → VK → Prop := fun xs H Q => ∃ a n, xs = [.str a] ∧ PySem.intText? a = some n ∧ PySem.W.nsIn K cStatics "sys.int_max_str_digits" = some none ∧ ¬ (numSeenOf a).length ≤ 640 ∧ a.length ≤ sizeLine ∧ Q (.int n) H
theorem ns_none {K : PySem.W.Frag} {h : Heap} {a : Addr} {m : Str → Option Value} {x : Str} (kin : K.In h) (g : h.Ns a m) (e : PySem.W.nsIn K a x = some none) : m x = none := by
  obtain ⟨o, es, ep, ho, hd, _, hf⟩ := g
  cases hk : K.lookup a with
  | none => unfold PySem.W.nsIn at e; rw [hk] at e; cases e
  | some o' =>
    have z := kin _ _ hk
    rw [ho] at z
    cases z
    obtain ⟨c, d, dt, sl⟩ := o
    cases hd
    unfold PySem.W.nsIn at e
    rw [hk] at e
    cases he : es.toList.find? (·.key.isStr x) with
    | some y =>
      exfalso
      revert e
      show (match es.toList.find? (·.key.isStr x) with | some e => some (some e.val) | none => if es.toList.any (·.refKey) then none else some none) = some none → False
      rw [he]
      intro e; cases e
    | none =>
      rw [← hf]
      unfold nsFind findBy
      rw [← Array.find?_toList, he]
      rfl
theorem digits_free {K : PySem.W.Frag} {h : Heap} (kin : K.In h) (hl : h.NoLimit) (e : PySem.W.nsIn K cStatics "sys.int_max_str_digits" = some none) : DigitsFree h := by
  obtain ⟨mc, hn, _⟩ := hl
  refine ⟨mc, hn, ?_⟩
  exact ns_none kin hn e
def rIntU (K : PySem.W.Frag) : List V → Hp → VK → Prop := fun xs H Q => rInt1 xs H Q ∨ rIntT xs H Q ∨ rIntL K xs H Q
theorem callIntL : CallR X (.type "int") (rIntL X.K) := by
  intro pins s σ H xs us Q I rs h
  obtain ⟨a, n, rfl, hn, hk, hl, hz, q⟩ := h
  obtain ⟨u, rfl, rx⟩ := vals1 rs
  obtain ⟨t, rfl⟩ := rx
  rcases read4300 a hz with ⟨m, e1, e2, e3⟩ | ⟨e1, _⟩
  · rw [hn] at e1
    cases e1
    exact call_textL (digits_free I.kIn I.nolimit hk) hl e3 e2 ⟨.int n, H, I.tok _, ⟨_, rfl⟩, q⟩
  · rw [hn] at e1; cases e1
theorem callInt : CallR X (.type "int") (rIntU X.K) := CallR.or call_int1 (CallR.or call_int_str callIntL)
def rListU (K : PySem.W.Frag) : List V → Hp → VK → Prop := fun xs H Q => (∃ p ys, xs = [.ref p] ∧ (SqL K H p ys ∨ SqT K H p ys) ∧ ∀ l, H l = none → Q (.ref l) (upd H l (.lst ys))) ∨ rListS xs H Q
theorem callList (hc : X.calm = true) : CallR X (.type "list") (rListU X.K) := CallR.or call_list_of (call_listS hc)
end
end L3
end
section
namespace KX
open PySem PySem.Spec PyProof.Rows L2 LamX L3
section
variable {X : Cx} {K : PySem.W.Frag} (hK : X.K = K := by rfl)
include hK
theorem opIn : OpR X (compareOp .In) (rInU K) := by subst hK; exact L3.opIn
theorem ixU : IxR X (rIxU K) := by subst hK; exact L3.ixU
theorem slU : SlR X (rSlU K) := by subst hK; exact L3.slU
theorem callInt : CallR X (.type "int") (rIntU K) := by subst hK; exact L3.callInt
theorem callIsi : CallR X (.builtin "isinstance") (rIsiA K) := by subst hK; exact L3.callIsi
theorem callLen : CallR X (.builtin "len") (rLen1 K) := by subst hK; exact call_len
theorem callList (hc : X.calm = true) : CallR X (.type "list") (rListU K) := by subst hK; exact L3.callList hc
theorem callAll (hc : X.calm = true) : CallR X (.builtin "all") (rAll K) := by subst hK; exact cr_all hc
theorem eqU (hu : X.A.units + 64 < cLine) : OpR X (compareOp .Eq) (rEqU K) := by subst hK; exact opEq hu
theorem neU (hu : X.A.units + 64 < cLine) : OpR X (compareOp .NotEq) (rNeU K) := by subst hK; exact opNe hu
theorem fld {e : Expr} {f : Str} {pos : Pos} {ta : TE} (ha : PE X e ta) (hb : attributeBase e f X.env (eval e X.env) = eval e X.env) : PE X (.Attribute e f pos) (tFld K ta f) := by subst hK; exact pe_fld ha hb
end
end KX
namespace L3
open PySem PySem.Spec PyProof.Rows L2 LamX
section
variable {σ : L2.St} {H : Hp} {D : Ends} {Q : VK} {v x y : V} {K : PySem.W.Frag} {te ta tb : TE}
theorem iteNF {A B : Prop} (h : A) : if (!false) = true then A else B := iteT h
theorem iteNT {A B : Prop} (h : B) : if (!true) = true then A else B := iteF h
theorem s_pair {i j : Nat} {tt : TA} (h : tt σ H fun vs H1 => ∃ v w, vs = [v, w] ∧ D.nx ((σ.set i (some v)).set j (some w)) H1) : tPar i j tt D σ H := h
theorem s_pair2 {R : V → V → Prop} (h : R x y) : ∃ v w, [x, y] = [v, w] ∧ R v w := ⟨x, y, rfl, h⟩
theorem s_fld {tv : TE} {f : Str} (h : tv σ H fun y H1 => ta σ H1 fun x H2 => ∃ a C dx fs, x = .ref a ∧ H2 a = some (.ins C dx fs) ∧ Cls K C ∧ NoAttr K C f ∧ fs.length < 1000 ∧ D.nx σ (upd H2 a (.ins C dx (putF f y fs)))) : sFld K ta tv f D σ H := h
theorem s_make {C : Addr} {sp : Sp} {dvs : List V} {E : XK} {tt : TA} (h : tt σ H fun vs H1 => ∀ p dx, H1 p = none → H1 dx = none → dx ≠ p → sp (.ref p :: (vs ++ dvs)) (upd (upd H1 dx (.own p)) p (.ins C dx [])) (fun v H2 => v = .non ∧ ap Q (.ref p) H2) E) : tMake C sp dvs E tt σ H Q := h
theorem s_dnew (h : ∀ p H2, H p = none → Ex H H2 → H2 p = some (.dK []) → Q (.ref p) H2) : tDNewK σ H Q := fun p hp => h p _ hp (ex_new hp) upd_same
theorem s_pow {g : Int → Int → V} {i j : Int} (c : CPow i j) (h : Q (g i j) H) : rI CPow g (.int i) (.int j) H Q := ⟨i, j, rfl, rfl, c, h⟩
theorem s_m1 {r : V → List V → Hp → VK → Prop} (h : ta σ H fun x H1 => (∃ a, x = .str a) ∧ tb σ H1 fun y H2 => r x [y] H2 Q) : tM1 r ta tb σ H Q := h
theorem s_isstr {z : Str} {R : Prop} (h : R) : (∃ a, V.str z = .str a) ∧ R := ⟨⟨z, rfl⟩, h⟩
theorem s_addI {i j : Int} (h : Q (.int (i + j)) H) : rAddU (.int i) (.int j) H Q := .inl ⟨i, j, rfl, rfl, h⟩
theorem s_mulI {i j : Int} (c : IntMulOk i j) (h : Q (.int (i * j)) H) : rMulU (.int i) (.int j) H Q := .inl ⟨i, j, rfl, rfl, c, h⟩
theorem s_isN (h : Q (.bl (decide (x = .non))) H) : rIsU x .non H Q := .inl ⟨rfl, h⟩
theorem s_isB {a b : Bool} (h : Q (.bl (decide (a = b))) H) : rIsU (.bl a) (.bl b) H Q := .inr ⟨a, b, rfl, rfl, h⟩
theorem s_nisN (h : Q (.bl (!decide (x = .non))) H) : rIsNotU x .non H Q := .inl ⟨rfl, h⟩
theorem s_nisB {a b : Bool} (h : Q (.bl (!decide (a = b))) H) : rIsNotU (.bl a) (.bl b) H Q := .inr ⟨a, b, rfl, rfl, h⟩
theorem s_inS {c : Nat} {z : Str} (h : Q (.bl (decide (c ∈ z.cps.toList))) H) : rInU K (.str ⟨#[c]⟩) (.str z) H Q := .inl ⟨c, z, rfl, rfl, h⟩
theorem s_ninS {c : Nat} {z : Str} (h : Q (.bl (!decide (c ∈ z.cps.toList))) H) : rNotInU K (.str ⟨#[c]⟩) (.str z) H Q := .inl ⟨c, z, rfl, rfl, h⟩
theorem s_inT {p : Addr} {xs : List V} (hs : SqT K H p xs) (hx : flatV x = true) (ha : xs.all flatV = true) (h : Q (.bl (inV x xs)) H) : rInU K x (.ref p) H Q := .inr ⟨p, xs, rfl, .inr hs, hx, ha, h⟩
theorem s_iL {p : Addr} {xs : List V} {i : Int} (hp : H p = some (.lst xs)) (e : atI xs i = some v) (h : Q v H) : rIxU K (.ref p) (.int i) H Q := .inl ⟨p, xs, i, v, rfl, rfl, .inl (.inl hp), e, h⟩
theorem s_slice {r : V → Option Int → Option Int → Hp → VK → Prop} {tl th : TO} (h : te σ H fun x H1 => tl σ H1 fun l H2 => th σ H2 fun u H3 => r x l u H3 Q) : tSl r te tl th σ H Q := h
theorem s_part {R : Option Int → Hp → Prop} (h : te σ H fun x H1 => ∃ i, x = .int i ∧ R (some i) H1) : tPart te σ H R := h
theorem s_partI {R : Int → Prop} {i : Int} (h : R i) : ∃ j, V.int i = .int j ∧ R j := ⟨i, rfl, h⟩
theorem s_nopart {R : Option Int → Hp → Prop} (h : R none H) : tNoPart σ H R := h
theorem s_slS {z : Str} {lo hi : Option Int} (hz : z.length ≤ sizeLine) (h : Q (.str (cutS z lo hi)) H) : rSlU K (.str z) lo hi H Q := .inr ⟨z, rfl, hz, h⟩
theorem s_slL {p : Addr} {xs : List V} {lo hi : Option Int} (hs : SqL K H p xs) (h : ∀ q H2, H q = none → Ex H H2 → H2 q = some (.lst (cutV xs lo hi)) → Q (.ref q) H2) : rSlU K (.ref p) lo hi H Q :=
  .inl ⟨p, xs, rfl, hs, fun q hq => h q _ hq (ex_new hq) upd_same⟩
theorem s_cI {i : Int} (h : Q (.int i) H) : rIntU K [.int i] H Q := .inl (.inl ⟨i, rfl, h⟩)
theorem s_cB {b : Bool} (h : Q (.int (if b then 1 else 0)) H) : rIntU K [.bl b] H Q := .inl (.inr ⟨b, rfl, h⟩)
theorem s_listL {p : Addr} {xs : List V} (hs : SqL K H p xs) (h : ∀ q H2, H q = none → Ex H H2 → H2 q = some (.lst xs) → Q (.ref q) H2) : rListU K [.ref p] H Q :=
  .inl ⟨p, xs, rfl, .inl hs, fun q hq => h q _ hq (ex_new hq) upd_same⟩
theorem s_isiT {n : String} {t : Value} {b : Bool} (ty : TyA K H x t) (e : PySem.W.kitOne K t (.type n) = some b) (h : Q (.bl b) H) : rIsiA K [x, .ty n] H Q := ⟨x, .ty n, t, .type n, b, rfl, .ty n, ty, e, h⟩
theorem s_isiC {C : Addr} {t : Value} {b : Bool} (ty : TyA K H x t) (e : PySem.W.kitOne K t (.ref C) = some b) (h : Q (.bl b) H) : rIsiA K [x, .ref C] H Q := ⟨x, .ref C, t, .ref C, b, rfl, .own C, ty, e, h⟩
theorem s_chain {r r' : R2} {tc : TE} (h : ta σ H fun x H1 => tb σ H1 fun y H2 => r x y H2 fun z H3 => ∃ k, z = .bl k ∧ (if k = true then tc σ H3 fun w' H4 => r' y w' H4 Q else Q (.bl false) H3)) : tChain r r' ta tb tc σ H Q := h
theorem s_bm {T : String} {r : V → List V → Hp → VK → Prop} {t : TA} (h : te σ H fun x H1 => tyV K T x H1 ∧ t σ H1 fun xs H2 => r x xs H2 Q) : tBM K T r te t σ H Q := h
theorem s_tyL {p : Addr} {xs : List V} {R : Prop} (hp : H p = some (.lst xs)) (h : R) : tyV K "list" (.ref p) H ∧ R := ⟨.inl ⟨rfl, _, .inl (.inl hp)⟩, h⟩
theorem s_app {p : Addr} {xs : List V} (hp : H p = some (.lst xs)) (hz : xs.length < sizeLine) (h : Q .non (upd H p (.lst (xs ++ [y])))) : rAppend (.ref p) [y] H Q := ⟨p, xs, y, rfl, rfl, hp, hz, h⟩
theorem s_all {a : Addr} {bs : List Bool} (hs : H a = some (.lst (bs.map V.bl))) (h : Q (.bl (bs.all id)) H) : rAll K [.ref a] H Q := ⟨a, bs, rfl, .inl (.inl hs), h⟩
def LC (J : It) (g : TG) (tt : TT) (te : TE) (vs : List Nat) (σ : L2.St) (H1 : Hp) (Q : VK) : Prop := ∀ D, H1 D = none → ∃ W : Nat → Nat → Hp → Prop, (∃ m, W 0 m (upd H1 D (.lst []))) ∧ ∀ i m H, W i m H →
  (J.stop i H ∧ Q (.ref D) H) ∨ (J.go i H ∧ ∃ Nx : Hp → Prop, (∀ H', Nx H' → ∃ m', m' < m ∧ W (i + 1) m' H') ∧ ∀ x H', J.yld i H x H' → g x (wipe σ vs) H' fun σ2 H2 => wipe σ2 vs = wipe σ vs ∧ tt σ2 H2 fun b H3 =>
    if b = true then te σ2 H3 fun y H4 => ∃ acc, H4 D = some (.lst acc) ∧ acc.length < sizeLine ∧ Nx (upd H4 D (.lst (acc ++ [y]))) else Nx H3)
theorem s_lcS {g : TG} {tt : TT} {vs : List Nat} (h : ta σ H fun v H1 => ∃ z, v = .str z ∧ LC (Its z) g tt te vs σ H1 Q) : tLc (iStr ta) g tt te vs σ H Q := h
theorem s_lcR {g : TG} {tt : TT} {vs : List Nat} {tr : TA} (h : tr σ H fun ws H1 => ∃ j : Int, ws = [.int j] ∧ -(2 ^ 62) ≤ j ∧ j < 2 ^ 62 ∧ LC (Itr 0 j.toNat) g tt te vs σ H1 Q) : tLc (iRng1 tr) g tt te vs σ H Q := h
theorem s_strE {R : Str → Prop} {z : Str} (h : R z) : ∃ y, V.str z = .str y ∧ R y := ⟨z, rfl, h⟩
theorem lcStr {z : Str} {j : Nat} {tt : TT} {vs : List Nat} (p : Nat → Bool) (f : Nat → V) (hz : z.length < sizeLine) (hw : ∀ x, wipe ((wipe σ vs).set j (some x)) vs = wipe σ vs)
    (ht : ∀ (c : Nat) (H' : Hp) (R : Bool → Hp → Prop), R (p c) H' → tt ((wipe σ vs).set j (some (.str ⟨#[c]⟩))) H' R) (he : ∀ (c : Nat) (H' : Hp) (R : VK), p c = true → R (f c) H' → te ((wipe σ vs).set j (some (.str ⟨#[c]⟩))) H' R)
    (k : ∀ q H2, H q = none → Ex H H2 → H2 q = some (.lst ((z.cps.toList.filter p).map f)) → Q (.ref q) H2) : LC (Its z) (gName j) tt te vs σ H Q := by
  intro Dl hD
  have hlen : z.cps.toList.length = z.cps.size := Array.length_toList
  refine lc_it walk_str (fun i H' => Ex H H' ∧ H' Dl = some (.lst (((z.cps.toList.take i).filter p).map f)) ∧ ∀ b, b ≠ Dl → H' b = H b) ⟨ex_new hD, by rw [upd_same]; rfl, fun b hb => upd_ne hb⟩ (fun _ _ _ _ => trivial) ?_ ?_
  · rintro i x H1 H2 hi ⟨e1, e2, e3⟩ ⟨rfl, c, hc, rfl⟩
    have hc' : z.cps.toList[i]? = some c := by simpa using hc
    have htk : z.cps.toList.take (i + 1) = z.cps.toList.take i ++ [c] := by rw [List.take_add_one, hc']; rfl
    show wipe _ vs = wipe σ vs ∧ _
    refine ⟨hw _, ht c H2 _ ?_⟩
    refine iteB (fun hp => ?_) (fun hp => ?_)
    · refine he c H2 _ hp ⟨_, e2, ?_, fun b o hb => ?_, ?_, fun b hb => ?_⟩
      · rw [List.length_map]
        refine Nat.lt_of_le_of_lt (List.length_filter_le _ _) (Nat.lt_of_le_of_lt ?_ hz)
        rw [List.length_take]
        show _ ≤ z.cps.size
        omega
      · rw [upd_ne (ne_of_none hb hD)]
        exact e1 b o hb
      · rw [upd_same, htk, List.filter_append, List.map_append]
        simp [hp]
      · rw [upd_ne hb]; exact e3 b hb
    · refine ⟨e1, ?_, e3⟩
      rw [e2, htk, List.filter_append, List.map_append]
      simp [hp]
  · rintro H1 ⟨e1, e2, _⟩
    rw [show z.cps.size = z.cps.toList.length from hlen.symm, List.take_length] at e2
    exact k _ _ hD e1 e2
end
end L3
end
section
local macro_rules | `(tactic| tm_at "s1") => `(tactic| first
  | with_reducible first
    | refine L3.s_seq ?_ | refine L3.s_asg ?_ | refine L3.s_op ?_ | refine L3.s_c ?_ | refine L3.s_cb ?_ | refine L3.s_cons ?_ | refine L3.s_nil ?_ | refine L3.s_test ?_ | refine L3.s_bl ?_
    | refine L3.s_I0 ?_ | refine L3.s_and ?_ | refine L3.s_or ?_ | refine L3.s_not ?_ | refine L3.s_if ?_ | refine L3.s_next ?_ | refine L3.s_ret ?_ | refine L3.s_retN ?_ | refine L3.s_asgS ?_ | refine L3.s_drop ?_
    | refine L3.s_un ?_ | refine L3.s_U ?_ | refine L3.s_int ?_ | refine L3.s_intB ?_ | refine L3.s_abs ?_ | refine L3.s_andV ?_ | refine L3.s_orV ?_ | refine L3.s_notV ?_ | refine L3.s_ifE ?_ | refine L3.s_call ?_ | refine L3.s_lst ?_ | refine L3.s_tup ?_ | refine L3.s_tB ?_
    | refine L3.s_addI ?_ | refine L3.s_inS ?_ | refine L3.s_ninS ?_ | refine L3.s_slice ?_ | refine L3.s_part ?_ | refine L3.s_partI ?_ | refine L3.s_nopart ?_ | refine L3.s_cI ?_ | refine L3.s_cB ?_ | refine L3.s_chain ?_ | refine L3.s_bm ?_ | refine L3.s_lcS ?_ | refine L3.s_lcR ?_ | refine L3.s_strE ?_
    | refine L2.iteT ?_ | refine L2.iteF ?_ | refine L3.iteNF ?_ | refine L3.iteNT ?_
    | refine L3.s_eqI ?_ | refine L3.s_neI ?_ | refine L3.s_eqS ?_ | refine L3.s_neS ?_
    | refine L3.s_pair ?_ | refine L3.s_pair2 ?_ | refine L3.s_fld ?_ | refine L3.s_make ?_ | refine L3.s_m1 ?_ | refine L3.s_isstr ?_
    | refine L3.s_isN ?_ | refine L3.s_isB ?_ | refine L3.s_nisN ?_ | refine L3.s_nisB ?_
  | ((with_reducible refine' L3.s_var ?e ?_); (case e => rfl))
  | ((with_reducible refine' L3.s_pow ?c ?_); (case c => exact ⟨by decide, by decide, by decide⟩)))
local macro_rules | `(tactic| tm_at "s") => `(tactic| repeat tm_at "s1")
namespace L3
open PySem PySem.Spec PyProof.Rows L2
theorem mulL {i j : Int} (h : -(2 ^ 64) < i ∧ i < 2 ^ 64) : IntMulOk i j := CMul.ok (.inl h)
def spDraw : Sp := fun vs H Q _ => ∃ a n many, vs = [.ref a, .int many] ∧ 0 < many ∧ many.natAbs < 2 ^ 8000 ∧ Pen H a n ∧ n < lim ∧
  ∀ (d : Int) (H' : Hp), 0 ≤ d → d < many → Pen H' a (n + 1) → (∀ b o, b ≠ a → H b = some o → H' b = some o) → Q (.int d) H'
abbrev rSub : R2 := rI0 fun i j => V.int (i - j)
abbrev rMod : R2 := rI (fun _ j => 0 < j) fun i j => V.int (i % j)
abbrev rDivW : R2 := rI CDivW fun i j => V.int (i / j)
abbrev rPow : R2 := rI CPow fun i j => V.int (i ^ j.toNat)
abbrev t1 (r : List V → Hp → VK → Prop) (te : TE) : TE := tCB r (tCons te tNil)
abbrev tI (i : Int) : TE := tC (.int i)
def tDraw (K : PySem.W.Frag) (c1 c2 c3 c4 c5 c6 c7 c8 c9 c10 : Int) : TS :=
  tSeq (tIfS (tTest (tOp (rI0 fun i j => V.bl (decide (j < i))) (tOp (rIxU K) (tVar 0) (tI 2)) (tI 0)))
    (tSeq (tAsg (tOp rMod (t1 (rIntU K) (tOp (rIxU K) (tVar 0) (tI 2))) (tVar 1)) (gName 2))
    (tSeq (tAsg (tOp rDivW (t1 (rIntU K) (tOp (rIxU K) (tVar 0) (tI 2))) (tVar 1)) (gSub (tVar 0) (tI 2) rSetL))
      (tRet (tVar 2)))) tNext)
  (tSeq (tAsg (tOp (rIxU K) (tVar 0) (tI 1)) (gName 3))
  (tSeq (tAsg (tOp rAddU (tVar 3) (tI 1)) (gSub (tVar 0) (tI 1) rSetL))
  (tSeq (tAsg (tOp rAddU (tOp rMulU (tI c1) (tVar 3)) (tI c2)) (gName 4))
  (Evl.tCut (tIfS (tTest (tOp (rNeU K) (tOp (rIxU K) (tVar 0) (tI 0)) (tLst tNil)))
    (tAsg (tOp (rIxU K) (tOp (rIxU K) (tVar 0) (tI 0)) (tOp rMod (t1 (rIntU K) (tVar 3)) (t1 (rLen1 K) (tOp (rIxU K) (tVar 0) (tI 0))))) (gName 4)) tNext)
  (tSeq (tIfS (tAnd (tTest (tOp (rI0 fun i j => V.bl (decide (i < j))) (tVar 3) (t1 (rLen1 K) (tOp (rIxU K) (tVar 0) (tI 0))))) (tTest (tOp (rI0 fun i j => V.bl (decide (j ≤ i))) (t1 rAbs1 (tVar 4)) (tOp rPow (tI 10) (tI 18)))))
    (tSeq (tAsg (tOp rAddU (tOp rMulU (tI 2) (tOp rSub (t1 rAbs1 (tVar 4)) (tOp rPow (tI 10) (tI 18)))) (t1 (rIntU K) (tOp (rI0 fun i j => V.bl (decide (i < j))) (tVar 4) (tI 0)))) (gName 5))
    (tSeq (tAsg (tOp rDivW (t1 (rIntU K) (tVar 5)) (tVar 1)) (gSub (tVar 0) (tI 2) rSetL))
      (tRet (tOp rMod (t1 (rIntU K) (tVar 5)) (tVar 1))))) tNext)
  (tSeq (tAsg (tOp rMod (t1 (rIntU K) (tOp rPow (tOp rAddU (tOp rAddU (tOp rMod (t1 (rIntU K) (tVar 4)) (tI c3)) (tOp rMulU (tI c4) (tVar 3))) (tI c5)) (tI 5))) (tI c6)) (gName 6))
  (tSeq (tAsg (tOp rMod (t1 (rIntU K) (tOp rPow (tOp rAddU (tOp rAddU (tOp rMulU (tVar 6) (tOp rAddU (tOp rMulU (tI 2) (tVar 3)) (tI c7))) (tOp rMulU (tOp rMulU (tI c8) (tVar 3)) (tVar 3))) (tI c9)) (tI 3))) (tI c10)) (gName 6))
    (tRet (tOp rMod (t1 (rIntU K) (tOp rDivW (tVar 6) (tI 32))) (tVar 1))))))))))
structure DrawC (c1 c2 c3 c4 c5 c6 c7 c8 c9 c10 : Int) : Prop where
  h1 : 0 ≤ c1 ∧ c1 < 1000000
  h3 : 0 < c3 ∧ c3 < 4294967296
  h4 : 0 ≤ c4 ∧ c4 < 1000000
  h5 : 0 ≤ c5 ∧ c5 < 1000000
  h6 : 0 < c6 ∧ c6 < 4294967296
  h7 : 0 ≤ c7 ∧ c7 < 1000000
  h8 : 0 ≤ c8 ∧ c8 < 1000000
  h9 : 0 ≤ c9 ∧ c9 < 1000000
  h10 : 0 < c10 ∧ c10 < 4294967296
theorem shInts (ns : List Int) : SeqAt.shaped (.list (ns.map PyData.int)) = true := by
  have h1 : ∀ l : List Int, PyData.canLayAll0 (l.map PyData.int) = true := by
    intro l
    induction l with
    | nil => rfl
    | cons x r ih => rw [List.map_cons]; unfold PyData.canLayAll0; rw [ih]; rfl
  have h2 : ∀ l : List Int, PyData.depthAll (l.map PyData.int) = 0 := by
    intro l
    induction l with
    | nil => rfl
    | cons x r ih => rw [List.map_cons]; unfold PyData.depthAll; rw [ih]; rfl
  unfold SeqAt.shaped PyData.canLay0 PyData.depth
  rw [h1, h2]; decide
theorem atI_int {α : Type} {xs : List α} {i : Int} (h0 : 0 ≤ i) (h : i < xs.length) : atI xs i = xs[i.toNat]? := by
  unfold atI ixN
  rw [if_pos h0, if_pos h]
  rfl
theorem natAbs_lt {x : Int} {k : Nat} (h0 : 0 ≤ x) (h : x < k) : x.natAbs < k := by omega
theorem rd_draw {K : PySem.W.Frag} {c1 c2 c3 c4 c5 c6 c7 c8 c9 c10 : Int} (C : DrawC c1 c2 c3 c4 c5 c6 c7 c8 c9 c10) {a c : Addr} {n : Nat} {many : Int} {ns : List Int} {H : Hp} {Q : VK} {Nn : L2.St → Hp → Prop} {B1 B2 : L2.St → Hp → Prop}
    (hm : 0 < many) (hm2 : many.natAbs < 2 ^ 8000) (ha : H a = some (PenO a c n)) (hc : H c = some (.lst (ns.map V.int))) (hn : n < lim) (hl : ns.length ≤ 63)
    (k : ∀ (d : Int) (H' : Hp), 0 ≤ d → d < many → (H' a = some (PenO a c (n + 1)) ∧ H' c = some (.lst (ns.map V.int))) → (∀ b o, b ≠ a → H b = some o → H' b = some o) → Q (.int d) H') :
    tPen a c n (n + 1) (tDraw K c1 c2 c3 c4 c5 c6 c7 c8 c9 c10) { nx := Nn, rt := Q, bk := B1, ct := B2 } [some (.ref a), some (.int many), none, none, none, none, none] H := by
  refine ⟨ha, fun spot rest h0 h1 => ?_⟩
  have nca : c ≠ a := fun z => by rw [z, ha] at hc; cases hc
  have fin : ∀ (d spot' rest' : Int) (H1 : Hp), 0 ≤ d → d < many → 0 ≤ spot' → spot' ≤ n + 1 → H1 a = some (.lst [.ref c, .int spot', .int rest']) → (∀ b o, b ≠ a → H b = some o → H1 b = some o) → penBack a c (n + 1) (Q (.int d)) H1 := by
    intro d sp re H1 d0 d1 s0 s1 e q
    exact ⟨sp, re, e, s0, by omega, k d _ d0 d1 ⟨upd_same, by rw [upd_ne nca]; exact q c _ nca hc⟩ (fun b o hb => by rw [upd_ne hb]; exact q b o hb)⟩
  unfold tDraw
  tm_at "s"
  refine s_iL upd_same rfl ?_
  tm_at "s"
  refine iteD (fun hpos => ?_) (fun _ => ?_)
  · tm_at "s"
    refine s_iL upd_same rfl ?_
    tm_at "s"
    refine s_I hm ?_
    tm_at "s"
    refine s_iL upd_same rfl ?_
    tm_at "s"
    refine s_I (wide_div hm hm2 (by decide) (by decide)) ?_
    tm_at "s"
    refine s_setL upd_same rfl ?_
    tm_at "s"
    exact fin _ spot _ _ (Int.emod_nonneg _ (by omega)) (Int.emod_lt_of_pos _ hm) h0 (by omega) upd_same (fun b o hb hh => by rw [upd_ne hb, upd_ne hb]; exact hh)
  · tm_at "s"
    refine s_iL upd_same rfl ?_
    tm_at "s"
    refine s_setL upd_same rfl ?_
    have hs : (spot : Int) ≤ 1000000 := by unfold lim at hn; omega
    tm_at "s"
    refine s_mulI (mulL ⟨by have := C.h1; omega, by have := C.h1; omega⟩) ?_
    tm_at "s"
    refine s_cut (M := fun σ' H' => ∃ cell : Int, σ' = [some (.ref a), some (.int many), none, some (.int spot), some (.int cell), none, none] ∧ H' a = some (.lst [.ref c, .int (spot + 1), .int rest]) ∧ ∀ b o, b ≠ a → H b = some o → H' b = some o) ?_ ?_
    · tm_at "s"
      refine s_iL upd_same rfl ?_
      tm_at "s"
      refine s_new (by decide) fun p H2 hp e2 h2 => ?_
      have a2 : H2 a = some (.lst [.ref c, .int (spot + 1), .int rest]) := e2 _ _ upd_same
      have k2 : ∀ b o, b ≠ a → H b = some o → H2 b = some o := fun b o hb hh => e2 _ _ (by rw [upd_ne hb, upd_ne hb]; exact hh)
      have c2 := k2 c _ nca hc
      clear hp e2
      refine s_neD' (.lst (.inl (.inl c2)) (dpInts ns)) (.lst (.inl (.inl h2)) .nil) (shInts ns) rfl ?_
      tm_at "s"
      refine iteB (fun hne => ?_) (fun _ => ?_)
      · tm_at "s"
        refine s_iL a2 rfl ?_
        tm_at "s"
        refine s_iL a2 rfl ?_
        tm_at "s"
        refine s_lenL c2 ?_
        rw [List.length_map]
        have hns : 0 < ns.length := by
          cases ns with
          | nil => exact absurd hne (by decide)
          | cons x r => exact Nat.succ_pos _
        refine s_I (by omega) ?_
        have hx : spot % (ns.length : Int) < ns.length := Int.emod_lt_of_pos _ (by omega)
        have hx0 : 0 ≤ spot % (ns.length : Int) := Int.emod_nonneg _ (by omega)
        have hxn : (spot % (ns.length : Int)).toNat < ns.length := by omega
        refine s_iL c2 (v := .int (ns[(spot % (ns.length : Int)).toNat]'hxn)) ?_ ?_
        · rw [atI_int hx0 (by rw [List.length_map]; exact hx), List.getElem?_map, List.getElem?_eq_getElem hxn]
          rfl
        · exact ⟨_, rfl, a2, k2⟩
      · tm_at "s"
        exact ⟨_, rfl, a2, k2⟩
    · rintro σ' H2 ⟨cell, rfl, a2, k2⟩
      have c2 := k2 c _ nca hc
      have main : (tSeq (tAsg (tOp rMod (t1 (rIntU K) (tOp rPow (tOp rAddU (tOp rAddU (tOp rMod (t1 (rIntU K) (tVar 4)) (tI c3)) (tOp rMulU (tI c4) (tVar 3))) (tI c5)) (tI 5))) (tI c6)) (gName 6))
          (tSeq (tAsg (tOp rMod (t1 (rIntU K) (tOp rPow (tOp rAddU (tOp rAddU (tOp rMulU (tVar 6) (tOp rAddU (tOp rMulU (tI 2) (tVar 3)) (tI c7))) (tOp rMulU (tOp rMulU (tI c8) (tVar 3)) (tVar 3))) (tI c9)) (tI 3))) (tI c10)) (gName 6))
            (tRet (tOp rMod (t1 (rIntU K) (tOp rDivW (tVar 6) (tI 32))) (tVar 1)))))
          { nx := fun σ' => penBack a c (n + 1) (Nn σ'), rt := fun v => penBack a c (n + 1) (Q v), bk := fun σ' => penBack a c (n + 1) (B1 σ'), ct := fun σ' => penBack a c (n + 1) (B2 σ') }
          [some (.ref a), some (.int many), none, some (.int spot), some (.int cell), none, none] H2 := by
        have hc3 := C.h3; have hc4 := C.h4; have hc5 := C.h5; have hc6 := C.h6; have hc7 := C.h7; have hc8 := C.h8; have hc9 := C.h9; have hc10 := C.h10
        tm_at "s"
        refine s_I hc3.1 ?_
        tm_at "s"
        refine s_mulI (mulL ⟨by omega, by omega⟩) ?_
        tm_at "s"
        have e1 : 0 ≤ cell % c3 := Int.emod_nonneg _ (by omega)
        have e2 : cell % c3 < c3 := Int.emod_lt_of_pos _ hc3.1
        have e3 : 0 ≤ c4 * spot := Int.mul_nonneg hc4.1 h0
        have e4 : c4 * spot ≤ 1000000 * 1000000 := Int.mul_le_mul (by omega) hs h0 (by decide)
        refine s_pow ⟨by decide, by decide, ?_⟩ ?_
        · exact natAbs_lt (by omega) (by show _ < ((2 ^ 64 : Nat) : Int); omega)
        tm_at "s"
        refine s_I hc6.1 ?_
        generalize hg : ((cell % c3 + c4 * spot + c5) ^ (Int.toNat 5)) % c6 = g
        have g0 : 0 ≤ g := by rw [← hg]; exact Int.emod_nonneg _ (by omega)
        have g1 : g < c6 := by rw [← hg]; exact Int.emod_lt_of_pos _ hc6.1
        tm_at "s"
        refine s_mulI (mulL (by decide)) ?_
        tm_at "s"
        refine s_mulI (mulL ⟨by omega, by omega⟩) ?_
        tm_at "s"
        refine s_mulI (mulL ⟨by omega, by omega⟩) ?_
        have f3 : 0 ≤ c8 * spot := Int.mul_nonneg hc8.1 h0
        have f4 : c8 * spot ≤ 1000000 * 1000000 := Int.mul_le_mul (by omega) hs h0 (by decide)
        tm_at "s"
        refine s_mulI (mulL ⟨by omega, by omega⟩) ?_
        have f5 : 0 ≤ c8 * spot * spot := Int.mul_nonneg f3 h0
        have f6 : c8 * spot * spot ≤ 1000000 * 1000000 * 1000000 := Int.mul_le_mul f4 hs h0 (by decide)
        have f7 : 0 ≤ g * (2 * spot + c7) := Int.mul_nonneg g0 (by omega)
        have f8 : g * (2 * spot + c7) ≤ 4294967296 * 3000000 := Int.mul_le_mul (by omega) (by omega) (by omega) (by decide)
        tm_at "s"
        refine s_pow ⟨by decide, by decide, ?_⟩ ?_
        · exact natAbs_lt (by omega) (by show _ < ((2 ^ 64 : Nat) : Int); omega)
        tm_at "s"
        refine s_I hc10.1 ?_
        tm_at "s"
        refine s_I (wide_div (b := 64) (by decide) (by decide) (by decide) (by decide)) ?_
        tm_at "s"
        refine s_I hm ?_
        exact fin _ (spot + 1) rest _ (Int.emod_nonneg _ (by omega)) (Int.emod_lt_of_pos _ hm) (by omega) (by omega) a2 k2
      tm_at "s"
      refine s_iL a2 rfl ?_
      tm_at "s"
      refine s_lenL c2 ?_
      tm_at "s"
      refine iteD (fun _ => ?_) (fun _ => ?_)
      · tm_at "s"
        refine iteD (fun hbig => ?_) (fun _ => ?_)
        · tm_at "s"
          refine s_mulI (mulL (by decide)) ?_
          tm_at "s"
          refine s_I (wide_div hm hm2 (by decide) (by decide)) ?_
          tm_at "s"
          refine s_setL a2 rfl ?_
          tm_at "s"
          refine s_I hm ?_
          exact fin _ (spot + 1) _ _ (Int.emod_nonneg _ (by omega)) (Int.emod_lt_of_pos _ hm) (by omega) (by omega) upd_same (fun b o hb hh => by rw [upd_ne hb]; exact k2 b o hb hh)
        · exact main
      · refine iteF ?_
        exact main
theorem rd_drawS {K : PySem.W.Frag} {c1 c2 c3 c4 c5 c6 c7 c8 c9 c10 : Int} (C : DrawC c1 c2 c3 c4 c5 c6 c7 c8 c9 c10) {a c : Addr} {n : Nat} {many : Int} {ns : List Int} {H : Hp} {Q : VK} {Nn : L2.St → Hp → Prop} {B1 B2 : L2.St → Hp → Prop}
    (hm : 0 < many) (hm2 : many.natAbs < 2 ^ 8000) (ha : H a = some (PenO a c n)) (hc : H c = some (ScO c ns)) (hn : n < lim) (hl : ns.length ≤ 63 ∧ c ≠ a)
    (k : ∀ (d : Int) (H' : Hp), 0 ≤ d → d < many → Pen H' a (n + 1) → (∀ b o, b ≠ a → H b = some o → H' b = some o) → Q (.int d) H') :
    tSc c ns (tPen a c n (n + 1) (tDraw K c1 c2 c3 c4 c5 c6 c7 c8 c9 c10)) { nx := Nn, rt := Q, bk := B1, ct := B2 } [some (.ref a), some (.int many), none, none, none, none, none] H := by
  refine ⟨hc, rd_draw C hm hm2 (by rw [upd_ne (Ne.symm hl.2)]; exact ha) upd_same hn hl.1 fun d H' d0 d1 ⟨p1, p2⟩ q => ?_⟩
  refine ⟨p2, k d _ d0 d1 ⟨c, ns, by rw [upd_ne (Ne.symm hl.2)]; exact p1, upd_same, hl⟩ fun b o hb ho => ?_⟩
  by_cases hbc : b = c
  · subst hbc
    rw [upd_same, ← hc]; exact ho
  · rw [upd_ne hbc]
    exact q b o hb (by rw [upd_ne hbc]; exact ho)
end L3
end
section
namespace L3
open PySem PySem.Spec PyProof.Rows L2 PySem.NumText
theorem str_ext {a b : Str} (h : a.cps.toList = b.cps.toList) : a = b := by
  cases a; cases b
  have := Array.ext' h
  cases this; rfl
theorem len_codes (z : Str) : z.cps.toList.length = z.length := Array.length_toList
def strOf (n : Int) : Str := Str.ofString (toString n)
theorem strOf_nat (n : Nat) : (strOf (n : Int)).cps.toList = TL.numL n := TL.tl_num n
theorem ofString_codes (s : String) : (Str.ofString s).cps.toList = s.toList.map Char.toNat := by
  rw [Str.ofString_eq_toList]
theorem strOf_neg {m : Nat} (h : 0 < m) : (strOf (-(m : Int))).cps.toList = 45 :: TL.numL m := by
  obtain ⟨k, rfl⟩ : ∃ k, m = k + 1 := ⟨m - 1, by omega⟩
  have e : toString (-((k + 1 : Nat) : Int)) = "-" ++ toString (((k + 1 : Nat) : Int)) := rfl
  unfold strOf
  rw [e, ofString_codes, String.toList_append, List.map_append, ← ofString_codes, ← ofString_codes]
  show [45] ++ _ = _
  have := strOf_nat (k + 1)
  unfold strOf at this
  rw [this]
  rfl
end L3
end
section
namespace L3
open PySem PySem.Spec PyProof.Rows L2 LamX
theorem pen_heap (a c : Addr) (n : Nat) : ∃ h : Heap, (∃ (spot rest : Int) (t u : Tok) (k : Nat), h.get? a = some { cls := .type "list", data := .seq #[.ref c, .int spot t, .int rest u] k } ∧ 0 ≤ spot ∧ spot ≤ n) ∧
    ∀ b o, h.get? b = some o → o.cls = .type "list" ∧ ∀ vs, o.data ≠ .fields vs := by
  let ob : Obj := { cls := .type "list", data := .seq #[.ref c, .int 0 0, .int 0 0] 0 }
  refine ⟨{ objs := Array.replicate (a + 1) ob }, ⟨0, 0, 0, 0, 0, ?_, by decide, by omega⟩, fun b o e => ?_⟩
  · unfold Heap.get?
    have : (Array.replicate (a + 1) ob)[a]? = some ob := by simp
    show (match (Array.replicate (a + 1) ob)[a]? with | some ⟨_, _, .freed, _⟩ => none | o => o) = _
    rw [this]
  · unfold Heap.get? at e
    have q : (Array.replicate (a + 1) ob)[b]? = none ∨ (Array.replicate (a + 1) ob)[b]? = some ob := by
      by_cases h : b < a + 1
      · right; simp [h]
      · left; exact Array.getElem?_eq_none (by rw [Array.size_replicate]; exact Nat.le_of_not_lt h)
    change (match (Array.replicate (a + 1) ob)[b]? with | some ⟨_, _, .freed, _⟩ => none | o => o) = some o at e
    rcases q with q | q
    · rw [q] at e; cases e
    · rw [q] at e; cases e
      exact ⟨rfl, fun vs z => nomatch z⟩
theorem codeO_pen {k a c : Addr} {n : Nat} {q : Str} : CodeO k q ≠ PenO a c n := fun e => by
  unfold CodeO PenO at e
  injection e with e
  obtain ⟨h, h1, h2⟩ := pen_heap a c n
  rw [← congrFun e h] at h1
  obtain ⟨o, vs, _, g1, g2, _⟩ := h1
  exact (h2 _ _ g1).2 vs g2
/-- the pen stands, so do the tables -/
structure Wo (T : List (Addr × Str)) (H : Hp) (a : Addr) (n : Nat) : Prop where
  pen : Pen H a n
  tabs : Tabs T H
/-- an object that is told otherwise than a pen does not lie at the pen's place -/
theorem Pen.ne {H : Hp} {a : Addr} {n : Nat} (p : Pen H a n) {b : Addr} {o : HO} (h : H b = some o) (d : ∀ c n, o ≠ PenO a c n) : b ≠ a := fun z => by
  obtain ⟨c, ns, ha, _⟩ := p
  rw [z, ha] at h
  exact d c n (Option.some.inj h).symm
theorem Wo.keep {T : List (Addr × Str)} {H H' : Hp} {a : Addr} {n m : Nat} (w : Wo T H a n) (p : Pen H' a m) (k : ∀ b o, b ≠ a → H b = some o → H' b = some o) : Wo T H' a m := by
  refine ⟨p, fun t ht => ?_⟩
  obtain ⟨ps, h1, h2, h3⟩ := w.tabs t ht
  refine ⟨ps, k _ _ (w.pen.ne h1 fun c n z => by unfold PenO at z; cases z) h1, h2, fun pos cv hc => ?_⟩
  obtain ⟨c, e1, e2⟩ := h3 pos cv hc
  exact ⟨c, e1, k _ _ (w.pen.ne e2 fun _ _ => codeO_pen) e2⟩
theorem Wo.ex {T : List (Addr × Str)} {H H' : Hp} {a : Addr} {n : Nat} (w : Wo T H a n) (k : Ex H H') : Wo T H' a n := by
  obtain ⟨c, ns, h1, h2, h3⟩ := w.pen
  exact ⟨⟨c, ns, k _ _ h1, k _ _ h2, h3⟩, w.tabs.ext k⟩
theorem Xt.refl (a : Addr) (H : Hp) : Xt a H H := fun _ _ _ _ h => h
theorem Xt.trans {a : Addr} {H H1 H2 : Hp} (x : Xt a H H1) (y : Xt a H1 H2) : Xt a H H2 := fun b o h1 h2 h => y b o h1 h2 (x b o h1 h2 h)
theorem Xt.of {a : Addr} {H H' : Hp} (k : ∀ b o, b ≠ a → H b = some o → H' b = some o) : Xt a H H' := fun b o h _ e => k b o h e
def tPenNew (t : TS) : TS := fun D σ H => t { D with rt := fun v H' => ∃ p c rest ns, v = .ref p ∧ H' p = some (.lst [.ref c, .int 0, .int rest]) ∧ H' c = some (.lst ((ns : List Int).map V.int)) ∧ c ≠ p ∧ D.rt v (upd (upd H' p (PenO p c 0)) c (ScO c ns)) } σ H
theorem pss_penNew {X : Cx} {sts : List Stmt} {t : TS} (h : PSs X sts t) : PSs X sts (tPenNew t) := by
  refine ⟨fun pins s σ H D I hw => thn (h.run pins s σ H _ I hw) fun f s' q => ?_⟩
  match f, q with
  | .next, q => exact q
  | .brk, q => exact q
  | .cont, q => exact q
  | .ret u, q =>
    obtain ⟨v, σ', H', I', r, p, c, rest, ns, e, hp, hc, hn, z⟩ := q
    exact ⟨v, σ', _, Inv.scClose (Inv.penClose I' hp (Int.le_refl 0) (Int.le_refl 0)) (by rw [upd_ne hn]; exact hc), r, z⟩
def spPen (K : PySem.W.Frag) : Sp := fun vs H Q _ => ∃ a ns, vs = [.ref a] ∧ SqL K H a (ns.map V.int) ∧ (ns : List Int).length ≤ 63 ∧ ∀ p H', H p = none → Ex H H' → Pen H' p 0 → Q (.ref p) H'
def spPick : Sp := fun vs H Q _ => ∃ a l n xs, vs = [.ref a, .ref l] ∧ H l = some (.lst xs) ∧ xs ≠ [] ∧ xs.length ≤ 100000 ∧ Pen H a n ∧ n < lim ∧
  ∀ v H', v ∈ xs → Pen H' a (n + 1) → (∀ b o, b ≠ a → H b = some o → H' b = some o) → Q v H'
end L3
end
section
namespace L3
open PySem PySem.Spec PyProof.Rows L2
end L3
end
section
namespace L3
open PySem PySem.Spec PyProof.Rows L2
variable {K : PySem.W.Frag} {σ : L2.St} {H : Hp} {te : TE} {Q : VK}
def flatD : V → PyData
  | .int i => .int i
  | .bl b => .bool b
  | .str z => .str z
  | _ => .none
def fitF : V → Bool
  | .int i => decide (i.natAbs.log2 < 1920)
  | .bl _ => true
  | .non => true
  | _ => false
theorem len_app (a b : Str) : (a ++ b).length = a.length + b.length := by
  rw [← len_codes, ← len_codes, ← len_codes]
  show (a.cps ++ b.cps).toList.length = _
  rw [Array.toList_append, List.length_append]
theorem strOf_len {i : Int} {k : Nat} (hk : 0 < k) (h : i.natAbs < 10 ^ k) : (strOf i).length ≤ k + 1 := by
  by_cases h0 : 0 ≤ i
  · obtain ⟨m, rfl⟩ := Int.eq_ofNat_of_zero_le h0
    have e := strOf_nat m
    have hl := TL.numL_len (n := m) (k := k) hk (by simpa using h)
    rw [← len_codes, e]; omega
  · obtain ⟨m, rfl⟩ : ∃ m : Nat, i = -(m : Int) := ⟨i.natAbs, by omega⟩
    have e := strOf_neg (m := m) (by omega)
    have hl := TL.numL_len (n := m) (k := k) hk (by simpa using h)
    rw [← len_codes, e, List.length_cons]; omega
theorem log_big {n : Nat} (h : n.log2 < 1920) : n < 10 ^ 1000 := by
  by_cases h0 : n = 0
  · rw [h0]; exact Nat.pow_pos (by decide)
  · rw [Nat.log2_lt h0] at h
    refine Nat.lt_of_lt_of_le h ?_
    have e : 2 ^ 1920 = (2 ^ 96) ^ 20 := by rw [← Nat.pow_mul]
    have e' : 10 ^ 1000 = (10 ^ 50) ^ 20 := by rw [← Nat.pow_mul]
    rw [e, e']
    exact Nat.pow_le_pow_left (by decide) 20
theorem fit_shown {x : V} (h : fitF x = true) : (flatD x).shown.length ≤ 1001 := by
  cases x with
  | int i => exact strOf_len (by decide) (log_big (of_decide_eq_true h))
  | bl b => show (if b then Str.ofString "True" else "False").length ≤ _; cases b <;> decide
  | non => show (Str.ofString "None").length ≤ _; decide
  | _ => cases h
end L3
end
section
namespace L3
open PySem PySem.Spec PyProof.Rows L2
/-- what the written part says of the class C, its __init__ at f with the code object cda and the cell cc -/
structure SupF (P : Program) (K : PySem.W.Frag) (mg : Str → Option Value) (C f cda cc : Addr) (scope : Scope) : Prop where
  oex : OexC K C
  cell : ∃ cl cld csl, K.lookup cc = some ⟨cl, cld, .cell (some (.ref C)), csl⟩
  code : ∃ ccl cdd vs ccs file tf, K.lookup cda = some ⟨ccl, cdd, .fields vs, ccs⟩ ∧ vs[2]? = some (.str file tf) ∧ ((P.main.file : Str) == file) = true
  mro : PySem.W.mroIn K C (.ref C) = some true
  noS : mg "super" = none
  top : (P.main.scope.names.lookup ("super" : Str)).isSome = false
  opq : PySem.W.nsIn K cStatics "thirdparty.any" = some none
  sup : PySem.W.ks_superIn K C C "__init__" = some (some (.builtin "ValueError.__init__"))
  sub : PySem.W.subIn K (.ref C) (.type "ValueError") = some true
  sSup : scope.names.lookup ("super" : Str) = some .globalImplicit
  sCls : scope.names.lookup ("__class__" : Str) = some .free
def supF (qual : Str) (params : Arguments) (body : List Stmt) (scope : Scope) (cc cda : Addr) : NdefX.NF := ⟨"__init__", qual, params, body, scope, [("__class__", cc)], cda⟩
theorem okSup {P : Program} {w : World} {K : PySem.W.Frag} {mg : Str → Option Value} {base : Heap} {CX : CXT} {k : Nat} {C f cda cc : Addr} {qual msg : Str} {params : Arguments} {rest : List Stmt} {scope : Scope} {kV doc pm ct oc : Value} {an od : Option Addr} {osl : Array (Option Value)} {N ps : List Str} {sp : Sp}
    {p0 p1 p2 p3 p4 p5 : Pos} {j : Nat} {ar : Arg} {body : List Stmt}
    (hbd : body = .Expr (.Call (.Attribute (.Call (.Name "super" p0) [] [] p1) "__init__" p2) [.Constant (.str msg) j p3] [] p4) p5 :: rest)
    (lk : K.lookup f = some ⟨oc, od, .func (PySem.W.fnX "__init__" qual params body scope [("__class__", cc)] .none kV doc pm an (.ref cda) ct), osl⟩) (hcd : PySem.W.codeIn K (.ref cda) qual = true)
    (T : SupF P K mg C f cda cc scope) (S : NdefX.NScope N ps ["__class__"] scope) (hp : (params.posonlyargs ++ params.args).head? = some ar) (hps : ps.head? = some ar.arg) (hN0 : N[0]? = some ar.arg) (hna : scope.names.lookup ar.arg = some .local)
    (hev : ∀ env : Env, env.scope = scope → ∃ pl, eval (.Call (.Attribute (.Call (.Name "super" p0) [] [] p1) "__init__" p2) [.Constant (.str msg) j p3] [] p4) env = (do
      let ov ← attributeBase (.Call (.Name "super" p0) [] [] p1) "__init__" env (eval (.Call (.Name "super" p0) [] [] p1) env)
      standAt p2.atName
      let (f, first) ← holding [ov] (getMethod ov "__init__" pl)
      callWith p4 f first (backTo p4 (starEach [.Constant (.str msg) j p3] env)) []))
    (len : ∀ vs H Q E, sp vs H Q E → vs.length = ps.length)
    (run : ∀ (A : Around) (outer : List Env) (s : Shared) (H : Hp) (vs : List V) (Q : VK) (E : XK), Room k (A.deeper (NdefX.envF (supF qual params body scope cc cda) f s.heap.objs.size)) → sp vs H Q E →
      ∃ a ws, vs = .ref a :: ws ∧ H a = some (exo a C none) ∧ ∃ t, PSs (NdefX.ncx CX P w K mg base N (supF qual params body scope cc cda) f A outer s H E) rest t ∧ t { nx := fun _ H' => Q .non H', rt := Q } (NdefX.startF N vs [some (.ref C)]) H) :
    FnOk P w K mg base CX (k + 1) f (PySem.W.fnX "__init__" qual params body scope [("__class__", cc)] .none kV doc pm an (.ref cda) ct) ps sp := by
  refine ⟨len, fun A outer s H args us vs Q E hr e0 hb r h => ?_⟩
  have KX : K.In s.heap := e0.mod.kin.keeps fun b o e => (e0.bs b o e).1
  have lim : s.heap.NoLimit := e0.mod.nolimit.keeps fun b o e => (e0.bs b o e).1
  obtain ⟨cl, cld, csl, hcell⟩ := T.cell
  have hl := len _ _ _ _ h
  have cells : NdefX.CellsAt [("__class__", cc)] ["__class__"] [some (.ref C)] s.heap H := by
    have hkb := e0.mod.kin _ _ hcell
    have look : ∀ {y c}, List.lookup y [(("__class__" : Str), cc)] = some c → y = "__class__" ∧ c = cc := fun {y c} e => by
      rw [List.lookup_cons] at e
      by_cases hy : y == ("__class__" : Str)
      · rw [hy] at e; exact ⟨beq_iff_eq.mp hy, (Option.some.inj e).symm⟩
      · rw [Bool.eq_false_iff.mpr hy] at e; cases e
    refine ⟨rfl, fun y c e => ?_, fun x y c e1 e2 => (look e1).1.trans (look e2).1.symm, fun i y hy => ?_⟩
    · rw [(look e).2]
      exact ⟨(e0.bs _ _ hkb).2, _, _, KX _ _ hcell, rfl⟩
    · match i, hy with
      | 0, hy =>
        cases hy
        refine ⟨cc, rfl, fun v hv => ?_⟩
        cases hv
        exact ⟨_, rfl, _, KX _ _ hcell, rfl⟩
  refine PySem.ks_codeAny_call_defAt (fd := PySem.W.fnX "__init__" qual params body scope [("__class__", cc)] .none kV doc pm an (.ref cda) ct) (body := body) hr.depth (KX _ _ lk) rfl lim (PySem.W.codeRec_of KX hcd) rfl hb S.nocell (fun ⟨n, _⟩ hy => S.par n (List.of_mem_zip hy).1) (fun h₁ hns kp => ?_) S.co S.gen S.kind
  obtain ⟨a, ws, hvs, ha, t, ht, hq⟩ := run A outer s H vs Q E (hr.deeper _) h
  have I : Inv (NdefX.ncx CX P w K mg base N (supF qual params body scope cc cda) f A outer s H E) [] (NdefX.startF N vs [some (.ref C)]) H { s with heap := h₁, toks := s.toks + (ps.zip us).length } := NdefX.inv_startN S hr.hd e0 hl r cells hns kp
  subst hbd
  subst hvs
  obtain ⟨nm, q, Nn, bs, bm, sn, sub, ab, col, dd, k0, k1, k2, k3, k5, hC, hbm⟩ := T.oex.cls
  obtain ⟨ccl, cdd, vs2, ccs, file, tf, hcode, hv2, hfile⟩ := T.code
  obtain ⟨t1, hox⟩ := exo_at I.hok ha
  have K1 : K.In h₁ := I.kIn
  obtain ⟨u0, us', rfl, r0, r'⟩ : ∃ u0 us', us = u0 :: us' ∧ RelV (.ref a) u0 ∧ Vals ws us' := by
    cases r with
    | cons r0 r' => exact ⟨_, _, rfl, r0, r'⟩
  obtain rfl : u0 = Value.ref a := r0
  have hps0 : ps[0]? = some ar.arg := by rw [← List.head?_eq_getElem?]; exact hps
  have hv : (ps.zip (Value.ref a :: us')).reverse.lookup ar.arg = some (.ref a) := NdefX.zip_look (i := 0) (by
      have e := S.pre
      have nd := S.nd.sublist (List.take_sublist (ps.length + 1) N)
      rw [show (["__class__"] : List Str).length = 1 from rfl] at e
      rw [e] at nd
      exact (List.nodup_append.mp nd).1) hps0 rfl
  obtain ⟨pl, he⟩ := hev (NdefX.envF (supF qual params [] scope cc cda) f s.heap.objs.size) rfl
  refine PySem.ks_wpAt_execs_cons (PySem.ks_wpAt_Expr_any (PySem.ks_wpAt_MethodCall (pl := pl) ?_ he) (hi := I.quiet))
  refine PySem.ks_wpAt_super_base (f := f) (cc := cda) T.sSup T.sCls (by decide) rfl (K1 _ _ lk) rfl hp rfl (K1 _ _ hcode) rfl hv2 hfile T.top ?_
  have hD : h₁.get? C = some _ := K1 _ _ hC
  obtain ⟨mb, b1, b2⟩ := I.mod.blt
  refine PySem.W.ks_loadName_global S.kind T.sSup (Calls.loadGlobal_builtin (I.mod.glob.keeps I.bk) T.noS (b1.keeps I.bk) ((b2 _ (by decide)).trans (by rfl)) ⟨rfl, ?_⟩)
  refine wpAny_loadName_free S.kind T.sCls rfl ⟨_, K1 _ _ hcell, rfl⟩ ?_
  refine wpAny_loadName_local S.kind hna hns hv ?_
  refine PySem.ks_wpAny_isType_cls hD rfl ⟨rfl, ?_⟩
  refine PySem.ks_wpAny_call_super hD rfl hox rfl (fun c e => nomatch e) (PySem.W.looks_mroIn K1 T.mro) (fun h2 e2 kp2 => ?_)
  have I2 := I.kept (t' := s.toks + (ps.zip (Value.ref a :: us')).length) kp2
  have K2 : K.In h2 := I2.kIn
  have hcl : PySem.W.clsIn K C = some { name := nm, bases := bs, mro := .ref C :: bm, ns := Nn, qualname := q, hasDict := true, slotNames := sn, subclasses := sub, abstract := ab, collection := col, hasDel := false } := by unfold PySem.W.clsIn; rw [hC] <;> rfl
  have hsup := T.sup
  unfold PySem.W.ks_superIn at hsup
  rw [hcl] at hsup
  obtain ⟨t2, ho2⟩ := exo_at I2.hok ha
  have IA : PySem.W.InstAt h2 a _ C none := ⟨ho2, rfl, rfl, trivial⟩
  refine PySem.W.kxs_getMethod PySem.W.kxs_ValueError e2 (PySem.W.looks_opaque K2 T.opq) (l₀ := .ref C :: bm) (fun A Q E s k q => wpAny_bind ((PySem.W.looks_clsIn K2 hcl) A _ E s k (wpAny_pure q))) rfl K2 hsup (IA.type.andThen (PySem.W.looks_subIn K2 T.sub)) (PySem.W.ks_ne K2 IA hcl) (by decide) ?_
  have kp3 : ∀ b o, h2.get? b = some o → (h2.push (PySem.W.kxs_mw "ValueError.__init__" a)).get? b = some o := fun b o e => Heap.get?_push_of_some _ e
  have I3 := I2.kept (t' := s.toks + (ps.zip (Value.ref a :: us')).length + 1) kp3
  have hu : (h2.push (PySem.W.kxs_mw "ValueError.__init__" a)).get? h2.objs.size = some (PySem.W.kxs_mw "ValueError.__init__" a) := Heap.get?_push_at rfl rfl
  generalize h2.push (PySem.W.kxs_mw "ValueError.__init__" a) = h3 at I3 hu ⊢
  generalize h2.objs.size = u at hu ⊢
  refine PySem.W.kxs_callWith (i := "ValueError.__init__") (x := a) rfl (Calls.evalArgs_plain (Calls.spliced_cons (Calls.Constant_str (k := j) (pos := p3) (Calls.spliced_nil ⟨hu, ?_⟩))))
  have I4 := I3.tok (s.toks + (ps.zip (Value.ref a :: us')).length + 1 + 1)
  have K4 : K.In h3 := I4.kIn
  obtain ⟨t4, ho4⟩ := exo_at I4.hok ha
  refine wpAny_call (codeAny_of_tree ?_)
  show wpAny _ _ (callAny (.ref u) ⟨_, []⟩) _ _ _
  simp only [callAny]
  refine wpAny_bind (wpAny_load hu ?_)
  simp only [PySem.W.kxs_mw, show (Value.type "method-wrapper" == Value.type "method" || Value.type "method-wrapper" == Value.type "builtin_function_or_method" || Value.type "method-wrapper" == Value.type "method-wrapper") = true by decide, if_true]
  refine PySem.W.KFB.if_so (by decide) ?_
  refine wpAny_bind (PySem.W.check_bound_init F.excBase_ValueError.toExcCallFacts (K4 _ _ hC) ho4 rfl ?_)
  refine wpAny_bind (wpAny_pure (wpAny_pure ?_))
  refine ⟨plainId_quiet F.excBase_ValueError.init.plain _, codeAny_builtin F.excBase_ValueError.initEntry ?_⟩
  refine PySem.W.exc_init_tree (cls := .ref C) (t0 := t4) (dv := none) (c2 := .none) (c3 := .none) (b4 := .bool false) ho4 (by show 1 ≤ sizeLine; rw [sizeLine_eq]; decide) (fun h5 kp5 hx5 _ => ?_)
  have J := I4.write (t' := s.toks + (ps.zip (Value.ref a :: us')).length + 1 + 1) (x := a) (e := a) (o := exo a C none) (by rw [ha]; exact True.intro) (.inl rfl) kp5 ⟨_, hx5⟩ (exo_ok hx5)
  have eu : upd H a (exo a C none) = H := by
    funext b
    by_cases hb : b = a
    · rw [hb, upd_same, ha]
    · rw [upd_ne hb]
  rw [eu] at J
  refine PySem.wpAt_of_wpAny (wpAny_mono (ht.run [] _ _ H _ J hq) (fun fl s' hs => ?_) fun e s' hs => hs)
  cases fl with
  | ret u =>
    obtain ⟨v, σ', H', J', rv, q⟩ := hs
    exact ⟨v, H', J'.os, J'.bare, J'.base, J'.hok, rv, q⟩
  | next =>
    obtain ⟨σ', H', J', q⟩ := hs
    exact ⟨.non, H', J'.os, J'.bare, J'.base, J'.hok, rfl, q⟩
  | brk =>
    obtain ⟨_, _, _, q⟩ := hs
    exact False.elim q
  | cont =>
    obtain ⟨_, _, _, q⟩ := hs
    exact False.elim q
end L3
namespace L3
open PySem PySem.Spec PyProof.Rows L2
/-- one field, two fields, none -/
def spErr1 (C : Addr) (f : Str) : Sp := fun vs H Q _ => ∃ a v, vs = [.ref a, v] ∧ H a = some (exo a C none) ∧ ∀ dx, H dx = none → dx ≠ a → Q .non (upd (upd H dx (exd dx [(f, v)])) a (exo a C (some dx)))
def spErr2 (C : Addr) (f g : Str) : Sp := fun vs H Q _ => ∃ a v y, vs = [.ref a, v, y] ∧ H a = some (exo a C none) ∧ ∀ dx, H dx = none → dx ≠ a → Q .non (upd (upd (upd H dx (exd dx [(f, v)])) a (exo a C (some dx))) dx (exd dx [(g, y), (f, v)]))
abbrev stSup (msg : Str) (j : Nat) (p0 p1 p2 p3 p4 p5 : Pos) : Stmt := .Expr (.Call (.Attribute (.Call (.Name "super" p0) [] [] p1) "__init__" p2) [.Constant (.str msg) j p3] [] p4) p5
abbrev stFld (f x : Str) (q1 q2 q3 q4 : Pos) : Stmt := .Assign [.Attribute (.Name "self" q1) f q2] (.Name x q3) q4
section
variable {P : Program} {w : World} {K : PySem.W.Frag} {mg : Str → Option Value} {base : Heap} {CX : CXT} {C f cda cc : Addr} {qual msg x y g1 g2 : Str} {params : Arguments} {scope : Scope} {kV doc pm ct oc : Value} {an od : Option Addr} {osl : Array (Option Value)}
  {p0 p1 p2 p3 p4 p5 q1 q2 q3 q4 q5 q6 q7 q8 : Pos} {j : Nat} {ar : Arg} {body : List Stmt}
theorem okErr1 (hbd : body = [stSup msg j p0 p1 p2 p3 p4 p5, stFld g1 x q1 q2 q3 q4])
    (lk : K.lookup f = some ⟨oc, od, .func (PySem.W.fnX "__init__" qual params body scope [("__class__", cc)] .none kV doc pm an (.ref cda) ct), osl⟩) (hcd : PySem.W.codeIn K (.ref cda) qual = true)
    (T : SupF P K mg C f cda cc scope) (S : NdefX.NScope ["self", x, "__class__"] ["self", x] ["__class__"] scope) (hp : (params.posonlyargs ++ params.args).head? = some ar) (har : ar.arg = "self")
    (hev : ∀ env : Env, env.scope = scope → ∃ pl, eval (.Call (.Attribute (.Call (.Name "super" p0) [] [] p1) "__init__" p2) [.Constant (.str msg) j p3] [] p4) env = (do
      let ov ← attributeBase (.Call (.Name "super" p0) [] [] p1) "__init__" env (eval (.Call (.Name "super" p0) [] [] p1) env)
      standAt p2.atName
      let (f, first) ← holding [ov] (getMethod ov "__init__" pl)
      callWith p4 f first (backTo p4 (starEach [.Constant (.str msg) j p3] env)) []))
    (hx : (x == ("__debug__" : Str)) = false) (hx2 : (x == ("__classdict__" : Str)) = false) (n1 : PySem.W.findIn K (.ref C) g1 = some none) (hs : ∀ env : Env, env.scope = scope → swapsWith (.Name x q3) (some (.Attribute (.Name "self" q1) g1 q2)) q4.line env = pure false) :
    FnOk P w K mg base CX 1 f (PySem.W.fnX "__init__" qual params body scope [("__class__", cc)] .none kV doc pm an (.ref cda) ct) ["self", x] (spErr1 C g1) := by
  refine okSup hbd lk hcd T S hp (by rw [har]; rfl) (by rw [har]; rfl) (by rw [har]; exact S.par _ (by simp)) hev (fun vs H Q E h => ?_) (fun A outer s H vs Q E hr h => ?_)
  · obtain ⟨a, v, rfl, _⟩ := h; rfl
  · obtain ⟨a, v, rfl, ha, k⟩ := h
    refine ⟨a, _, rfl, ha, _, pss_one (ps_ost (pe_var (i := 0) rfl (.inl (S.par _ (by simp)))) (pe_var (i := 1) rfl (.inl (S.par _ (by simp))) hx hx2) (hs _ rfl)), ?_⟩
    refine ⟨v, rfl, .ref a, rfl, a, C, rfl, T.oex, n1, .inl ⟨ha, fun dx h1 h2 => ?_⟩⟩
    exact k dx h1 h2
theorem okErr2 (hbd : body = [stSup msg j p0 p1 p2 p3 p4 p5, stFld g1 x q1 q2 q3 q4, stFld g2 y q5 q6 q7 q8])
    (lk : K.lookup f = some ⟨oc, od, .func (PySem.W.fnX "__init__" qual params body scope [("__class__", cc)] .none kV doc pm an (.ref cda) ct), osl⟩) (hcd : PySem.W.codeIn K (.ref cda) qual = true)
    (T : SupF P K mg C f cda cc scope) (S : NdefX.NScope ["self", x, y, "__class__"] ["self", x, y] ["__class__"] scope) (hp : (params.posonlyargs ++ params.args).head? = some ar) (har : ar.arg = "self")
    (hev : ∀ env : Env, env.scope = scope → ∃ pl, eval (.Call (.Attribute (.Call (.Name "super" p0) [] [] p1) "__init__" p2) [.Constant (.str msg) j p3] [] p4) env = (do
      let ov ← attributeBase (.Call (.Name "super" p0) [] [] p1) "__init__" env (eval (.Call (.Name "super" p0) [] [] p1) env)
      standAt p2.atName
      let (f, first) ← holding [ov] (getMethod ov "__init__" pl)
      callWith p4 f first (backTo p4 (starEach [.Constant (.str msg) j p3] env)) []))
    (hx : (x == ("__debug__" : Str)) = false) (hx2 : (x == ("__classdict__" : Str)) = false) (hy : (y == ("__debug__" : Str)) = false) (hy2 : (y == ("__classdict__" : Str)) = false)
    (n1 : PySem.W.findIn K (.ref C) g1 = some none) (n2 : PySem.W.findIn K (.ref C) g2 = some none)
    (hs : ∀ env : Env, env.scope = scope → swapsWith (.Name x q3) (some (.Attribute (.Name "self" q1) g1 q2)) q4.line env = pure false) (hs2 : ∀ env : Env, env.scope = scope → swapsWith (.Name y q7) (some (.Attribute (.Name "self" q5) g2 q6)) q8.line env = pure false) :
    FnOk P w K mg base CX 1 f (PySem.W.fnX "__init__" qual params body scope [("__class__", cc)] .none kV doc pm an (.ref cda) ct) ["self", x, y] (spErr2 C g1 g2) := by
  refine okSup hbd lk hcd T S hp (by rw [har]; rfl) (by rw [har]; rfl) (by rw [har]; exact S.par _ (by simp)) hev (fun vs H Q E h => ?_) (fun A outer s H vs Q E hr h => ?_)
  · obtain ⟨a, v, y, rfl, _⟩ := h; rfl
  · obtain ⟨a, v, y', rfl, ha, k⟩ := h
    refine ⟨a, _, rfl, ha, _, pss_cons (ps_ost (pe_var (i := 0) rfl (.inl (S.par _ (by simp)))) (pe_var (i := 1) rfl (.inl (S.par _ (by simp))) hx hx2) (hs _ rfl))
      (pss_one (ps_ost (pe_var (i := 0) rfl (.inl (S.par _ (by simp)))) (pe_var (i := 2) rfl (.inl (S.par _ (by simp))) hy hy2) (hs2 _ rfl))), ?_⟩
    refine ⟨v, rfl, .ref a, rfl, a, C, rfl, T.oex, n1, .inl ⟨ha, fun dx h1 h2 => ?_⟩⟩
    refine ⟨y', rfl, .ref a, rfl, a, C, rfl, T.oex, n2, .inr ⟨dx, [(g1, v)], upd_same, ?_, (show 1 ≤ 900 by decide), ?_⟩⟩
    · rw [upd_ne h2]; exact upd_same
    · exact k dx h1 h2
end
end L3
end
section
namespace L3
open PySem PySem.Spec PyProof.Rows L2
/-- at a: an error of the class cls, its dict at d -/
def ExV (a : Addr) (cls : Value) (d : Option Addr) : HO := .ext fun h => ∃ oe, h.get? a = some oe ∧ Zc cls d oe ∧ ∃ vs, oe.data = .fields vs
theorem exV_ok {P : Program} {w : World} {H : Hp} {h : Heap} {a : Addr} {cls : Value} {d : Option Addr} {oe : Obj} (e : h.get? a = some oe) (z : Zc cls d oe) (f : ∃ vs, oe.data = .fields vs) : ObjOk P w H h a (ExV a cls d) :=
  ⟨⟨oe, e, z, f⟩, ⟨_, e⟩, fun _ _ ⟨o, q, z, f⟩ k => ⟨o, k _ q, z, f⟩⟩
section
variable {X : Cx} {pins : List (Addr × Obj)} {σ : L2.St} {H : Hp} {s : Shared}
/-- an object that was not there at the entry may be told from now on -/
theorem Inv.track {a : Addr} {o : HO} (I : Inv X pins σ H s) (na : H a = none) (n0 : X.s_0.heap.get? a = none) (nL : a ≠ X.env.locals) (nC : ∀ x c, X.env.cells.lookup x = some c → c ≠ a) (nP : ∀ p ∈ X.pn ++ pins, p.1 ≠ a) (new : ObjOk X.prog X.w (upd H a o) s.heap a o) :
    Inv X pins σ (upd H a o) s := by
  have ne0 : ∀ b u, X.s_0.heap.get? b = some u → b ≠ a := fun b u e z => by rw [z, n0] at e; cases e
  refine ⟨I.ok, I.os, I.bare, ⟨I.base.keep, I.base.slot, fun b u e n hx => ?_, I.base.there, fun b xs e => ?_, fun b u v e => ?_, fun b ps e => ?_⟩, I.loc, I.cell, ?_, fun x c e => ?_, fun p hp => ?_, I.hok.laidN (fun _ _ q => q) na new, I.len⟩
  · rw [upd_ne (ne0 b u e)]; exact I.base.free b u e n hx
  · have q := I.base.tups b xs e
    rw [upd_ne (ne_of_none q na)]; exact q
  · have q := I.base.frzs b u v e
    rw [upd_ne (ne_of_none q na)]; exact q
  · obtain ⟨m, q⟩ := I.base.tbls b ps e
    exact ⟨m, by rw [upd_ne (ne_of_none q na)]; exact q⟩
  · rw [upd_ne (Ne.symm nL)]; exact I.free
  · rw [upd_ne (nC x c e)]; exact I.freeC x c e
  · obtain ⟨h1, h2, h3, h4, h5⟩ := I.pin p hp
    exact ⟨h1, by rw [upd_ne (nP p hp)]; exact h2, h3, h4, h5⟩
end
/-- what 'except x as n: m = n' wishes: the error stays in slot m, told behind the suite -/
def wNote (K : PySem.W.Frag) (n : Nat) (c : Value) (i m : Nat) (Wout : WX) (D : Ends) : WX := fun cls d σ H =>
  ∃ b, PySem.W.exmOne K cls c = some b ∧ (b = true → σ.length = n → ∀ a, H a = none → D.nx (((σ.set i (some (.ref a))).set m (some (.ref a))).set i none) (upd H a (ExV a cls d))) ∧ (b = false → Wout cls d σ H)
section
variable {X : Cx} {x n mN : Str} {c : Value} {i m : Nat} {body : List Stmt} {np pos pos' p1 p2 p3 : Pos} {tb : WX → TS} {Wout : WX}
theorem ps_try_note (hs : X.stack = X.env :: X.outer) (hf : X.env.frame = some X.env.locals) (hex : X.ex = []) (hN : X.N.Nodup) (hi : X.N[i]? = some n) (hln : X.env.kindOf n = some .local) (hm : X.N[m]? = some mN) (hlm : X.env.kindOf mN = some .local) (hc : Names X x c) (tk : Takes X Wout)
    (hsw : swapsWith (.Name n p2) (some (.Name mN p1)) p3.line X.env = pure false) (hnd : (n == ("__debug__" : Str)) = false) (hnc : (n == ("__classdict__" : Str)) = false)
    (hb : ∀ (W : WX) (pn : List (Addr × Obj)) (xe : Value → Shared → Prop), Takes (X.tr pn xe) W → PassesOwn (model X.prog X.w) X.A X.env xe → PSs (X.tr pn xe) body (tb W)) :
    PS X (.Try body [.ExceptHandler (some (.Name x np)) (some n) [.Assign [.Name mN p1] (.Name n p2) p3] pos'] [] [] pos) (fun D σ H => tb (wNote X.K X.N.length c i m Wout D) D σ H) := by
  refine ⟨fun pins s σ H D I h => ?_⟩
  have ok := I.ok
  have frE : X.A.frames = some (X.env :: X.outer) := by rw [ok.frames, hs]
  refine wpAny_Try_except ?_
  refine wpAny_mono ((hb (wNote X.K X.N.length c i m Wout D) (X.pn ++ pins) (fun e s1 => wpAny (model X.prog X.w) X.A (noteFrame e X.env) (fun _ s2 => wpAny (model X.prog X.w) X.A (setFlight e none) (fun _ s3 =>
    wpAny (model X.prog X.w) X.A (handleBy e X.env [.ExceptHandler (some (.Name x np)) (some n) [.Assign [.Name mN p1] (.Name n p2) p3] pos']) (SP X pins D) X.xe s3) X.xe s2) X.xe s1) (fun u s' xx => ?_) PassesOwn.looking).run [] s σ H D (I.toTry _) h) (fun f s1 hsp => ?_) (fun e s1 he => he)
  · obtain ⟨a, B, sI, pins', σ', H', cls, d, rfl, J', nb, up, sky, na, os, ag, b, hb1, hyes, hno⟩ := xx
    have J : Inv X pins σ' H' sI := J'.ofTry ok
    have skyE : Sky B (X.env :: X.outer) a (Zc cls d) X.env.locals s'.heap := by rw [← hs]; exact sky
    show wpAny (model X.prog X.w) X.A (noteFrame (.ref a) X.env) _ _ _
    refine Sky.land Zc.steady frE hf skyE fun h3 fl3 up3 => ?_
    have J3 : Inv X pins σ' H' { s' with heap := h3 } := J.landed nb fl3.1 (up.trans up3) os ag
    obtain ⟨oe3, vs3, he3, hz3, hd3⟩ := fl3.there
    have far : ∀ {h : Heap} {o : Obj} {vs : Array Value}, h.FunFrames B (X.env :: X.outer) → h.get? a = some o → o.data = .fields vs → a ∉ frs (X.env :: X.outer) := fun {h o vs} ff e dd hm => by
      obtain ⟨_, o', e', hnf⟩ := ff.mem hm
      rw [e] at e'; cases e'
      exact hnf _ dd
    have nfr := far fl3.2.2.1 he3 hd3
    have nL : a ≠ X.env.locals := fun z => nfr (List.mem_filterMap.mpr ⟨X.env, List.mem_cons_self, by rw [hf, z]⟩)
    have nF : a ∉ X.fs := fun hm => by
      obtain ⟨e, he, q⟩ := List.mem_filterMap.mp hm
      exact nfr (List.mem_filterMap.mpr ⟨e, List.mem_cons_of_mem _ he, q⟩)
    have nI : sI.heap.get? a = none := by
      cases e : sI.heap.get? a with
      | none => rfl
      | some o =>
        have q := nb a o e (by rw [hs]; exact nfr)
        rw [fl3.2.1] at q; cases q
    have n0 : X.s_0.heap.get? a = none := by
      cases e : X.s_0.heap.get? a with
      | none => rfl
      | some o =>
        obtain ⟨o', q⟩ := J.base.there a o e (by rw [hex]; exact fun z => nomatch z)
        rw [nI] at q; cases q
    have nC : ∀ y c, X.env.cells.lookup y = some c → c ≠ a := fun y c e z => by
      obtain ⟨v, o, q, _⟩ := J.cell y c e
      rw [z, nI] at q; cases q
    have nP : ∀ p ∈ X.pn ++ pins, p.1 ≠ a := fun p hp z => by
      have q := (J.pin p hp).1
      rw [z, nI] at q; cases q
    have S3 := J3.suite he3 hd3 na nL nF
    refine wpAny_handleBy_cons (codeAny_handlers_test ?_) (by intro q; cases q)
    have LT : PySem.W.Looks (model X.prog X.w) h3 (typeOf (.ref a)) cls := fun A Q E s k q => wpAny_typeOf_ref (k _ _ he3) (by rw [hz3.1]; exact q)
    have LM := PySem.W.exm_one (M := model X.prog X.w) (J3.kIn) LT hb1
    have test : ∀ {Q : Value → Shared → Prop} {E : Value → Shared → Prop}, Q c { s' with heap := h3 } → wpAny (model X.prog X.w) (X.A.mark (some (.ref a))) (eval (.Name x np) X.env) Q E { s' with heap := h3 } := fun {Q E} q => by
      obtain ⟨hg, hdbg, hm | ⟨hm, hv, hnn⟩⟩ := hc
      · exact ld_glob (X := X.suite a ((a, oe3) :: (X.pn ++ pins))) S3 hg hm q hdbg
      · exact ld_blt (X := X.suite a ((a, oe3) :: (X.pn ++ pins))) S3 hg hm hv q hnn hdbg
    refine test (LM.here ?_)
    cases b with
    | true =>
      refine codeAny_handlers_suite_as ?_
      refine HandSPX.lands_againZ fl3 fun h4 fl4 up4 => ?_
      have J4 : Inv X pins σ' H' { s' with heap := h4 } := J.landed nb fl4.1 ((up.trans up3).trans up4) os ag
      obtain ⟨oe4, vs4, he4, hz4, hd4⟩ := fl4.there
      have S4 := J4.suite he4 hd4 na nL nF
      refine store_ok (X := X.suite a ((a, oe4) :: (X.pn ++ pins))) (v := .ref a) S4 hN hi (.inl hln) rfl (fun s5 S5 => ?_) (.inr hln)
      have suiteP : PSs (X.suite a ((a, oe4) :: (X.pn ++ pins))) [.Assign [.Name mN p1] (.Name n p2) p3] (tAsg (tVar i) (gName m)) := pss_one (ps_set (i := m) hN hm (.inl hlm) (pe_var (i := i) hi (.inl hln) hnd hnc) hsw (.inr hlm))
      have hlt : i < σ'.length := by
        rw [J.len]
        exact (List.getElem?_eq_some_iff.mp hi).1
      refine wpAny_mono (suiteP.run [] s5 _ H' { nx := fun σ6 H6 => σ6 = (σ'.set i (some (.ref a))).set m (some (.ref a)) ∧ H6 = H', rt := fun _ _ => False, bk := fun _ _ => False, ct := fun _ _ => False } S5 ⟨.ref a, List.getElem?_set_self hlt, rfl, rfl⟩) (fun f s6 hsp => ?_) (fun _ _ z => False.elim z)
      cases f with
      | next =>
        obtain ⟨σ6, H6, S6, e6, e7⟩ := hsp
        subst e6
        subst e7
        have pin6 := S6.pin (a, oe4) (List.mem_append_left _ List.mem_cons_self)
        have U6 := S6.unsuite ok
        have J6 : Inv X ((a, oe4) :: pins) _ H6 s6 := U6.pins_of fun p hp => (List.mem_cons.mp hp).elim (fun z => by rw [z]; exact pin6) fun z => U6.pin p (List.mem_append_right _ z)
        refine gone_ok J6 hN hi hln fun s7 J7 => ?_
        have a7 := (J7.pin (a, oe4) (List.mem_append_right _ List.mem_cons_self)).1
        have J8 : Inv X pins _ H6 s7 := J7.pins_of fun p hp => J7.pin p (List.mem_append_right _ (List.mem_cons_of_mem _ hp))
        exact ⟨_, _, Inv.track J8 na n0 nL nC nP (exV_ok a7 hz4 ⟨_, hd4⟩), hyes rfl J.len a na⟩
      | brk =>
        obtain ⟨_, _, _, z⟩ := hsp
        exact False.elim z
      | cont =>
        obtain ⟨_, _, _, z⟩ := hsp
        exact False.elim z
      | ret u =>
        obtain ⟨_, _, _, _, _, z⟩ := hsp
        exact False.elim z
    | false =>
      show wpAny _ X.A (handleBy (.ref a) X.env []) _ _ _
      refine wpAny_handleBy_nil ?_
      obtain ⟨k1, k2, k3, oe, vs, Tt, oT, tq, he, hz, hd, h1, hr⟩ := id fl3
      unfold PySem.passOn
      refine wpAny_bind (wpAny_field he hd h1 ?_)
      rw [if_neg (show ¬ ((Value.ref Tt == Value.none) = true) from by simp)]
      have fin : wpAny (model X.prog X.w) X.A (setFlight (.ref a) X.env.frame) (fun _ s4 => wpAny (model X.prog X.w) X.A (throw (.ref a) : Sem Flow) (SP X pins D) X.xe s4) X.xe { s' with heap := h3 } := by
        rw [hf]
        refine HandSPX.setFlight_upZ fl3 fun h4 hh4 up4 => wpAny_throw (tk _ _ ?_)
        exact ⟨a, B, sI, pins, σ', H', cls, d, rfl, J, nb, (up.trans up3).trans up4, .inr (.inr (by rw [hs]; exact hh4)), na, os, ag, hno rfl⟩
      first
        | exact wpAny_bind (wpAny_pure (wpAny_bind fin))
        | exact wpAny_bind fin
  · cases f with
    | next =>
      obtain ⟨σ', H', J', q⟩ := hsp
      exact wpAny_execs_nil ⟨σ', H', J'.ofTry ok, q⟩
    | brk =>
      obtain ⟨σ', H', J', q⟩ := hsp
      exact ⟨σ', H', J'.ofTry ok, q⟩
    | cont =>
      obtain ⟨σ', H', J', q⟩ := hsp
      exact ⟨σ', H', J'.ofTry ok, q⟩
    | ret u =>
      obtain ⟨v, σ', H', J', r, q⟩ := hsp
      exact ⟨v, σ', H', J'.ofTry ok, r, q⟩
end
end L3
namespace L3
open PySem PySem.Spec PySem.Calls PyProof.Rows PySem.W
section
variable {prog : Program} {w : World} {A : Around} {E : Value → Shared → Prop} {s : Shared} {K : Frag} {x D : Addr} {ox : Obj} {od : Option Obj}
/-- the class of an error that has its dict -/
theorem cls_exc {Q : Option Value → Shared → Prop} (C : L2.ExcC K D) (X : K.In s.heap) (I : InstAt s.heap x ox D od) (hf : findObj K D od "__class__" = some (.bind (.builtin "getset_descriptor.__get__") (.builtin "object.__class__")))
    (h : Q (some (.ref D)) { s with toks := s.toks + 1 }) : wpAny (model prog w) A (getAttr? (.ref x) "__class__") Q E s := by
  obtain ⟨hp, g, d, t, os⟩ := s
  have L0 := I.type (M := model prog w)
  have L1 := looks_findIn (M := model prog w) X C.hg
  have L2 := looks_findIn (M := model prog w) X C.hk
  have L4 := looks_find (M := model prog w) X I hf
  have sub : Looks (model prog w) hp (isInstance (.ref x) (.type "BaseException")) true := L0.andThen (looks_subIn X C.hs)
  have z0 : (false && onTheHeap (Value.builtin "BaseException.__getattribute__")) = false := rfl
  have z2 : (Value.builtin "BaseException.__getattribute__" == Value.builtin "object.__getattribute__") = false := by decide +kernel
  have z1 : (onTheHeap (Value.ref D) && Value.builtin "BaseException.__getattribute__" == Value.builtin "object.__getattribute__") = false := by rw [z2]; rfl
  unfold getAttr? getAttrBy? getAttrBy
  refine wpAny_bind (wpAny_mkText (wpAny_bind (wpAny_attempt (wpAny_holding (wpAny_bind (L0.at (wpAny_bind (L1.at ?_))))))))
  show wpAny _ _ (if (onTheHeap (Value.ref D) && Value.builtin "BaseException.__getattribute__" == Value.builtin "object.__getattribute__") = true then _ else _) _ _ _
  rw [z1, if_neg Bool.false_ne_true]
  unfold getAttrByItsOwn hookBefore
  refine wpAny_bind ?_
  rw [if_pos (show onTheHeap (Value.ref D) = true from rfl)]
  refine L2.at ?_
  refine wpAny_bind (wpAny_attempt (wpAny_holding ?_))
  unfold callGetattribute
  rw [z0, if_neg Bool.false_ne_true]
  unfold boundAndCalled
  rw [PySem.F.excAttr_ValueError.ga.bind (.ref x)]
  refine wpAny_bind (wpAny_pure ?_)
  show wpAny _ _ (call (.builtin "BaseException.__getattribute__") [.ref x, .str "__class__" t]) _ _ _
  refine wpAny_call (codeAny_call_builtin PySem.F.excAttr_ValueError.ga.plain PySem.F.entry_bexc_ga ?_)
  refine @check_slot (model prog w) _ _ ⟨hp, g, d, t + 1, os⟩ "BaseException.__getattribute__" "BaseException" "__getattribute__" (.ref x) [.str "__class__" t] [] _ (by decide +kernel) (by decide +kernel) sub (PySem.F.args_bexc_ga (.ref x) (.str "__class__" t)) ?_
  unfold Builtin.«object.__getattribute__»
  refine wpAny_bind (wpAny_of_eq (a := ((Value.ref x : Value), [Value.str "__class__" t])) (by first | rfl | (simp only [slotArgs]; rfl)) ?_)
  refine wpAny_bind (wpAny_pure (wpAny_bind (L0.at (wpAny_bind (L4.at ?_)))))
  show wpAny _ _ (holding [Value.builtin "object.__class__"] (call (.builtin "getset_descriptor.__get__") [.builtin "object.__class__", .ref x, .ref D]) >>= ret) _ _ _
  refine wpAny_bind (wpAny_holding (wpAny_call (class_get (s := ⟨hp, g, d, t + 1, os⟩) (ox := ox) (od := od) X I C.hm ?_)))
  refine wpAny_pure ?_
  show wpAny _ _ (handedOut (.ref D)) _ _ _
  rw [handedOut_of (v := .ref D) rfl]
  first
    | exact wpAny_pure (wpAny_pure h)
    | exact wpAny_pure h
    | exact wpAny_pure (wpAny_bind (wpAny_pure (wpAny_pure h)))
theorem kit_exc (C : L2.ExcC K D) : KitX K (.ref x) (.ref D) (fun h => ∃ ox o, InstAt h x ox D (some o)) where
  ty := fun _ _ _ ⟨_, _, I⟩ => I.type
  it := fun _ _ X _ => by
    obtain ⟨cdD, hcD, _⟩ := any_some C.hd
    unfold clsIn at hcD
    split at hcD
    · rename_i c' d' cd' sl' ho
      exact fun A' Q' E' s' k q => by
        unfold isType loadHead
        exact wpAny_bind (wpAny_loadPart (k _ _ (X _ _ ho)) (wpAny_pure q))
    · cases hcD
  ne := (handS_kitx_exc (x := x) (ox := default) C.hg C.hk C.hs C.hd C.ha C.hn C.ht C.hm).ne
  ca := fun X ⟨_, o, I⟩ k => cls_exc C X I (by
    obtain ⟨cd, hc, _⟩ := any_some C.hd
    unfold findObj
    rw [hc, Option.bind_some, C.ha, Option.bind_some]
    simp [C.hn, C.ht]) k
end
end L3
namespace L3
open PySem PySem.Spec PyProof.Rows L2
theorem exV_at {P : Program} {w : World} {H : Hp} {h : Heap} {a : Addr} {cls : Value} {d : Option Addr} (hok : HOk P w H h) (e : H a = some (ExV a cls d)) : ∃ oe, h.get? a = some oe ∧ Zc cls d oe ∧ ∃ vs, oe.data = .fields vs :=
  (show ObjOk P w H h a (ExV a cls d) from hok a _ e).1
theorem exV_inst {P : Program} {w : World} {H : Hp} {h : Heap} {a C d : Addr} {fs : List (Str × V)} (hok : HOk P w H h) (e : H a = some (ExV a (.ref C) (some d))) (ed : H d = some (.xd fs)) :
    ∃ oe od mA, PySem.W.InstAt h a oe C (some od) ∧ h.get? d = some od ∧ h.Ns1 d mA ∧ (∀ f, RelO (fs.lookup f) (mA f)) ∧ ∀ n, PySem.W.lookIn n od = some (mA n) := by
  obtain ⟨oe, e1, z, vs, e2⟩ := exV_at hok e
  obtain ⟨mA, hns, hr⟩ := (show ObjOk P w H h d (.xd fs) from hok d _ ed)
  obtain ⟨od, ho, hl⟩ := lookIn_ns hns
  exact ⟨oe, od, mA, ⟨e1, z.1, by unfold PySem.W.notCls; rw [e2] <;> rfl, by rw [z.2]; exact ho⟩, ho, hns, hr, hl⟩
/-- isinstance of a kept error -/
def rIsiX (K : PySem.W.Frag) : List V → Hp → VK → Prop := fun xs H Q => rIsiA K xs H Q ∨ ∃ (a C d : Addr) (c : V) (u : Value) (fs : List (Str × V)) (b : Bool), xs = [.ref a, c] ∧ ClsV c u ∧ H a = some (ExV a (.ref C) (some d)) ∧ H d = some (.xd fs) ∧ ExcC K C ∧ PySem.W.kitOne K (.ref C) u = some b ∧ Q (.bl b) H
theorem callIsiX {X : Cx} : CallR X (.builtin "isinstance") (rIsiX X.K) := by
  intro pins s σ H xs us Q I r h
  rcases h with h | ⟨a, C, d, c, u, fs, b, rfl, k, ea, ed, T, e, q⟩
  · exact callIsi pins s σ H xs us Q I r h
  · obtain ⟨u1, u2, rfl, r1, r2⟩ := vals2 r
    have e2 := k.eq r2
    subst e2
    cases (show u1 = Value.ref a from r1)
    obtain ⟨oe, od, mA, J, _⟩ := exV_inst I.hok ea ed
    exact PySem.W.kia_one (kit_exc T) I.kIn ⟨oe, od, J⟩ e (fun z => nomatch z) fun tk => ⟨.bl b, H, I.tok tk, rfl, q⟩
/-- a field of a kept error -/
def tXfV (K : PySem.W.Frag) (n : Str) (te : TE) : TE := fun σ H Q => te σ H fun x H1 => ∃ (a C d : Addr) (fs : List (Str × V)) (v : V), x = .ref a ∧ H1 a = some (ExV a (.ref C) (some d)) ∧ H1 d = some (.xd fs) ∧ XfC K C ∧ PySem.W.findIn K (.ref C) n = some none ∧ fs.lookup n = some v ∧ Q v H1
theorem pe_xfV {X : Cx} {e : Expr} {te : TE} {pos : Pos} {n : Str} (he : PE X e te) (hb : attributeBase e n X.env (eval e X.env) = eval e X.env := by rfl) : PE X (.Attribute e n pos) (tXfV X.K n te) := by
  refine ⟨fun pins s σ H Q I h => ?_⟩
  refine attr_of hb (thn (he.run pins s σ H _ I h) fun u s1 hh => ?_)
  obtain ⟨x, H1, I1, rx, a, C, d, fs, v, rfl, ea, ed, T, hno, l, q⟩ := hh
  obtain rfl : u = Value.ref a := rx
  obtain ⟨oe, od, mA, J, _, _, hr, hl⟩ := exV_inst I1.hok ea ed
  obtain ⟨u, hu, ru⟩ := RelO.some_of (v := v) (o := mA n) (by rw [← l]; exact hr n)
  exact HandSPX.exc_get I1.kIn J T.ga T.gg T.exC (PySem.W.findObj_own T.hdC hno rfl (by rw [hl, hu])) (handed_of ru) ⟨v, H1, I1.tok _, ru, q⟩
end L3
end
section
namespace L3
open PySem PySem.Spec PySem.Calls PyProof.Rows PySem.W
section
variable {prog : Program} {w : World} {A : Around} {E : Value → Shared → Prop} {s : Shared} {K : Frag} {x y C f g : Addr} {ox oy : Obj} {od oe : Option Obj} {op : Operator} {T : String}
/-- both of one own class -/
theorem bin_same {Q : Value → Shared → Prop} (X : K.In s.heap) (I : InstAt s.heap x ox C od) (J : InstAt s.heap y oy C oe) (hc : selfFirst K C = true) (hs : findIn K (.ref C) (PySem.dunder op.info.2) = some (some (.ref f))) (hf : isFn K (.ref f) = true)
    (h : wpAny (model prog w) A (call (.ref f) [.ref x, .ref y]) (PySem.W.CmpBack Q) E s) : wpAny (model prog w) A (binaryOp1 op.info.2 (.ref x) (.ref y)) (fun r s' => ∃ v, r = some v ∧ Q v s') E s := by
  obtain ⟨cd, rest, hcd, hm⟩ := ksp_first hc
  rcases hi : op.info with ⟨sym, nm'⟩
  rw [hi] at hs
  dsimp only at hs
  have one := ksp_try X I hs hf h
  obtain ⟨hh, g, d, tt, os⟩ := s
  have L1 : Looks (model prog w) hh (typeOf (.ref x)) (.ref C) := I.type
  have L2 : Looks (model prog w) hh (typeOf (.ref y)) (.ref C) := J.type
  have L3 : Looks (model prog w) hh (fillsNumberSlot (.ref C) nm') true := fills_K X hcd hm hs
  have he : (Value.ref C == Value.ref C) = true := beq_self_eq_true _
  dsimp only
  unfold binaryOp1
  refine wpAny_bind (L1.at (wpAny_bind (L2.at (wpAny_bind (L3.at ?_)))))
  simp only [he, if_true]
  ksp_lk
  refine wpAny_mono one (fun r s' hr' => ?_) fun _ _ e => e
  obtain ⟨v, rfl, hq⟩ := hr'
  ksp_lk
  exact ⟨_, rfl, hq⟩
/-- an own one and one of a built-in type -/
theorem bin_own {b : Value} {fo ro rc : Option Value} {Q : Value → Shared → Prop} (X : K.In s.heap) (I : InstAt s.heap x ox C od) (Lb : Looks (model prog w) s.heap (typeOf b) (.type T)) (hc : selfFirst K C = true)
    (hs : findIn K (.ref C) (PySem.dunder op.info.2) = some (some (.ref f))) (hf : isFn K (.ref f) = true) (hr : findIn K (.ref C) (dunderR op.info.2) = some rc) (hp : rc = none ∨ ∃ g : Addr, rc = some (.ref g))
    (h1 : findIn K (.type T) (PySem.dunder op.info.2) = some fo) (h2 : findIn K (.type T) (dunderR op.info.2) = some ro) (hsub : subIn K (.type T) (.ref C) = some false)
    (h : wpAny (model prog w) A (call (.ref f) [.ref x, b]) (PySem.W.CmpBack Q) E s) : wpAny (model prog w) A (binaryOp1 op.info.2 (.ref x) b) (fun r s' => ∃ v, r = some v ∧ Q v s') E s := by
  obtain ⟨cd, rest, hcd, hm⟩ := ksp_first hc
  rcases hi : op.info with ⟨sym, nm'⟩
  rw [hi] at hs hr h1 h2
  dsimp only at hs hr h1 h2
  have one := ksp_try X I hs hf h
  obtain ⟨hh, g, d, tt, os⟩ := s
  have L1 : Looks (model prog w) hh (typeOf (.ref x)) (.ref C) := I.type
  have L2 := Lb
  have L3 : Looks (model prog w) hh (fillsNumberSlot (.ref C) nm') true := fills_K X hcd hm hs
  have L4 : Looks (model prog w) hh (fillsNumberSlot (.type T) nm') ((fo.isSome && !isSeqSlot fo) || (ro.isSome && !isSeqSlot ro)) := ksp_fillsT X h1 h2
  have L5 : Looks (model prog w) hh (isSubtype (.type T) (.ref C)) false := looks_subIn X hsub
  have L6 : Looks (model prog w) hh (numberSlotInPython (.ref C) nm') true := ksp_inPy X hs hr hp
  have L7 : Looks (model prog w) hh (numberSlotInPython (.type T) nm') false := Looks.of_pure rfl
  have L8 : Looks (model prog w) hh (typeLookup (.type T) (dunderR nm')) ro := looks_findIn X h2
  generalize ((fo.isSome && !isSeqSlot fo) || (ro.isSome && !isSeqSlot ro)) = right at L4
  have hne : (Value.ref C == Value.type T) = false := Bool.eq_false_iff.mpr fun q => by cases beq_iff_eq.mp q
  dsimp only
  unfold binaryOp1
  refine wpAny_bind (L1.at (wpAny_bind (L2.at (wpAny_bind (L3.at ?_)))))
  simp only [hne, Bool.false_eq_true, if_false]
  cases right with
  | false =>
    ksp_lk
    refine wpAny_mono one (fun r s' hr' => ?_) fun _ _ e => e
    obtain ⟨v, rfl, hq⟩ := hr'
    ksp_lk
    exact ⟨_, rfl, hq⟩
  | true =>
    ksp_lk
    refine wpAny_mono one (fun r s' hr' => ?_) fun _ _ e => e
    obtain ⟨v, rfl, hq⟩ := hr'
    ksp_lk
    exact ⟨_, rfl, hq⟩
end
end L3
namespace L3
open PySem PySem.Spec PySem.Calls PyProof.Rows PySem.W
section
variable {M : Model} {A : Around} {E : Value → Shared → Prop} {s : Shared} {x : Addr} {ox : Obj} {i : Int} {b : Bool} {t : Tok} {P : Fin → Shared → Prop}
theorem dI_add (e : s.heap.get? x = some ox) (hd : ox.data = .plain) (h : P (.done (.ret .notImplemented)) s) : wpAny M A (Builtin.«int.__add__» ⟨[.int i t, .ref x], []⟩) P E s := by
  obtain ⟨hp, g, d, tk, os⟩ := s
  wp_walk
  try (rw [hd]; wp_walk)
  try (rw [hd]; wp_walk)
  exact h
theorem dI_sub (e : s.heap.get? x = some ox) (hd : ox.data = .plain) (h : P (.done (.ret .notImplemented)) s) : wpAny M A (Builtin.«int.__sub__» ⟨[.int i t, .ref x], []⟩) P E s := by
  obtain ⟨hp, g, d, tk, os⟩ := s
  wp_walk
  try (rw [hd]; wp_walk)
  try (rw [hd]; wp_walk)
  exact h
theorem dI_mul (e : s.heap.get? x = some ox) (hd : ox.data = .plain) (h : P (.done (.ret .notImplemented)) s) : wpAny M A (Builtin.«int.__mul__» ⟨[.int i t, .ref x], []⟩) P E s := by
  obtain ⟨hp, g, d, tk, os⟩ := s
  wp_walk
  try (rw [hd]; wp_walk)
  try (rw [hd]; wp_walk)
  exact h
theorem dB_add (e : s.heap.get? x = some ox) (hd : ox.data = .plain) (h : P (.done (.ret .notImplemented)) s) : wpAny M A (Builtin.«int.__add__» ⟨[.bool b, .ref x], []⟩) P E s := by
  obtain ⟨hp, g, d, tk, os⟩ := s
  wp_walk
  try (rw [hd]; wp_walk)
  try (rw [hd]; wp_walk)
  exact h
theorem dB_sub (e : s.heap.get? x = some ox) (hd : ox.data = .plain) (h : P (.done (.ret .notImplemented)) s) : wpAny M A (Builtin.«int.__sub__» ⟨[.bool b, .ref x], []⟩) P E s := by
  obtain ⟨hp, g, d, tk, os⟩ := s
  wp_walk
  try (rw [hd]; wp_walk)
  try (rw [hd]; wp_walk)
  exact h
theorem dB_mul (e : s.heap.get? x = some ox) (hd : ox.data = .plain) (h : P (.done (.ret .notImplemented)) s) : wpAny M A (Builtin.«int.__mul__» ⟨[.bool b, .ref x], []⟩) P E s := by
  obtain ⟨hp, g, d, tk, os⟩ := s
  wp_walk
  try (rw [hd]; wp_walk)
  try (rw [hd]; wp_walk)
  exact h
end
section
variable {prog : Program} {w : World} {A : Around} {E : Value → Shared → Prop} {s : Shared} {K : Frag} {x y C f g : Addr} {ox oy : Obj} {od oe : Option Obj} {op : Operator} {T : String}
/-- a number, then an own object -/
theorem bin_reflN {a : Value} {Q : Value → Shared → Prop} (X : K.In s.heap) (I : InstAt s.heap x ox C od) (La : Looks (model prog w) s.heap (typeOf a) (.type T)) (hc : selfFirst K C = true)
    (hs : findIn K (.ref C) (PySem.dunder op.info.2) = some (some (.ref g))) (hr : findIn K (.ref C) (dunderR op.info.2) = some (some (.ref f))) (hf : isFn K (.ref f) = true)
    (hfl : fillsNumberSlot (.type T) op.info.2 = pure true) (hsub : subIn K (.ref C) (.type T) = some false)
    (hdec : ∀ (Q : Option Value → Shared → Prop), Q none s → wpAny (model prog w) A (tryMethod a (PySem.dunder op.info.2) (.ref x)) Q E s)
    (h : wpAny (model prog w) A (call (.ref f) [.ref x, a]) (PySem.W.CmpBack Q) E s) : wpAny (model prog w) A (binaryOp1 op.info.2 a (.ref x)) (fun r s' => ∃ v, r = some v ∧ Q v s') E s := by
  obtain ⟨cd, rest, hcd, hm⟩ := ksp_first hc
  rcases hi : op.info with ⟨sym, nm'⟩
  rw [hi] at hs hr hfl hdec
  dsimp only at hs hr hfl hdec
  have one := ksp_try X I hr hf h
  obtain ⟨hh, g, d, tt, os⟩ := s
  have L1 : Looks (model prog w) hh (typeOf (.ref x)) (.ref C) := I.type
  have L2 := La
  have L3 : Looks (model prog w) hh (fillsNumberSlot (.ref C) nm') true := fills_K X hcd hm hs
  have L4 : Looks (model prog w) hh (fillsNumberSlot (.type T) nm') true := Looks.of_pure hfl
  have L5 : Looks (model prog w) hh (isSubtype (.ref C) (.type T)) false := looks_subIn X hsub
  have L7 : Looks (model prog w) hh (numberSlotInPython (.type T) nm') false := Looks.of_pure rfl
  have hne : (Value.type T == Value.ref C) = false := Bool.eq_false_iff.mpr fun q => by cases beq_iff_eq.mp q
  dsimp only
  unfold binaryOp1
  refine wpAny_bind (L2.at (wpAny_bind (L1.at (wpAny_bind (L4.at ?_)))))
  simp only [hne, Bool.false_eq_true, if_false]
  ksp_lk
  refine hdec _ ?_
  ksp_lk
  refine wpAny_mono one (fun r s' hr' => ?_) fun _ _ e => e
  obtain ⟨v, rfl, hq⟩ := hr'
  ksp_lk
  exact ⟨_, rfl, hq⟩
theorem bin_of1 {a b : Value} {Q : Value → Shared → Prop} (h : wpAny (model prog w) A (binaryOp1 op.info.2 a b) (fun r s' => ∃ v, r = some v ∧ Q v s') E s) : wpAny (model prog w) A (binaryOp op a b) Q E s := by
  rcases hi : op.info with ⟨sym, nm'⟩
  rw [hi] at h
  simp only [binaryOp, hi]
  refine wpAny_holding (wpAny_bind (wpAny_mono h (fun r s' hr' => ?_) fun _ _ e => e))
  obtain ⟨v, rfl, hq⟩ := hr'
  exact wpAny_pure hq
end
end L3
end
section
namespace L3
open PySem PySem.Spec PyProof.Rows L2
section
variable {X : Cx} {CX : CXT} {k : Nat} {C f g : Addr} {fd fd' : FuncData} {ps : List Str} {sp : Sp} {E : XK} {op : Operator}
theorem rel_back {Q : Value → Shared → Prop} {v : V} {u : Value} {s : Shared} (r : RelV v u) (h : Q u s) : PySem.W.CmpBack Q u s := by
  cases u <;> first | exact h | skip
  all_goals (cases v <;> first | (exact False.elim r) | (obtain ⟨_, z⟩ := r; cases z; done) | (obtain ⟨z, _⟩ := r; cases z; done) | (cases r; done))
theorem ins_inst {P : Program} {w : World} {H : Hp} {h : Heap} {a C dx : Addr} {fs : List (Str × V)} (hok : HOk P w H h) (e : H a = some (.ins C dx fs)) : ∃ od, PySem.W.InstAt h a (PySem.W.instObj C dx) C (some od) := by
  obtain ⟨h1, _, h3, h4, mA, hns, _⟩ := (show ObjOk P w H h a (.ins C dx fs) from hok a _ e)
  obtain ⟨od, ho, _⟩ := lookIn_ns hns
  exact ⟨od, h4, rfl, rfl, ho⟩
/-- what the class says of its operator -/
structure OwnOp (K : PySem.W.Frag) (C f : Addr) (op : Operator) : Prop where
  self : PySem.W.selfFirst K C = true
  meth : PySem.W.findIn K (.ref C) (PySem.dunder op.info.2) = some (some (.ref f))
  fn : PySem.W.isFn K (.ref f) = true
  /-- the other way round: none or an own def -/
  refl : ∃ rc, PySem.W.findIn K (.ref C) (dunderR op.info.2) = some rc ∧ (rc = none ∨ ∃ g : Addr, rc = some (.ref g))
/-- the other operand: one of the same class, or one of a built-in type -/
def Other (K : PySem.W.Frag) (C : Addr) (op : Operator) (y : V) (H : Hp) : Prop := (∃ b dx fs, y = .ref b ∧ H b = some (.ins C dx fs)) ∨
  ∃ (T : String) (fo ro : Option Value), TyX K H y (.type T) ∧ PySem.W.findIn K (.type T) (PySem.dunder op.info.2) = some fo ∧ PySem.W.findIn K (.type T) (dunderR op.info.2) = some ro ∧ PySem.W.subIn K (.type T) (.ref C) = some false
/-- an operator of two values, its number part -/
def OpR1 (X : Cx) (op : Operator) (r : R2) : Prop := ∀ (pins : List (Addr × Obj)) (s : Shared) (σ : L2.St) (H : Hp) (x y : V) (v u : Value) (Q : VK), Inv X pins σ H s → RelV x v → RelV y u → r x y H Q →
  wpAny (model X.prog X.w) X.A (binaryOp1 op.info.2 v u) (fun r s' => ∃ z, r = some z ∧ EP X pins σ Q z s') X.xe s
theorem OpR1.bin {r : R2} (h : OpR1 X op r) : OpR X (binaryOp op) r := fun pins s σ H x y v u Q I rx ry q => bin_of1 (h pins s σ H x y v u Q I rx ry q)
theorem OpR1.or {r r' : R2} (h : OpR1 X op r) (h' : OpR1 X op r') : OpR1 X op (fun x y H Q => r x y H Q ∨ r' x y H Q) := fun pins s σ H x y v u Q I rx ry q => q.elim (h pins s σ H x y v u Q I rx ry) (h' pins s σ H x y v u Q I rx ry)
theorem op_own (T : OwnOp X.K C f op) (F : FnOk X.prog X.w X.K X.mg X.base CX k f fd ps sp) (hr : Room k X.A) (hb : Binds X.K fd ps []) (hx : Passes CX X E) :
    OpR1 X op (fun x y H Q => ∃ a dx fs, x = .ref a ∧ H a = some (.ins C dx fs) ∧ Other X.K C op y H ∧ sp [x, y] H Q E) := by
  intro pins s σ H x y v u Q I rx ry h
  obtain ⟨a, dx, fs, rfl, ea, ho, q⟩ := h
  obtain rfl : v = Value.ref a := rx
  obtain ⟨od, J⟩ := ins_inst I.hok ea
  have run : wpAny (model X.prog X.w) X.A (call (.ref f) [.ref a, u]) (PySem.W.CmpBack (EP X pins σ Q)) X.xe s :=
    wpAny_mono (run_fn F hr hb .nil hx I (vs := [.ref a, y]) (.cons (show RelV (.ref a) (.ref a) from rfl) (.cons ry .nil)) (by rw [List.append_nil]; exact q)) (fun w' s' ⟨v', H', I', r', z⟩ => rel_back r' ⟨v', H', I', r', z⟩) fun _ _ z => z
  rcases ho with ⟨b, dx', fs', rfl, eb⟩ | ⟨Ty, fo, ro, ty, h1, h2, h3⟩
  · obtain rfl : u = Value.ref b := ry
    obtain ⟨od', J'⟩ := ins_inst I.hok eb
    exact bin_same I.kIn J J' T.self T.meth T.fn run
  · obtain ⟨rc, hrc, hp⟩ := T.refl
    obtain ⟨P', kx, hP, _⟩ := kit_of I ry ty
    exact bin_own I.kIn J (kx.ty _ _ I.kIn hP) T.self T.meth T.fn hrc hp h1 h2 h3 run
end
end L3
namespace L3
open PySem PySem.Spec PySem.Calls PyProof.Rows PySem.W
section
variable {prog : Program} {w : World} {A : Around} {E : Value → Shared → Prop} {s : Shared} {x : Addr} {ox : Obj} {T id : String} {name : Str} {B : Builtin} {u : Value}
theorem try_decl (slot : Slot T name id) (hT : s.TypeIs u T) (entry : entryFor table id = some B) (args : argsOk id ⟨[u, .ref x], []⟩)
    (hB : ∀ {M : Model} {A : Around} {E : Value → Shared → Prop} {P : Fin → Shared → Prop}, P (.done (.ret .notImplemented)) s → wpAny M A (B ⟨[u, .ref x], []⟩) P E s) (Q : Option Value → Shared → Prop) (h : Q none s) :
    wpAny (model prog w) A (tryMethod u name (.ref x)) Q E s := by
  unfold tryMethod
  refine wpAny_bind (wpAny_callSpecial?_slot hT slot ?_)
  refine wpAny_call (codeAny_call_builtin slot.plain entry (slot.check _ _ _ _ _ _ _ _ hT args (hB ?_)))
  exact wpAny_pure h
end
end L3
namespace L3
open PySem PySem.Spec PyProof.Rows L2
section
variable {X : Cx} {CX : CXT} {k : Nat} {C f g : Addr} {fd : FuncData} {ps : List Str} {sp : Sp} {E : XK} {op : Operator}
/-- a number, then an own object -/
theorem op_reflI {T : String} {n : V → Prop} (hn : ∀ v u, n v → RelV v u → ∀ (s : Shared) (M : Model), PySem.W.Looks M s.heap (typeOf u) (.type T)) (self : PySem.W.selfFirst X.K C = true) (hs : PySem.W.findIn X.K (.ref C) (PySem.dunder op.info.2) = some (some (.ref g)))
    (hf : PySem.W.findIn X.K (.ref C) (dunderR op.info.2) = some (some (.ref f))) (fn : PySem.W.isFn X.K (.ref f) = true) (hfl : fillsNumberSlot (.type T) op.info.2 = pure true) (hsub : PySem.W.subIn X.K (.ref C) (.type T) = some false)
    (dec : ∀ (v : V) (u : Value) (s : Shared) (a : Addr) (ox : Obj) (Q : Option Value → Shared → Prop), n v → RelV v u → s.heap.get? a = some ox → ox.data = .plain → Q none s → wpAny (model X.prog X.w) X.A (tryMethod u (PySem.dunder op.info.2) (.ref a)) Q X.xe s)
    (F : FnOk X.prog X.w X.K X.mg X.base CX k f fd ps sp) (hr : Room k X.A) (hb : Binds X.K fd ps []) (hx : Passes CX X E) :
    OpR1 X op (fun x y H Q => ∃ a dx fs, y = .ref a ∧ H a = some (.ins C dx fs) ∧ n x ∧ sp [y, x] H Q E) := by
  intro pins s σ H x y v u Q I rx ry h
  obtain ⟨a, dx, fs, rfl, ea, nx, q⟩ := h
  obtain rfl : u = Value.ref a := ry
  obtain ⟨od, J⟩ := ins_inst I.hok ea
  refine bin_reflN I.kIn J (hn _ _ nx rx s _) self hs hf fn hfl hsub (fun Q h => dec x v s a _ Q nx rx J.at_ rfl h) ?_
  exact wpAny_mono (run_fn F hr hb .nil hx I (vs := [.ref a, x]) (.cons (show RelV (.ref a) (.ref a) from rfl) (.cons rx .nil)) (by rw [List.append_nil]; exact q)) (fun w' s' ⟨v', H', I', r', z⟩ => rel_back r' ⟨v', H', I', r', z⟩) fun _ _ z => z
theorem looksI {v : V} {u : Value} (n : ∃ i, v = .int i) (r : RelV v u) (s : Shared) (M : Model) : PySem.W.Looks M s.heap (typeOf u) (.type "int") := by
  obtain ⟨i, rfl⟩ := n
  obtain ⟨t, rfl⟩ := (show ∃ t, u = Value.int i t from r)
  exact PySem.W.Looks.of_pure rfl
theorem decI_add {P : Program} {w : World} {A : Around} {E' : Value → Shared → Prop} (v : V) (u : Value) (s : Shared) (a : Addr) (ox : Obj) (Q : Option Value → Shared → Prop) (n : ∃ i, v = .int i) (r : RelV v u) (e : s.heap.get? a = some ox) (hd : ox.data = .plain) (h : Q none s) :
    wpAny (model P w) A (tryMethod u (PySem.dunder "add") (.ref a)) Q E' s := by
  obtain ⟨i, rfl⟩ := n
  obtain ⟨t, rfl⟩ := (show ∃ t, u = Value.int i t from r)
  exact try_decl PySem.F.slot_int_add (typeIs_int s i t) PySem.F.entry_int_add (PySem.F.args_int_add_2 _ _) (fun h => dI_add e hd h) Q h
theorem decI_sub {P : Program} {w : World} {A : Around} {E' : Value → Shared → Prop} (v : V) (u : Value) (s : Shared) (a : Addr) (ox : Obj) (Q : Option Value → Shared → Prop) (n : ∃ i, v = .int i) (r : RelV v u) (e : s.heap.get? a = some ox) (hd : ox.data = .plain) (h : Q none s) :
    wpAny (model P w) A (tryMethod u (PySem.dunder "sub") (.ref a)) Q E' s := by
  obtain ⟨i, rfl⟩ := n
  obtain ⟨t, rfl⟩ := (show ∃ t, u = Value.int i t from r)
  exact try_decl PySem.F.slot_int_sub (typeIs_int s i t) PySem.F.entry_int_sub (PySem.F.args_int_sub_2 _ _) (fun h => dI_sub e hd h) Q h
theorem decI_mul {P : Program} {w : World} {A : Around} {E' : Value → Shared → Prop} (v : V) (u : Value) (s : Shared) (a : Addr) (ox : Obj) (Q : Option Value → Shared → Prop) (n : ∃ i, v = .int i) (r : RelV v u) (e : s.heap.get? a = some ox) (hd : ox.data = .plain) (h : Q none s) :
    wpAny (model P w) A (tryMethod u (PySem.dunder "mul") (.ref a)) Q E' s := by
  obtain ⟨i, rfl⟩ := n
  obtain ⟨t, rfl⟩ := (show ∃ t, u = Value.int i t from r)
  exact try_decl PySem.F.slot_int_mul (typeIs_int s i t) PySem.F.entry_int_mul (PySem.F.args_int_mul_2 _ _) (fun h => dI_mul e hd h) Q h
theorem decB_add {P : Program} {w : World} {A : Around} {E' : Value → Shared → Prop} (v : V) (u : Value) (s : Shared) (a : Addr) (ox : Obj) (Q : Option Value → Shared → Prop) (n : ∃ b, v = .bl b) (r : RelV v u) (e : s.heap.get? a = some ox) (hd : ox.data = .plain) (h : Q none s) :
    wpAny (model P w) A (tryMethod u (PySem.dunder "add") (.ref a)) Q E' s := by
  obtain ⟨b, rfl⟩ := n
  obtain rfl := (show u = Value.bool b from r)
  exact try_decl PySem.F.slot_bool_add (PySem.typeIs_bool s b) PySem.F.entry_int_add (PySem.F.args_int_add_2 _ _) (fun h => dB_add e hd h) Q h
theorem decB_sub {P : Program} {w : World} {A : Around} {E' : Value → Shared → Prop} (v : V) (u : Value) (s : Shared) (a : Addr) (ox : Obj) (Q : Option Value → Shared → Prop) (n : ∃ b, v = .bl b) (r : RelV v u) (e : s.heap.get? a = some ox) (hd : ox.data = .plain) (h : Q none s) :
    wpAny (model P w) A (tryMethod u (PySem.dunder "sub") (.ref a)) Q E' s := by
  obtain ⟨b, rfl⟩ := n
  obtain rfl := (show u = Value.bool b from r)
  exact try_decl PySem.F.slot_bool_sub (PySem.typeIs_bool s b) PySem.F.entry_int_sub (PySem.F.args_int_sub_2 _ _) (fun h => dB_sub e hd h) Q h
theorem decB_mul {P : Program} {w : World} {A : Around} {E' : Value → Shared → Prop} (v : V) (u : Value) (s : Shared) (a : Addr) (ox : Obj) (Q : Option Value → Shared → Prop) (n : ∃ b, v = .bl b) (r : RelV v u) (e : s.heap.get? a = some ox) (hd : ox.data = .plain) (h : Q none s) :
    wpAny (model P w) A (tryMethod u (PySem.dunder "mul") (.ref a)) Q E' s := by
  obtain ⟨b, rfl⟩ := n
  obtain rfl := (show u = Value.bool b from r)
  exact try_decl PySem.F.slot_bool_mul (PySem.typeIs_bool s b) PySem.F.entry_int_mul (PySem.F.args_int_mul_2 _ _) (fun h => dB_mul e hd h) Q h
end
end L3
namespace L3
open PySem PySem.Spec PyProof.Rows L2
end L3
end
section
namespace L3
open PySem PySem.Spec PyProof.Rows L2 LamX
section
variable {P : Program} {w : World} {K : PySem.W.Frag} {mg : Str → Option Value} {base : Heap} {CX : CXT} {x qual : Str} {f : Addr} {fd : FuncData} {N ps : List Str} {k : Nat} {sp : Sp}
theorem funO {st : Stmt} (F : L2.Fun K x qual st f fd) (S : FnScope N ps (defScope st)) (len : ∀ vs H Q E, sp vs H Q E → vs.length = ps.length)
    (body : ∀ (cd : Value) (A : Around) (fr : List Env) (s : Shared) (H : Hp) (vs : List V) (Q : VK) (E : XK), Room k (A.deeper (envOfC qual (defScope st) s.heap.objs.size f cd)) → sp vs H Q E →
      ∃ t, PSs (cxOf CX P w K mg base N qual (defScope st) f cd A fr s H E) (defBody st) t ∧ t { nx := fun _ H' => Q .non H', rt := Q } (L2.start N vs) H) :
    FnOk P w K mg base CX (k + 1) f fd ps sp := by
  obtain ⟨oc, od, kV, doc, pm, an, cd, ct, sl, rfl, lk, hcd⟩ := F.ex
  exact ⟨len, fun A fr s H as us vs Q E hr e0 hb r h => LamX.run_ofS lk hcd S hr e0 hb r (len _ _ _ _ h) fun hr' => body cd A fr s H vs Q E hr' h⟩
theorem funDO {pa : Arguments} {bd : List Stmt} {sc : Scope} {dvs : List V} {kws : List (Str × V)}
    (F : FunD K x qual pa bd sc dvs kws f fd) (S : FnScope N ps sc) (len : ∀ vs H Q E, sp vs H Q E → vs.length = ps.length)
    (body : ∀ (cd : Value) (A : Around) (fr : List Env) (s : Shared) (H : Hp) (vs : List V) (Q : VK) (E : XK), Room k (A.deeper (envOfC qual sc s.heap.objs.size f cd)) → sp vs H Q E →
      ∃ t, PSs (cxOf CX P w K mg base N qual sc f cd A fr s H E) bd t ∧ t { nx := fun _ H' => Q .non H', rt := Q } (L2.start N vs) H) :
    FnOk P w K mg base CX (k + 1) f fd ps sp := by
  obtain ⟨oc, od, dV, kV, doc, pm, an, cd, ct, sl, rfl, lk, hcd, _⟩ := F.ex
  exact ⟨len, fun A fr s H as us vs Q E hr e0 hb r h => LamX.run_ofS lk hcd S hr e0 hb r (len _ _ _ _ h) fun hr' => body cd A fr s H vs Q E hr' h⟩
/-- a def of the module, called by its name -/
structure FnO (P : Program) (w : World) (K : PySem.W.Frag) (mg : Str → Option Value) (base : Heap) (CX : CXT) (k : Nat) (x : Str) (ps : List Str) (sp : Sp) : Prop where
  ex : ∃ (f : Addr) (fd : FuncData), FnOk P w K mg base CX k f fd ps sp ∧ mg x = some (.ref f) ∧ PySem.W.keepIn K (.ref f) = true ∧ L2.Binds K fd ps []
/-- a class of the module, made by its name -/
structure McO (P : Program) (w : World) (K : PySem.W.Frag) (mg : Str → Option Value) (base : Heap) (CX : CXT) (k : Nat) (x : Str) (C : Addr) (ps : List Str) (sp : Sp) (dvs : List V) : Prop where
  ex : ∃ (f : Addr) (fd : FuncData) (ds : List Value), FnOk P w K mg base CX k f fd ps sp ∧ mg x = some (.ref C) ∧ Mk K C f ∧ L2.Binds K fd ps ds ∧ Vals dvs ds
end
section
variable {X : Cx} {CX : CXT} {k : Nat} {ps : List Str} {sp : Sp} {E : XK} {x : Str} {p pos : Pos} {e : Expr} {es : List Expr} {t : TA}
theorem pe_o {j : Nat} (c : FnO X.prog X.w X.K X.mg X.base CX k x ps sp) (hr : Room j X.A) (hx : Passes CX X E) (ha : PA X (e :: es) t) (hk : k ≤ j := by decide) (gl : Gl X x := by rfl)
    (hdb : (x == ("__debug__" : Str)) = false := by decide) (he : starEach (e :: es) X.env = (false, eval e X.env) :: starEach es X.env := by rfl) (hpl : (backTo pos (starEach es X.env)).any (·.1) = false := by rfl) :
    PE X (.Call (.Name x p) (e :: es) [] pos) (tCall sp [] E t) := by
  obtain ⟨f, fd, F, m, kp, b⟩ := c.ex
  exact pe_call F (hr.mono hk) gl m kp b .nil hx ha hdb he hpl
theorem pe_mko {j : Nat} {C : Addr} {dvs : List V} (c : McO X.prog X.w X.K X.mg X.base CX k x C ps sp dvs) (hr : Room j X.A) (hx : Passes CX X E) (ha : PA X (e :: es) t) (hk : k + 1 ≤ j := by decide) (gl : Gl X x := by rfl)
    (hdb : (x == ("__debug__" : Str)) = false := by decide) (he : starEach (e :: es) X.env = (false, eval e X.env) :: starEach es X.env := by rfl) (hpl : (backTo pos (starEach es X.env)).any (·.1) = false := by rfl) :
    PE X (.Call (.Name x p) (e :: es) [] pos) (tMake C sp dvs E t) := by
  obtain ⟨f, fd, ds, F, m, M, b, hd⟩ := c.ex
  exact pe_make M F (hr.mono hk) gl m b hd hx ha hdb he hpl
/-- nothing leaves -/
theorem passF : Passes (L2.CX X.prog X.w) X (fun _ _ _ => False) := fun _ _ _ _ _ _ _ ⟨_, _, _, _, _, _, _, _, _, _, _, _, z⟩ => z.elim
theorem passT {W : WX} (tk : Takes X W) (hW : ∀ cls d σ H, E cls d H → W cls d σ H) : Passes (L2.CX X.prog X.w) X E := passes_call tk hW
end
structure Er1 (P : Program) (w : World) (K : PySem.W.Frag) (mg : Str → Option Value) (base : Heap) (x : Str) (C : Addr) (g : Str) : Prop where
  oex : OexC K C
  m : mg x = some (.ref C)
  ex : ∃ (f : Addr) (fd : FuncData) (y : Str), PySem.W.findIn K (.ref C) "__init__" = some (some (.ref f)) ∧ PySem.W.typeIn K (.ref f) = some (.type "function") ∧ FnOk P w K mg base CX0 1 f fd ["self", y] (spErr1 C g) ∧ L2.Binds K fd ["self", y] []
def Rz (C : Addr) (g : Str) (v : V) (H : Hp) (E : XK) : Prop := ∀ d H', H d = none → Ex H H' → H' d = some (.xd [(g, v)]) → E (.ref C) (some d) H'
def rMk1 (C : Addr) (g : Str) (vs : List V) (H1 : Hp) (E : XK) : Prop := vs.length ≤ 1000 ∧ ∀ a, H1 a = none → spErr1 C g (.ref a :: (vs ++ [])) (upd H1 a (exo a C none))
  (fun v H2 => v = .non ∧ ∃ (d : Addr) (fs : List (Str × V)), H2 a = some (exo a C (some d)) ∧ H2 d = some (exd d fs) ∧ H1 d = none ∧ E (.ref C) (some d) (upd (del H2 a) d (.xd fs))) (fun _ _ _ => False)
def tRaise1 (C : Addr) (g : Str) (te : TE) (W : WX) : TS := fun _ σ H => te σ H fun v H1 => rMk1 C g [v] H1 (fun cls d H' => W cls d σ H')
theorem ps_raise1 {X : Cx} {W : WX} {x g : Str} {C : Addr} {j : Nat} {e : Expr} {te : TE} {p p1 pos : Pos} (c : Er1 X.prog X.w X.K X.mg X.base x C g) (hr : Room j X.A) (hc : X.calm = true) (tk : Takes X W) (ha : PA X [e] (tCons te tNil)) (hk : 2 ≤ j := by decide) (gl : Gl X x := by rfl)
    (hdb : (x == ("__debug__" : Str)) = false := by decide) (hst : starEach [e] X.env = (false, eval e X.env) :: starEach [] X.env := by rfl) :
    PS X (.Raise (some (.Call (.Name x p) [e] [] p1)) none pos) (tRaise1 C g te W) := by
  obtain ⟨f, fd, y, i1, i2, F, b⟩ := c.ex
  exact ps_raise (pos := pos) hc tk (pmk_oex (p := p) (pos := p1) c.oex i1 i2 F (hr.mono hk) b .nil pass0 gl c.m ha hdb hst)
theorem s_raise1 {C : Addr} {g : Str} {te : TE} {W : WX} {D : Ends} {σ : L2.St} {H : Hp} (h : te σ H fun v H1 => rMk1 C g [v] H1 (fun cls d H' => W cls d σ H')) : tRaise1 C g te W D σ H := h
theorem s_rz {C : Addr} {g : Str} {v : V} {H : Hp} {E : XK} (h : Rz C g v H E) : rMk1 C g [v] H E := by
  refine ⟨(show 1 ≤ 1000 by decide), fun a ha => ⟨a, v, rfl, upd_same, fun dx h1 h2 => ⟨rfl, dx, _, upd_same, ?_, ?_, h dx _ ?_ ?_ upd_same⟩⟩⟩
  · rw [upd_ne h2, upd_same]
  · rw [upd_ne h2] at h1; exact h1
  · rw [upd_ne h2] at h1; exact h1
  · intro b o e
    have n1 : b ≠ a := ne_of_none e ha
    have n2 : b ≠ dx := by
      rw [upd_ne h2] at h1
      exact ne_of_none e h1
    rw [upd_ne n2, del_ne n1, upd_ne n1, upd_ne n2, upd_ne n1]
    exact e
end L3
end
section
namespace L3
open PySem PySem.Spec PyProof.Rows L2 LamX
inductive Od (H : Hp) : V → Str → Prop
  | non : Od H .non (PyData.shown .none)
  | bl (b : Bool) : Od H (.bl b) (PyData.shown (.bool b))
  | str (z : Str) : z.length ≤ 100 → (PyData.str z).shown.length ≤ 1001 → Od H (.str z) (PyData.str z).shown
  | tup {p : Addr} {xs : List V} : H p = some (.tup xs) → xs.all fitF = true → (PyData.tuple (xs.map flatD)).shown.length ≤ 1000 → Od H (.ref p) (PyData.tuple (xs.map flatD)).shown
  | lst {p : Addr} {xs : List V} : H p = some (.lst xs) → xs.all fitF = true → xs.length ≤ 1000 → Od H (.ref p) (PyData.list (xs.map flatD)).shown
  | dic {p : Addr} : H p = some (.dK []) → Od H (.ref p) (PyData.dict []).shown
theorem Od.ex {H H' : Hp} {v : V} {t : Str} (h : Od H v t) (e : Ex H H') : Od H' v t := by
  cases h with
  | non => exact .non
  | bl b => exact .bl b
  | str z h1 h3 => exact .str z h1 h3
  | tup h1 h2 h3 => exact .tup (e _ _ h1) h2 h3
  | lst h1 h2 h3 => exact .lst (e _ _ h1) h2 h3
  | dic h1 => exact .dic (e _ _ h1)
abbrev odTys : List String := ["NoneType", "bool", "str", "tuple", "list", "dict"]
theorem Od.ty {K : PySem.W.Frag} {H : Hp} {v : V} {t : Str} (h : Od H v t) : (∃ b, v = .bl b) ∨ ∃ T, TyX K H v (.type T) ∧ T ∈ ["NoneType", "str", "tuple", "list", "dict"] := by
  cases h with
  | non => exact .inr ⟨_, .base .non, by simp⟩
  | bl b => exact .inl ⟨b, rfl⟩
  | str z _ _ => exact .inr ⟨_, .base (.str z), by simp⟩
  | tup h1 _ _ => exact .inr ⟨_, .base (.tup h1), by simp⟩
  | lst h1 _ _ => exact .inr ⟨_, .base (.lst h1), by simp⟩
  | dic h1 => exact .inr ⟨_, .base (.dK h1), by simp⟩
theorem Od.tyAll {K : PySem.W.Frag} {H : Hp} {v : V} {t : Str} (h : Od H v t) : ∃ T, TyX K H v (.type T) ∧ T ∈ odTys := by
  rcases h.ty (K := K) with ⟨b, rfl⟩ | ⟨T, h1, h2⟩
  · exact ⟨_, .base (.bl b), by simp⟩
  · exact ⟨T, h1, by simp only [List.mem_cons] at h2 ⊢; rcases h2 with h | h | h | h | h | h <;> simp_all⟩
theorem Od.noInt {K : PySem.W.Frag} {H : Hp} {v : V} {t : Str} (h : Od H v t) : (∃ b, v = .bl b) ∨ ∃ ty, TyA K H v ty ∧ PySem.W.kitOne K ty (.type "int") = some false := by
  rcases h.ty (K := K) with ⟨b, rfl⟩ | ⟨T, h1, h2⟩
  · exact .inl ⟨b, rfl⟩
  · refine .inr ⟨_, .x h1, ?_⟩
    simp only [List.mem_cons, List.not_mem_nil, or_false] at h2
    rcases h2 with rfl | rfl | rfl | rfl | rfl <;> exact kit_ty (by decide +kernel)
theorem Od.noCls {K : PySem.W.Frag} {H : Hp} {v : V} {t : Str} {C : Addr} (h : Od H v t) (f : odTys.all (fun T => decide (PySem.W.kitOne K (.type T) (.ref C) = some false)) = true) : ∃ ty, TyA K H v ty ∧ PySem.W.kitOne K ty (.ref C) = some false := by
  obtain ⟨T, h1, h2⟩ := h.tyAll (K := K)
  exact ⟨_, .x h1, of_decide_eq_true (List.all_eq_true.mp f T h2)⟩
end L3
end
section
namespace L3
open PySem PySem.Spec PyProof.Rows L2 LamX
def sgn (b : Int) : Int := if 0 < b then 1 else -1
def rO (a b : Int) : Int := sgn b * a / ((Nat.gcd a.natAbs b.natAbs : Nat) : Int)
def rU' (a b : Int) : Int := sgn b * b / ((Nat.gcd a.natAbs b.natAbs : Nat) : Int)
def flds (o u : Int) : List (Str × V) := putF "under" (.int u) (putF "over" (.int o) [])
theorem abs_nat (i : Int) : (if i < 0 then -i else i) = ((i.natAbs : Nat) : Int) := by split <;> omega
theorem sgn_mul {b x : Int} : IntMulOk (sgn b) x := mulL (by unfold sgn; split <;> decide)
theorem gcd_bits {a b : Int} {k : Nat} (hb : b ≠ 0) (h : b.natAbs < 2 ^ k) (hk : 0 < k) (h9 : k ≤ 9000) (i : Int) : CDivW i ((Nat.gcd a.natAbs b.natAbs : Nat) : Int) := by
  have hp : 0 < Nat.gcd a.natAbs b.natAbs := Nat.gcd_pos_of_pos_right _ (by omega)
  have hl : Nat.gcd a.natAbs b.natAbs ≤ b.natAbs := Nat.gcd_le_right _ (by omega)
  exact wide_div (b := k) (by omega) (by rw [Int.natAbs_natCast]; omega) hk h9
theorem sgn_self {b : Int} : sgn b * b = (b.natAbs : Int) := by unfold sgn; split <;> omega
theorem gcd_pos' {a b : Int} (hb : b ≠ 0) : (0 : Int) < ((Nat.gcd a.natAbs b.natAbs : Nat) : Int) := by
  have hp : 0 < Nat.gcd a.natAbs b.natAbs := Nat.gcd_pos_of_pos_right _ (by omega)
  omega
theorem gcd_dvd_l {a b : Int} : ((Nat.gcd a.natAbs b.natAbs : Nat) : Int) ∣ a := Int.ofNat_dvd_left.mpr (Nat.gcd_dvd_left _ _)
theorem gcd_dvd_r {a b : Int} : ((Nat.gcd a.natAbs b.natAbs : Nat) : Int) ∣ b := Int.ofNat_dvd_left.mpr (Nat.gcd_dvd_right _ _)
/-- the pair is the fraction in least terms, k times -/
theorem r_scale {a b : Int} (hb : b ≠ 0) : ∃ k : Int, k ≠ 0 ∧ a = rO a b * k ∧ b = rU' a b * k := by
  refine ⟨sgn b * ((Nat.gcd a.natAbs b.natAbs : Nat) : Int), ?_, ?_, ?_⟩
  · have := gcd_pos' (a := a) hb
    unfold sgn
    split <;> omega
  · obtain ⟨c, hc⟩ := gcd_dvd_l (a := a) (b := b)
    have hp := gcd_pos' (a := a) hb
    unfold rO
    generalize ((Nat.gcd a.natAbs b.natAbs : Nat) : Int) = g at hc hp ⊢
    have e : sgn b * a / g = sgn b * c := by
      rw [hc, show sgn b * (g * c) = g * (sgn b * c) by rw [Int.mul_left_comm], Int.mul_ediv_cancel_left _ (by omega)]
    rw [e, hc]
    have s1 : sgn b * sgn b = 1 := by unfold sgn; split <;> rfl
    calc g * c = (sgn b * sgn b) * (g * c) := by rw [s1, Int.one_mul]
      _ = sgn b * c * (sgn b * g) := by ac_rfl
  · obtain ⟨c, hc⟩ := gcd_dvd_r (a := a) (b := b)
    have hp := gcd_pos' (a := a) hb
    unfold rU'
    generalize ((Nat.gcd a.natAbs b.natAbs : Nat) : Int) = g at hc hp ⊢
    have e : sgn b * b / g = sgn b * c := by
      conv => lhs; rw [show sgn b * b = sgn b * (g * c) by rw [← hc], show sgn b * (g * c) = g * (sgn b * c) by rw [Int.mul_left_comm]]
      rw [Int.mul_ediv_cancel_left _ (by omega)]
    rw [e]
    have s1 : sgn b * sgn b = 1 := by unfold sgn; split <;> rfl
    calc b = g * c := hc
      _ = (sgn b * sgn b) * (g * c) := by rw [s1, Int.one_mul]
      _ = sgn b * c * (sgn b * g) := by ac_rfl
theorem rU_pos {a b : Int} (hb : b ≠ 0) : 0 < rU' a b := by
  unfold rU'
  rw [sgn_self]
  have h1 : Nat.gcd a.natAbs b.natAbs ≤ b.natAbs := Nat.gcd_le_right _ (by omega)
  exact Int.ediv_pos_of_pos_of_dvd (by omega) (by omega) (Int.natCast_dvd_natCast.mpr (Nat.gcd_dvd_right _ _))
theorem r_one (i : Int) : rO i 1 = i ∧ rU' i 1 = 1 := by
  unfold rO rU'
  rw [show (1 : Int).natAbs = 1 from rfl, Nat.gcd_one_right]
  exact ⟨by show 1 * i / 1 = i; omega, rfl⟩
def Rt (C : Addr) (H : Hp) (p : Addr) (o u : Int) : Prop := ∃ dx, H p = some (.ins C dx (flds o u))
/-- a number: a fraction or an int -/
def Nm (C : Addr) (H : Hp) (y : V) (o u : Int) : Prop := (∃ q, y = .ref q ∧ Rt C H q o u) ∨ (y = .int o ∧ u = 1)
theorem ins_tbl {C dx : Addr} {fs : List (Str × V)} : ∀ ps, HO.ins C dx fs ≠ .tbl ps := fun _ z => nomatch z
theorem Rt.exN {C : Addr} {H H' : Hp} {p : Addr} {o u : Int} (h : Rt C H p o u) (e : ExtN H H') : Rt C H' p o u := by
  obtain ⟨dx, h⟩ := h
  exact ⟨dx, e _ _ h ins_tbl⟩
theorem Ex.n {H H' : Hp} (e : Ex H H') : ExtN H H' := fun b o h _ => e b o h
theorem Rt.ex {C : Addr} {H H' : Hp} {p : Addr} {o u : Int} (h : Rt C H p o u) (e : Ex H H') : Rt C H' p o u := h.exN e.n
theorem Nm.exN {C : Addr} {H H' : Hp} {y : V} {o u : Int} (h : Nm C H y o u) (e : ExtN H H') : Nm C H' y o u := by
  rcases h with ⟨q, rfl, h⟩ | h
  · exact .inl ⟨q, rfl, h.exN e⟩
  · exact .inr h
theorem Nm.ex {C : Addr} {H H' : Hp} {y : V} {o u : Int} (h : Nm C H y o u) (e : Ex H H') : Nm C H' y o u := h.exN e.n
theorem Od.exN {H H' : Hp} {v : V} {t : Str} (h : Od H v t) (e : ExtN H H') : Od H' v t := by
  cases h with
  | non => exact .non
  | bl b => exact .bl b
  | str z h1 h3 => exact .str z h1 h3
  | tup h1 h2 h3 => exact .tup (e _ _ h1 fun _ z => nomatch z) h2 h3
  | lst h1 h2 h3 => exact .lst (e _ _ h1 fun _ z => nomatch z) h2 h3
  | dic h1 => exact .dic (e _ _ h1 fun _ z => nomatch z)
/-- within bounds -/
structure Bd (o u : Int) : Prop where
  ho : o.natAbs < 2 ^ 1000
  hu : u.natAbs < 2 ^ 1000
  pos : 0 < u
theorem Bd.ne {o u : Int} (b : Bd o u) : u ≠ 0 := by have := b.pos; omega
def spIsI : Sp := fun vs H Q _ => ∃ x, vs = [x] ∧ ((∃ i, x = .int i ∧ Q (.bl true) H) ∨ (∃ t, Od H x t ∧ Q (.bl false) H))
def spCommon : Sp := fun vs H Q _ => ∃ a b : Nat, vs = [.int a, .int b] ∧ Q (.int ((Nat.gcd a b : Nat) : Int)) H
def spRatio (C CB : Addr) : Sp := fun vs H Q E => ∃ (p dx : Addr) (x y : V), vs = [.ref p, x, y] ∧ H p = some (.ins C dx []) ∧
  ((∃ a b : Int, x = .int a ∧ y = .int b ∧ b ≠ 0 ∧ b.natAbs < 2 ^ 8000 ∧ ∀ H', (∀ c, c ≠ p → H' c = H c) → H' p = some (.ins C dx (flds (rO a b) (rU' a b))) → Q .non H') ∨
    (∃ t, Od H x t ∧ Rz CB "value" x H E) ∨ (∃ a : Int, x = .int a ∧ ((∃ t, Od H y t) ∨ y = .int 0) ∧ Rz CB "value" y H E))
def spTold (C CB : Addr) : Sp := fun vs H Q E => ∃ x, vs = [x] ∧ ((∃ o u, Nm C H x o u ∧ ∀ q H', Ex H H' → Rt C H' q o u → Q (.ref q) H') ∨ (∃ t, Od H x t ∧ Rz CB "value" x H E))
def spBin (g : Int → Int → Int → Int → Int) (C CB : Addr) : Sp := fun vs H Q E => ∃ p y o u, vs = [.ref p, y] ∧ Rt C H p o u ∧ Bd o u ∧
  ((∃ o' u', Nm C H y o' u' ∧ Bd o' u' ∧ ∀ q H', H q = none → Ex H H' → Rt C H' q (rO (g o u o' u') (u * u')) (rU' (g o u o' u') (u * u')) → Q (.ref q) H') ∨ (∃ t, Od H y t ∧ Rz CB "value" y H E))
def gAdd (o u o' u' : Int) : Int := o * u' + o' * u
def gDif (o u o' u' : Int) : Int := o * u' - o' * u
def gRdif (o u o' u' : Int) : Int := o' * u - o * u'
def gMul (o u o' u' : Int) : Int := o * o'
structure OpK (op : Operator) : Prop where
  flI : fillsNumberSlot (.type "int") op.info.2 = pure true
  flB : fillsNumberSlot (.type "bool") op.info.2 = pure true
  dI : ∀ (P : Program) (w : World) (A : Around) (E' : Value → Shared → Prop) (v : V) (u : Value) (s : Shared) (a : Addr) (ox : Obj) (Q : Option Value → Shared → Prop), (∃ i, v = .int i) → RelV v u → s.heap.get? a = some ox → ox.data = .plain → Q none s →
    wpAny (model P w) A (tryMethod u (PySem.dunder op.info.2) (.ref a)) Q E' s
  dB : ∀ (P : Program) (w : World) (A : Around) (E' : Value → Shared → Prop) (v : V) (u : Value) (s : Shared) (a : Addr) (ox : Obj) (Q : Option Value → Shared → Prop), (∃ b, v = .bl b) → RelV v u → s.heap.get? a = some ox → ox.data = .plain → Q none s →
    wpAny (model P w) A (tryMethod u (PySem.dunder op.info.2) (.ref a)) Q E' s
theorem opK_add : OpK .Add := ⟨by rfl, by rfl, fun _ _ _ _ => decI_add, fun _ _ _ _ => decB_add⟩
theorem opK_sub : OpK .Sub := ⟨by rfl, by rfl, fun _ _ _ _ => decI_sub, fun _ _ _ _ => decB_sub⟩
theorem opK_mul : OpK .Mult := ⟨by rfl, by rfl, fun _ _ _ _ => decI_mul, fun _ _ _ _ => decB_mul⟩
abbrev numTys : List String := ["int", "NoneType", "bool", "str", "tuple", "list", "dict"]
def othersB (K : PySem.W.Frag) (C : Addr) (op : Operator) : Bool := numTys.all fun T =>
  (PySem.W.findIn K (.type T) (PySem.dunder op.info.2)).isSome && ((PySem.W.findIn K (.type T) (dunderR op.info.2)).isSome && decide (PySem.W.subIn K (.type T) (.ref C) = some false))
/-- what the written part says of the class's operator -/
structure BinF (K : PySem.W.Frag) (C : Addr) (op : Operator) : Prop where
  self : PySem.W.selfFirst K C = true
  others : othersB K C op = true
  subI : PySem.W.subIn K (.ref C) (.type "int") = some false
  subB : PySem.W.subIn K (.ref C) (.type "bool") = some false
  inI : PySem.W.findIn K (.type "int") (dunderI op.info.2) = some none
  inC : PySem.W.findIn K (.ref C) (dunderI op.info.2) = some none
  inO : PySem.W.findIn K (.type "object") (dunderI op.info.2) = some none
  mro : (PySem.W.clsIn K C).map (·.mro) = some [.ref C, .type "object"]
structure BinM (P : Program) (w : World) (K : PySem.W.Frag) (mg : Str → Option Value) (base : Heap) (C : Addr) (op : Operator) (k : Nat) (sp spR : Sp) : Prop where
  f : BinF K C op
  ex : ∃ (f : Addr) (fd : FuncData) (g : Addr) (gd : FuncData), PySem.W.findIn K (.ref C) (PySem.dunder op.info.2) = some (some (.ref f)) ∧ PySem.W.findIn K (.ref C) (dunderR op.info.2) = some (some (.ref g)) ∧ PySem.W.isFn K (.ref f) = true ∧ PySem.W.isFn K (.ref g) = true ∧
    FnOk P w K mg base (L2.CX P w) k f fd ["self", "other"] sp ∧ L2.Binds K fd ["self", "other"] [] ∧ FnOk P w K mg base (L2.CX P w) k g gd ["self", "other"] spR ∧ L2.Binds K gd ["self", "other"] []
def OthV (C : Addr) (y : V) (H : Hp) : Prop := (∃ b dx fs, y = .ref b ∧ H b = some (.ins C dx fs)) ∨ (∃ i, y = .int i) ∨ ∃ t, Od H y t
/-- own first -/
def rOwn (C : Addr) (sp : Sp) (E : XK) : R2 := fun x y H Q => ∃ a dx fs, x = .ref a ∧ H a = some (.ins C dx fs) ∧ OthV C y H ∧ sp [x, y] H Q E
/-- an int, then own -/
def rInt (C : Addr) (sp : Sp) (E : XK) : R2 := fun x y H Q => ∃ a dx fs, y = .ref a ∧ H a = some (.ins C dx fs) ∧ (∃ i, x = .int i) ∧ sp [y, x] H Q E
def rBin (C : Addr) (sp spR : Sp) (E : XK) : R2 := fun x y H Q => rOwn C sp E x y H Q ∨ rInt C spR E x y H Q
section
variable {X : Cx} {C : Addr} {op : Operator} {k j : Nat} {sp spR : Sp} {E : XK}
theorem oth_of {K : PySem.W.Frag} {y : V} {H : Hp} (F : BinF K C op) (h : OthV C y H) : Other K C op y H := by
  have go : ∀ T, TyX K H y (.type T) → T ∈ numTys → Other K C op y H := fun T ty hm => by
    have q := List.all_eq_true.mp F.others T hm
    rw [Bool.and_eq_true, Bool.and_eq_true] at q
    obtain ⟨q1, q2, q3⟩ := q
    obtain ⟨fo, e1⟩ := Option.isSome_iff_exists.mp q1
    obtain ⟨ro, e2⟩ := Option.isSome_iff_exists.mp q2
    exact .inr ⟨T, fo, ro, ty, e1, e2, of_decide_eq_true q3⟩
  rcases h with h | ⟨i, rfl⟩ | ⟨t, h⟩
  · exact .inl h
  · exact go _ (.base (.int i)) (by simp)
  · obtain ⟨T, h1, h2⟩ := h.tyAll (K := K)
    exact go T h1 (List.mem_cons_of_mem _ h2)
theorem op1Own (B : BinM X.prog X.w X.K X.mg X.base C op k sp spR) (hr : Room j X.A) (hx : Passes (L2.CX X.prog X.w) X E) (hk : k ≤ j := by decide) : OpR1 X op (rOwn C sp E) := by
  obtain ⟨f, fd, g, gd, h1, h2, h3, h4, F, b, G, b'⟩ := B.ex
  intro pins s σ H x y v u Q I rx ry h
  obtain ⟨a, dx, fs, e, ea, ho, q⟩ := h
  exact op_own (f := f) ⟨B.f.self, h1, h3, _, h2, .inr ⟨g, rfl⟩⟩ F (hr.mono hk) b hx pins s σ H x y v u Q I rx ry ⟨a, dx, fs, e, ea, oth_of B.f ho, q⟩
theorem op1Int (o : OpK op) (B : BinM X.prog X.w X.K X.mg X.base C op k sp spR) (hr : Room j X.A) (hx : Passes (L2.CX X.prog X.w) X E) (hk : k ≤ j := by decide) : OpR1 X op (rInt C spR E) := by
  obtain ⟨f, fd, g, gd, h1, h2, h3, h4, F, b, G, b'⟩ := B.ex
  intro pins s σ H x y v u Q I rx ry h
  obtain ⟨a, dx, fs, e, ea, ho, q⟩ := h
  exact op_reflI (T := "int") (n := fun v => ∃ i, v = .int i) (fun _ _ n r s M => looksI n r s M) B.f.self h1 h2 h4 o.flI B.f.subI (fun v u s a ox Q => o.dI _ _ _ _ v u s a ox Q) G (hr.mono hk) b' hx pins s σ H x y v u Q I rx ry ⟨a, dx, fs, e, ea, ho, q⟩
theorem opBin (o : OpK op) (B : BinM X.prog X.w X.K X.mg X.base C op k sp spR) (hr : Room j X.A) (hx : Passes (L2.CX X.prog X.w) X E) (hk : k ≤ j := by decide) : OpR X (binaryOp op) (rBin C sp spR E) := ((op1Own B hr hx hk).or (op1Int o B hr hx hk)).bin
end
section
variable {C CB : Addr} {H : Hp} {Q : VK} {x y : V} {o u o' u' : Int} {g g' : Int → Int → Int → Int → Int} {E : XK}
/-- two numbers, one of them a fraction at least -/
theorem s_bin (hc : ∀ o u o' u', g' o' u' o u = g o u o' u') (n1 : Nm C H x o u) (n2 : Nm C H y o' u') (one : (∃ q, x = .ref q) ∨ ∃ q, y = .ref q) (b1 : Bd o u) (b2 : Bd o' u')
    (h : ∀ q H', H q = none → Ex H H' → Rt C H' q (rO (g o u o' u') (u * u')) (rU' (g o u o' u') (u * u')) → Q (.ref q) H') : rBin C (spBin g C CB) (spBin g' C CB) E x y H Q := by
  rcases n1 with ⟨q, rfl, r1⟩ | ⟨rfl, rfl⟩
  · refine .inl ?_
    obtain ⟨dx, e⟩ := id r1
    refine ⟨q, dx, _, rfl, e, ?_, q, y, o, u, rfl, r1, b1, .inl ⟨o', u', n2, b2, h⟩⟩
    rcases n2 with ⟨q', rfl, dx', e'⟩ | ⟨rfl, rfl⟩
    · exact .inl ⟨q', dx', _, rfl, e'⟩
    · exact .inr (.inl ⟨_, rfl⟩)
  · rcases n2 with ⟨q', rfl, r2⟩ | ⟨rfl, rfl⟩
    · refine .inr ?_
      obtain ⟨dx', e'⟩ := id r2
      refine ⟨q', dx', _, rfl, e', ⟨_, rfl⟩, q', _, o', u', rfl, r2, b2, .inl ⟨o, 1, .inr ⟨rfl, rfl⟩, b1, fun q H' hq he hr => h q H' hq he ?_⟩⟩
      rw [hc, Int.mul_comm u' 1] at hr
      exact hr
    · rcases one with ⟨q, e⟩ | ⟨q, e⟩ <;> cases e
theorem cSub (o u o' u' : Int) : gRdif o' u' o u = gDif o u o' u' := rfl
/-- Ratio(a, b), as a step -/
theorem s_mkR {a b : Int} (hb : b ≠ 0) (h8 : b.natAbs < 2 ^ 8000) (h : ∀ q H', H q = none → Ex H H' → Rt C H' q (rO a b) (rU' a b) → Q (.ref q) H') :
    ∀ p dx, H p = none → H dx = none → dx ≠ p → spRatio C CB (.ref p :: ([.int a, .int b] ++ [])) (upd (upd H dx (.own p)) p (.ins C dx [])) (fun v H2 => v = .non ∧ ap Q (.ref p) H2) E := fun p dx hp hd hn => by
  refine ⟨p, dx, _, _, rfl, upd_same, .inl ⟨a, b, rfl, rfl, hb, h8, fun H' h1 h2 => ⟨rfl, h p H' hp (fun c o e => ?_) ⟨dx, h2⟩⟩⟩⟩
  rw [h1 c (ne_of_none e hp), upd_ne (ne_of_none e hp), upd_ne (ne_of_none e hd)]
  exact e
theorem s_mkR1 {a : Int} (h : ∀ q H', H q = none → Ex H H' → Rt C H' q a 1 → Q (.ref q) H') :
    ∀ p dx, H p = none → H dx = none → dx ≠ p → spRatio C CB (.ref p :: ([.int a] ++ [.int 1])) (upd (upd H dx (.own p)) p (.ins C dx [])) (fun v H2 => v = .non ∧ ap Q (.ref p) H2) E := by
  refine s_mkR (a := a) (b := 1) (by decide) (by decide) fun q H' h1 h2 h3 => h q H' h1 h2 ?_
  rw [(r_one a).1, (r_one a).2] at h3
  exact h3
end
end L3
end
section
namespace K72H
open PySem PySem.Spec PyProof.Rows L2 L3 LamX
def topS (i : Nat) : Stmt := PySem.Challenge.pw_latechunks_k72_judging_batches_refused.main.body.getD i (.Pass ⟨0, 0, 0, 0⟩)
abbrev s_BadChunks___init__ : Stmt := inClass (topS 20) 0
abbrev s_BadCost___init__ : Stmt := inClass (topS 15) 0
abbrev s_BadCrew___init__ : Stmt := inClass (topS 21) 0
abbrev s_BadFee___init__ : Stmt := inClass (topS 16) 0
abbrev s_BadName___init__ : Stmt := inClass (topS 12) 0
abbrev s_BadRatio___init__ : Stmt := inClass (topS 18) 0
abbrev s_BadRest___init__ : Stmt := inClass (topS 19) 0
abbrev s_BadRule___init__ : Stmt := inClass (topS 23) 0
abbrev s_BadSetting___init__ : Stmt := inClass (topS 22) 0
abbrev s_BadSize___init__ : Stmt := inClass (topS 13) 0
abbrev s_BadSpeed___init__ : Stmt := inClass (topS 14) 0
abbrev s_BatchBound___init__ : Stmt := inClass (topS 67) 0
abbrev s_BatchEndless___init__ : Stmt := inClass (topS 68) 0
abbrev s_Batched___init__ : Stmt := inClass (topS 69) 0
abbrev s_Batched_batch_from : Stmt := inClass (topS 69) 2
abbrev s_Crew___contains__ : Stmt := inClass (topS 47) 8
abbrev s_Crew___getitem__ : Stmt := inClass (topS 47) 7
abbrev s_Crew___init__ : Stmt := inClass (topS 47) 0
abbrev s_Crew_even : Stmt := inClass (topS 47) 2
abbrev s_Crew_of : Stmt := inClass (topS 47) 1
abbrev s_Divided___init__ : Stmt := inClass (topS 86) 0
abbrev s_NoWorker___init__ : Stmt := inClass (topS 25) 0
abbrev s_Ratio___add__ : Stmt := inClass (topS 51) 6
abbrev s_Ratio___eq__ : Stmt := inClass (topS 51) 22
abbrev s_Ratio___gt__ : Stmt := inClass (topS 51) 20
abbrev s_Ratio___init__ : Stmt := inClass (topS 51) 0
abbrev s_Ratio___lt__ : Stmt := inClass (topS 51) 18
abbrev s_Ratio___mul__ : Stmt := inClass (topS 51) 10
abbrev s_Ratio___radd__ : Stmt := inClass (topS 51) 7
abbrev s_Ratio___rmul__ : Stmt := inClass (topS 51) 11
abbrev s_Ratio___rsub__ : Stmt := inClass (topS 51) 9
abbrev s_Ratio___sub__ : Stmt := inClass (topS 51) 8
abbrev s_Setting___init__ : Stmt := inClass (topS 62) 0
abbrev s_Setting_late_of : Stmt := inClass (topS 62) 2
abbrev s_Setting_straight : Stmt := inClass (topS 62) 5
abbrev s_Setting_with_fee : Stmt := inClass (topS 62) 8
abbrev s_TooMany___init__ : Stmt := inClass (topS 26) 0
abbrev s__law_both : Stmt := topS 102
abbrev s__law_draw : Stmt := topS 99
abbrev s__law_heard : Stmt := topS 101
abbrev s__law_pen : Stmt := topS 98
abbrev s__law_pick : Stmt := topS 100
abbrev s_common : Stmt := topS 50
abbrev s_first_with : Stmt := topS 46
abbrev s_greatest_batched : Stmt := topS 73
abbrev s_is_bound : Stmt := topS 76
abbrev s_is_integer : Stmt := topS 6
abbrev s_is_name : Stmt := topS 9
abbrev s_is_speed : Stmt := topS 41
abbrev s_is_within : Stmt := topS 7
abbrev s_lates_from : Stmt := topS 72
abbrev s_law : Stmt := topS 103
abbrev s_need_batched : Stmt := topS 70
abbrev s_need_speed : Stmt := topS 42
abbrev s_need_speeds : Stmt := topS 43
abbrev s_need_spot : Stmt := topS 59
abbrev s_rise_of : Stmt := topS 71
abbrev s_rounded_up : Stmt := topS 34
abbrev s_shows_batched : Stmt := topS 75
abbrev s_told_of : Stmt := topS 52
abbrev exD (K : PySem.W.Frag) (C : Addr) : Prop := ∃ nm q N bs bm sn sub ab col dd k0 k1 k2 k3 k5, K.lookup C = some (excClassObj nm q C N bs bm true sn sub ab col dd k0 k1 k2 k3 k5 "ValueError.__new__") ∧ PySem.HandSPX.refsVE bm = true
abbrev v2D (vs : Array Value) (f : Str) (t : Tok) : Prop := vs[2]? = some (.str f t)
abbrev w2D (l : PySem.W.OpenLaw) (f : Str) : Prop := ((l.prog.main.file : Str) == f) = true
def AllMk : Prop := ∀ {l : PySem.W.OpenLaw} {w : World} {K : PySem.W.Frag} {h : Heap} {mg : Str → Option Value} {fa CB2 CE2 CT CD CRl CW CS CQ CB CC CM BN BS BW NW BR BE SE BA BF RU CL ct0 Pt : Addr} (X : K.In h) (G : h.Ns mainGlobals mg) (hfa : mg "law" = some (.ref fa))
    {f1 : Addr} {od1 an1 : Option Addr} {sl1 : Array (Option Value)} {oc1 kV1 dc1 pm1 cd1 ct1 : Value}
    {f2 : Addr} {od2 an2 : Option Addr} {sl2 : Array (Option Value)} {oc2 kV2 dc2 pm2 cd2 ct2 : Value}
    {f3 : Addr} {od3 an3 : Option Addr} {sl3 : Array (Option Value)} {oc3 kV3 dc3 pm3 cd3 ct3 : Value}
    {f4 : Addr} {od4 an4 : Option Addr} {sl4 : Array (Option Value)} {oc4 kV4 dc4 pm4 cd4 ct4 : Value}
    {f5 : Addr} {od5 an5 : Option Addr} {sl5 : Array (Option Value)} {oc5 kV5 dc5 pm5 cd5 ct5 : Value}
    {f6 : Addr} {od6 an6 : Option Addr} {sl6 : Array (Option Value)} {oc6 kV6 dc6 pm6 cd6 ct6 : Value}
    {f7 : Addr} {od7 an7 : Option Addr} {sl7 : Array (Option Value)} {oc7 kV7 dc7 pm7 cd7 ct7 : Value}
    {f8 : Addr} {od8 an8 : Option Addr} {sl8 : Array (Option Value)} {oc8 kV8 dc8 pm8 cd8 ct8 : Value}
    {f9 : Addr} {od9 an9 : Option Addr} {sl9 : Array (Option Value)} {oc9 kV9 dc9 pm9 cd9 ct9 : Value}
    {f10 : Addr} {od10 an10 : Option Addr} {sl10 : Array (Option Value)} {oc10 kV10 dc10 pm10 cd10 ct10 : Value}
    {f11 : Addr} {od11 an11 : Option Addr} {sl11 : Array (Option Value)} {oc11 kV11 dc11 pm11 cd11 ct11 : Value}
    {f12 : Addr} {od12 an12 : Option Addr} {sl12 : Array (Option Value)} {oc12 kV12 dc12 pm12 cd12 ct12 : Value}
    {f13 : Addr} {od13 an13 : Option Addr} {sl13 : Array (Option Value)} {oc13 kV13 dc13 pm13 cd13 ct13 : Value}
    {f14 : Addr} {od14 an14 : Option Addr} {sl14 : Array (Option Value)} {oc14 kV14 dc14 pm14 cd14 ct14 : Value}
    {f15 : Addr} {od15 an15 : Option Addr} {sl15 : Array (Option Value)} {oc15 kV15 dc15 pm15 cd15 ct15 : Value}
    {f16 : Addr} {od16 an16 : Option Addr} {sl16 : Array (Option Value)} {oc16 kV16 dc16 pm16 cd16 ct16 : Value}
    {f17 : Addr} {od17 an17 : Option Addr} {sl17 : Array (Option Value)} {oc17 kV17 dc17 pm17 cd17 ct17 : Value}
    {f18 : Addr} {od18 an18 : Option Addr} {sl18 : Array (Option Value)} {oc18 kV18 dc18 pm18 cd18 ct18 : Value}
    {f19 : Addr} {od19 an19 : Option Addr} {sl19 : Array (Option Value)} {oc19 kV19 dc19 pm19 cd19 ct19 : Value}
    {f20 : Addr} {od20 an20 : Option Addr} {sl20 : Array (Option Value)} {oc20 kV20 dc20 pm20 cd20 ct20 : Value}
    {f21 : Addr} {od21 an21 : Option Addr} {sl21 : Array (Option Value)} {oc21 kV21 dc21 pm21 cd21 ct21 : Value}
    {f22 : Addr} {od22 an22 : Option Addr} {sl22 : Array (Option Value)} {oc22 kV22 dc22 pm22 ct22 : Value}
    {f23 : Addr} {od23 an23 : Option Addr} {sl23 : Array (Option Value)} {oc23 kV23 dc23 pm23 cd23 ct23 : Value}
    {g_CW___init__ : Addr} {od_CW___init__ an_CW___init__ : Option Addr} {sl_CW___init__ : Array (Option Value)} {oc_CW___init__ kV_CW___init__ dc_CW___init__ pm_CW___init__ cd_CW___init__ ct_CW___init__ : Value}
    {g_CW___contains__ : Addr} {od_CW___contains__ an_CW___contains__ : Option Addr} {sl_CW___contains__ : Array (Option Value)} {oc_CW___contains__ kV_CW___contains__ dc_CW___contains__ pm_CW___contains__ cd_CW___contains__ ct_CW___contains__ : Value}
    {g_CW___getitem__ : Addr} {od_CW___getitem__ an_CW___getitem__ : Option Addr} {sl_CW___getitem__ : Array (Option Value)} {oc_CW___getitem__ kV_CW___getitem__ dc_CW___getitem__ pm_CW___getitem__ cd_CW___getitem__ ct_CW___getitem__ : Value}
    {p_CW_of : Addr} {rest_CW_of : List Value}
    {g_CW_of : Addr} {od_CW_of an_CW_of : Option Addr} {sl_CW_of : Array (Option Value)} {oc_CW_of kV_CW_of dc_CW_of pm_CW_of cd_CW_of ct_CW_of : Value}
    {g_CS_late_of : Addr} {od_CS_late_of an_CS_late_of : Option Addr} {sl_CS_late_of : Array (Option Value)} {oc_CS_late_of kV_CS_late_of dc_CS_late_of pm_CS_late_of cd_CS_late_of ct_CS_late_of : Value}
    {g_CS_straight : Addr} {od_CS_straight an_CS_straight : Option Addr} {sl_CS_straight : Array (Option Value)} {oc_CS_straight kV_CS_straight dc_CS_straight pm_CS_straight cd_CS_straight ct_CS_straight : Value}
    {g_CS_with_fee : Addr} {od_CS_with_fee an_CS_with_fee : Option Addr} {sl_CS_with_fee : Array (Option Value)} {oc_CS_with_fee kV_CS_with_fee dc_CS_with_fee pm_CS_with_fee cd_CS_with_fee ct_CS_with_fee : Value}
    {g_CQ___add__ : Addr} {od_CQ___add__ an_CQ___add__ : Option Addr} {sl_CQ___add__ : Array (Option Value)} {oc_CQ___add__ kV_CQ___add__ dc_CQ___add__ pm_CQ___add__ cd_CQ___add__ ct_CQ___add__ : Value}
    {g_CQ___radd__ : Addr} {od_CQ___radd__ an_CQ___radd__ : Option Addr} {sl_CQ___radd__ : Array (Option Value)} {oc_CQ___radd__ kV_CQ___radd__ dc_CQ___radd__ pm_CQ___radd__ cd_CQ___radd__ ct_CQ___radd__ : Value}
    {g_CQ___sub__ : Addr} {od_CQ___sub__ an_CQ___sub__ : Option Addr} {sl_CQ___sub__ : Array (Option Value)} {oc_CQ___sub__ kV_CQ___sub__ dc_CQ___sub__ pm_CQ___sub__ cd_CQ___sub__ ct_CQ___sub__ : Value}
    {g_CQ___rsub__ : Addr} {od_CQ___rsub__ an_CQ___rsub__ : Option Addr} {sl_CQ___rsub__ : Array (Option Value)} {oc_CQ___rsub__ kV_CQ___rsub__ dc_CQ___rsub__ pm_CQ___rsub__ cd_CQ___rsub__ ct_CQ___rsub__ : Value}
    {g_CQ___mul__ : Addr} {od_CQ___mul__ an_CQ___mul__ : Option Addr} {sl_CQ___mul__ : Array (Option Value)} {oc_CQ___mul__ kV_CQ___mul__ dc_CQ___mul__ pm_CQ___mul__ cd_CQ___mul__ ct_CQ___mul__ : Value}
    {g_CQ___rmul__ : Addr} {od_CQ___rmul__ an_CQ___rmul__ : Option Addr} {sl_CQ___rmul__ : Array (Option Value)} {oc_CQ___rmul__ kV_CQ___rmul__ dc_CQ___rmul__ pm_CQ___rmul__ cd_CQ___rmul__ ct_CQ___rmul__ : Value}
    {g_CQ___lt__ : Addr} {od_CQ___lt__ an_CQ___lt__ : Option Addr} {sl_CQ___lt__ : Array (Option Value)} {oc_CQ___lt__ kV_CQ___lt__ dc_CQ___lt__ pm_CQ___lt__ cd_CQ___lt__ ct_CQ___lt__ : Value}
    {g_CQ___gt__ : Addr} {od_CQ___gt__ an_CQ___gt__ : Option Addr} {sl_CQ___gt__ : Array (Option Value)} {oc_CQ___gt__ kV_CQ___gt__ dc_CQ___gt__ pm_CQ___gt__ cd_CQ___gt__ ct_CQ___gt__ : Value}
    {g_CQ___eq__ : Addr} {od_CQ___eq__ an_CQ___eq__ : Option Addr} {sl_CQ___eq__ : Array (Option Value)} {oc_CQ___eq__ kV_CQ___eq__ dc_CQ___eq__ pm_CQ___eq__ cd_CQ___eq__ ct_CQ___eq__ : Value}
    {g_CT___init__ : Addr} {od_CT___init__ an_CT___init__ : Option Addr} {sl_CT___init__ : Array (Option Value)} {oc_CT___init__ kV_CT___init__ dc_CT___init__ pm_CT___init__ cd_CT___init__ ct_CT___init__ : Value}
    {g_CT_batch_from : Addr} {od_CT_batch_from an_CT_batch_from : Option Addr} {sl_CT_batch_from : Array (Option Value)} {oc_CT_batch_from kV_CT_batch_from dc_CT_batch_from pm_CT_batch_from cd_CT_batch_from ct_CT_batch_from : Value}
    {g_CB2___init__ : Addr} {od_CB2___init__ an_CB2___init__ : Option Addr} {sl_CB2___init__ : Array (Option Value)} {oc_CB2___init__ kV_CB2___init__ dc_CB2___init__ pm_CB2___init__ cd_CB2___init__ ct_CB2___init__ : Value}
    {g_CE2___init__ : Addr} {od_CE2___init__ an_CE2___init__ : Option Addr} {sl_CE2___init__ : Array (Option Value)} {oc_CE2___init__ kV_CE2___init__ dc_CE2___init__ pm_CE2___init__ cd_CE2___init__ ct_CE2___init__ : Value}
    {g_CD___init__ : Addr} {od_CD___init__ an_CD___init__ : Option Addr} {sl_CD___init__ : Array (Option Value)} {oc_CD___init__ kV_CD___init__ dc_CD___init__ pm_CD___init__ cd_CD___init__ ct_CD___init__ : Value}
    {T_CS___init__ : Addr} {odT_CS___init__ : Option Addr} {slT_CS___init__ : Array (Option Value)} {ocT_CS___init__ : Value} {nT_CS___init__ : Nat} {t_CS___init__0 t_CS___init__1 t_CS___init__2 : Tok}
    {g_CS___init__ : Addr} {od_CS___init__ an_CS___init__ : Option Addr} {sl_CS___init__ : Array (Option Value)} {oc_CS___init__ kV_CS___init__ dc_CS___init__ pm_CS___init__ cd_CS___init__ ct_CS___init__ : Value}
    {p_CW_even T_CW_even : Addr} {rest_CW_even : List Value} {odT_CW_even : Option Addr} {slT_CW_even : Array (Option Value)} {ocT_CW_even : Value} {nT_CW_even : Nat} {t_CW_even0 : Tok}
    {g_CW_even : Addr} {od_CW_even an_CW_even : Option Addr} {sl_CW_even : Array (Option Value)} {oc_CW_even kV_CW_even dc_CW_even pm_CW_even cd_CW_even ct_CW_even : Value}
    {T_CQ___init__ : Addr} {odT_CQ___init__ : Option Addr} {slT_CQ___init__ : Array (Option Value)} {ocT_CQ___init__ : Value} {nT_CQ___init__ : Nat} {t_CQ___init__0 : Tok}
    {g_CQ___init__ : Addr} {od_CQ___init__ an_CQ___init__ : Option Addr} {sl_CQ___init__ : Array (Option Value)} {oc_CQ___init__ kV_CQ___init__ dc_CQ___init__ pm_CQ___init__ cd_CQ___init__ ct_CQ___init__ : Value}
    {fZB ccZB cdZB : Addr} {odZB anZB cldZB cddZB : Option Addr} {slZB cslZB ccsZB : Array (Option Value)} {ocZB kVZB dcZB pmZB ctZB clZB cclZB : Value} {vsZB : Array Value} {fileZB : Str} {tfZB : Tok}
    {fZC ccZC cdZC : Addr} {odZC anZC cldZC cddZC : Option Addr} {slZC cslZC ccsZC : Array (Option Value)} {ocZC kVZC dcZC pmZC ctZC clZC cclZC : Value} {vsZC : Array Value} {fileZC : Str} {tfZC : Tok}
    {fZM ccZM cdZM : Addr} {odZM anZM cldZM cddZM : Option Addr} {slZM cslZM ccsZM : Array (Option Value)} {ocZM kVZM dcZM pmZM ctZM clZM cclZM : Value} {vsZM : Array Value} {fileZM : Str} {tfZM : Tok}
    {fZNa ccZNa cdZNa : Addr} {odZNa anZNa cldZNa cddZNa : Option Addr} {slZNa cslZNa ccsZNa : Array (Option Value)} {ocZNa kVZNa dcZNa pmZNa ctZNa clZNa cclZNa : Value} {vsZNa : Array Value} {fileZNa : Str} {tfZNa : Tok}
    {fZSp ccZSp cdZSp : Addr} {odZSp anZSp cldZSp cddZSp : Option Addr} {slZSp cslZSp ccsZSp : Array (Option Value)} {ocZSp kVZSp dcZSp pmZSp ctZSp clZSp cclZSp : Value} {vsZSp : Array Value} {fileZSp : Str} {tfZSp : Tok}
    {fZCr ccZCr cdZCr : Addr} {odZCr anZCr cldZCr cddZCr : Option Addr} {slZCr cslZCr ccsZCr : Array (Option Value)} {ocZCr kVZCr dcZCr pmZCr ctZCr clZCr cclZCr : Value} {vsZCr : Array Value} {fileZCr : Str} {tfZCr : Tok}
    {fZNw ccZNw cdZNw : Addr} {odZNw anZNw cldZNw cddZNw : Option Addr} {slZNw cslZNw ccsZNw : Array (Option Value)} {ocZNw kVZNw dcZNw pmZNw ctZNw clZNw cclZNw : Value} {vsZNw : Array Value} {fileZNw : Str} {tfZNw : Tok}
    {fZQ ccZQ cdZQ : Addr} {odZQ anZQ cldZQ cddZQ : Option Addr} {slZQ cslZQ ccsZQ : Array (Option Value)} {ocZQ kVZQ dcZQ pmZQ ctZQ clZQ cclZQ : Value} {vsZQ : Array Value} {fileZQ : Str} {tfZQ : Tok}
    {fZRe ccZRe cdZRe : Addr} {odZRe anZRe cldZRe cddZRe : Option Addr} {slZRe cslZRe ccsZRe : Array (Option Value)} {ocZRe kVZRe dcZRe pmZRe ctZRe clZRe cclZRe : Value} {vsZRe : Array Value} {fileZRe : Str} {tfZRe : Tok}
    {fZSe ccZSe cdZSe : Addr} {odZSe anZSe cldZSe cddZSe : Option Addr} {slZSe cslZSe ccsZSe : Array (Option Value)} {ocZSe kVZSe dcZSe pmZSe ctZSe clZSe cclZSe : Value} {vsZSe : Array Value} {fileZSe : Str} {tfZSe : Tok}
    {fZCo ccZCo cdZCo : Addr} {odZCo anZCo cldZCo cddZCo : Option Addr} {slZCo cslZCo ccsZCo : Array (Option Value)} {ocZCo kVZCo dcZCo pmZCo ctZCo clZCo cclZCo : Value} {vsZCo : Array Value} {fileZCo : Str} {tfZCo : Tok}
    {fZFe ccZFe cdZFe : Addr} {odZFe anZFe cldZFe cddZFe : Option Addr} {slZFe cslZFe ccsZFe : Array (Option Value)} {ocZFe kVZFe dcZFe pmZFe ctZFe clZFe cclZFe : Value} {vsZFe : Array Value} {fileZFe : Str} {tfZFe : Tok}
    {fZRu ccZRu cdZRu : Addr} {odZRu anZRu cldZRu cddZRu : Option Addr} {slZRu cslZRu ccsZRu : Array (Option Value)} {ocZRu kVZRu dcZRu pmZRu ctZRu clZRu cclZRu : Value} {vsZRu : Array Value} {fileZRu : Str} {tfZRu : Tok}
    {aW : Addr} {odW : Option Addr} {slW : Array (Option Value)} {nW : Nat} {wt0 wt1 wt2 wt3 wt4 wt5 wt6 wt7 wt8 wt9 tSG tSP tMW : Tok}
    {tMCo tMFe : Tok}
    {tMOv tMDv tMAd : Tok}
    (a1 : @Eq _ (PySem.W.nsIn K mainGlobals "is_integer") (some (some (.ref f1))))
    (l1 : @Eq _ (K.lookup f1) (some ⟨oc1, od1, .func (PySem.W.fnOf "is_integer" "is_integer" (defArgs s_is_integer) (defBody s_is_integer) (defScope s_is_integer) .none kV1 dc1 pm1 an1 cd1 ct1), sl1⟩))
    (c1 : @Eq _ (PySem.W.codeIn K cd1 "is_integer") (true))
    (k1 : @Eq _ (PySem.W.keepIn K (.ref f1)) (true))
    (a2 : @Eq _ (PySem.W.nsIn K mainGlobals "is_within") (some (some (.ref f2))))
    (l2 : @Eq _ (K.lookup f2) (some ⟨oc2, od2, .func (PySem.W.fnOf "is_within" "is_within" (defArgs s_is_within) (defBody s_is_within) (defScope s_is_within) .none kV2 dc2 pm2 an2 cd2 ct2), sl2⟩))
    (c2 : @Eq _ (PySem.W.codeIn K cd2 "is_within") (true))
    (k2 : @Eq _ (PySem.W.keepIn K (.ref f2)) (true))
    (a3 : @Eq _ (PySem.W.nsIn K mainGlobals "is_name") (some (some (.ref f3))))
    (l3 : @Eq _ (K.lookup f3) (some ⟨oc3, od3, .func (PySem.W.fnOf "is_name" "is_name" (defArgs s_is_name) (defBody s_is_name) (defScope s_is_name) .none kV3 dc3 pm3 an3 cd3 ct3), sl3⟩))
    (c3 : @Eq _ (PySem.W.codeIn K cd3 "is_name") (true))
    (k3 : @Eq _ (PySem.W.keepIn K (.ref f3)) (true))
    (a4 : @Eq _ (PySem.W.nsIn K mainGlobals "is_speed") (some (some (.ref f4))))
    (l4 : @Eq _ (K.lookup f4) (some ⟨oc4, od4, .func (PySem.W.fnOf "is_speed" "is_speed" (defArgs s_is_speed) (defBody s_is_speed) (defScope s_is_speed) .none kV4 dc4 pm4 an4 cd4 ct4), sl4⟩))
    (c4 : @Eq _ (PySem.W.codeIn K cd4 "is_speed") (true))
    (k4 : @Eq _ (PySem.W.keepIn K (.ref f4)) (true))
    (a5 : @Eq _ (PySem.W.nsIn K mainGlobals "need_speed") (some (some (.ref f5))))
    (l5 : @Eq _ (K.lookup f5) (some ⟨oc5, od5, .func (PySem.W.fnOf "need_speed" "need_speed" (defArgs s_need_speed) (defBody s_need_speed) (defScope s_need_speed) .none kV5 dc5 pm5 an5 cd5 ct5), sl5⟩))
    (c5 : @Eq _ (PySem.W.codeIn K cd5 "need_speed") (true))
    (k5 : @Eq _ (PySem.W.keepIn K (.ref f5)) (true))
    (a6 : @Eq _ (PySem.W.nsIn K mainGlobals "need_speeds") (some (some (.ref f6))))
    (l6 : @Eq _ (K.lookup f6) (some ⟨oc6, od6, .func (PySem.W.fnOf "need_speeds" "need_speeds" (defArgs s_need_speeds) (defBody s_need_speeds) (defScope s_need_speeds) .none kV6 dc6 pm6 an6 cd6 ct6), sl6⟩))
    (c6 : @Eq _ (PySem.W.codeIn K cd6 "need_speeds") (true))
    (k6 : @Eq _ (PySem.W.keepIn K (.ref f6)) (true))
    (a7 : @Eq _ (PySem.W.nsIn K mainGlobals "first_with") (some (some (.ref f7))))
    (l7 : @Eq _ (K.lookup f7) (some ⟨oc7, od7, .func (PySem.W.fnOf "first_with" "first_with" (defArgs s_first_with) (defBody s_first_with) (defScope s_first_with) .none kV7 dc7 pm7 an7 cd7 ct7), sl7⟩))
    (c7 : @Eq _ (PySem.W.codeIn K cd7 "first_with") (true))
    (k7 : @Eq _ (PySem.W.keepIn K (.ref f7)) (true))
    (a8 : @Eq _ (PySem.W.nsIn K mainGlobals "common") (some (some (.ref f8))))
    (l8 : @Eq _ (K.lookup f8) (some ⟨oc8, od8, .func (PySem.W.fnOf "common" "common" (defArgs s_common) (defBody s_common) (defScope s_common) .none kV8 dc8 pm8 an8 cd8 ct8), sl8⟩))
    (c8 : @Eq _ (PySem.W.codeIn K cd8 "common") (true))
    (k8 : @Eq _ (PySem.W.keepIn K (.ref f8)) (true))
    (a9 : @Eq _ (PySem.W.nsIn K mainGlobals "told_of") (some (some (.ref f9))))
    (l9 : @Eq _ (K.lookup f9) (some ⟨oc9, od9, .func (PySem.W.fnOf "told_of" "told_of" (defArgs s_told_of) (defBody s_told_of) (defScope s_told_of) .none kV9 dc9 pm9 an9 cd9 ct9), sl9⟩))
    (c9 : @Eq _ (PySem.W.codeIn K cd9 "told_of") (true))
    (k9 : @Eq _ (PySem.W.keepIn K (.ref f9)) (true))
    (a10 : @Eq _ (PySem.W.nsIn K mainGlobals "need_spot") (some (some (.ref f10))))
    (l10 : @Eq _ (K.lookup f10) (some ⟨oc10, od10, .func (PySem.W.fnOf "need_spot" "need_spot" (defArgs s_need_spot) (defBody s_need_spot) (defScope s_need_spot) .none kV10 dc10 pm10 an10 cd10 ct10), sl10⟩))
    (c10 : @Eq _ (PySem.W.codeIn K cd10 "need_spot") (true))
    (k10 : @Eq _ (PySem.W.keepIn K (.ref f10)) (true))
    (a11 : @Eq _ (PySem.W.nsIn K mainGlobals "rounded_up") (some (some (.ref f11))))
    (l11 : @Eq _ (K.lookup f11) (some ⟨oc11, od11, .func (PySem.W.fnOf "rounded_up" "rounded_up" (defArgs s_rounded_up) (defBody s_rounded_up) (defScope s_rounded_up) .none kV11 dc11 pm11 an11 cd11 ct11), sl11⟩))
    (c11 : @Eq _ (PySem.W.codeIn K cd11 "rounded_up") (true))
    (k11 : @Eq _ (PySem.W.keepIn K (.ref f11)) (true))
    (a12 : @Eq _ (PySem.W.nsIn K mainGlobals "need_batched") (some (some (.ref f12))))
    (l12 : @Eq _ (K.lookup f12) (some ⟨oc12, od12, .func (PySem.W.fnOf "need_batched" "need_batched" (defArgs s_need_batched) (defBody s_need_batched) (defScope s_need_batched) .none kV12 dc12 pm12 an12 cd12 ct12), sl12⟩))
    (c12 : @Eq _ (PySem.W.codeIn K cd12 "need_batched") (true))
    (k12 : @Eq _ (PySem.W.keepIn K (.ref f12)) (true))
    (a13 : @Eq _ (PySem.W.nsIn K mainGlobals "rise_of") (some (some (.ref f13))))
    (l13 : @Eq _ (K.lookup f13) (some ⟨oc13, od13, .func (PySem.W.fnOf "rise_of" "rise_of" (defArgs s_rise_of) (defBody s_rise_of) (defScope s_rise_of) .none kV13 dc13 pm13 an13 cd13 ct13), sl13⟩))
    (c13 : @Eq _ (PySem.W.codeIn K cd13 "rise_of") (true))
    (k13 : @Eq _ (PySem.W.keepIn K (.ref f13)) (true))
    (a14 : @Eq _ (PySem.W.nsIn K mainGlobals "lates_from") (some (some (.ref f14))))
    (l14 : @Eq _ (K.lookup f14) (some ⟨oc14, od14, .func (PySem.W.fnOf "lates_from" "lates_from" (defArgs s_lates_from) (defBody s_lates_from) (defScope s_lates_from) .none kV14 dc14 pm14 an14 cd14 ct14), sl14⟩))
    (c14 : @Eq _ (PySem.W.codeIn K cd14 "lates_from") (true))
    (k14 : @Eq _ (PySem.W.keepIn K (.ref f14)) (true))
    (a15 : @Eq _ (PySem.W.nsIn K mainGlobals "greatest_batched") (some (some (.ref f15))))
    (l15 : @Eq _ (K.lookup f15) (some ⟨oc15, od15, .func (PySem.W.fnOf "greatest_batched" "greatest_batched" (defArgs s_greatest_batched) (defBody s_greatest_batched) (defScope s_greatest_batched) .none kV15 dc15 pm15 an15 cd15 ct15), sl15⟩))
    (c15 : @Eq _ (PySem.W.codeIn K cd15 "greatest_batched") (true))
    (k15 : @Eq _ (PySem.W.keepIn K (.ref f15)) (true))
    (a16 : @Eq _ (PySem.W.nsIn K mainGlobals "shows_batched") (some (some (.ref f16))))
    (l16 : @Eq _ (K.lookup f16) (some ⟨oc16, od16, .func (PySem.W.fnOf "shows_batched" "shows_batched" (defArgs s_shows_batched) (defBody s_shows_batched) (defScope s_shows_batched) .none kV16 dc16 pm16 an16 cd16 ct16), sl16⟩))
    (c16 : @Eq _ (PySem.W.codeIn K cd16 "shows_batched") (true))
    (k16 : @Eq _ (PySem.W.keepIn K (.ref f16)) (true))
    (a17 : @Eq _ (PySem.W.nsIn K mainGlobals "is_bound") (some (some (.ref f17))))
    (l17 : @Eq _ (K.lookup f17) (some ⟨oc17, od17, .func (PySem.W.fnOf "is_bound" "is_bound" (defArgs s_is_bound) (defBody s_is_bound) (defScope s_is_bound) .none kV17 dc17 pm17 an17 cd17 ct17), sl17⟩))
    (c17 : @Eq _ (PySem.W.codeIn K cd17 "is_bound") (true))
    (k17 : @Eq _ (PySem.W.keepIn K (.ref f17)) (true))
    (a18 : @Eq _ (PySem.W.nsIn K mainGlobals "_law_heard") (some (some (.ref f18))))
    (l18 : @Eq _ (K.lookup f18) (some ⟨oc18, od18, .func (PySem.W.fnOf "_law_heard" "_law_heard" (defArgs s__law_heard) (defBody s__law_heard) (defScope s__law_heard) .none kV18 dc18 pm18 an18 cd18 ct18), sl18⟩))
    (c18 : @Eq _ (PySem.W.codeIn K cd18 "_law_heard") (true))
    (k18 : @Eq _ (PySem.W.keepIn K (.ref f18)) (true))
    (a19 : @Eq _ (PySem.W.nsIn K mainGlobals "_law_pen") (some (some (.ref f19))))
    (l19 : @Eq _ (K.lookup f19) (some ⟨oc19, od19, .func (PySem.W.fnOf "_law_pen" "_law_pen" (defArgs s__law_pen) (defBody s__law_pen) (defScope s__law_pen) .none kV19 dc19 pm19 an19 cd19 ct19), sl19⟩))
    (c19 : @Eq _ (PySem.W.codeIn K cd19 "_law_pen") (true))
    (k19 : @Eq _ (PySem.W.keepIn K (.ref f19)) (true))
    (a20 : @Eq _ (PySem.W.nsIn K mainGlobals "_law_draw") (some (some (.ref f20))))
    (l20 : @Eq _ (K.lookup f20) (some ⟨oc20, od20, .func (PySem.W.fnOf "_law_draw" "_law_draw" (defArgs s__law_draw) (defBody s__law_draw) (defScope s__law_draw) .none kV20 dc20 pm20 an20 cd20 ct20), sl20⟩))
    (c20 : @Eq _ (PySem.W.codeIn K cd20 "_law_draw") (true))
    (k20 : @Eq _ (PySem.W.keepIn K (.ref f20)) (true))
    (a21 : @Eq _ (PySem.W.nsIn K mainGlobals "_law_pick") (some (some (.ref f21))))
    (l21 : @Eq _ (K.lookup f21) (some ⟨oc21, od21, .func (PySem.W.fnOf "_law_pick" "_law_pick" (defArgs s__law_pick) (defBody s__law_pick) (defScope s__law_pick) .none kV21 dc21 pm21 an21 cd21 ct21), sl21⟩))
    (c21 : @Eq _ (PySem.W.codeIn K cd21 "_law_pick") (true))
    (k21 : @Eq _ (PySem.W.keepIn K (.ref f21)) (true))
    (a22 : @Eq _ (PySem.W.nsIn K mainGlobals "_law_both") (some (some (.ref f22))))
    (l22 : @Eq _ (K.lookup f22) (some ⟨oc22, od22, .func (PySem.W.fnOf "_law_both" "_law_both" (defArgs s__law_both) (defBody s__law_both) (defScope s__law_both) .none kV22 dc22 pm22 an22 (.ref ct0) ct22), sl22⟩))
    (c22 : @Eq _ (PySem.W.codeIn K (.ref ct0) "_law_both") (true))
    (k22 : @Eq _ (PySem.W.keepIn K (.ref f22)) (true))
    (a23 : @Eq _ (PySem.W.nsIn K mainGlobals "law") (some (some (.ref f23))))
    (l23 : @Eq _ (K.lookup f23) (some ⟨oc23, od23, .func (PySem.W.fnOf "law" "law" (defArgs s_law) (defBody s_law) (defScope s_law) .none kV23 dc23 pm23 an23 cd23 ct23), sl23⟩))
    (c23 : @Eq _ (PySem.W.codeIn K cd23 "law") (true))
    (k23 : @Eq _ (PySem.W.keepIn K (.ref f23)) (true))
    (a_CW : @Eq _ (PySem.W.nsIn K mainGlobals "Crew") (some (some (.ref CW))))
    (a_CW___init__ : @Eq _ (PySem.W.findIn K (.ref CW) "__init__") (some (some (.ref g_CW___init__))))
    (l_CW___init__ : @Eq _ (K.lookup g_CW___init__) (some ⟨oc_CW___init__, od_CW___init__, .func (PySem.W.fnOf "__init__" "Crew.__init__" (defArgs s_Crew___init__) (defBody s_Crew___init__) (defScope s_Crew___init__) .none kV_CW___init__ dc_CW___init__ pm_CW___init__ an_CW___init__ cd_CW___init__ ct_CW___init__), sl_CW___init__⟩))
    (c_CW___init__ : @Eq _ (PySem.W.codeIn K cd_CW___init__ "Crew.__init__") (true))
    (k_CW___init__ : @Eq _ (PySem.W.keepIn K (.ref g_CW___init__)) (true))
    (i_CW___init__ : @Eq _ (PySem.W.isFn K (.ref g_CW___init__)) (true))
    (a_CW___contains__ : @Eq _ (PySem.W.findIn K (.ref CW) "__contains__") (some (some (.ref g_CW___contains__))))
    (l_CW___contains__ : @Eq _ (K.lookup g_CW___contains__) (some ⟨oc_CW___contains__, od_CW___contains__, .func (PySem.W.fnOf "__contains__" "Crew.__contains__" (defArgs s_Crew___contains__) (defBody s_Crew___contains__) (defScope s_Crew___contains__) .none kV_CW___contains__ dc_CW___contains__ pm_CW___contains__ an_CW___contains__ cd_CW___contains__ ct_CW___contains__), sl_CW___contains__⟩))
    (c_CW___contains__ : @Eq _ (PySem.W.codeIn K cd_CW___contains__ "Crew.__contains__") (true))
    (k_CW___contains__ : @Eq _ (PySem.W.keepIn K (.ref g_CW___contains__)) (true))
    (i_CW___contains__ : @Eq _ (PySem.W.isFn K (.ref g_CW___contains__)) (true))
    (a_CW___getitem__ : @Eq _ (PySem.W.findIn K (.ref CW) "__getitem__") (some (some (.ref g_CW___getitem__))))
    (l_CW___getitem__ : @Eq _ (K.lookup g_CW___getitem__) (some ⟨oc_CW___getitem__, od_CW___getitem__, .func (PySem.W.fnOf "__getitem__" "Crew.__getitem__" (defArgs s_Crew___getitem__) (defBody s_Crew___getitem__) (defScope s_Crew___getitem__) .none kV_CW___getitem__ dc_CW___getitem__ pm_CW___getitem__ an_CW___getitem__ cd_CW___getitem__ ct_CW___getitem__), sl_CW___getitem__⟩))
    (c_CW___getitem__ : @Eq _ (PySem.W.codeIn K cd_CW___getitem__ "Crew.__getitem__") (true))
    (k_CW___getitem__ : @Eq _ (PySem.W.keepIn K (.ref g_CW___getitem__)) (true))
    (i_CW___getitem__ : @Eq _ (PySem.W.isFn K (.ref g_CW___getitem__)) (true))
    (mk_CW : @Eq _ (PySem.W.makesIn K CW) (true))
    (pg_CW : @Eq _ (PySem.W.plainGet K CW Str.empty) (true))
    (hd_CW : @Eq _ (PySem.W.hasDictIn K CW) (true))
    (po_CW : @Eq _ (PySem.W.plainOver K CW) (true))
    (sa_CW : @Eq _ (PySem.W.findIn K (.ref CW) "__setattr__") (some (some (.builtin "object.__setattr__"))))
    (kc_CW : @Eq _ (PySem.W.keepIn K (.ref CW)) (true))
    (ya_CW : @Eq _ (PySem.W.findIn K (.ref CW) "__class__") (some (some (.builtin "object.__class__"))))
    (yb : @Eq _ (PySem.W.specialIn K (.builtin "object.__class__") "__get__") (some (some (.builtin "getset_descriptor.__get__"))))
    (yc : @Eq _ (PySem.W.takesIn K (.builtin "object.__class__")) (some true))
    (yd_CW : @Eq _ (PySem.W.mroIn K CW (.type "object")) (some true))
    (yk_CW : @Eq _ (PySem.W.kitOne K (.ref CW) (.ref CW)) (some true))
    (n_CW_own_speeds : @Eq _ (PySem.W.findIn K (.ref CW) "own_speeds") (some none))
    (n_CW_workers : @Eq _ (PySem.W.findIn K (.ref CW) "workers") (some none))
    (n_CW_speed : @Eq _ (PySem.W.findIn K (.ref CW) "speed") (some none))
    (n_CW_slowest : @Eq _ (PySem.W.findIn K (.ref CW) "slowest") (some none))
    (n_CW_fastest : @Eq _ (PySem.W.findIn K (.ref CW) "fastest") (some none))
    (sr_CW : @Eq _ (PySem.W.readsIn K CW (.type "type")) (true))
    (sg_CW : @Eq _ (PySem.W.specialIn K (.ref CW) "__getattribute__") (some (some (.builtin "type.__getattribute__"))))
    (sf_CW_of : @Eq _ (PySem.W.findCls K (.ref CW) (.type "type") "of") (some (.get (.builtin "staticmethod.__get__") (.ref p_CW_of) .none (.ref CW))))
    (sc_CW_of : @Eq _ (PySem.W.recIn K p_CW_of "staticmethod") (some (.ref g_CW_of :: rest_CW_of)))
    (l_CW_of : @Eq _ (K.lookup g_CW_of) (some ⟨oc_CW_of, od_CW_of, .func (PySem.W.fnOf "of" "Crew.of" (defArgs s_Crew_of) (defBody s_Crew_of) (defScope s_Crew_of) .none kV_CW_of dc_CW_of pm_CW_of an_CW_of cd_CW_of ct_CW_of), sl_CW_of⟩))
    (c_CW_of : @Eq _ (PySem.W.codeIn K cd_CW_of "Crew.of") (true))
    (k_CW_of : @Eq _ (PySem.W.keepIn K (.ref g_CW_of)) (true))
    (mk_CS : @Eq _ (PySem.W.makesIn K CS) (true))
    (a_CS : @Eq _ (PySem.W.nsIn K mainGlobals "Setting") (some (some (.ref CS))))
    (a_CS_late_of : @Eq _ (PySem.W.findIn K (.ref CS) "late_of") (some (some (.ref g_CS_late_of))))
    (l_CS_late_of : @Eq _ (K.lookup g_CS_late_of) (some ⟨oc_CS_late_of, od_CS_late_of, .func (PySem.W.fnOf "late_of" "Setting.late_of" (defArgs s_Setting_late_of) (defBody s_Setting_late_of) (defScope s_Setting_late_of) .none kV_CS_late_of dc_CS_late_of pm_CS_late_of an_CS_late_of cd_CS_late_of ct_CS_late_of), sl_CS_late_of⟩))
    (c_CS_late_of : @Eq _ (PySem.W.codeIn K cd_CS_late_of "Setting.late_of") (true))
    (k_CS_late_of : @Eq _ (PySem.W.keepIn K (.ref g_CS_late_of)) (true))
    (i_CS_late_of : @Eq _ (PySem.W.isFn K (.ref g_CS_late_of)) (true))
    (a_CS_straight : @Eq _ (PySem.W.findIn K (.ref CS) "straight") (some (some (.ref g_CS_straight))))
    (l_CS_straight : @Eq _ (K.lookup g_CS_straight) (some ⟨oc_CS_straight, od_CS_straight, .func (PySem.W.fnOf "straight" "Setting.straight" (defArgs s_Setting_straight) (defBody s_Setting_straight) (defScope s_Setting_straight) .none kV_CS_straight dc_CS_straight pm_CS_straight an_CS_straight cd_CS_straight ct_CS_straight), sl_CS_straight⟩))
    (c_CS_straight : @Eq _ (PySem.W.codeIn K cd_CS_straight "Setting.straight") (true))
    (k_CS_straight : @Eq _ (PySem.W.keepIn K (.ref g_CS_straight)) (true))
    (i_CS_straight : @Eq _ (PySem.W.isFn K (.ref g_CS_straight)) (true))
    (a_CS_with_fee : @Eq _ (PySem.W.findIn K (.ref CS) "with_fee") (some (some (.ref g_CS_with_fee))))
    (l_CS_with_fee : @Eq _ (K.lookup g_CS_with_fee) (some ⟨oc_CS_with_fee, od_CS_with_fee, .func (PySem.W.fnOf "with_fee" "Setting.with_fee" (defArgs s_Setting_with_fee) (defBody s_Setting_with_fee) (defScope s_Setting_with_fee) .none kV_CS_with_fee dc_CS_with_fee pm_CS_with_fee an_CS_with_fee cd_CS_with_fee ct_CS_with_fee), sl_CS_with_fee⟩))
    (c_CS_with_fee : @Eq _ (PySem.W.codeIn K cd_CS_with_fee "Setting.with_fee") (true))
    (k_CS_with_fee : @Eq _ (PySem.W.keepIn K (.ref g_CS_with_fee)) (true))
    (i_CS_with_fee : @Eq _ (PySem.W.isFn K (.ref g_CS_with_fee)) (true))
    (pg_CS : @Eq _ (PySem.W.plainGet K CS Str.empty) (true))
    (hd_CS : @Eq _ (PySem.W.hasDictIn K CS) (true))
    (po_CS : @Eq _ (PySem.W.plainOver K CS) (true))
    (sa_CS : @Eq _ (PySem.W.findIn K (.ref CS) "__setattr__") (some (some (.builtin "object.__setattr__"))))
    (kc_CS : @Eq _ (PySem.W.keepIn K (.ref CS)) (true))
    (ya_CS : @Eq _ (PySem.W.findIn K (.ref CS) "__class__") (some (some (.builtin "object.__class__"))))
    (yd_CS : @Eq _ (PySem.W.mroIn K CS (.type "object")) (some true))
    (yk_CS : @Eq _ (PySem.W.kitOne K (.ref CS) (.ref CS)) (some true))
    (n_CS_crew : @Eq _ (PySem.W.findIn K (.ref CS) "crew") (some none))
    (n_CS_least : @Eq _ (PySem.W.findIn K (.ref CS) "least") (some none))
    (n_CS_most : @Eq _ (PySem.W.findIn K (.ref CS) "most") (some none))
    (n_CS_fee : @Eq _ (PySem.W.findIn K (.ref CS) "fee") (some none))
    (n_CS_own_slow : @Eq _ (PySem.W.findIn K (.ref CS) "own_slow") (some none))
    (n_CS_own_fast : @Eq _ (PySem.W.findIn K (.ref CS) "own_fast") (some none))
    (n_CS_lowest : @Eq _ (PySem.W.findIn K (.ref CS) "lowest") (some none))
    (mk_CQ : @Eq _ (PySem.W.makesIn K CQ) (true))
    (a_CQ : @Eq _ (PySem.W.nsIn K mainGlobals "Ratio") (some (some (.ref CQ))))
    (a_CQ___add__ : @Eq _ (PySem.W.findIn K (.ref CQ) "__add__") (some (some (.ref g_CQ___add__))))
    (l_CQ___add__ : @Eq _ (K.lookup g_CQ___add__) (some ⟨oc_CQ___add__, od_CQ___add__, .func (PySem.W.fnOf "__add__" "Ratio.__add__" (defArgs s_Ratio___add__) (defBody s_Ratio___add__) (defScope s_Ratio___add__) .none kV_CQ___add__ dc_CQ___add__ pm_CQ___add__ an_CQ___add__ cd_CQ___add__ ct_CQ___add__), sl_CQ___add__⟩))
    (c_CQ___add__ : @Eq _ (PySem.W.codeIn K cd_CQ___add__ "Ratio.__add__") (true))
    (k_CQ___add__ : @Eq _ (PySem.W.keepIn K (.ref g_CQ___add__)) (true))
    (i_CQ___add__ : @Eq _ (PySem.W.isFn K (.ref g_CQ___add__)) (true))
    (a_CQ___radd__ : @Eq _ (PySem.W.findIn K (.ref CQ) "__radd__") (some (some (.ref g_CQ___radd__))))
    (l_CQ___radd__ : @Eq _ (K.lookup g_CQ___radd__) (some ⟨oc_CQ___radd__, od_CQ___radd__, .func (PySem.W.fnOf "__radd__" "Ratio.__radd__" (defArgs s_Ratio___radd__) (defBody s_Ratio___radd__) (defScope s_Ratio___radd__) .none kV_CQ___radd__ dc_CQ___radd__ pm_CQ___radd__ an_CQ___radd__ cd_CQ___radd__ ct_CQ___radd__), sl_CQ___radd__⟩))
    (c_CQ___radd__ : @Eq _ (PySem.W.codeIn K cd_CQ___radd__ "Ratio.__radd__") (true))
    (k_CQ___radd__ : @Eq _ (PySem.W.keepIn K (.ref g_CQ___radd__)) (true))
    (i_CQ___radd__ : @Eq _ (PySem.W.isFn K (.ref g_CQ___radd__)) (true))
    (a_CQ___sub__ : @Eq _ (PySem.W.findIn K (.ref CQ) "__sub__") (some (some (.ref g_CQ___sub__))))
    (l_CQ___sub__ : @Eq _ (K.lookup g_CQ___sub__) (some ⟨oc_CQ___sub__, od_CQ___sub__, .func (PySem.W.fnOf "__sub__" "Ratio.__sub__" (defArgs s_Ratio___sub__) (defBody s_Ratio___sub__) (defScope s_Ratio___sub__) .none kV_CQ___sub__ dc_CQ___sub__ pm_CQ___sub__ an_CQ___sub__ cd_CQ___sub__ ct_CQ___sub__), sl_CQ___sub__⟩))
    (c_CQ___sub__ : @Eq _ (PySem.W.codeIn K cd_CQ___sub__ "Ratio.__sub__") (true))
    (k_CQ___sub__ : @Eq _ (PySem.W.keepIn K (.ref g_CQ___sub__)) (true))
    (i_CQ___sub__ : @Eq _ (PySem.W.isFn K (.ref g_CQ___sub__)) (true))
    (a_CQ___rsub__ : @Eq _ (PySem.W.findIn K (.ref CQ) "__rsub__") (some (some (.ref g_CQ___rsub__))))
    (l_CQ___rsub__ : @Eq _ (K.lookup g_CQ___rsub__) (some ⟨oc_CQ___rsub__, od_CQ___rsub__, .func (PySem.W.fnOf "__rsub__" "Ratio.__rsub__" (defArgs s_Ratio___rsub__) (defBody s_Ratio___rsub__) (defScope s_Ratio___rsub__) .none kV_CQ___rsub__ dc_CQ___rsub__ pm_CQ___rsub__ an_CQ___rsub__ cd_CQ___rsub__ ct_CQ___rsub__), sl_CQ___rsub__⟩))
    (c_CQ___rsub__ : @Eq _ (PySem.W.codeIn K cd_CQ___rsub__ "Ratio.__rsub__") (true))
    (k_CQ___rsub__ : @Eq _ (PySem.W.keepIn K (.ref g_CQ___rsub__)) (true))
    (i_CQ___rsub__ : @Eq _ (PySem.W.isFn K (.ref g_CQ___rsub__)) (true))
    (a_CQ___mul__ : @Eq _ (PySem.W.findIn K (.ref CQ) "__mul__") (some (some (.ref g_CQ___mul__))))
    (l_CQ___mul__ : @Eq _ (K.lookup g_CQ___mul__) (some ⟨oc_CQ___mul__, od_CQ___mul__, .func (PySem.W.fnOf "__mul__" "Ratio.__mul__" (defArgs s_Ratio___mul__) (defBody s_Ratio___mul__) (defScope s_Ratio___mul__) .none kV_CQ___mul__ dc_CQ___mul__ pm_CQ___mul__ an_CQ___mul__ cd_CQ___mul__ ct_CQ___mul__), sl_CQ___mul__⟩))
    (c_CQ___mul__ : @Eq _ (PySem.W.codeIn K cd_CQ___mul__ "Ratio.__mul__") (true))
    (k_CQ___mul__ : @Eq _ (PySem.W.keepIn K (.ref g_CQ___mul__)) (true))
    (i_CQ___mul__ : @Eq _ (PySem.W.isFn K (.ref g_CQ___mul__)) (true))
    (a_CQ___rmul__ : @Eq _ (PySem.W.findIn K (.ref CQ) "__rmul__") (some (some (.ref g_CQ___rmul__))))
    (l_CQ___rmul__ : @Eq _ (K.lookup g_CQ___rmul__) (some ⟨oc_CQ___rmul__, od_CQ___rmul__, .func (PySem.W.fnOf "__rmul__" "Ratio.__rmul__" (defArgs s_Ratio___rmul__) (defBody s_Ratio___rmul__) (defScope s_Ratio___rmul__) .none kV_CQ___rmul__ dc_CQ___rmul__ pm_CQ___rmul__ an_CQ___rmul__ cd_CQ___rmul__ ct_CQ___rmul__), sl_CQ___rmul__⟩))
    (c_CQ___rmul__ : @Eq _ (PySem.W.codeIn K cd_CQ___rmul__ "Ratio.__rmul__") (true))
    (k_CQ___rmul__ : @Eq _ (PySem.W.keepIn K (.ref g_CQ___rmul__)) (true))
    (i_CQ___rmul__ : @Eq _ (PySem.W.isFn K (.ref g_CQ___rmul__)) (true))
    (a_CQ___lt__ : @Eq _ (PySem.W.findIn K (.ref CQ) "__lt__") (some (some (.ref g_CQ___lt__))))
    (l_CQ___lt__ : @Eq _ (K.lookup g_CQ___lt__) (some ⟨oc_CQ___lt__, od_CQ___lt__, .func (PySem.W.fnOf "__lt__" "Ratio.__lt__" (defArgs s_Ratio___lt__) (defBody s_Ratio___lt__) (defScope s_Ratio___lt__) .none kV_CQ___lt__ dc_CQ___lt__ pm_CQ___lt__ an_CQ___lt__ cd_CQ___lt__ ct_CQ___lt__), sl_CQ___lt__⟩))
    (c_CQ___lt__ : @Eq _ (PySem.W.codeIn K cd_CQ___lt__ "Ratio.__lt__") (true))
    (k_CQ___lt__ : @Eq _ (PySem.W.keepIn K (.ref g_CQ___lt__)) (true))
    (i_CQ___lt__ : @Eq _ (PySem.W.isFn K (.ref g_CQ___lt__)) (true))
    (a_CQ___gt__ : @Eq _ (PySem.W.findIn K (.ref CQ) "__gt__") (some (some (.ref g_CQ___gt__))))
    (l_CQ___gt__ : @Eq _ (K.lookup g_CQ___gt__) (some ⟨oc_CQ___gt__, od_CQ___gt__, .func (PySem.W.fnOf "__gt__" "Ratio.__gt__" (defArgs s_Ratio___gt__) (defBody s_Ratio___gt__) (defScope s_Ratio___gt__) .none kV_CQ___gt__ dc_CQ___gt__ pm_CQ___gt__ an_CQ___gt__ cd_CQ___gt__ ct_CQ___gt__), sl_CQ___gt__⟩))
    (c_CQ___gt__ : @Eq _ (PySem.W.codeIn K cd_CQ___gt__ "Ratio.__gt__") (true))
    (k_CQ___gt__ : @Eq _ (PySem.W.keepIn K (.ref g_CQ___gt__)) (true))
    (i_CQ___gt__ : @Eq _ (PySem.W.isFn K (.ref g_CQ___gt__)) (true))
    (a_CQ___eq__ : @Eq _ (PySem.W.findIn K (.ref CQ) "__eq__") (some (some (.ref g_CQ___eq__))))
    (l_CQ___eq__ : @Eq _ (K.lookup g_CQ___eq__) (some ⟨oc_CQ___eq__, od_CQ___eq__, .func (PySem.W.fnOf "__eq__" "Ratio.__eq__" (defArgs s_Ratio___eq__) (defBody s_Ratio___eq__) (defScope s_Ratio___eq__) .none kV_CQ___eq__ dc_CQ___eq__ pm_CQ___eq__ an_CQ___eq__ cd_CQ___eq__ ct_CQ___eq__), sl_CQ___eq__⟩))
    (c_CQ___eq__ : @Eq _ (PySem.W.codeIn K cd_CQ___eq__ "Ratio.__eq__") (true))
    (k_CQ___eq__ : @Eq _ (PySem.W.keepIn K (.ref g_CQ___eq__)) (true))
    (i_CQ___eq__ : @Eq _ (PySem.W.isFn K (.ref g_CQ___eq__)) (true))
    (pg_CQ : @Eq _ (PySem.W.plainGet K CQ Str.empty) (true))
    (hd_CQ : @Eq _ (PySem.W.hasDictIn K CQ) (true))
    (po_CQ : @Eq _ (PySem.W.plainOver K CQ) (true))
    (sa_CQ : @Eq _ (PySem.W.findIn K (.ref CQ) "__setattr__") (some (some (.builtin "object.__setattr__"))))
    (kc_CQ : @Eq _ (PySem.W.keepIn K (.ref CQ)) (true))
    (ya_CQ : @Eq _ (PySem.W.findIn K (.ref CQ) "__class__") (some (some (.builtin "object.__class__"))))
    (yd_CQ : @Eq _ (PySem.W.mroIn K CQ (.type "object")) (some true))
    (yk_CQ : @Eq _ (PySem.W.kitOne K (.ref CQ) (.ref CQ)) (some true))
    (n_CQ_over : @Eq _ (PySem.W.findIn K (.ref CQ) "over") (some none))
    (n_CQ_under : @Eq _ (PySem.W.findIn K (.ref CQ) "under") (some none))
    (cf1_CQ : @Eq _ ((numTys.all fun T => PySem.W.notFirst K CQ (.type T))) (true))
    (cf2_CQ : @Eq _ (PySem.W.notFirst K CQ (.ref CQ)) (true))
    (cf3_CQ : @Eq _ ((numTys.all fun T => decide (PySem.W.subIn K (.ref CQ) (.type T) = some false))) (true))
    (cf5_CQ : @Eq _ (PySem.W.findIn K (.ref CQ) "__ne__") (some (some (.builtin "object.__ne__"))))
    (a_CT : @Eq _ (PySem.W.nsIn K mainGlobals "Batched") (some (some (.ref CT))))
    (a_CT___init__ : @Eq _ (PySem.W.findIn K (.ref CT) "__init__") (some (some (.ref g_CT___init__))))
    (l_CT___init__ : @Eq _ (K.lookup g_CT___init__) (some ⟨oc_CT___init__, od_CT___init__, .func (PySem.W.fnOf "__init__" "Batched.__init__" (defArgs s_Batched___init__) (defBody s_Batched___init__) (defScope s_Batched___init__) .none kV_CT___init__ dc_CT___init__ pm_CT___init__ an_CT___init__ cd_CT___init__ ct_CT___init__), sl_CT___init__⟩))
    (c_CT___init__ : @Eq _ (PySem.W.codeIn K cd_CT___init__ "Batched.__init__") (true))
    (k_CT___init__ : @Eq _ (PySem.W.keepIn K (.ref g_CT___init__)) (true))
    (i_CT___init__ : @Eq _ (PySem.W.isFn K (.ref g_CT___init__)) (true))
    (a_CT_batch_from : @Eq _ (PySem.W.findIn K (.ref CT) "batch_from") (some (some (.ref g_CT_batch_from))))
    (l_CT_batch_from : @Eq _ (K.lookup g_CT_batch_from) (some ⟨oc_CT_batch_from, od_CT_batch_from, .func (PySem.W.fnOf "batch_from" "Batched.batch_from" (defArgs s_Batched_batch_from) (defBody s_Batched_batch_from) (defScope s_Batched_batch_from) .none kV_CT_batch_from dc_CT_batch_from pm_CT_batch_from an_CT_batch_from cd_CT_batch_from ct_CT_batch_from), sl_CT_batch_from⟩))
    (c_CT_batch_from : @Eq _ (PySem.W.codeIn K cd_CT_batch_from "Batched.batch_from") (true))
    (k_CT_batch_from : @Eq _ (PySem.W.keepIn K (.ref g_CT_batch_from)) (true))
    (i_CT_batch_from : @Eq _ (PySem.W.isFn K (.ref g_CT_batch_from)) (true))
    (mk_CT : @Eq _ (PySem.W.makesIn K CT) (true))
    (pg_CT : @Eq _ (PySem.W.plainGet K CT Str.empty) (true))
    (hd_CT : @Eq _ (PySem.W.hasDictIn K CT) (true))
    (po_CT : @Eq _ (PySem.W.plainOver K CT) (true))
    (sa_CT : @Eq _ (PySem.W.findIn K (.ref CT) "__setattr__") (some (some (.builtin "object.__setattr__"))))
    (kc_CT : @Eq _ (PySem.W.keepIn K (.ref CT)) (true))
    (ya_CT : @Eq _ (PySem.W.findIn K (.ref CT) "__class__") (some (some (.builtin "object.__class__"))))
    (yd_CT : @Eq _ (PySem.W.mroIn K CT (.type "object")) (some true))
    (yk_CT : @Eq _ (PySem.W.kitOne K (.ref CT) (.ref CT)) (some true))
    (n_CT_many : @Eq _ (PySem.W.findIn K (.ref CT) "many") (some none))
    (n_CT_over : @Eq _ (PySem.W.findIn K (.ref CT) "over") (some none))
    (a_CB2 : @Eq _ (PySem.W.nsIn K mainGlobals "BatchBound") (some (some (.ref CB2))))
    (a_CB2___init__ : @Eq _ (PySem.W.findIn K (.ref CB2) "__init__") (some (some (.ref g_CB2___init__))))
    (l_CB2___init__ : @Eq _ (K.lookup g_CB2___init__) (some ⟨oc_CB2___init__, od_CB2___init__, .func (PySem.W.fnOf "__init__" "BatchBound.__init__" (defArgs s_BatchBound___init__) (defBody s_BatchBound___init__) (defScope s_BatchBound___init__) .none kV_CB2___init__ dc_CB2___init__ pm_CB2___init__ an_CB2___init__ cd_CB2___init__ ct_CB2___init__), sl_CB2___init__⟩))
    (c_CB2___init__ : @Eq _ (PySem.W.codeIn K cd_CB2___init__ "BatchBound.__init__") (true))
    (k_CB2___init__ : @Eq _ (PySem.W.keepIn K (.ref g_CB2___init__)) (true))
    (i_CB2___init__ : @Eq _ (PySem.W.isFn K (.ref g_CB2___init__)) (true))
    (mk_CB2 : @Eq _ (PySem.W.makesIn K CB2) (true))
    (pg_CB2 : @Eq _ (PySem.W.plainGet K CB2 Str.empty) (true))
    (hd_CB2 : @Eq _ (PySem.W.hasDictIn K CB2) (true))
    (po_CB2 : @Eq _ (PySem.W.plainOver K CB2) (true))
    (sa_CB2 : @Eq _ (PySem.W.findIn K (.ref CB2) "__setattr__") (some (some (.builtin "object.__setattr__"))))
    (kc_CB2 : @Eq _ (PySem.W.keepIn K (.ref CB2)) (true))
    (ya_CB2 : @Eq _ (PySem.W.findIn K (.ref CB2) "__class__") (some (some (.builtin "object.__class__"))))
    (yd_CB2 : @Eq _ (PySem.W.mroIn K CB2 (.type "object")) (some true))
    (yk_CB2 : @Eq _ (PySem.W.kitOne K (.ref CB2) (.ref CB2)) (some true))
    (n_CB2_late : @Eq _ (PySem.W.findIn K (.ref CB2) "late") (some none))
    (n_CB2_rest : @Eq _ (PySem.W.findIn K (.ref CB2) "rest") (some none))
    (n_CB2_spot : @Eq _ (PySem.W.findIn K (.ref CB2) "spot") (some none))
    (a_CE2 : @Eq _ (PySem.W.nsIn K mainGlobals "BatchEndless") (some (some (.ref CE2))))
    (a_CE2___init__ : @Eq _ (PySem.W.findIn K (.ref CE2) "__init__") (some (some (.ref g_CE2___init__))))
    (l_CE2___init__ : @Eq _ (K.lookup g_CE2___init__) (some ⟨oc_CE2___init__, od_CE2___init__, .func (PySem.W.fnOf "__init__" "BatchEndless.__init__" (defArgs s_BatchEndless___init__) (defBody s_BatchEndless___init__) (defScope s_BatchEndless___init__) .none kV_CE2___init__ dc_CE2___init__ pm_CE2___init__ an_CE2___init__ cd_CE2___init__ ct_CE2___init__), sl_CE2___init__⟩))
    (c_CE2___init__ : @Eq _ (PySem.W.codeIn K cd_CE2___init__ "BatchEndless.__init__") (true))
    (k_CE2___init__ : @Eq _ (PySem.W.keepIn K (.ref g_CE2___init__)) (true))
    (i_CE2___init__ : @Eq _ (PySem.W.isFn K (.ref g_CE2___init__)) (true))
    (mk_CE2 : @Eq _ (PySem.W.makesIn K CE2) (true))
    (pg_CE2 : @Eq _ (PySem.W.plainGet K CE2 Str.empty) (true))
    (hd_CE2 : @Eq _ (PySem.W.hasDictIn K CE2) (true))
    (po_CE2 : @Eq _ (PySem.W.plainOver K CE2) (true))
    (sa_CE2 : @Eq _ (PySem.W.findIn K (.ref CE2) "__setattr__") (some (some (.builtin "object.__setattr__"))))
    (kc_CE2 : @Eq _ (PySem.W.keepIn K (.ref CE2)) (true))
    (ya_CE2 : @Eq _ (PySem.W.findIn K (.ref CE2) "__class__") (some (some (.builtin "object.__class__"))))
    (yd_CE2 : @Eq _ (PySem.W.mroIn K CE2 (.type "object")) (some true))
    (yk_CE2 : @Eq _ (PySem.W.kitOne K (.ref CE2) (.ref CE2)) (some true))
    (n_CE2_spot : @Eq _ (PySem.W.findIn K (.ref CE2) "spot") (some none))
    (n_CE2_rise : @Eq _ (PySem.W.findIn K (.ref CE2) "rise") (some none))
    (a_CD : @Eq _ (PySem.W.nsIn K mainGlobals "Divided") (some (some (.ref CD))))
    (a_CD___init__ : @Eq _ (PySem.W.findIn K (.ref CD) "__init__") (some (some (.ref g_CD___init__))))
    (l_CD___init__ : @Eq _ (K.lookup g_CD___init__) (some ⟨oc_CD___init__, od_CD___init__, .func (PySem.W.fnOf "__init__" "Divided.__init__" (defArgs s_Divided___init__) (defBody s_Divided___init__) (defScope s_Divided___init__) .none kV_CD___init__ dc_CD___init__ pm_CD___init__ an_CD___init__ cd_CD___init__ ct_CD___init__), sl_CD___init__⟩))
    (c_CD___init__ : @Eq _ (PySem.W.codeIn K cd_CD___init__ "Divided.__init__") (true))
    (k_CD___init__ : @Eq _ (PySem.W.keepIn K (.ref g_CD___init__)) (true))
    (i_CD___init__ : @Eq _ (PySem.W.isFn K (.ref g_CD___init__)) (true))
    (mk_CD : @Eq _ (PySem.W.makesIn K CD) (true))
    (pg_CD : @Eq _ (PySem.W.plainGet K CD Str.empty) (true))
    (hd_CD : @Eq _ (PySem.W.hasDictIn K CD) (true))
    (po_CD : @Eq _ (PySem.W.plainOver K CD) (true))
    (sa_CD : @Eq _ (PySem.W.findIn K (.ref CD) "__setattr__") (some (some (.builtin "object.__setattr__"))))
    (kc_CD : @Eq _ (PySem.W.keepIn K (.ref CD)) (true))
    (ya_CD : @Eq _ (PySem.W.findIn K (.ref CD) "__class__") (some (some (.builtin "object.__class__"))))
    (yd_CD : @Eq _ (PySem.W.mroIn K CD (.type "object")) (some true))
    (yk_CD : @Eq _ (PySem.W.kitOne K (.ref CD) (.ref CD)) (some true))
    (n_CD_x : @Eq _ (PySem.W.findIn K (.ref CD) "x") (some none))
    (n_CD_y : @Eq _ (PySem.W.findIn K (.ref CD) "y") (some none))
    (n_CD_w : @Eq _ (PySem.W.findIn K (.ref CD) "w") (some none))
    (n_CD_parts : @Eq _ (PySem.W.findIn K (.ref CD) "parts") (some none))
    (n_CD_modulus : @Eq _ (PySem.W.findIn K (.ref CD) "modulus") (some none))
    (a_CRl : @Eq _ (PySem.W.nsIn K mainGlobals "Rule") (some (some (.ref CRl))))
    (a_CS___init__ : @Eq _ (PySem.W.findIn K (.ref CS) "__init__") (some (some (.ref g_CS___init__))))
    (l_CS___init__ : @Eq _ (K.lookup g_CS___init__) (some ⟨oc_CS___init__, od_CS___init__, .func (PySem.W.fnOf "__init__" "Setting.__init__" (defArgs s_Setting___init__) (defBody s_Setting___init__) (defScope s_Setting___init__) (.ref T_CS___init__) kV_CS___init__ dc_CS___init__ pm_CS___init__ an_CS___init__ cd_CS___init__ ct_CS___init__), sl_CS___init__⟩))
    (c_CS___init__ : @Eq _ (PySem.W.codeIn K cd_CS___init__ "Setting.__init__") (true))
    (k_CS___init__ : @Eq _ (PySem.W.keepIn K (.ref g_CS___init__)) (true))
    (i_CS___init__ : @Eq _ (PySem.W.isFn K (.ref g_CS___init__)) (true))
    (lT_CS___init__ : @Eq _ (K.lookup T_CS___init__) (some ⟨ocT_CS___init__, odT_CS___init__, .seq #[.int 1 t_CS___init__0, .int 1 t_CS___init__1, .int 0 t_CS___init__2] nT_CS___init__, slT_CS___init__⟩))
    (sf_CW_even : @Eq _ (PySem.W.findCls K (.ref CW) (.type "type") "even") (some (.get (.builtin "staticmethod.__get__") (.ref p_CW_even) .none (.ref CW))))
    (sc_CW_even : @Eq _ (PySem.W.recIn K p_CW_even "staticmethod") (some (.ref g_CW_even :: rest_CW_even)))
    (l_CW_even : @Eq _ (K.lookup g_CW_even) (some ⟨oc_CW_even, od_CW_even, .func (PySem.W.fnOf "even" "Crew.even" (defArgs s_Crew_even) (defBody s_Crew_even) (defScope s_Crew_even) (.ref T_CW_even) kV_CW_even dc_CW_even pm_CW_even an_CW_even cd_CW_even ct_CW_even), sl_CW_even⟩))
    (c_CW_even : @Eq _ (PySem.W.codeIn K cd_CW_even "Crew.even") (true))
    (k_CW_even : @Eq _ (PySem.W.keepIn K (.ref g_CW_even)) (true))
    (lT_CW_even : @Eq _ (K.lookup T_CW_even) (some ⟨ocT_CW_even, odT_CW_even, .seq #[.int 1 t_CW_even0] nT_CW_even, slT_CW_even⟩))
    (a_CQ___init__ : @Eq _ (PySem.W.findIn K (.ref CQ) "__init__") (some (some (.ref g_CQ___init__))))
    (l_CQ___init__ : @Eq _ (K.lookup g_CQ___init__) (some ⟨oc_CQ___init__, od_CQ___init__, .func (PySem.W.fnOf "__init__" "Ratio.__init__" (defArgs s_Ratio___init__) (defBody s_Ratio___init__) (defScope s_Ratio___init__) (.ref T_CQ___init__) kV_CQ___init__ dc_CQ___init__ pm_CQ___init__ an_CQ___init__ cd_CQ___init__ ct_CQ___init__), sl_CQ___init__⟩))
    (c_CQ___init__ : @Eq _ (PySem.W.codeIn K cd_CQ___init__ "Ratio.__init__") (true))
    (k_CQ___init__ : @Eq _ (PySem.W.keepIn K (.ref g_CQ___init__)) (true))
    (i_CQ___init__ : @Eq _ (PySem.W.isFn K (.ref g_CQ___init__)) (true))
    (lT_CQ___init__ : @Eq _ (K.lookup T_CQ___init__) (some ⟨ocT_CQ___init__, odT_CQ___init__, .seq #[.int 1 t_CQ___init__0] nT_CQ___init__, slT_CQ___init__⟩))
    (a_CL : @Eq _ (PySem.W.nsIn K mainGlobals "LateError") (some (some (.ref CL))))
    (aZB : @Eq _ (PySem.W.nsIn K mainGlobals "BadSize") (some (some (.ref CB))))
    (iZB : @Eq _ (PySem.W.findIn K (.ref CB) "__init__") (some (some (.ref fZB))))
    (tZB : @Eq _ (PySem.W.typeIn K (.ref fZB)) (some (.type "function")))
    (lZB : @Eq _ (K.lookup fZB) (some ⟨ocZB, odZB, .func (PySem.W.fnX "__init__" "BadSize.__init__" (defArgs s_BadSize___init__) (defBody s_BadSize___init__) (defScope s_BadSize___init__) [("__class__", ccZB)] .none kVZB dcZB pmZB anZB (.ref cdZB) ctZB), slZB⟩))
    (cZB : @Eq _ (PySem.W.codeIn K (.ref cdZB) "BadSize.__init__") (true))
    (eZB : exD K CB)
    (sZB : @Eq _ (PySem.W.findIn K (.ref CB) "__setattr__") (some (some (.builtin "object.__setattr__"))))
    (xZB : @Eq _ (PySem.W.subIn K (.ref CB) (.type "BaseException")) (some true))
    (yZB : @Eq _ (PySem.W.typeIn K (.ref CB)) (some (.type "type")))
    (kZB : @Eq _ (PySem.W.keepIn K (.ref CB)) (true))
    (qZB : @Eq _ (K.lookup ccZB) (some ⟨clZB, cldZB, .cell (some (.ref CB)), cslZB⟩))
    (uZB : @Eq _ (K.lookup cdZB) (some ⟨cclZB, cddZB, .fields vsZB, ccsZB⟩))
    (vZB : v2D vsZB fileZB tfZB)
    (wZB : w2D l fileZB)
    (mZB : @Eq _ (PySem.W.mroIn K CB (.ref CB)) (some true))
    (pZB : @Eq _ (PySem.W.ks_superIn K CB CB "__init__") (some (some (.builtin "ValueError.__init__"))))
    (bZB : @Eq _ (PySem.W.subIn K (.ref CB) (.type "ValueError")) (some true))
    (zS : @Eq _ (PySem.W.nsIn K mainGlobals "super") (some none))
    (tS : @Eq _ ((l.prog.main.scope.names.lookup ("super" : Str)).isSome) (false))
    (oB : @Eq _ (PySem.W.nsIn K cStatics "thirdparty.any") (some none))
    (nZB_value : @Eq _ (PySem.W.findIn K (.ref CB) "value") (some none))
    (gZB : @Eq _ (PySem.W.findIn K (.ref CB) "__getattribute__") (some (some (.builtin "BaseException.__getattribute__"))))
    (hZB : @Eq _ (PySem.W.findIn K (.ref CB) "__getattr__") (some none))
    (dZB : @Eq _ (PySem.W.hasDictIn K CB) (true))
    (jZB : @Eq _ (PySem.W.findIn K (.ref CB) "__class__") (some (some (.builtin "object.__class__"))))
    (rZB : @Eq _ (PySem.W.mroIn K CB (.type "object")) (some true))
    (k1ZB : @Eq _ (PySem.W.kitOne K (.ref CB) (.ref CB)) (some true))
    (emZB : @Eq _ (PySem.W.exmOne K (.ref CB) (.ref CL)) (some true))
    (kVZB : @Eq _ (PySem.W.kitOne K (.ref CB) (.type "ValueError")) (some true))
    (aZC : @Eq _ (PySem.W.nsIn K mainGlobals "BadChunks") (some (some (.ref CC))))
    (iZC : @Eq _ (PySem.W.findIn K (.ref CC) "__init__") (some (some (.ref fZC))))
    (tZC : @Eq _ (PySem.W.typeIn K (.ref fZC)) (some (.type "function")))
    (lZC : @Eq _ (K.lookup fZC) (some ⟨ocZC, odZC, .func (PySem.W.fnX "__init__" "BadChunks.__init__" (defArgs s_BadChunks___init__) (defBody s_BadChunks___init__) (defScope s_BadChunks___init__) [("__class__", ccZC)] .none kVZC dcZC pmZC anZC (.ref cdZC) ctZC), slZC⟩))
    (cZC : @Eq _ (PySem.W.codeIn K (.ref cdZC) "BadChunks.__init__") (true))
    (eZC : exD K CC)
    (sZC : @Eq _ (PySem.W.findIn K (.ref CC) "__setattr__") (some (some (.builtin "object.__setattr__"))))
    (xZC : @Eq _ (PySem.W.subIn K (.ref CC) (.type "BaseException")) (some true))
    (yZC : @Eq _ (PySem.W.typeIn K (.ref CC)) (some (.type "type")))
    (kZC : @Eq _ (PySem.W.keepIn K (.ref CC)) (true))
    (qZC : @Eq _ (K.lookup ccZC) (some ⟨clZC, cldZC, .cell (some (.ref CC)), cslZC⟩))
    (uZC : @Eq _ (K.lookup cdZC) (some ⟨cclZC, cddZC, .fields vsZC, ccsZC⟩))
    (vZC : v2D vsZC fileZC tfZC)
    (wZC : w2D l fileZC)
    (mZC : @Eq _ (PySem.W.mroIn K CC (.ref CC)) (some true))
    (pZC : @Eq _ (PySem.W.ks_superIn K CC CC "__init__") (some (some (.builtin "ValueError.__init__"))))
    (bZC : @Eq _ (PySem.W.subIn K (.ref CC) (.type "ValueError")) (some true))
    (nZC_part : @Eq _ (PySem.W.findIn K (.ref CC) "part") (some none))
    (gZC : @Eq _ (PySem.W.findIn K (.ref CC) "__getattribute__") (some (some (.builtin "BaseException.__getattribute__"))))
    (hZC : @Eq _ (PySem.W.findIn K (.ref CC) "__getattr__") (some none))
    (dZC : @Eq _ (PySem.W.hasDictIn K CC) (true))
    (jZC : @Eq _ (PySem.W.findIn K (.ref CC) "__class__") (some (some (.builtin "object.__class__"))))
    (rZC : @Eq _ (PySem.W.mroIn K CC (.type "object")) (some true))
    (k1ZC : @Eq _ (PySem.W.kitOne K (.ref CC) (.ref CC)) (some true))
    (emZC : @Eq _ (PySem.W.exmOne K (.ref CC) (.ref CL)) (some true))
    (kVZC : @Eq _ (PySem.W.kitOne K (.ref CC) (.type "ValueError")) (some true))
    (aZM : @Eq _ (PySem.W.nsIn K mainGlobals "TooMany") (some (some (.ref CM))))
    (iZM : @Eq _ (PySem.W.findIn K (.ref CM) "__init__") (some (some (.ref fZM))))
    (tZM : @Eq _ (PySem.W.typeIn K (.ref fZM)) (some (.type "function")))
    (lZM : @Eq _ (K.lookup fZM) (some ⟨ocZM, odZM, .func (PySem.W.fnX "__init__" "TooMany.__init__" (defArgs s_TooMany___init__) (defBody s_TooMany___init__) (defScope s_TooMany___init__) [("__class__", ccZM)] .none kVZM dcZM pmZM anZM (.ref cdZM) ctZM), slZM⟩))
    (cZM : @Eq _ (PySem.W.codeIn K (.ref cdZM) "TooMany.__init__") (true))
    (eZM : exD K CM)
    (sZM : @Eq _ (PySem.W.findIn K (.ref CM) "__setattr__") (some (some (.builtin "object.__setattr__"))))
    (xZM : @Eq _ (PySem.W.subIn K (.ref CM) (.type "BaseException")) (some true))
    (yZM : @Eq _ (PySem.W.typeIn K (.ref CM)) (some (.type "type")))
    (kZM : @Eq _ (PySem.W.keepIn K (.ref CM)) (true))
    (qZM : @Eq _ (K.lookup ccZM) (some ⟨clZM, cldZM, .cell (some (.ref CM)), cslZM⟩))
    (uZM : @Eq _ (K.lookup cdZM) (some ⟨cclZM, cddZM, .fields vsZM, ccsZM⟩))
    (vZM : v2D vsZM fileZM tfZM)
    (wZM : w2D l fileZM)
    (mZM : @Eq _ (PySem.W.mroIn K CM (.ref CM)) (some true))
    (pZM : @Eq _ (PySem.W.ks_superIn K CM CM "__init__") (some (some (.builtin "ValueError.__init__"))))
    (bZM : @Eq _ (PySem.W.subIn K (.ref CM) (.type "ValueError")) (some true))
    (nZM_what : @Eq _ (PySem.W.findIn K (.ref CM) "what") (some none))
    (nZM_most : @Eq _ (PySem.W.findIn K (.ref CM) "most") (some none))
    (gZM : @Eq _ (PySem.W.findIn K (.ref CM) "__getattribute__") (some (some (.builtin "BaseException.__getattribute__"))))
    (hZM : @Eq _ (PySem.W.findIn K (.ref CM) "__getattr__") (some none))
    (dZM : @Eq _ (PySem.W.hasDictIn K CM) (true))
    (jZM : @Eq _ (PySem.W.findIn K (.ref CM) "__class__") (some (some (.builtin "object.__class__"))))
    (rZM : @Eq _ (PySem.W.mroIn K CM (.type "object")) (some true))
    (k1ZM : @Eq _ (PySem.W.kitOne K (.ref CM) (.ref CM)) (some true))
    (emZM : @Eq _ (PySem.W.exmOne K (.ref CM) (.ref CL)) (some true))
    (kVZM : @Eq _ (PySem.W.kitOne K (.ref CM) (.type "ValueError")) (some true))
    (aZNa : @Eq _ (PySem.W.nsIn K mainGlobals "BadName") (some (some (.ref BN))))
    (iZNa : @Eq _ (PySem.W.findIn K (.ref BN) "__init__") (some (some (.ref fZNa))))
    (tZNa : @Eq _ (PySem.W.typeIn K (.ref fZNa)) (some (.type "function")))
    (lZNa : @Eq _ (K.lookup fZNa) (some ⟨ocZNa, odZNa, .func (PySem.W.fnX "__init__" "BadName.__init__" (defArgs s_BadName___init__) (defBody s_BadName___init__) (defScope s_BadName___init__) [("__class__", ccZNa)] .none kVZNa dcZNa pmZNa anZNa (.ref cdZNa) ctZNa), slZNa⟩))
    (cZNa : @Eq _ (PySem.W.codeIn K (.ref cdZNa) "BadName.__init__") (true))
    (eZNa : exD K BN)
    (sZNa : @Eq _ (PySem.W.findIn K (.ref BN) "__setattr__") (some (some (.builtin "object.__setattr__"))))
    (xZNa : @Eq _ (PySem.W.subIn K (.ref BN) (.type "BaseException")) (some true))
    (yZNa : @Eq _ (PySem.W.typeIn K (.ref BN)) (some (.type "type")))
    (kZNa : @Eq _ (PySem.W.keepIn K (.ref BN)) (true))
    (qZNa : @Eq _ (K.lookup ccZNa) (some ⟨clZNa, cldZNa, .cell (some (.ref BN)), cslZNa⟩))
    (uZNa : @Eq _ (K.lookup cdZNa) (some ⟨cclZNa, cddZNa, .fields vsZNa, ccsZNa⟩))
    (vZNa : v2D vsZNa fileZNa tfZNa)
    (wZNa : w2D l fileZNa)
    (mZNa : @Eq _ (PySem.W.mroIn K BN (.ref BN)) (some true))
    (pZNa : @Eq _ (PySem.W.ks_superIn K BN BN "__init__") (some (some (.builtin "ValueError.__init__"))))
    (bZNa : @Eq _ (PySem.W.subIn K (.ref BN) (.type "ValueError")) (some true))
    (nZNa_value : @Eq _ (PySem.W.findIn K (.ref BN) "value") (some none))
    (gZNa : @Eq _ (PySem.W.findIn K (.ref BN) "__getattribute__") (some (some (.builtin "BaseException.__getattribute__"))))
    (hZNa : @Eq _ (PySem.W.findIn K (.ref BN) "__getattr__") (some none))
    (dZNa : @Eq _ (PySem.W.hasDictIn K BN) (true))
    (jZNa : @Eq _ (PySem.W.findIn K (.ref BN) "__class__") (some (some (.builtin "object.__class__"))))
    (rZNa : @Eq _ (PySem.W.mroIn K BN (.type "object")) (some true))
    (k1ZNa : @Eq _ (PySem.W.kitOne K (.ref BN) (.ref BN)) (some true))
    (emZNa : @Eq _ (PySem.W.exmOne K (.ref BN) (.ref CL)) (some true))
    (kVZNa : @Eq _ (PySem.W.kitOne K (.ref BN) (.type "ValueError")) (some true))
    (aZSp : @Eq _ (PySem.W.nsIn K mainGlobals "BadSpeed") (some (some (.ref BS))))
    (iZSp : @Eq _ (PySem.W.findIn K (.ref BS) "__init__") (some (some (.ref fZSp))))
    (tZSp : @Eq _ (PySem.W.typeIn K (.ref fZSp)) (some (.type "function")))
    (lZSp : @Eq _ (K.lookup fZSp) (some ⟨ocZSp, odZSp, .func (PySem.W.fnX "__init__" "BadSpeed.__init__" (defArgs s_BadSpeed___init__) (defBody s_BadSpeed___init__) (defScope s_BadSpeed___init__) [("__class__", ccZSp)] .none kVZSp dcZSp pmZSp anZSp (.ref cdZSp) ctZSp), slZSp⟩))
    (cZSp : @Eq _ (PySem.W.codeIn K (.ref cdZSp) "BadSpeed.__init__") (true))
    (eZSp : exD K BS)
    (sZSp : @Eq _ (PySem.W.findIn K (.ref BS) "__setattr__") (some (some (.builtin "object.__setattr__"))))
    (xZSp : @Eq _ (PySem.W.subIn K (.ref BS) (.type "BaseException")) (some true))
    (yZSp : @Eq _ (PySem.W.typeIn K (.ref BS)) (some (.type "type")))
    (kZSp : @Eq _ (PySem.W.keepIn K (.ref BS)) (true))
    (qZSp : @Eq _ (K.lookup ccZSp) (some ⟨clZSp, cldZSp, .cell (some (.ref BS)), cslZSp⟩))
    (uZSp : @Eq _ (K.lookup cdZSp) (some ⟨cclZSp, cddZSp, .fields vsZSp, ccsZSp⟩))
    (vZSp : v2D vsZSp fileZSp tfZSp)
    (wZSp : w2D l fileZSp)
    (mZSp : @Eq _ (PySem.W.mroIn K BS (.ref BS)) (some true))
    (pZSp : @Eq _ (PySem.W.ks_superIn K BS BS "__init__") (some (some (.builtin "ValueError.__init__"))))
    (bZSp : @Eq _ (PySem.W.subIn K (.ref BS) (.type "ValueError")) (some true))
    (nZSp_value : @Eq _ (PySem.W.findIn K (.ref BS) "value") (some none))
    (gZSp : @Eq _ (PySem.W.findIn K (.ref BS) "__getattribute__") (some (some (.builtin "BaseException.__getattribute__"))))
    (hZSp : @Eq _ (PySem.W.findIn K (.ref BS) "__getattr__") (some none))
    (dZSp : @Eq _ (PySem.W.hasDictIn K BS) (true))
    (jZSp : @Eq _ (PySem.W.findIn K (.ref BS) "__class__") (some (some (.builtin "object.__class__"))))
    (rZSp : @Eq _ (PySem.W.mroIn K BS (.type "object")) (some true))
    (k1ZSp : @Eq _ (PySem.W.kitOne K (.ref BS) (.ref BS)) (some true))
    (emZSp : @Eq _ (PySem.W.exmOne K (.ref BS) (.ref CL)) (some true))
    (kVZSp : @Eq _ (PySem.W.kitOne K (.ref BS) (.type "ValueError")) (some true))
    (aZCr : @Eq _ (PySem.W.nsIn K mainGlobals "BadCrew") (some (some (.ref BW))))
    (iZCr : @Eq _ (PySem.W.findIn K (.ref BW) "__init__") (some (some (.ref fZCr))))
    (tZCr : @Eq _ (PySem.W.typeIn K (.ref fZCr)) (some (.type "function")))
    (lZCr : @Eq _ (K.lookup fZCr) (some ⟨ocZCr, odZCr, .func (PySem.W.fnX "__init__" "BadCrew.__init__" (defArgs s_BadCrew___init__) (defBody s_BadCrew___init__) (defScope s_BadCrew___init__) [("__class__", ccZCr)] .none kVZCr dcZCr pmZCr anZCr (.ref cdZCr) ctZCr), slZCr⟩))
    (cZCr : @Eq _ (PySem.W.codeIn K (.ref cdZCr) "BadCrew.__init__") (true))
    (eZCr : exD K BW)
    (sZCr : @Eq _ (PySem.W.findIn K (.ref BW) "__setattr__") (some (some (.builtin "object.__setattr__"))))
    (xZCr : @Eq _ (PySem.W.subIn K (.ref BW) (.type "BaseException")) (some true))
    (yZCr : @Eq _ (PySem.W.typeIn K (.ref BW)) (some (.type "type")))
    (kZCr : @Eq _ (PySem.W.keepIn K (.ref BW)) (true))
    (qZCr : @Eq _ (K.lookup ccZCr) (some ⟨clZCr, cldZCr, .cell (some (.ref BW)), cslZCr⟩))
    (uZCr : @Eq _ (K.lookup cdZCr) (some ⟨cclZCr, cddZCr, .fields vsZCr, ccsZCr⟩))
    (vZCr : v2D vsZCr fileZCr tfZCr)
    (wZCr : w2D l fileZCr)
    (mZCr : @Eq _ (PySem.W.mroIn K BW (.ref BW)) (some true))
    (pZCr : @Eq _ (PySem.W.ks_superIn K BW BW "__init__") (some (some (.builtin "ValueError.__init__"))))
    (bZCr : @Eq _ (PySem.W.subIn K (.ref BW) (.type "ValueError")) (some true))
    (nZCr_part : @Eq _ (PySem.W.findIn K (.ref BW) "part") (some none))
    (gZCr : @Eq _ (PySem.W.findIn K (.ref BW) "__getattribute__") (some (some (.builtin "BaseException.__getattribute__"))))
    (hZCr : @Eq _ (PySem.W.findIn K (.ref BW) "__getattr__") (some none))
    (dZCr : @Eq _ (PySem.W.hasDictIn K BW) (true))
    (jZCr : @Eq _ (PySem.W.findIn K (.ref BW) "__class__") (some (some (.builtin "object.__class__"))))
    (rZCr : @Eq _ (PySem.W.mroIn K BW (.type "object")) (some true))
    (k1ZCr : @Eq _ (PySem.W.kitOne K (.ref BW) (.ref BW)) (some true))
    (emZCr : @Eq _ (PySem.W.exmOne K (.ref BW) (.ref CL)) (some true))
    (kVZCr : @Eq _ (PySem.W.kitOne K (.ref BW) (.type "ValueError")) (some true))
    (aZNw : @Eq _ (PySem.W.nsIn K mainGlobals "NoWorker") (some (some (.ref NW))))
    (iZNw : @Eq _ (PySem.W.findIn K (.ref NW) "__init__") (some (some (.ref fZNw))))
    (tZNw : @Eq _ (PySem.W.typeIn K (.ref fZNw)) (some (.type "function")))
    (lZNw : @Eq _ (K.lookup fZNw) (some ⟨ocZNw, odZNw, .func (PySem.W.fnX "__init__" "NoWorker.__init__" (defArgs s_NoWorker___init__) (defBody s_NoWorker___init__) (defScope s_NoWorker___init__) [("__class__", ccZNw)] .none kVZNw dcZNw pmZNw anZNw (.ref cdZNw) ctZNw), slZNw⟩))
    (cZNw : @Eq _ (PySem.W.codeIn K (.ref cdZNw) "NoWorker.__init__") (true))
    (eZNw : exD K NW)
    (sZNw : @Eq _ (PySem.W.findIn K (.ref NW) "__setattr__") (some (some (.builtin "object.__setattr__"))))
    (xZNw : @Eq _ (PySem.W.subIn K (.ref NW) (.type "BaseException")) (some true))
    (yZNw : @Eq _ (PySem.W.typeIn K (.ref NW)) (some (.type "type")))
    (kZNw : @Eq _ (PySem.W.keepIn K (.ref NW)) (true))
    (qZNw : @Eq _ (K.lookup ccZNw) (some ⟨clZNw, cldZNw, .cell (some (.ref NW)), cslZNw⟩))
    (uZNw : @Eq _ (K.lookup cdZNw) (some ⟨cclZNw, cddZNw, .fields vsZNw, ccsZNw⟩))
    (vZNw : v2D vsZNw fileZNw tfZNw)
    (wZNw : w2D l fileZNw)
    (mZNw : @Eq _ (PySem.W.mroIn K NW (.ref NW)) (some true))
    (pZNw : @Eq _ (PySem.W.ks_superIn K NW NW "__init__") (some (some (.builtin "ValueError.__init__"))))
    (bZNw : @Eq _ (PySem.W.subIn K (.ref NW) (.type "ValueError")) (some true))
    (nZNw_name : @Eq _ (PySem.W.findIn K (.ref NW) "name") (some none))
    (gZNw : @Eq _ (PySem.W.findIn K (.ref NW) "__getattribute__") (some (some (.builtin "BaseException.__getattribute__"))))
    (hZNw : @Eq _ (PySem.W.findIn K (.ref NW) "__getattr__") (some none))
    (dZNw : @Eq _ (PySem.W.hasDictIn K NW) (true))
    (jZNw : @Eq _ (PySem.W.findIn K (.ref NW) "__class__") (some (some (.builtin "object.__class__"))))
    (rZNw : @Eq _ (PySem.W.mroIn K NW (.type "object")) (some true))
    (k1ZNw : @Eq _ (PySem.W.kitOne K (.ref NW) (.ref NW)) (some true))
    (emZNw : @Eq _ (PySem.W.exmOne K (.ref NW) (.ref CL)) (some true))
    (kVZNw : @Eq _ (PySem.W.kitOne K (.ref NW) (.type "ValueError")) (some true))
    (aZQ : @Eq _ (PySem.W.nsIn K mainGlobals "BadRatio") (some (some (.ref BR))))
    (iZQ : @Eq _ (PySem.W.findIn K (.ref BR) "__init__") (some (some (.ref fZQ))))
    (tZQ : @Eq _ (PySem.W.typeIn K (.ref fZQ)) (some (.type "function")))
    (lZQ : @Eq _ (K.lookup fZQ) (some ⟨ocZQ, odZQ, .func (PySem.W.fnX "__init__" "BadRatio.__init__" (defArgs s_BadRatio___init__) (defBody s_BadRatio___init__) (defScope s_BadRatio___init__) [("__class__", ccZQ)] .none kVZQ dcZQ pmZQ anZQ (.ref cdZQ) ctZQ), slZQ⟩))
    (cZQ : @Eq _ (PySem.W.codeIn K (.ref cdZQ) "BadRatio.__init__") (true))
    (eZQ : exD K BR)
    (sZQ : @Eq _ (PySem.W.findIn K (.ref BR) "__setattr__") (some (some (.builtin "object.__setattr__"))))
    (xZQ : @Eq _ (PySem.W.subIn K (.ref BR) (.type "BaseException")) (some true))
    (yZQ : @Eq _ (PySem.W.typeIn K (.ref BR)) (some (.type "type")))
    (kZQ : @Eq _ (PySem.W.keepIn K (.ref BR)) (true))
    (qZQ : @Eq _ (K.lookup ccZQ) (some ⟨clZQ, cldZQ, .cell (some (.ref BR)), cslZQ⟩))
    (uZQ : @Eq _ (K.lookup cdZQ) (some ⟨cclZQ, cddZQ, .fields vsZQ, ccsZQ⟩))
    (vZQ : v2D vsZQ fileZQ tfZQ)
    (wZQ : w2D l fileZQ)
    (mZQ : @Eq _ (PySem.W.mroIn K BR (.ref BR)) (some true))
    (pZQ : @Eq _ (PySem.W.ks_superIn K BR BR "__init__") (some (some (.builtin "ValueError.__init__"))))
    (bZQ : @Eq _ (PySem.W.subIn K (.ref BR) (.type "ValueError")) (some true))
    (nZQ_value : @Eq _ (PySem.W.findIn K (.ref BR) "value") (some none))
    (gZQ : @Eq _ (PySem.W.findIn K (.ref BR) "__getattribute__") (some (some (.builtin "BaseException.__getattribute__"))))
    (hZQ : @Eq _ (PySem.W.findIn K (.ref BR) "__getattr__") (some none))
    (dZQ : @Eq _ (PySem.W.hasDictIn K BR) (true))
    (jZQ : @Eq _ (PySem.W.findIn K (.ref BR) "__class__") (some (some (.builtin "object.__class__"))))
    (rZQ : @Eq _ (PySem.W.mroIn K BR (.type "object")) (some true))
    (k1ZQ : @Eq _ (PySem.W.kitOne K (.ref BR) (.ref BR)) (some true))
    (emZQ : @Eq _ (PySem.W.exmOne K (.ref BR) (.ref CL)) (some true))
    (kVZQ : @Eq _ (PySem.W.kitOne K (.ref BR) (.type "ValueError")) (some true))
    (aZRe : @Eq _ (PySem.W.nsIn K mainGlobals "BadRest") (some (some (.ref BE))))
    (iZRe : @Eq _ (PySem.W.findIn K (.ref BE) "__init__") (some (some (.ref fZRe))))
    (tZRe : @Eq _ (PySem.W.typeIn K (.ref fZRe)) (some (.type "function")))
    (lZRe : @Eq _ (K.lookup fZRe) (some ⟨ocZRe, odZRe, .func (PySem.W.fnX "__init__" "BadRest.__init__" (defArgs s_BadRest___init__) (defBody s_BadRest___init__) (defScope s_BadRest___init__) [("__class__", ccZRe)] .none kVZRe dcZRe pmZRe anZRe (.ref cdZRe) ctZRe), slZRe⟩))
    (cZRe : @Eq _ (PySem.W.codeIn K (.ref cdZRe) "BadRest.__init__") (true))
    (eZRe : exD K BE)
    (sZRe : @Eq _ (PySem.W.findIn K (.ref BE) "__setattr__") (some (some (.builtin "object.__setattr__"))))
    (xZRe : @Eq _ (PySem.W.subIn K (.ref BE) (.type "BaseException")) (some true))
    (yZRe : @Eq _ (PySem.W.typeIn K (.ref BE)) (some (.type "type")))
    (kZRe : @Eq _ (PySem.W.keepIn K (.ref BE)) (true))
    (qZRe : @Eq _ (K.lookup ccZRe) (some ⟨clZRe, cldZRe, .cell (some (.ref BE)), cslZRe⟩))
    (uZRe : @Eq _ (K.lookup cdZRe) (some ⟨cclZRe, cddZRe, .fields vsZRe, ccsZRe⟩))
    (vZRe : v2D vsZRe fileZRe tfZRe)
    (wZRe : w2D l fileZRe)
    (mZRe : @Eq _ (PySem.W.mroIn K BE (.ref BE)) (some true))
    (pZRe : @Eq _ (PySem.W.ks_superIn K BE BE "__init__") (some (some (.builtin "ValueError.__init__"))))
    (bZRe : @Eq _ (PySem.W.subIn K (.ref BE) (.type "ValueError")) (some true))
    (nZRe_value : @Eq _ (PySem.W.findIn K (.ref BE) "value") (some none))
    (gZRe : @Eq _ (PySem.W.findIn K (.ref BE) "__getattribute__") (some (some (.builtin "BaseException.__getattribute__"))))
    (hZRe : @Eq _ (PySem.W.findIn K (.ref BE) "__getattr__") (some none))
    (dZRe : @Eq _ (PySem.W.hasDictIn K BE) (true))
    (jZRe : @Eq _ (PySem.W.findIn K (.ref BE) "__class__") (some (some (.builtin "object.__class__"))))
    (rZRe : @Eq _ (PySem.W.mroIn K BE (.type "object")) (some true))
    (k1ZRe : @Eq _ (PySem.W.kitOne K (.ref BE) (.ref BE)) (some true))
    (emZRe : @Eq _ (PySem.W.exmOne K (.ref BE) (.ref CL)) (some true))
    (kVZRe : @Eq _ (PySem.W.kitOne K (.ref BE) (.type "ValueError")) (some true))
    (aZSe : @Eq _ (PySem.W.nsIn K mainGlobals "BadSetting") (some (some (.ref SE))))
    (iZSe : @Eq _ (PySem.W.findIn K (.ref SE) "__init__") (some (some (.ref fZSe))))
    (tZSe : @Eq _ (PySem.W.typeIn K (.ref fZSe)) (some (.type "function")))
    (lZSe : @Eq _ (K.lookup fZSe) (some ⟨ocZSe, odZSe, .func (PySem.W.fnX "__init__" "BadSetting.__init__" (defArgs s_BadSetting___init__) (defBody s_BadSetting___init__) (defScope s_BadSetting___init__) [("__class__", ccZSe)] .none kVZSe dcZSe pmZSe anZSe (.ref cdZSe) ctZSe), slZSe⟩))
    (cZSe : @Eq _ (PySem.W.codeIn K (.ref cdZSe) "BadSetting.__init__") (true))
    (eZSe : exD K SE)
    (sZSe : @Eq _ (PySem.W.findIn K (.ref SE) "__setattr__") (some (some (.builtin "object.__setattr__"))))
    (xZSe : @Eq _ (PySem.W.subIn K (.ref SE) (.type "BaseException")) (some true))
    (yZSe : @Eq _ (PySem.W.typeIn K (.ref SE)) (some (.type "type")))
    (kZSe : @Eq _ (PySem.W.keepIn K (.ref SE)) (true))
    (qZSe : @Eq _ (K.lookup ccZSe) (some ⟨clZSe, cldZSe, .cell (some (.ref SE)), cslZSe⟩))
    (uZSe : @Eq _ (K.lookup cdZSe) (some ⟨cclZSe, cddZSe, .fields vsZSe, ccsZSe⟩))
    (vZSe : v2D vsZSe fileZSe tfZSe)
    (wZSe : w2D l fileZSe)
    (mZSe : @Eq _ (PySem.W.mroIn K SE (.ref SE)) (some true))
    (pZSe : @Eq _ (PySem.W.ks_superIn K SE SE "__init__") (some (some (.builtin "ValueError.__init__"))))
    (bZSe : @Eq _ (PySem.W.subIn K (.ref SE) (.type "ValueError")) (some true))
    (nZSe_part : @Eq _ (PySem.W.findIn K (.ref SE) "part") (some none))
    (gZSe : @Eq _ (PySem.W.findIn K (.ref SE) "__getattribute__") (some (some (.builtin "BaseException.__getattribute__"))))
    (hZSe : @Eq _ (PySem.W.findIn K (.ref SE) "__getattr__") (some none))
    (dZSe : @Eq _ (PySem.W.hasDictIn K SE) (true))
    (jZSe : @Eq _ (PySem.W.findIn K (.ref SE) "__class__") (some (some (.builtin "object.__class__"))))
    (rZSe : @Eq _ (PySem.W.mroIn K SE (.type "object")) (some true))
    (k1ZSe : @Eq _ (PySem.W.kitOne K (.ref SE) (.ref SE)) (some true))
    (emZSe : @Eq _ (PySem.W.exmOne K (.ref SE) (.ref CL)) (some true))
    (kVZSe : @Eq _ (PySem.W.kitOne K (.ref SE) (.type "ValueError")) (some true))
    (aZCo : @Eq _ (PySem.W.nsIn K mainGlobals "BadCost") (some (some (.ref BA))))
    (iZCo : @Eq _ (PySem.W.findIn K (.ref BA) "__init__") (some (some (.ref fZCo))))
    (tZCo : @Eq _ (PySem.W.typeIn K (.ref fZCo)) (some (.type "function")))
    (lZCo : @Eq _ (K.lookup fZCo) (some ⟨ocZCo, odZCo, .func (PySem.W.fnX "__init__" "BadCost.__init__" (defArgs s_BadCost___init__) (defBody s_BadCost___init__) (defScope s_BadCost___init__) [("__class__", ccZCo)] .none kVZCo dcZCo pmZCo anZCo (.ref cdZCo) ctZCo), slZCo⟩))
    (cZCo : @Eq _ (PySem.W.codeIn K (.ref cdZCo) "BadCost.__init__") (true))
    (eZCo : exD K BA)
    (sZCo : @Eq _ (PySem.W.findIn K (.ref BA) "__setattr__") (some (some (.builtin "object.__setattr__"))))
    (xZCo : @Eq _ (PySem.W.subIn K (.ref BA) (.type "BaseException")) (some true))
    (yZCo : @Eq _ (PySem.W.typeIn K (.ref BA)) (some (.type "type")))
    (kZCo : @Eq _ (PySem.W.keepIn K (.ref BA)) (true))
    (qZCo : @Eq _ (K.lookup ccZCo) (some ⟨clZCo, cldZCo, .cell (some (.ref BA)), cslZCo⟩))
    (uZCo : @Eq _ (K.lookup cdZCo) (some ⟨cclZCo, cddZCo, .fields vsZCo, ccsZCo⟩))
    (vZCo : v2D vsZCo fileZCo tfZCo)
    (wZCo : w2D l fileZCo)
    (mZCo : @Eq _ (PySem.W.mroIn K BA (.ref BA)) (some true))
    (pZCo : @Eq _ (PySem.W.ks_superIn K BA BA "__init__") (some (some (.builtin "ValueError.__init__"))))
    (bZCo : @Eq _ (PySem.W.subIn K (.ref BA) (.type "ValueError")) (some true))
    (nZCo_value : @Eq _ (PySem.W.findIn K (.ref BA) "value") (some none))
    (gZCo : @Eq _ (PySem.W.findIn K (.ref BA) "__getattribute__") (some (some (.builtin "BaseException.__getattribute__"))))
    (hZCo : @Eq _ (PySem.W.findIn K (.ref BA) "__getattr__") (some none))
    (dZCo : @Eq _ (PySem.W.hasDictIn K BA) (true))
    (jZCo : @Eq _ (PySem.W.findIn K (.ref BA) "__class__") (some (some (.builtin "object.__class__"))))
    (rZCo : @Eq _ (PySem.W.mroIn K BA (.type "object")) (some true))
    (k1ZCo : @Eq _ (PySem.W.kitOne K (.ref BA) (.ref BA)) (some true))
    (emZCo : @Eq _ (PySem.W.exmOne K (.ref BA) (.ref CL)) (some true))
    (kVZCo : @Eq _ (PySem.W.kitOne K (.ref BA) (.type "ValueError")) (some true))
    (aZFe : @Eq _ (PySem.W.nsIn K mainGlobals "BadFee") (some (some (.ref BF))))
    (iZFe : @Eq _ (PySem.W.findIn K (.ref BF) "__init__") (some (some (.ref fZFe))))
    (tZFe : @Eq _ (PySem.W.typeIn K (.ref fZFe)) (some (.type "function")))
    (lZFe : @Eq _ (K.lookup fZFe) (some ⟨ocZFe, odZFe, .func (PySem.W.fnX "__init__" "BadFee.__init__" (defArgs s_BadFee___init__) (defBody s_BadFee___init__) (defScope s_BadFee___init__) [("__class__", ccZFe)] .none kVZFe dcZFe pmZFe anZFe (.ref cdZFe) ctZFe), slZFe⟩))
    (cZFe : @Eq _ (PySem.W.codeIn K (.ref cdZFe) "BadFee.__init__") (true))
    (eZFe : exD K BF)
    (sZFe : @Eq _ (PySem.W.findIn K (.ref BF) "__setattr__") (some (some (.builtin "object.__setattr__"))))
    (xZFe : @Eq _ (PySem.W.subIn K (.ref BF) (.type "BaseException")) (some true))
    (yZFe : @Eq _ (PySem.W.typeIn K (.ref BF)) (some (.type "type")))
    (kZFe : @Eq _ (PySem.W.keepIn K (.ref BF)) (true))
    (qZFe : @Eq _ (K.lookup ccZFe) (some ⟨clZFe, cldZFe, .cell (some (.ref BF)), cslZFe⟩))
    (uZFe : @Eq _ (K.lookup cdZFe) (some ⟨cclZFe, cddZFe, .fields vsZFe, ccsZFe⟩))
    (vZFe : v2D vsZFe fileZFe tfZFe)
    (wZFe : w2D l fileZFe)
    (mZFe : @Eq _ (PySem.W.mroIn K BF (.ref BF)) (some true))
    (pZFe : @Eq _ (PySem.W.ks_superIn K BF BF "__init__") (some (some (.builtin "ValueError.__init__"))))
    (bZFe : @Eq _ (PySem.W.subIn K (.ref BF) (.type "ValueError")) (some true))
    (nZFe_value : @Eq _ (PySem.W.findIn K (.ref BF) "value") (some none))
    (gZFe : @Eq _ (PySem.W.findIn K (.ref BF) "__getattribute__") (some (some (.builtin "BaseException.__getattribute__"))))
    (hZFe : @Eq _ (PySem.W.findIn K (.ref BF) "__getattr__") (some none))
    (dZFe : @Eq _ (PySem.W.hasDictIn K BF) (true))
    (jZFe : @Eq _ (PySem.W.findIn K (.ref BF) "__class__") (some (some (.builtin "object.__class__"))))
    (rZFe : @Eq _ (PySem.W.mroIn K BF (.type "object")) (some true))
    (k1ZFe : @Eq _ (PySem.W.kitOne K (.ref BF) (.ref BF)) (some true))
    (emZFe : @Eq _ (PySem.W.exmOne K (.ref BF) (.ref CL)) (some true))
    (kVZFe : @Eq _ (PySem.W.kitOne K (.ref BF) (.type "ValueError")) (some true))
    (aZRu : @Eq _ (PySem.W.nsIn K mainGlobals "BadRule") (some (some (.ref RU))))
    (iZRu : @Eq _ (PySem.W.findIn K (.ref RU) "__init__") (some (some (.ref fZRu))))
    (tZRu : @Eq _ (PySem.W.typeIn K (.ref fZRu)) (some (.type "function")))
    (lZRu : @Eq _ (K.lookup fZRu) (some ⟨ocZRu, odZRu, .func (PySem.W.fnX "__init__" "BadRule.__init__" (defArgs s_BadRule___init__) (defBody s_BadRule___init__) (defScope s_BadRule___init__) [("__class__", ccZRu)] .none kVZRu dcZRu pmZRu anZRu (.ref cdZRu) ctZRu), slZRu⟩))
    (cZRu : @Eq _ (PySem.W.codeIn K (.ref cdZRu) "BadRule.__init__") (true))
    (eZRu : exD K RU)
    (sZRu : @Eq _ (PySem.W.findIn K (.ref RU) "__setattr__") (some (some (.builtin "object.__setattr__"))))
    (xZRu : @Eq _ (PySem.W.subIn K (.ref RU) (.type "BaseException")) (some true))
    (yZRu : @Eq _ (PySem.W.typeIn K (.ref RU)) (some (.type "type")))
    (kZRu : @Eq _ (PySem.W.keepIn K (.ref RU)) (true))
    (qZRu : @Eq _ (K.lookup ccZRu) (some ⟨clZRu, cldZRu, .cell (some (.ref RU)), cslZRu⟩))
    (uZRu : @Eq _ (K.lookup cdZRu) (some ⟨cclZRu, cddZRu, .fields vsZRu, ccsZRu⟩))
    (vZRu : v2D vsZRu fileZRu tfZRu)
    (wZRu : w2D l fileZRu)
    (mZRu : @Eq _ (PySem.W.mroIn K RU (.ref RU)) (some true))
    (pZRu : @Eq _ (PySem.W.ks_superIn K RU RU "__init__") (some (some (.builtin "ValueError.__init__"))))
    (bZRu : @Eq _ (PySem.W.subIn K (.ref RU) (.type "ValueError")) (some true))
    (nZRu_part : @Eq _ (PySem.W.findIn K (.ref RU) "part") (some none))
    (gZRu : @Eq _ (PySem.W.findIn K (.ref RU) "__getattribute__") (some (some (.builtin "BaseException.__getattribute__"))))
    (hZRu : @Eq _ (PySem.W.findIn K (.ref RU) "__getattr__") (some none))
    (dZRu : @Eq _ (PySem.W.hasDictIn K RU) (true))
    (jZRu : @Eq _ (PySem.W.findIn K (.ref RU) "__class__") (some (some (.builtin "object.__class__"))))
    (rZRu : @Eq _ (PySem.W.mroIn K RU (.type "object")) (some true))
    (k1ZRu : @Eq _ (PySem.W.kitOne K (.ref RU) (.ref RU)) (some true))
    (emZRu : @Eq _ (PySem.W.exmOne K (.ref RU) (.ref CL)) (some true))
    (kVZRu : @Eq _ (PySem.W.kitOne K (.ref RU) (.type "ValueError")) (some true))
    (gWo : @Eq _ (PySem.W.nsIn K mainGlobals "WORDS") (some (some (.ref aW))))
    (lWo : @Eq _ (K.lookup aW) (some ⟨.type "tuple", odW, .seq #[.str "cost" wt0, .str "fee" wt1, .str "none" wt2, .str "order" wt3, .str "ready" wt4, .str "self" wt5, .str "chunks" wt6, .str "crew" wt7, .str "late" wt8, .str "at" wt9] nW, slW⟩))
    (gSi : @Eq _ (PySem.W.nsIn K mainGlobals "SIGNS") (some (some (.str "abcdefghijklmnopqrstuvwxyz" tSG))))
    (gSp : @Eq _ (PySem.W.nsIn K mainGlobals "MOST_SPEED") (some (some (.int 60 tSP))))
    (gMW : @Eq _ (PySem.W.nsIn K mainGlobals "MOST_WORKERS") (some (some (.int 8 tMW))))
    (gCo : @Eq _ (PySem.W.nsIn K mainGlobals "MOST_COST") (some (some (.int 60 tMCo))))
    (gFe : @Eq _ (PySem.W.nsIn K mainGlobals "MOST_FEE") (some (some (.int 1000000000000000000000000000000 tMFe))))
    (yoQ : @Eq _ (odTys.all (fun T => decide (PySem.W.kitOne K (.type T) (.ref CQ) = some false))) (true))
    (yiQ : @Eq _ (PySem.W.kitOne K (.type "int") (.ref CQ)) (some false))
    (sfQ : @Eq _ (PySem.W.selfFirst K CQ) (true))
    (mrQ : @Eq _ ((PySem.W.clsIn K CQ).map (·.mro)) (some [.ref CQ, .type "object"]))
    (sIQ : @Eq _ (PySem.W.subIn K (.ref CQ) (.type "int")) (some false))
    (sBQ : @Eq _ (PySem.W.subIn K (.ref CQ) (.type "bool")) (some false))
    (oQ_add : @Eq _ (othersB K CQ .Add) (true))
    (vQ_add : @Eq _ (PySem.W.findIn K (.type "int") (dunderI (.Add : Operator).info.2)) (some none))
    (uQ_add : @Eq _ (PySem.W.findIn K (.ref CQ) (dunderI (.Add : Operator).info.2)) (some none))
    (xQ_add : @Eq _ (PySem.W.findIn K (.type "object") (dunderI (.Add : Operator).info.2)) (some none))
    (oQ_sub : @Eq _ (othersB K CQ .Sub) (true))
    (vQ_sub : @Eq _ (PySem.W.findIn K (.type "int") (dunderI (.Sub : Operator).info.2)) (some none))
    (uQ_sub : @Eq _ (PySem.W.findIn K (.ref CQ) (dunderI (.Sub : Operator).info.2)) (some none))
    (xQ_sub : @Eq _ (PySem.W.findIn K (.type "object") (dunderI (.Sub : Operator).info.2)) (some none))
    (oQ_mul : @Eq _ (othersB K CQ .Mult) (true))
    (vQ_mul : @Eq _ (PySem.W.findIn K (.type "int") (dunderI (.Mult : Operator).info.2)) (some none))
    (uQ_mul : @Eq _ (PySem.W.findIn K (.ref CQ) (dunderI (.Mult : Operator).info.2)) (some none))
    (xQ_mul : @Eq _ (PySem.W.findIn K (.type "object") (dunderI (.Mult : Operator).info.2)) (some none))
    (ns_CW : @Eq _ (PySem.W.noSeq K CW) (true))
    (fi_CW : @Eq _ (PySem.W.fnIn K g_CW___getitem__) (true))
    (kSR : @Eq _ (PySem.W.kitOne K (.ref SE) (.ref RU)) (some false))
    (kRS : @Eq _ (PySem.W.kitOne K (.ref RU) (.ref SE)) (some false))
    (kDT : @Eq _ (PySem.W.kitOne K (.ref CD) (.ref CT)) (some false))
    (kWT : @Eq _ (PySem.W.kitOne K (.ref CW) (.ref CT)) (some false))
    (kWS : @Eq _ (PySem.W.kitOne K (.ref CW) (.ref CS)) (some false))
    (kTS : @Eq _ (PySem.W.kitOne K (.ref CT) (.ref CS)) (some false))
    (kTR : @Eq _ (PySem.W.kitOne K (.ref CT) (.ref CRl)) (some false))
    (kn1 : @Eq _ (PySem.W.kitOne K (.type "NoneType") (.ref CB2)) (some false))
    (kn2 : @Eq _ (PySem.W.kitOne K (.type "NoneType") (.ref CE2)) (some false))
    (kn3 : @Eq _ (PySem.W.kitOne K (.type "int") (.ref CB2)) (some false))
    (kn4 : @Eq _ (PySem.W.kitOne K (.type "int") (.ref CE2)) (some false))
    (kT7T : @Eq _ ((["int", "NoneType", "bool", "str", "tuple", "list", "dict"].all fun T => decide (PySem.W.kitOne K (.type T) (.ref CT) = some false))) (true))
    (kT7S : @Eq _ ((["int", "NoneType", "bool", "str", "tuple", "list", "dict"].all fun T => decide (PySem.W.kitOne K (.type T) (.ref CS) = some false))) (true))
    (gMOv : @Eq _ (PySem.W.nsIn K mainGlobals "MOST_OVER") (some (some (.int 24 tMOv))))
    (gMDv : @Eq _ (PySem.W.nsIn K mainGlobals "MOST_DIVISOR") (some (some (.int 24 tMDv))))
    (gMAd : @Eq _ (PySem.W.nsIn K mainGlobals "MOST_ADDED") (some (some (.int 1000 tMAd))))
    (z_isinstance : @Eq _ (PySem.W.nsIn K mainGlobals "isinstance") (some none))
    (z_int : @Eq _ (PySem.W.nsIn K mainGlobals "int") (some none))
    (z_bool : @Eq _ (PySem.W.nsIn K mainGlobals "bool") (some none))
    (z_len : @Eq _ (PySem.W.nsIn K mainGlobals "len") (some none))
    (z_abs : @Eq _ (PySem.W.nsIn K mainGlobals "abs") (some none))
    (z_list : @Eq _ (PySem.W.nsIn K mainGlobals "list") (some none))
    (z_tuple : @Eq _ (PySem.W.nsIn K mainGlobals "tuple") (some none))
    (z_range : @Eq _ (PySem.W.nsIn K mainGlobals "range") (some none))
    (z_repr : @Eq _ (PySem.W.nsIn K mainGlobals "repr") (some none))
    (z_str : @Eq _ (PySem.W.nsIn K mainGlobals "str") (some none))
    (z_zip : @Eq _ (PySem.W.nsIn K mainGlobals "zip") (some none))
    (z_min : @Eq _ (PySem.W.nsIn K mainGlobals "min") (some none))
    (z_max : @Eq _ (PySem.W.nsIn K mainGlobals "max") (some none))
    (z_all : @Eq _ (PySem.W.nsIn K mainGlobals "all") (some none))
    (z_any : @Eq _ (PySem.W.nsIn K mainGlobals "any") (some none))
    (z_sorted : @Eq _ (PySem.W.nsIn K mainGlobals "sorted") (some none))
    (z_enumerate : @Eq _ (PySem.W.nsIn K mainGlobals "enumerate") (some none))
    (z_ValueError : @Eq _ (PySem.W.nsIn K mainGlobals "ValueError") (some none))
    (z_dict : @Eq _ (PySem.W.nsIn K mainGlobals "dict") (some none))
    (z_sum : @Eq _ (PySem.W.nsIn K mainGlobals "sum") (some none))
    (hCPt : @Eq _ (PySem.W.codeHdIn K ct0 Pt) (true))
    (nPPt : @Eq _ (K.lookup Pt) (none))
    (tPPt : @Eq _ (h.get? Pt) (some { cls := .none, data := .fields #[] }))
    (hPd0 : [Pt].Nodup), LawG l w K CX0 15 63 "_law_script" mg fa h
end K72H
namespace L3
open PySem PySem.W
def kmOb (a t : List Addr) (s : SharedT) : List (Option Obj) × List (Option Obj) := (a.map (HandSHeadRun.getT s), t.map (HandSHeadRun.getT s))
theorem kmOb_eq {K : Params → Frag} {a : List Addr} {e : ∀ P, a = (K P).map (·.1)} {t : List Addr} (s : SharedT) : kmOb a t s = (kmHook K a e t).obs s.abs := by
  have h : HandSHeadRun.getT s = s.abs.heap.get? := funext (HandSHeadRun.getT_eq s)
  unfold kmOb
  rw [h]; rfl
open PySem.Calls PyProof.Rows HandSHeadRun in
def RunEqI (r : OpenRow) (q : Program) (H : Hook) (ob : SharedT → H.α) (M : Nat) (loose : List PySem.Str) (w : World) : Prop :=
  (wholeF (fun p => stepQ (denQ tabQ) p w) fenceQ M r.prog).map (fun x => (looksF r.prog x.1.heap x.2.abs, seenQ q loose (importedModules r.prog.main.body) (fun s => xlAt q [] s && recOk r.toRowW.records s) x.2.abs, ob x.2)) = some (true, openGood q loose, H.val w)
open PySem.Calls PyProof.Rows HandSHeadRun in
theorem head_anyI {r : OpenRow} {q : Program} {H : Hook} {ob : SharedT → H.α} {M : Nat} {loose : List PySem.Str} {d : DefRec} {kwd : List (PySem.Str × PySem.Expr)} (ho : ∀ s : SharedT, ob s = H.obs s.abs)
    (run : ∀ w, RunEqI r q H ob M loose w)
    (hdef : defOf q r.name = some (d, kwd)) (hp : r.prog.theDef r.name = some (d.params, d.body, d.scope)) (hk : kwWritten? d.params.kwonlyargs d.params.kw_defaults = some kwd)
    (hwr : (!r.writes || r.records.isEmpty) = true) (k1 : r.wellSaid = true) (ok : (chainsOk q && opensWell r.prog && (frees r.toRowW && r.within.isEmpty)) = true) (hb : r.prog.bare) (hw : r.toRowW.promised)
    (call : WalkO q loose (XL q []) H.says r.toRowW d kwd fun f vs => PySem.call f vs) : r.Holds := by
  have left : LeftO r.prog q loose (fun s => xlAt q [] s && recOk r.toRowW.records s) H.obs H.val M true :=
    left_imp fun w => by
      have z := run w
      have eo : ob = fun s => H.obs s.abs := funext ho
      rw [eo] at z
      rw [wholeQ_eq]
      simp only [seenQ_eq]
      exact z
  exact holds_open (r := r) (q := q) (loose := loose) (XP := XL q []) (YP := H.says) (d := d) (kwd := kwd) left H.of H.keeps (fun s z => xl_of s (Bool.and_eq_true_iff.mp z).1) XL.keeps hdef hp hk (fun s z => recFacts_of (Bool.and_eq_true_iff.mp z).2) hwr k1 ok hb hw call
end L3
open PySem PySem.W PyProof.Rows
section
local macro_rules | `(tactic| o_head $hk) => `(tactic| exact False.elim (by assumption))
/-- writes the part of the heap out, as K72H.mk.heap_1 -/
theorem K72H.mk (f : False) : OpenRow.Holds (OpenLaw.row PySem.Challenge.rw_latechunks_k72_judging_batches_refused) := by k_head
end
def K72H.hpA : List Addr := [2, 3, 43, 45, 46, 48, 49, 50, 51, 53, 54, 56, 57, 58, 60, 61, 63, 64, 65, 67, 68, 70, 71, 72, 75, 76, 77, 84, 85, 86, 87, 90, 93, 98, 99, 101, 102, 104, 105, 106, 107, 108, 111, 114, 119, 120, 122, 123, 125, 126, 127, 128, 129, 132, 135, 140, 141, 143, 144, 146, 147, 148, 149, 150, 153, 156, 161, 162, 164, 165, 167, 168, 169, 170, 171, 174, 177, 182, 183, 185, 186, 188, 189, 190, 191, 192, 195, 198, 203, 204, 206, 207, 209, 210, 211, 212, 213, 216, 219, 224, 225, 227, 228, 230, 231, 232, 233, 234, 237, 240, 245, 246, 248, 249, 251, 252, 253, 254, 255, 258, 261, 266, 267, 269, 270, 272, 273, 274, 275, 276, 279, 282, 287, 288, 290, 291, 293, 294, 295, 296, 297, 300, 303, 308, 309, 311, 312, 314, 315, 316, 317, 318, 321, 324, 329, 330, 332, 333, 335, 336, 337, 338, 339, 342, 345, 350, 351, 353, 354, 356, 357, 358, 359, 360, 363, 366, 371, 372, 374, 375, 377, 378, 379, 380, 381, 384, 387, 392, 393, 395, 396, 398, 399, 400, 401, 402, 405, 407, 408, 410, 411, 412, 415, 416, 417, 419, 420, 422, 423, 424, 426, 427, 429, 430, 438, 439, 440, 441, 442, 445, 452, 454, 455, 457, 458, 459, 460, 461, 464, 466, 467, 469, 470, 471, 473, 474, 476, 477, 478, 480, 481, 483, 484, 485, 487, 488, 490, 491, 492, 495, 496, 504, 507, 508, 509, 511, 512, 514, 515, 516, 517, 518, 519, 520, 523, 524, 525, 526, 527, 528, 530, 531, 533, 534, 535, 536, 537, 538, 540, 541, 543, 544, 545, 548, 549, 550, 553, 554, 555, 557, 558, 560, 561, 562, 564, 565, 567, 568, 569, 571, 572, 574, 575, 576, 578, 579, 581, 582, 583, 586, 587, 588, 591, 592, 593, 595, 596, 598, 599, 600, 602, 603, 605, 606, 607, 609, 610, 612, 613, 614, 616, 617, 619, 620, 621, 623, 624, 626, 627, 628, 631, 632, 633, 634, 635, 636, 637, 640, 642, 643, 645, 646, 647, 649, 650, 652, 653, 661, 662, 664, 665, 667, 668, 669, 672, 673, 674, 675, 676, 677, 679, 680, 682, 683, 684, 685, 686, 687, 689, 690, 692, 693, 694, 695, 696, 697, 699, 700, 702, 703, 704, 706, 707, 709, 710, 711, 713, 714, 716, 717, 718, 720, 721, 723, 724, 725, 727, 728, 730, 731, 732, 734, 735, 737, 738, 739, 741, 742, 744, 745, 746, 748, 749, 751, 752, 753, 755, 756, 758, 759, 760, 762, 763, 765, 766, 767, 769, 770, 772, 773, 774, 776, 777, 779, 780, 781, 783, 784, 786, 787, 788, 790, 791, 793, 794, 795, 797, 798, 800, 801, 802, 804, 805, 807, 808, 809, 811, 812, 814, 815, 816, 818, 819, 821, 822, 823, 825, 826, 828, 829, 830, 832, 833, 835, 836, 837, 838, 839, 840, 841, 844, 846, 847, 849, 850, 851, 853, 854, 856, 857, 858, 860, 861, 863, 864, 865, 867, 868, 870, 871, 872, 874, 875, 877, 878, 879, 881, 882, 884, 885, 893, 894, 896, 897, 899, 900, 901, 903, 904, 906, 907, 908, 909, 910, 911, 913, 914, 916, 917, 918, 920, 921, 923, 924, 925, 927, 928, 930, 931, 932, 934, 935, 937, 938, 939, 941, 942, 944, 945, 946, 948, 949, 951, 952, 953, 955, 956, 958, 959, 960, 962, 963, 965, 966, 967, 969, 970, 972, 973, 974, 976, 977, 979, 980, 981, 983, 984, 986, 987, 988, 990, 991, 993, 994, 995, 997, 998, 1000, 1001, 1002, 1003, 1004, 1005, 1006, 1009, 1011, 1012, 1014, 1015, 1016, 1018, 1019, 1021, 1022, 1023, 1030, 1032, 1033, 1035, 1036, 1037, 1039, 1040, 1042, 1043, 1044, 1045, 1046, 1049, 1056, 1058, 1059, 1061, 1062, 1063, 1065, 1066, 1068, 1069, 1070, 1071, 1072, 1082, 1084, 1085, 1087, 1088, 1089, 1091, 1092, 1094, 1095, 1096, 1097, 1098, 1099, 1101, 1102, 1104, 1105, 1106, 1108, 1109, 1111, 1112, 1113, 1115, 1116, 1118, 1119, 1120, 1122, 1123, 1125, 1126, 1127, 1129, 1130, 1132, 1133, 1134, 1135, 1136, 1137, 1138, 1141, 1143, 1144, 1146, 1147, 1148, 1150, 1151, 1153, 1154, 1155, 1157, 1158, 1160, 1161, 1162, 1164, 1165, 1167, 1168, 1169, 1171, 1172, 1174, 1175, 1176, 1178, 1179, 1181, 1182, 1190, 1192, 1193, 1195, 1196, 1197, 1198, 1199, 1200, 1201, 1202, 1203, 1204, 1207, 1209, 1210, 1212, 1213, 1214, 1216, 1217, 1219, 1220, 1221, 1228, 1230, 1231, 1233, 1234, 1235, 1237, 1238, 1240, 1241, 1242, 1244, 1245, 1247, 1248, 1249, 1251, 1252, 1254, 1255, 1256, 1258, 1259, 1261, 1262, 1263, 1265, 1266, 1268, 1269, 1270, 1272, 1273, 1275, 1276, 1277, 1279, 1280, 1282, 1283, 1284, 1286, 1287, 1289, 1290, 1291, 1292, 1293, 1296, 1303, 1305, 1306, 1308, 1309, 1310, 1312, 1313, 1315, 1316, 1317, 1318, 1319, 1320, 1322, 1323, 1325, 1326, 1327, 1329, 1330, 1332, 1333, 1334, 1336, 1337, 1339, 1340, 1341, 1343, 1344, 1346, 1347, 1348, 1350, 1351, 1353, 1354, 1355, 1357, 1358, 1360, 1361, 1362, 1364, 1365, 1367, 1368, 1369, 1371, 1372, 1374, 1375, 1376, 1377, 1378, 1381, 1388, 1390, 1391, 1393, 1394, 1395, 1397, 1398, 1400, 1401, 1402, 1404, 1405, 1407, 1408, 1409, 1411, 1412, 1414, 1415, 1416, 1418, 1419, 1421, 1422, 1423, 1425, 1426, 1428, 1429, 1430, 1432, 1433, 1435, 1436, 1437, 1439, 1440, 1442, 1443, 1444, 1446, 1447, 1449, 1450, 1451, 1452, 1453, 1456, 1463, 1465, 1466, 1468, 1469, 1470, 1472, 1473, 1475, 1476, 1477, 1479, 1480, 1482, 1483, 1484, 1486, 1487, 1489, 1490, 1491, 1493, 1494, 1496, 1497, 1498, 1500, 1501, 1503, 1504, 1505, 1507, 1508, 1510, 1511, 1512, 1514, 1515, 1517, 1518, 1519, 1521, 1522, 1524, 1525, 1526, 1527, 1528, 1531, 1533, 1534, 1536, 1537, 1538, 1540, 1541, 1543, 1544, 1545, 1547, 1548, 1550, 1551, 1552, 1554, 1555, 1557, 1558, 1559, 1561, 1562, 1564, 1565, 1566, 1568, 1569, 1571, 1572, 1573, 1575, 1576, 1578, 1579, 1580, 1582, 1583, 1585, 1586, 1587, 1589, 1590, 1592, 1593, 1594, 1596, 1597, 1599, 1600, 1601, 1603, 1604, 1606, 1607, 1608, 1610, 1611, 1613, 1614, 1615, 1617, 1618, 1620, 1621, 1622, 1624, 1625, 1627, 1628]
theorem K72H.hp_eq : ∀ P, K72H.hpA = (K72H.mk.heap_1 P).map (·.1) := (fun _ _ => by kernel_rfl : (False → OpenRow.Holds (OpenLaw.row PySem.Challenge.rw_latechunks_k72_judging_batches_refused)) → ∀ P, K72H.hpA = (K72H.mk.heap_1 P).map (·.1)) K72H.mk
theorem K72H.opt3 {α β γ δ : Type} {o : Option α} {f : α → β} {g : α → γ} {h : α → δ} {a : β} {b : γ} {c : δ} (h1 : o.map f = some a) (h2 : o.map g = some b) (h3 : o.map h = some c) : o.map (fun x => (f x, g x, h x)) = some (a, b, c) := by
  cases o with
  | none => cases h1
  | some x => cases h1; cases h2; cases h3; rfl
open PySem.Calls HandSHeadRun
theorem K72H.runC (w : World) : (wholeF (fun p => stepQ (denQ tabQ) p w) fenceQ 30000 (OpenLaw.row PySem.Challenge.rw_latechunks_k72_judging_batches_refused).prog).map (fun x => L3.kmOb K72H.hpA [1616] x.2) = some ((kmHook K72H.mk.heap_1 K72H.hpA K72H.hp_eq [1616]).val w) := by
  kernel_rfl
theorem K72H.run : ∀ w, L3.RunEqI (OpenLaw.row PySem.Challenge.rw_latechunks_k72_judging_batches_refused) (view (OpenLaw.row PySem.Challenge.rw_latechunks_k72_judging_batches_refused).prog [0, 103]) (kmHook K72H.mk.heap_1 K72H.hpA K72H.hp_eq [1616]) (L3.kmOb K72H.hpA [1616]) 30000 L3.looseN w := fun w => K72H.opt3 (K72H.runA w) (K72H.runB w) (K72H.runC w)
set_option maxRecDepth 100000 in
set_option maxHeartbeats 0 in
theorem K72H.head : K72H.AllMk → PySem.Challenge.rw_latechunks_k72_judging_batches_refused.Holds := by
  intro all_mk0
  w_on; o_law; (refine L3.head_anyI (r := (OpenLaw.row PySem.Challenge.rw_latechunks_k72_judging_batches_refused)) (q := view (OpenLaw.row PySem.Challenge.rw_latechunks_k72_judging_batches_refused).prog [0, 103]) (H := kmHook K72H.mk.heap_1 K72H.hpA K72H.hp_eq [1616]) (ob := L3.kmOb K72H.hpA [1616]) (M := 30000) (loose := L3.looseN) (d := HandSHeadRun.topDef ((OpenLaw.row PySem.Challenge.rw_latechunks_k72_judging_batches_refused)).prog 103) (kwd := []) L3.kmOb_eq K72H.run (by kernel_rfl) (by kernel_rfl) (by kernel_rfl) (by rfl) (by first | assumption | decide +kernel) (by decide +kernel) ⟨rfl, rfl, rfl, rfl, rfl, by decide +kernel⟩ ?hw ?hc); (case hw => w_witness2)
  k_fill
  refine L3.walkG (l := PySem.Challenge.rw_latechunks_k72_judging_batches_refused) (n := 63) (k := 15) (x := "_law_script") (CX := fun _ => L2.CX0) rfl (by decide) (by kernel_rfl) ⟨rfl, by decide, by decide⟩ (fun w h Y => PySem.W.km_in_of Y) ?F (fun _ _ _ _ _ z => z)
  case F =>
    intro w mg fa h Y KX G hmg0
    have hmg : mg ("law" : PySem.Str) = some (.ref fa) := by
      have e : (HandSHeadRun.topDef ((OpenLaw.row PySem.Challenge.rw_latechunks_k72_judging_batches_refused)).prog 103).name = ("law" : PySem.Str) := by kernel_rfl
      rw [← e]
      exact hmg0
    have all_mk := @all_mk0
    unfold K72H.AllMk at all_mk
    clear all_mk0
    refine' all_mk (Pt := 1616) KX G hmg ?a1 ?l1 ?c1 ?k1 ?a2 ?l2 ?c2 ?k2 ?a3 ?l3 ?c3 ?k3 ?a4 ?l4 ?c4 ?k4 ?a5 ?l5 ?c5 ?k5 ?a6 ?l6 ?c6 ?k6 ?a7 ?l7 ?c7 ?k7 ?a8 ?l8 ?c8 ?k8 ?a9 ?l9 ?c9 ?k9 ?a10 ?l10 ?c10 ?k10 ?a11 ?l11 ?c11 ?k11 ?a12 ?l12 ?c12 ?k12 ?a13 ?l13 ?c13 ?k13 ?a14 ?l14 ?c14 ?k14 ?a15 ?l15 ?c15 ?k15 ?a16 ?l16 ?c16 ?k16 ?a17 ?l17 ?c17 ?k17 ?a18 ?l18 ?c18 ?k18 ?a19 ?l19 ?c19 ?k19 ?a20 ?l20 ?c20 ?k20 ?a21 ?l21 ?c21 ?k21 ?a22 ?l22 ?c22 ?k22 ?a23 ?l23 ?c23 ?k23 ?a_CW ?a_CW___init__ ?l_CW___init__ ?c_CW___init__ ?k_CW___init__ ?i_CW___init__ ?a_CW___contains__ ?l_CW___contains__ ?c_CW___contains__ ?k_CW___contains__ ?i_CW___contains__ ?a_CW___getitem__ ?l_CW___getitem__ ?c_CW___getitem__ ?k_CW___getitem__ ?i_CW___getitem__ ?mk_CW ?pg_CW ?hd_CW ?po_CW ?sa_CW ?kc_CW ?ya_CW ?yb ?yc ?yd_CW ?yk_CW ?n_CW_own_speeds ?n_CW_workers ?n_CW_speed ?n_CW_slowest ?n_CW_fastest ?sr_CW ?sg_CW ?sf_CW_of ?sc_CW_of ?l_CW_of ?c_CW_of ?k_CW_of ?mk_CS ?a_CS ?a_CS_late_of ?l_CS_late_of ?c_CS_late_of ?k_CS_late_of ?i_CS_late_of ?a_CS_straight ?l_CS_straight ?c_CS_straight ?k_CS_straight ?i_CS_straight ?a_CS_with_fee ?l_CS_with_fee ?c_CS_with_fee ?k_CS_with_fee ?i_CS_with_fee ?pg_CS ?hd_CS ?po_CS ?sa_CS ?kc_CS ?ya_CS ?yd_CS ?yk_CS ?n_CS_crew ?n_CS_least ?n_CS_most ?n_CS_fee ?n_CS_own_slow ?n_CS_own_fast ?n_CS_lowest ?mk_CQ ?a_CQ ?a_CQ___add__ ?l_CQ___add__ ?c_CQ___add__ ?k_CQ___add__ ?i_CQ___add__ ?a_CQ___radd__ ?l_CQ___radd__ ?c_CQ___radd__ ?k_CQ___radd__ ?i_CQ___radd__ ?a_CQ___sub__ ?l_CQ___sub__ ?c_CQ___sub__ ?k_CQ___sub__ ?i_CQ___sub__ ?a_CQ___rsub__ ?l_CQ___rsub__ ?c_CQ___rsub__ ?k_CQ___rsub__ ?i_CQ___rsub__ ?a_CQ___mul__ ?l_CQ___mul__ ?c_CQ___mul__ ?k_CQ___mul__ ?i_CQ___mul__ ?a_CQ___rmul__ ?l_CQ___rmul__ ?c_CQ___rmul__ ?k_CQ___rmul__ ?i_CQ___rmul__ ?a_CQ___lt__ ?l_CQ___lt__ ?c_CQ___lt__ ?k_CQ___lt__ ?i_CQ___lt__ ?a_CQ___gt__ ?l_CQ___gt__ ?c_CQ___gt__ ?k_CQ___gt__ ?i_CQ___gt__ ?a_CQ___eq__ ?l_CQ___eq__ ?c_CQ___eq__ ?k_CQ___eq__ ?i_CQ___eq__ ?pg_CQ ?hd_CQ ?po_CQ ?sa_CQ ?kc_CQ ?ya_CQ ?yd_CQ ?yk_CQ ?n_CQ_over ?n_CQ_under ?cf1_CQ ?cf2_CQ ?cf3_CQ ?cf5_CQ ?a_CT ?a_CT___init__ ?l_CT___init__ ?c_CT___init__ ?k_CT___init__ ?i_CT___init__ ?a_CT_batch_from ?l_CT_batch_from ?c_CT_batch_from ?k_CT_batch_from ?i_CT_batch_from ?mk_CT ?pg_CT ?hd_CT ?po_CT ?sa_CT ?kc_CT ?ya_CT ?yd_CT ?yk_CT ?n_CT_many ?n_CT_over ?a_CB2 ?a_CB2___init__ ?l_CB2___init__ ?c_CB2___init__ ?k_CB2___init__ ?i_CB2___init__ ?mk_CB2 ?pg_CB2 ?hd_CB2 ?po_CB2 ?sa_CB2 ?kc_CB2 ?ya_CB2 ?yd_CB2 ?yk_CB2 ?n_CB2_late ?n_CB2_rest ?n_CB2_spot ?a_CE2 ?a_CE2___init__ ?l_CE2___init__ ?c_CE2___init__ ?k_CE2___init__ ?i_CE2___init__ ?mk_CE2 ?pg_CE2 ?hd_CE2 ?po_CE2 ?sa_CE2 ?kc_CE2 ?ya_CE2 ?yd_CE2 ?yk_CE2 ?n_CE2_spot ?n_CE2_rise ?a_CD ?a_CD___init__ ?l_CD___init__ ?c_CD___init__ ?k_CD___init__ ?i_CD___init__ ?mk_CD ?pg_CD ?hd_CD ?po_CD ?sa_CD ?kc_CD ?ya_CD ?yd_CD ?yk_CD ?n_CD_x ?n_CD_y ?n_CD_w ?n_CD_parts ?n_CD_modulus ?a_CRl ?a_CS___init__ ?l_CS___init__ ?c_CS___init__ ?k_CS___init__ ?i_CS___init__ ?lT_CS___init__ ?sf_CW_even ?sc_CW_even ?l_CW_even ?c_CW_even ?k_CW_even ?lT_CW_even ?a_CQ___init__ ?l_CQ___init__ ?c_CQ___init__ ?k_CQ___init__ ?i_CQ___init__ ?lT_CQ___init__ ?a_CL ?aZB ?iZB ?tZB ?lZB ?cZB ?eZB ?sZB ?xZB ?yZB ?kZB ?qZB ?uZB ?vZB ?wZB ?mZB ?pZB ?bZB ?zS ?tS ?oB ?nZB_value ?gZB ?hZB ?dZB ?jZB ?rZB ?k1ZB ?emZB ?kVZB ?aZC ?iZC ?tZC ?lZC ?cZC ?eZC ?sZC ?xZC ?yZC ?kZC ?qZC ?uZC ?vZC ?wZC ?mZC ?pZC ?bZC ?nZC_part ?gZC ?hZC ?dZC ?jZC ?rZC ?k1ZC ?emZC ?kVZC ?aZM ?iZM ?tZM ?lZM ?cZM ?eZM ?sZM ?xZM ?yZM ?kZM ?qZM ?uZM ?vZM ?wZM ?mZM ?pZM ?bZM ?nZM_what ?nZM_most ?gZM ?hZM ?dZM ?jZM ?rZM ?k1ZM ?emZM ?kVZM ?aZNa ?iZNa ?tZNa ?lZNa ?cZNa ?eZNa ?sZNa ?xZNa ?yZNa ?kZNa ?qZNa ?uZNa ?vZNa ?wZNa ?mZNa ?pZNa ?bZNa ?nZNa_value ?gZNa ?hZNa ?dZNa ?jZNa ?rZNa ?k1ZNa ?emZNa ?kVZNa ?aZSp ?iZSp ?tZSp ?lZSp ?cZSp ?eZSp ?sZSp ?xZSp ?yZSp ?kZSp ?qZSp ?uZSp ?vZSp ?wZSp ?mZSp ?pZSp ?bZSp ?nZSp_value ?gZSp ?hZSp ?dZSp ?jZSp ?rZSp ?k1ZSp ?emZSp ?kVZSp ?aZCr ?iZCr ?tZCr ?lZCr ?cZCr ?eZCr ?sZCr ?xZCr ?yZCr ?kZCr ?qZCr ?uZCr ?vZCr ?wZCr ?mZCr ?pZCr ?bZCr ?nZCr_part ?gZCr ?hZCr ?dZCr ?jZCr ?rZCr ?k1ZCr ?emZCr ?kVZCr ?aZNw ?iZNw ?tZNw ?lZNw ?cZNw ?eZNw ?sZNw ?xZNw ?yZNw ?kZNw ?qZNw ?uZNw ?vZNw ?wZNw ?mZNw ?pZNw ?bZNw ?nZNw_name ?gZNw ?hZNw ?dZNw ?jZNw ?rZNw ?k1ZNw ?emZNw ?kVZNw ?aZQ ?iZQ ?tZQ ?lZQ ?cZQ ?eZQ ?sZQ ?xZQ ?yZQ ?kZQ ?qZQ ?uZQ ?vZQ ?wZQ ?mZQ ?pZQ ?bZQ ?nZQ_value ?gZQ ?hZQ ?dZQ ?jZQ ?rZQ ?k1ZQ ?emZQ ?kVZQ ?aZRe ?iZRe ?tZRe ?lZRe ?cZRe ?eZRe ?sZRe ?xZRe ?yZRe ?kZRe ?qZRe ?uZRe ?vZRe ?wZRe ?mZRe ?pZRe ?bZRe ?nZRe_value ?gZRe ?hZRe ?dZRe ?jZRe ?rZRe ?k1ZRe ?emZRe ?kVZRe ?aZSe ?iZSe ?tZSe ?lZSe ?cZSe ?eZSe ?sZSe ?xZSe ?yZSe ?kZSe ?qZSe ?uZSe ?vZSe ?wZSe ?mZSe ?pZSe ?bZSe ?nZSe_part ?gZSe ?hZSe ?dZSe ?jZSe ?rZSe ?k1ZSe ?emZSe ?kVZSe ?aZCo ?iZCo ?tZCo ?lZCo ?cZCo ?eZCo ?sZCo ?xZCo ?yZCo ?kZCo ?qZCo ?uZCo ?vZCo ?wZCo ?mZCo ?pZCo ?bZCo ?nZCo_value ?gZCo ?hZCo ?dZCo ?jZCo ?rZCo ?k1ZCo ?emZCo ?kVZCo ?aZFe ?iZFe ?tZFe ?lZFe ?cZFe ?eZFe ?sZFe ?xZFe ?yZFe ?kZFe ?qZFe ?uZFe ?vZFe ?wZFe ?mZFe ?pZFe ?bZFe ?nZFe_value ?gZFe ?hZFe ?dZFe ?jZFe ?rZFe ?k1ZFe ?emZFe ?kVZFe ?aZRu ?iZRu ?tZRu ?lZRu ?cZRu ?eZRu ?sZRu ?xZRu ?yZRu ?kZRu ?qZRu ?uZRu ?vZRu ?wZRu ?mZRu ?pZRu ?bZRu ?nZRu_part ?gZRu ?hZRu ?dZRu ?jZRu ?rZRu ?k1ZRu ?emZRu ?kVZRu ?gWo ?lWo ?gSi ?gSp ?gMW ?gCo ?gFe ?yoQ ?yiQ ?sfQ ?mrQ ?sIQ ?sBQ ?oQ_add ?vQ_add ?uQ_add ?xQ_add ?oQ_sub ?vQ_sub ?uQ_sub ?xQ_sub ?oQ_mul ?vQ_mul ?uQ_mul ?xQ_mul ?ns_CW ?fi_CW ?kSR ?kRS ?kDT ?kWT ?kWS ?kTS ?kTR ?kn1 ?kn2 ?kn3 ?kn4 ?kT7T ?kT7S ?gMOv ?gMDv ?gMAd ?z_isinstance ?z_int ?z_bool ?z_len ?z_abs ?z_list ?z_tuple ?z_range ?z_repr ?z_str ?z_zip ?z_min ?z_max ?z_all ?z_any ?z_sorted ?z_enumerate ?z_ValueError ?z_dict ?z_sum ?hCPt ?nPPt ?tPPt ?hPd0
    (case a1 => k_is)
    (case l1 => k_is)
    (case c1 => k_is)
    (case k1 => k_is)
    (case a2 => k_is)
    (case l2 => k_is)
    (case c2 => k_is)
    (case k2 => k_is)
    (case a3 => k_is)
    (case l3 => k_is)
    (case c3 => k_is)
    (case k3 => k_is)
    (case a4 => k_is)
    (case l4 => k_is)
    (case c4 => k_is)
    (case k4 => k_is)
    (case a5 => k_is)
    (case l5 => k_is)
    (case c5 => k_is)
    (case k5 => k_is)
    (case a6 => k_is)
    (case l6 => k_is)
    (case c6 => k_is)
    (case k6 => k_is)
    (case a7 => k_is)
    (case l7 => k_is)
    (case c7 => k_is)
    (case k7 => k_is)
    (case a8 => k_is)
    (case l8 => k_is)
    (case c8 => k_is)
    (case k8 => k_is)
    (case a9 => k_is)
    (case l9 => k_is)
    (case c9 => k_is)
    (case k9 => k_is)
    (case a10 => k_is)
    (case l10 => k_is)
    (case c10 => k_is)
    (case k10 => k_is)
    (case a11 => k_is)
    (case l11 => k_is)
    (case c11 => k_is)
    (case k11 => k_is)
    (case a12 => k_is)
    (case l12 => k_is)
    (case c12 => k_is)
    (case k12 => k_is)
    (case a13 => k_is)
    (case l13 => k_is)
    (case c13 => k_is)
    (case k13 => k_is)
    (case a14 => k_is)
    (case l14 => k_is)
    (case c14 => k_is)
    (case k14 => k_is)
    (case a15 => k_is)
    (case l15 => k_is)
    (case c15 => k_is)
    (case k15 => k_is)
    (case a16 => k_is)
    (case l16 => k_is)
    (case c16 => k_is)
    (case k16 => k_is)
    (case a17 => k_is)
    (case l17 => k_is)
    (case c17 => k_is)
    (case k17 => k_is)
    (case a18 => k_is)
    (case l18 => k_is)
    (case c18 => k_is)
    (case k18 => k_is)
    (case a19 => k_is)
    (case l19 => k_is)
    (case c19 => k_is)
    (case k19 => k_is)
    (case a20 => k_is)
    (case l20 => k_is)
    (case c20 => k_is)
    (case k20 => k_is)
    (case a21 => k_is)
    (case l21 => k_is)
    (case c21 => k_is)
    (case k21 => k_is)
    (case a22 => k_is)
    (case l22 => k_is)
    (case c22 => k_is)
    (case k22 => k_is)
    (case a23 => k_is)
    (case l23 => k_is)
    (case c23 => k_is)
    (case k23 => k_is)
    (case a_CW => k_is)
    (case a_CW___init__ => k_is)
    (case l_CW___init__ => k_is)
    (case c_CW___init__ => k_is)
    (case k_CW___init__ => k_is)
    (case i_CW___init__ => k_is)
    (case a_CW___contains__ => k_is)
    (case l_CW___contains__ => k_is)
    (case c_CW___contains__ => k_is)
    (case k_CW___contains__ => k_is)
    (case i_CW___contains__ => k_is)
    (case a_CW___getitem__ => k_is)
    (case l_CW___getitem__ => k_is)
    (case c_CW___getitem__ => k_is)
    (case k_CW___getitem__ => k_is)
    (case i_CW___getitem__ => k_is)
    (case pg_CW => k_is)
    (case hd_CW => k_is)
    (case po_CW => k_is)
    (case sa_CW => k_is)
    (case kc_CW => k_is)
    (case ya_CW => k_is)
    (case yb => k_is)
    (case yc => k_is)
    (case yd_CW => k_is)
    (case yk_CW => kernel_rfl)
    (case n_CW_own_speeds => k_is)
    (case n_CW_workers => k_is)
    (case n_CW_speed => k_is)
    (case n_CW_slowest => k_is)
    (case n_CW_fastest => k_is)
    (case sr_CW => k_is)
    (case sg_CW => k_is)
    (case sf_CW_of => k_is)
    (case sc_CW_of => k_is)
    (case l_CW_of => k_is)
    (case c_CW_of => k_is)
    (case k_CW_of => k_is)
    (case a_CS => k_is)
    (case a_CS_late_of => k_is)
    (case l_CS_late_of => k_is)
    (case c_CS_late_of => k_is)
    (case k_CS_late_of => k_is)
    (case i_CS_late_of => k_is)
    (case a_CS_straight => k_is)
    (case l_CS_straight => k_is)
    (case c_CS_straight => k_is)
    (case k_CS_straight => k_is)
    (case i_CS_straight => k_is)
    (case a_CS_with_fee => k_is)
    (case l_CS_with_fee => k_is)
    (case c_CS_with_fee => k_is)
    (case k_CS_with_fee => k_is)
    (case i_CS_with_fee => k_is)
    (case pg_CS => k_is)
    (case hd_CS => k_is)
    (case po_CS => k_is)
    (case sa_CS => k_is)
    (case kc_CS => k_is)
    (case ya_CS => k_is)
    (case yd_CS => k_is)
    (case yk_CS => kernel_rfl)
    (case n_CS_crew => k_is)
    (case n_CS_least => k_is)
    (case n_CS_most => k_is)
    (case n_CS_fee => k_is)
    (case n_CS_own_slow => k_is)
    (case n_CS_own_fast => k_is)
    (case n_CS_lowest => k_is)
    (case a_CQ => k_is)
    (case a_CQ___add__ => k_is)
    (case l_CQ___add__ => k_is)
    (case c_CQ___add__ => k_is)
    (case k_CQ___add__ => k_is)
    (case i_CQ___add__ => k_is)
    (case a_CQ___radd__ => k_is)
    (case l_CQ___radd__ => k_is)
    (case c_CQ___radd__ => k_is)
    (case k_CQ___radd__ => k_is)
    (case i_CQ___radd__ => k_is)
    (case a_CQ___sub__ => k_is)
    (case l_CQ___sub__ => k_is)
    (case c_CQ___sub__ => k_is)
    (case k_CQ___sub__ => k_is)
    (case i_CQ___sub__ => k_is)
    (case a_CQ___rsub__ => k_is)
    (case l_CQ___rsub__ => k_is)
    (case c_CQ___rsub__ => k_is)
    (case k_CQ___rsub__ => k_is)
    (case i_CQ___rsub__ => k_is)
    (case a_CQ___mul__ => k_is)
    (case l_CQ___mul__ => k_is)
    (case c_CQ___mul__ => k_is)
    (case k_CQ___mul__ => k_is)
    (case i_CQ___mul__ => k_is)
    (case a_CQ___rmul__ => k_is)
    (case l_CQ___rmul__ => k_is)
    (case c_CQ___rmul__ => k_is)
    (case k_CQ___rmul__ => k_is)
    (case i_CQ___rmul__ => k_is)
    (case a_CQ___lt__ => k_is)
    (case l_CQ___lt__ => k_is)
    (case c_CQ___lt__ => k_is)
    (case k_CQ___lt__ => k_is)
    (case i_CQ___lt__ => k_is)
    (case a_CQ___gt__ => k_is)
    (case l_CQ___gt__ => k_is)
    (case c_CQ___gt__ => k_is)
    (case k_CQ___gt__ => k_is)
    (case i_CQ___gt__ => k_is)
    (case a_CQ___eq__ => k_is)
    (case l_CQ___eq__ => k_is)
    (case c_CQ___eq__ => k_is)
    (case k_CQ___eq__ => k_is)
    (case i_CQ___eq__ => k_is)
    (case pg_CQ => k_is)
    (case hd_CQ => k_is)
    (case po_CQ => k_is)
    (case sa_CQ => k_is)
    (case kc_CQ => k_is)
    (case ya_CQ => k_is)
    (case yd_CQ => k_is)
    (case yk_CQ => kernel_rfl)
    (case n_CQ_over => k_is)
    (case n_CQ_under => k_is)
    (case cf1_CQ => kernel_rfl)
    (case cf2_CQ => first | k_is | kernel_rfl)
    (case cf3_CQ => kernel_rfl)
    (case cf5_CQ => k_is)
    (case a_CT => k_is)
    (case a_CT___init__ => k_is)
    (case l_CT___init__ => k_is)
    (case c_CT___init__ => k_is)
    (case k_CT___init__ => k_is)
    (case i_CT___init__ => k_is)
    (case a_CT_batch_from => k_is)
    (case l_CT_batch_from => k_is)
    (case c_CT_batch_from => k_is)
    (case k_CT_batch_from => k_is)
    (case i_CT_batch_from => k_is)
    (case pg_CT => k_is)
    (case hd_CT => k_is)
    (case po_CT => k_is)
    (case sa_CT => k_is)
    (case kc_CT => k_is)
    (case ya_CT => k_is)
    (case yd_CT => k_is)
    (case yk_CT => kernel_rfl)
    (case n_CT_many => k_is)
    (case n_CT_over => k_is)
    (case a_CB2 => k_is)
    (case a_CB2___init__ => k_is)
    (case l_CB2___init__ => k_is)
    (case c_CB2___init__ => k_is)
    (case k_CB2___init__ => k_is)
    (case i_CB2___init__ => k_is)
    (case pg_CB2 => k_is)
    (case hd_CB2 => k_is)
    (case po_CB2 => k_is)
    (case sa_CB2 => k_is)
    (case kc_CB2 => k_is)
    (case ya_CB2 => k_is)
    (case yd_CB2 => k_is)
    (case yk_CB2 => kernel_rfl)
    (case n_CB2_late => k_is)
    (case n_CB2_rest => k_is)
    (case n_CB2_spot => k_is)
    (case a_CE2 => k_is)
    (case a_CE2___init__ => k_is)
    (case l_CE2___init__ => k_is)
    (case c_CE2___init__ => k_is)
    (case k_CE2___init__ => k_is)
    (case i_CE2___init__ => k_is)
    (case pg_CE2 => k_is)
    (case hd_CE2 => k_is)
    (case po_CE2 => k_is)
    (case sa_CE2 => k_is)
    (case kc_CE2 => k_is)
    (case ya_CE2 => k_is)
    (case yd_CE2 => k_is)
    (case yk_CE2 => kernel_rfl)
    (case n_CE2_spot => k_is)
    (case n_CE2_rise => k_is)
    (case a_CD => k_is)
    (case a_CD___init__ => k_is)
    (case l_CD___init__ => k_is)
    (case c_CD___init__ => k_is)
    (case k_CD___init__ => k_is)
    (case i_CD___init__ => k_is)
    (case pg_CD => k_is)
    (case hd_CD => k_is)
    (case po_CD => k_is)
    (case sa_CD => k_is)
    (case kc_CD => k_is)
    (case ya_CD => k_is)
    (case yd_CD => k_is)
    (case yk_CD => kernel_rfl)
    (case n_CD_x => k_is)
    (case n_CD_y => k_is)
    (case n_CD_w => k_is)
    (case n_CD_parts => k_is)
    (case n_CD_modulus => k_is)
    (case a_CRl => k_is)
    (case a_CS___init__ => k_is)
    (case l_CS___init__ => k_is)
    (case c_CS___init__ => k_is)
    (case k_CS___init__ => k_is)
    (case i_CS___init__ => k_is)
    (case lT_CS___init__ => k_is)
    (case sf_CW_even => k_is)
    (case sc_CW_even => k_is)
    (case l_CW_even => k_is)
    (case c_CW_even => k_is)
    (case k_CW_even => k_is)
    (case lT_CW_even => k_is)
    (case a_CQ___init__ => k_is)
    (case l_CQ___init__ => k_is)
    (case c_CQ___init__ => k_is)
    (case k_CQ___init__ => k_is)
    (case i_CQ___init__ => k_is)
    (case lT_CQ___init__ => k_is)
    (case a_CL => k_is)
    (case aZB => k_is)
    (case iZB => k_is)
    (case tZB => k_is)
    (case lZB => k_is)
    (case cZB => k_is)
    (case eZB => exact ⟨_, _, _, _, _, _, _, _, _, _, _, _, _, _, _, by k_is, by decide +kernel⟩)
    (case sZB => k_is)
    (case xZB => k_is)
    (case yZB => k_is)
    (case kZB => k_is)
    (case qZB => k_is)
    (case uZB => k_is)
    (case vZB => rfl)
    (case wZB => first | rfl | decide +kernel)
    (case mZB => k_is)
    (case pZB => first | k_is | kernel_rfl)
    (case bZB => k_is)
    (case zS => k_is)
    (case tS => first | rfl | decide +kernel | kernel_rfl)
    (case oB => k_is)
    (case nZB_value => k_is)
    (case gZB => k_is)
    (case hZB => k_is)
    (case dZB => k_is)
    (case jZB => k_is)
    (case rZB => k_is)
    (case k1ZB => kernel_rfl)
    (case emZB => kernel_rfl)
    (case kVZB => kernel_rfl)
    (case aZC => k_is)
    (case iZC => k_is)
    (case tZC => k_is)
    (case lZC => k_is)
    (case cZC => k_is)
    (case eZC => exact ⟨_, _, _, _, _, _, _, _, _, _, _, _, _, _, _, by k_is, by decide +kernel⟩)
    (case sZC => k_is)
    (case xZC => k_is)
    (case yZC => k_is)
    (case kZC => k_is)
    (case qZC => k_is)
    (case uZC => k_is)
    (case vZC => rfl)
    (case wZC => first | rfl | decide +kernel)
    (case mZC => k_is)
    (case pZC => first | k_is | kernel_rfl)
    (case bZC => k_is)
    (case nZC_part => k_is)
    (case gZC => k_is)
    (case hZC => k_is)
    (case dZC => k_is)
    (case jZC => k_is)
    (case rZC => k_is)
    (case k1ZC => kernel_rfl)
    (case emZC => kernel_rfl)
    (case kVZC => kernel_rfl)
    (case aZM => k_is)
    (case iZM => k_is)
    (case tZM => k_is)
    (case lZM => k_is)
    (case cZM => k_is)
    (case eZM => exact ⟨_, _, _, _, _, _, _, _, _, _, _, _, _, _, _, by k_is, by decide +kernel⟩)
    (case sZM => k_is)
    (case xZM => k_is)
    (case yZM => k_is)
    (case kZM => k_is)
    (case qZM => k_is)
    (case uZM => k_is)
    (case vZM => rfl)
    (case wZM => first | rfl | decide +kernel)
    (case mZM => k_is)
    (case pZM => first | k_is | kernel_rfl)
    (case bZM => k_is)
    (case nZM_what => k_is)
    (case nZM_most => k_is)
    (case gZM => k_is)
    (case hZM => k_is)
    (case dZM => k_is)
    (case jZM => k_is)
    (case rZM => k_is)
    (case k1ZM => kernel_rfl)
    (case emZM => kernel_rfl)
    (case kVZM => kernel_rfl)
    (case aZNa => k_is)
    (case iZNa => k_is)
    (case tZNa => k_is)
    (case lZNa => k_is)
    (case cZNa => k_is)
    (case eZNa => exact ⟨_, _, _, _, _, _, _, _, _, _, _, _, _, _, _, by k_is, by decide +kernel⟩)
    (case sZNa => k_is)
    (case xZNa => k_is)
    (case yZNa => k_is)
    (case kZNa => k_is)
    (case qZNa => k_is)
    (case uZNa => k_is)
    (case vZNa => rfl)
    (case wZNa => first | rfl | decide +kernel)
    (case mZNa => k_is)
    (case pZNa => first | k_is | kernel_rfl)
    (case bZNa => k_is)
    (case nZNa_value => k_is)
    (case gZNa => k_is)
    (case hZNa => k_is)
    (case dZNa => k_is)
    (case jZNa => k_is)
    (case rZNa => k_is)
    (case k1ZNa => kernel_rfl)
    (case emZNa => kernel_rfl)
    (case kVZNa => kernel_rfl)
    (case aZSp => k_is)
    (case iZSp => k_is)
    (case tZSp => k_is)
    (case lZSp => k_is)
    (case cZSp => k_is)
    (case eZSp => exact ⟨_, _, _, _, _, _, _, _, _, _, _, _, _, _, _, by k_is, by decide +kernel⟩)
    (case sZSp => k_is)
    (case xZSp => k_is)
    (case yZSp => k_is)
    (case kZSp => k_is)
    (case qZSp => k_is)
    (case uZSp => k_is)
    (case vZSp => rfl)
    (case wZSp => first | rfl | decide +kernel)
    (case mZSp => k_is)
    (case pZSp => first | k_is | kernel_rfl)
    (case bZSp => k_is)
    (case nZSp_value => k_is)
    (case gZSp => k_is)
    (case hZSp => k_is)
    (case dZSp => k_is)
    (case jZSp => k_is)
    (case rZSp => k_is)
    (case k1ZSp => kernel_rfl)
    (case emZSp => kernel_rfl)
    (case kVZSp => kernel_rfl)
    (case aZCr => k_is)
    (case iZCr => k_is)
    (case tZCr => k_is)
    (case lZCr => k_is)
    (case cZCr => k_is)
    (case eZCr => exact ⟨_, _, _, _, _, _, _, _, _, _, _, _, _, _, _, by k_is, by decide +kernel⟩)
    (case sZCr => k_is)
    (case xZCr => k_is)
    (case yZCr => k_is)
    (case kZCr => k_is)
    (case qZCr => k_is)
    (case uZCr => k_is)
    (case vZCr => rfl)
    (case wZCr => first | rfl | decide +kernel)
    (case mZCr => k_is)
    (case pZCr => first | k_is | kernel_rfl)
    (case bZCr => k_is)
    (case nZCr_part => k_is)
    (case gZCr => k_is)
    (case hZCr => k_is)
    (case dZCr => k_is)
    (case jZCr => k_is)
    (case rZCr => k_is)
    (case k1ZCr => kernel_rfl)
    (case emZCr => kernel_rfl)
    (case kVZCr => kernel_rfl)
    (case aZNw => k_is)
    (case iZNw => k_is)
    (case tZNw => k_is)
    (case lZNw => k_is)
    (case cZNw => k_is)
    (case eZNw => exact ⟨_, _, _, _, _, _, _, _, _, _, _, _, _, _, _, by k_is, by decide +kernel⟩)
    (case sZNw => k_is)
    (case xZNw => k_is)
    (case yZNw => k_is)
    (case kZNw => k_is)
    (case qZNw => k_is)
    (case uZNw => k_is)
    (case vZNw => rfl)
    (case wZNw => first | rfl | decide +kernel)
    (case mZNw => k_is)
    (case pZNw => first | k_is | kernel_rfl)
    (case bZNw => k_is)
    (case nZNw_name => k_is)
    (case gZNw => k_is)
    (case hZNw => k_is)
    (case dZNw => k_is)
    (case jZNw => k_is)
    (case rZNw => k_is)
    (case k1ZNw => kernel_rfl)
    (case emZNw => kernel_rfl)
    (case kVZNw => kernel_rfl)
    (case aZQ => k_is)
    (case iZQ => k_is)
    (case tZQ => k_is)
    (case lZQ => k_is)
    (case cZQ => k_is)
    (case eZQ => exact ⟨_, _, _, _, _, _, _, _, _, _, _, _, _, _, _, by k_is, by decide +kernel⟩)
    (case sZQ => k_is)
    (case xZQ => k_is)
    (case yZQ => k_is)
    (case kZQ => k_is)
    (case qZQ => k_is)
    (case uZQ => k_is)
    (case vZQ => rfl)
    (case wZQ => first | rfl | decide +kernel)
    (case mZQ => k_is)
    (case pZQ => first | k_is | kernel_rfl)
    (case bZQ => k_is)
    (case nZQ_value => k_is)
    (case gZQ => k_is)
    (case hZQ => k_is)
    (case dZQ => k_is)
    (case jZQ => k_is)
    (case rZQ => k_is)
    (case k1ZQ => kernel_rfl)
    (case emZQ => kernel_rfl)
    (case kVZQ => kernel_rfl)
    (case aZRe => k_is)
    (case iZRe => k_is)
    (case tZRe => k_is)
    (case lZRe => k_is)
    (case cZRe => k_is)
    (case eZRe => exact ⟨_, _, _, _, _, _, _, _, _, _, _, _, _, _, _, by k_is, by decide +kernel⟩)
    (case sZRe => k_is)
    (case xZRe => k_is)
    (case yZRe => k_is)
    (case kZRe => k_is)
    (case qZRe => k_is)
    (case uZRe => k_is)
    (case vZRe => rfl)
    (case wZRe => first | rfl | decide +kernel)
    (case mZRe => k_is)
    (case pZRe => first | k_is | kernel_rfl)
    (case bZRe => k_is)
    (case nZRe_value => k_is)
    (case gZRe => k_is)
    (case hZRe => k_is)
    (case dZRe => k_is)
    (case jZRe => k_is)
    (case rZRe => k_is)
    (case k1ZRe => kernel_rfl)
    (case emZRe => kernel_rfl)
    (case kVZRe => kernel_rfl)
    (case aZSe => k_is)
    (case iZSe => k_is)
    (case tZSe => k_is)
    (case lZSe => k_is)
    (case cZSe => k_is)
    (case eZSe => exact ⟨_, _, _, _, _, _, _, _, _, _, _, _, _, _, _, by k_is, by decide +kernel⟩)
    (case sZSe => k_is)
    (case xZSe => k_is)
    (case yZSe => k_is)
    (case kZSe => k_is)
    (case qZSe => k_is)
    (case uZSe => k_is)
    (case vZSe => rfl)
    (case wZSe => first | rfl | decide +kernel)
    (case mZSe => k_is)
    (case pZSe => first | k_is | kernel_rfl)
    (case bZSe => k_is)
    (case nZSe_part => k_is)
    (case gZSe => k_is)
    (case hZSe => k_is)
    (case dZSe => k_is)
    (case jZSe => k_is)
    (case rZSe => k_is)
    (case k1ZSe => kernel_rfl)
    (case emZSe => kernel_rfl)
    (case kVZSe => kernel_rfl)
    (case aZCo => k_is)
    (case iZCo => k_is)
    (case tZCo => k_is)
    (case lZCo => k_is)
    (case cZCo => k_is)
    (case eZCo => exact ⟨_, _, _, _, _, _, _, _, _, _, _, _, _, _, _, by k_is, by decide +kernel⟩)
    (case sZCo => k_is)
    (case xZCo => k_is)
    (case yZCo => k_is)
    (case kZCo => k_is)
    (case qZCo => k_is)
    (case uZCo => k_is)
    (case vZCo => rfl)
    (case wZCo => first | rfl | decide +kernel)
    (case mZCo => k_is)
    (case pZCo => first | k_is | kernel_rfl)
    (case bZCo => k_is)
    (case nZCo_value => k_is)
    (case gZCo => k_is)
    (case hZCo => k_is)
    (case dZCo => k_is)
    (case jZCo => k_is)
    (case rZCo => k_is)
    (case k1ZCo => kernel_rfl)
    (case emZCo => kernel_rfl)
    (case kVZCo => kernel_rfl)
    (case aZFe => k_is)
    (case iZFe => k_is)
    (case tZFe => k_is)
    (case lZFe => k_is)
    (case cZFe => k_is)
    (case eZFe => exact ⟨_, _, _, _, _, _, _, _, _, _, _, _, _, _, _, by k_is, by decide +kernel⟩)
    (case sZFe => k_is)
    (case xZFe => k_is)
    (case yZFe => k_is)
    (case kZFe => k_is)
    (case qZFe => k_is)
    (case uZFe => k_is)
    (case vZFe => rfl)
    (case wZFe => first | rfl | decide +kernel)
    (case mZFe => k_is)
    (case pZFe => first | k_is | kernel_rfl)
    (case bZFe => k_is)
    (case nZFe_value => k_is)
    (case gZFe => k_is)
    (case hZFe => k_is)
    (case dZFe => k_is)
    (case jZFe => k_is)
    (case rZFe => k_is)
    (case k1ZFe => kernel_rfl)
    (case emZFe => kernel_rfl)
    (case kVZFe => kernel_rfl)
    (case aZRu => k_is)
    (case iZRu => k_is)
    (case tZRu => k_is)
    (case lZRu => k_is)
    (case cZRu => k_is)
    (case eZRu => exact ⟨_, _, _, _, _, _, _, _, _, _, _, _, _, _, _, by k_is, by decide +kernel⟩)
    (case sZRu => k_is)
    (case xZRu => k_is)
    (case yZRu => k_is)
    (case kZRu => k_is)
    (case qZRu => k_is)
    (case uZRu => k_is)
    (case vZRu => rfl)
    (case wZRu => first | rfl | decide +kernel)
    (case mZRu => k_is)
    (case pZRu => first | k_is | kernel_rfl)
    (case bZRu => k_is)
    (case nZRu_part => k_is)
    (case gZRu => k_is)
    (case hZRu => k_is)
    (case dZRu => k_is)
    (case jZRu => k_is)
    (case rZRu => k_is)
    (case k1ZRu => kernel_rfl)
    (case emZRu => kernel_rfl)
    (case kVZRu => kernel_rfl)
    (case gWo => k_is)
    (case lWo => k_is)
    (case gSi => k_is)
    (case gSp => k_is)
    (case gMW => k_is)
    (case gCo => k_is)
    (case gFe => k_is)
    (case yoQ => kernel_rfl)
    (case yiQ => kernel_rfl)
    (case sfQ => k_is)
    (case mrQ => kernel_rfl)
    (case sIQ => k_is)
    (case sBQ => k_is)
    (case oQ_add => kernel_rfl)
    (case vQ_add => first | k_is | kernel_rfl)
    (case uQ_add => first | k_is | kernel_rfl)
    (case xQ_add => first | k_is | kernel_rfl)
    (case oQ_sub => kernel_rfl)
    (case vQ_sub => first | k_is | kernel_rfl)
    (case uQ_sub => first | k_is | kernel_rfl)
    (case xQ_sub => first | k_is | kernel_rfl)
    (case oQ_mul => kernel_rfl)
    (case vQ_mul => first | k_is | kernel_rfl)
    (case uQ_mul => first | k_is | kernel_rfl)
    (case xQ_mul => first | k_is | kernel_rfl)
    (case ns_CW => first | k_is | kernel_rfl)
    (case fi_CW => first | k_is | kernel_rfl)
    (case kSR => kernel_rfl)
    (case kRS => kernel_rfl)
    (case kDT => kernel_rfl)
    (case kWT => kernel_rfl)
    (case kWS => kernel_rfl)
    (case kTS => kernel_rfl)
    (case kTR => kernel_rfl)
    (case kn1 => kernel_rfl)
    (case kn2 => kernel_rfl)
    (case kn3 => kernel_rfl)
    (case kn4 => kernel_rfl)
    (case kT7T => kernel_rfl)
    (case kT7S => kernel_rfl)
    (case gMOv => k_is)
    (case gMDv => k_is)
    (case gMAd => k_is)
    (case z_isinstance => k_is)
    (case z_int => k_is)
    (case z_bool => k_is)
    (case z_len => k_is)
    (case z_abs => k_is)
    (case z_list => k_is)
    (case z_tuple => k_is)
    (case z_range => k_is)
    (case z_repr => k_is)
    (case z_str => k_is)
    (case z_zip => k_is)
    (case z_min => k_is)
    (case z_max => k_is)
    (case z_all => k_is)
    (case z_any => k_is)
    (case z_sorted => k_is)
    (case z_enumerate => k_is)
    (case z_ValueError => k_is)
    (case z_dict => k_is)
    (case z_sum => k_is)
    (case hCPt => kernel_rfl)
    (case nPPt => kernel_rfl)
    (case tPPt => first | exact PySem.W.km_tabs_of Y _ (by k_mem) | (trace_state; exact PySem.W.km_tabs_of Y _ (by k_mem)))
    (case hPd0 => decide)
    (case mk_CW => k_is)
    (case mk_CS => k_is)
    (case mk_CQ => k_is)
    (case mk_CT => k_is)
    (case mk_CB2 => k_is)
    (case mk_CE2 => k_is)
    (case mk_CD => k_is)
end
section
namespace L3
open PySem PySem.Spec PyProof.Rows L2 LamX
namespace KX
variable {X : Cx} {K : PySem.W.Frag} (hK : X.K = K)
include hK
theorem isiX : CallR X (.builtin "isinstance") (rIsiX K) := by subst hK; exact callIsiX
theorem xfV {e : Expr} {te : TE} {pos : Pos} {n : Str} (he : PE X e te) (hb : attributeBase e n X.env (eval e X.env) = eval e X.env) : PE X (.Attribute e n pos) (tXfV K n te) := by subst hK; exact pe_xfV he hb
theorem tup {es : List Expr} {k : Nat} {t : TGs} {n : Nat} {pos : Pos} (hc : X.calm = true) (h : PGs X es t)
    (hn : (assignEach es X.env).length = n := by rfl) (hst : (assignEach es X.env).findIdx? (·.1) = none := by rfl) : PG X (.Tuple es k pos) (gTup K n t) := by subst hK; exact pg_tup hc h hn hst
end KX
section
variable {K : PySem.W.Frag} {σ : L2.St} {H : Hp} {Q : VK} {D : Ends} {C : Addr} {o u : Int} {te ta : TE}
theorem s_par3 {i j l : Nat} {tt : TA} (h : tt σ H fun vs H1 => ∃ u v w, vs = [u, v, w] ∧ D.nx (((σ.set i (some u)).set j (some v)).set l (some w)) H1) : tPar3 i j l tt D σ H := h
theorem s_trip {R : V → V → V → Prop} {x y z : V} (h : R x y z) : ∃ u v w, [x, y, z] = [u, v, w] ∧ R u v w := ⟨x, y, z, rfl, h⟩
theorem s_aug {i : Nat} {ti : TIp} {x : V} (e : σ[i]? = some (some x)) (h : te σ H fun y H1 => ti x y H1 fun z H2 => D.nx (σ.set i (some z)) H2) : tAug i te ti D σ H := ⟨x, e, h⟩
theorem s_asgT' {n : Nat} {tg : TGs} (h : te σ H fun x H1 => gTup K n tg x σ H1 D.nx) : tAsg te (gTup K n tg) D σ H := h
theorem s_gT {a : Addr} {xs : List V} {n : Nat} {tg : TGs} {R : L2.St → Hp → Prop} (e : H a = some (.tup xs)) (hn : xs.length = n) (h : tg xs σ H R) : gTup K n tg (.ref a) σ H R := ⟨a, xs, rfl, .inl (.inl e), hn, h⟩
theorem s_gC {i : Nat} {v : V} {r : List V} {tg : TGs} {R : L2.St → Hp → Prop} (h : tg r (σ.set i (some v)) H R) : gCons (gName i) tg (v :: r) σ H R := ⟨v, r, rfl, h⟩
theorem s_gN {R : L2.St → Hp → Prop} (h : R σ H) : gNil [] σ H R := ⟨rfl, h⟩
theorem s_fldG {f : Str} (h : ta σ H fun x H1 => ∃ a C dx fs v, x = .ref a ∧ H1 a = some (.ins C dx fs) ∧ Cls K C ∧ NoAttr K C f ∧ fs.lookup f = some v ∧ Q v H1) : tFld K ta f σ H Q := h
theorem s_mulW {i j : Int} {k l : Nat} (hi : i.natAbs < 2 ^ k) (hj : j.natAbs < 2 ^ l) (hk : 0 < k) (hl : 0 < l) (hkl : k + l ≤ 900000) (h : Q (.int (i * j)) H) : rMulU (.int i) (.int j) H Q := s_mulI (wide_mul hi hj hk hl (by omega)).ok h
theorem s_rep {l : Addr} {xs : List V} {k : Int} (e : H l = some (.lst xs)) (h0 : 0 ≤ k) (h1 : k ≤ 1000) (hz : xs.length ≤ 1000) (h : ∀ p H2, H p = none → Ex H H2 → H2 p = some (.lst (List.replicate k.toNat xs).flatten) → Q (.ref p) H2) : rMulU (.ref l) (.int k) H Q :=
  .inr (.inr ⟨l, k, xs, rfl, rfl, e, by omega, by omega, Nat.le_trans (Nat.mul_le_mul hz (show k.toNat ≤ 1000 by omega)) (by decide +kernel), fun p hp => h p _ hp (ex_new hp) upd_same⟩)
theorem s_xfV {n : Str} (h : te σ H fun x H1 => ∃ (a C d : Addr) (fs : List (Str × V)) (v : V), x = .ref a ∧ H1 a = some (ExV a (.ref C) (some d)) ∧ H1 d = some (.xd fs) ∧ XfC K C ∧ PySem.W.findIn K (.ref C) n = some none ∧ fs.lookup n = some v ∧ Q v H1) : tXfV K n te σ H Q := h
/-- a def's data stay -/
theorem Dp.exN {H' : Hp} (e : ExtN H H') : ∀ (d : PyData) (v : V), (∀ a xs, SqL K H a xs → SqL K H' a xs) → (∀ a xs, SqT K H a xs → SqT K H' a xs) → Dp K H v d → Dp K H' v d := by
  intro d v h1 h2 h
  induction h using Dp.rec (motive_2 := fun vs ds _ => DpAll K H' vs ds) with
  | non => exact .non
  | bl b => exact .bl b
  | int i => exact .int i
  | str z => exact .str z
  | lst a _ b => exact .lst (h1 _ _ a) b
  | tup a _ b => exact .tup (h2 _ _ a) b
  | nil => exact .nil
  | cons _ _ a b => exact .cons a b
theorem penO_tbl {a c : Addr} {n : Nat} : ∀ ps, PenO a c n ≠ .tbl ps := fun _ z => by unfold PenO at z; cases z
theorem scO_tbl {c : Addr} {ns : List Int} : ∀ ps, ScO c ns ≠ .tbl ps := fun _ z => by unfold ScO at z; cases z
theorem Pen.exN {H' : Hp} {a : Addr} {n : Nat} (p : Pen H a n) (e : ExtN H H') : Pen H' a n := by
  obtain ⟨c, ns, h1, h2, h3⟩ := p
  exact ⟨c, ns, e _ _ h1 penO_tbl, e _ _ h2 scO_tbl, h3⟩
theorem Pen.ex {H' : Hp} {a : Addr} {n : Nat} (p : Pen H a n) (e : Ex H H') : Pen H' a n := Pen.exN p e.n
theorem Pen.at {a : Addr} {n : Nat} (p : Pen H a n) : ∃ c, H a = some (PenO a c n) := by
  obtain ⟨c, ns, h1, _⟩ := p
  exact ⟨c, h1⟩
theorem Wo.exN {T : List (Addr × Str)} {H' : Hp} {a : Addr} {n : Nat} (w : Wo T H a n) (e : ExtN H H') (t : Tabs T H') : Wo T H' a n := ⟨Pen.exN w.pen e, t⟩
/-- a tuple of two ints -/
def Pr (H : Hp) (v : V) (a b : Int) : Prop := ∃ p, v = .ref p ∧ H p = some (.tup [.int a, .int b])
theorem Pr.exN {H' : Hp} {v : V} {a b : Int} (h : Pr H v a b) (e : ExtN H H') : Pr H' v a b := by
  obtain ⟨p, rfl, h⟩ := h
  exact ⟨p, rfl, e _ _ h fun _ z => nomatch z⟩
theorem Pr.ex {H' : Hp} {v : V} {a b : Int} (h : Pr H v a b) (e : Ex H H') : Pr H' v a b := h.exN e.n
theorem Pr.dp {v : V} {a b : Int} (h : Pr H v a b) : Dp K H v (.tuple [.int a, .int b]) := by
  obtain ⟨p, rfl, h⟩ := h
  exact .tup (.inl (.inl h)) (.cons (.int a) (.cons (.int b) .nil))
end
end L3
end
section
namespace L3
open PySem PySem.Spec PyProof.Rows L2 LamX
section
variable {K : PySem.W.Frag} {σ : L2.St} {H H' : Hp} {Q : VK} {C CB : Addr}
inductive Prs (H : Hp) : List V → List (Int × Int) → Prop
  | nil : Prs H [] []
  | cons {v : V} {vs : List V} {q : Int × Int} {qs : List (Int × Int)} : Pr H v q.1 q.2 → Prs H vs qs → Prs H (v :: vs) (q :: qs)
theorem Prs.exN {vs : List V} {qs : List (Int × Int)} (h : Prs H vs qs) (e : ExtN H H') : Prs H' vs qs := by
  induction h with
  | nil => exact .nil
  | cons a _ b => exact .cons (a.exN e) b
theorem Prs.ex {vs : List V} {qs : List (Int × Int)} (h : Prs H vs qs) (e : Ex H H') : Prs H' vs qs := h.exN e.n
theorem Pr.up {v : V} {a b : Int} {D : Addr} {xs zs : List V} (h : Pr H v a b) (hd : H D = some (.lst xs)) : Pr (upd H D (.lst zs)) v a b := by
  obtain ⟨p, rfl, h⟩ := h
  refine ⟨p, rfl, ?_⟩
  rw [upd_ne (ne_of h hd (by intro z; cases z))]
  exact h
theorem Prs.up {vs : List V} {qs : List (Int × Int)} {D : Addr} {xs zs : List V} (h : Prs H vs qs) (hd : H D = some (.lst xs)) : Prs (upd H D (.lst zs)) vs qs := by
  induction h with
  | nil => exact .nil
  | cons a _ b => exact .cons (a.up hd) b
theorem Prs.get {vs : List V} {qs : List (Int × Int)} (h : Prs H vs qs) : ∀ {i : Nat} {x : V}, vs[i]? = some x → ∃ q, qs[i]? = some q ∧ Pr H x q.1 q.2 := by
  induction h with
  | nil => intro i x e; simp at e
  | cons a _ b =>
    intro i x e
    cases i with
    | zero => cases e; exact ⟨_, rfl, a⟩
    | succ i => exact b (by simpa using e)
theorem Prs.length {vs : List V} {qs : List (Int × Int)} (h : Prs H vs qs) : vs.length = qs.length := by
  induction h with
  | nil => rfl
  | cons _ _ b => simp [b]
theorem Prs.snoc {vs : List V} {qs : List (Int × Int)} {v : V} {q : Int × Int} (h : Prs H vs qs) (a : Pr H v q.1 q.2) : Prs H (vs ++ [v]) (qs ++ [q]) := by
  induction h with
  | nil => exact .cons a .nil
  | cons b _ c => exact .cons b c
def prD (qs : List (Int × Int)) : List PyData := qs.map fun q => .tuple [.int q.1, .int q.2]
theorem Prs.dp {vs : List V} {qs : List (Int × Int)} (h : Prs H vs qs) : DpAll K H vs (prD qs) := by
  induction h with
  | nil => exact .nil
  | cons a _ b => exact .cons a.dp b
theorem s_lcL {te ta : TE} {g : TG} {tt : TT} {vs : List Nat} (h : ta σ H fun x H1 => ∃ a, x = .ref a ∧ (∃ xs, SqL K H1 a xs) ∧ LC (Itl K a) g tt te vs σ H1 Q) : tLc (iList K ta) g tt te vs σ H Q := h
/-- so far heard: the list l of equal pairs; the fraction m, the other value v with its text tx; the pen -/
structure Sx (Tt : List (Addr × Str)) (C l m p : Addr) (n : Nat) (o u : Int) (v : V) (tx : Str) (H : Hp) (xs : List V) : Prop where
  lst : H l = some (.lst xs)
  els : ∀ x ∈ xs, ∃ r, x = .ref r ∧ H r = some (.tup [.str "ratio", .str tx])
  rt : Rt C H m o u
  od : Od H v tx
  ne : v ≠ .ref l
  wo : Wo Tt H p n
  few : xs.length ≤ 1000
theorem Sx.exN {Tt : List (Addr × Str)} {l m p : Addr} {n : Nat} {o u : Int} {v : V} {tx : Str} {xs : List V} (S : Sx Tt C l m p n o u v tx H xs) (e : ExtN H H') (t : Tabs Tt H') : Sx Tt C l m p n o u v tx H' xs := by
  refine ⟨e _ _ S.lst (fun _ z => nomatch z), fun x hx => ?_, S.rt.exN e, S.od.exN e, S.ne, S.wo.exN e t, S.few⟩
  obtain ⟨r, h1, h2⟩ := S.els x hx
  exact ⟨r, h1, e _ _ h2 fun _ z => nomatch z⟩
theorem Od.up {v : V} {tx : Str} {l : Addr} {o : HO} (h : Od H v tx) (hn : v ≠ .ref l) : Od (upd H l o) v tx := by
  cases h with
  | non => exact .non
  | bl b => exact .bl b
  | str z h1 h3 => exact .str z h1 h3
  | tup h1 h2 h3 => exact .tup (by rw [upd_ne (fun z => hn (by rw [z]))]; exact h1) h2 h3
  | lst h1 h2 h3 => exact .lst (by rw [upd_ne (fun z => hn (by rw [z]))]; exact h1) h2 h3
  | dic h1 => exact .dic (by rw [upd_ne (fun z => hn (by rw [z]))]; exact h1)
theorem Od.keep {p : Addr} {v : V} {tx : Str} (h : Od H v tx) (hn : v ≠ .ref p) (k : ∀ b o, b ≠ p → H b = some o → H' b = some o) : Od H' v tx := by
  cases h with
  | non => exact .non
  | bl b => exact .bl b
  | str z h1 h3 => exact .str z h1 h3
  | tup h1 h2 h3 => exact .tup (k _ _ (fun z => hn (by rw [z])) h1) h2 h3
  | lst h1 h2 h3 => exact .lst (k _ _ (fun z => hn (by rw [z])) h1) h2 h3
  | dic h1 => exact .dic (k _ _ (fun z => hn (by rw [z])) h1)
theorem scO_lst {c : Addr} {ns : List Int} {xs : List V} : ScO c ns ≠ .lst xs := fun z => by unfold ScO at z; cases z
theorem penO_lst {a c : Addr} {n : Nat} {xs : List V} : PenO a c n ≠ .lst xs := fun z => by unfold PenO at z; cases z
theorem Wo.up {Tt : List (Addr × Str)} {p l : Addr} {n : Nat} {xs zs : List V} (w : Wo Tt H p n) (hl : H l = some (.lst xs)) : Wo Tt (upd H l (.lst zs)) p n := by
  obtain ⟨c, ns, h1, h2, h3⟩ := w.pen
  refine ⟨⟨c, ns, ?_, ?_, h3⟩, fun t ht => ?_⟩
  · rw [upd_ne (ne_of h1 hl penO_lst)]; exact h1
  · rw [upd_ne (ne_of h2 hl scO_lst)]; exact h2
  · obtain ⟨ps, g1, g2, g3⟩ := w.tabs t ht
    refine ⟨ps, by rw [upd_ne (ne_of g1 hl (by intro z; cases z))]; exact g1, g2, fun pos cv hc => ?_⟩
    obtain ⟨c, e1, e2⟩ := g3 pos cv hc
    exact ⟨c, e1, by rw [upd_ne (ne_of e2 hl (by intro z; unfold CodeO at z; cases z))]; exact e2⟩
theorem Sx.app {Tt : List (Addr × Str)} {l m p : Addr} {n : Nat} {o u : Int} {v : V} {tx : Str} {xs : List V} {r : Addr} (S : Sx Tt C l m p n o u v tx H xs) (h : H r = some (.tup [.str "ratio", .str tx])) (hf : xs.length < 1000) :
    Sx Tt C l m p n o u v tx (upd H l (.lst (xs ++ [.ref r]))) (xs ++ [.ref r]) := by
  have go : ∀ b zs, H b = some (.tup zs) → upd H l (.lst (xs ++ [.ref r])) b = some (.tup zs) := fun b zs e => by
    rw [upd_ne (ne_of e S.lst (by intro z; cases z))]; exact e
  refine ⟨upd_same, fun x hx => ?_, ?_, S.od.up S.ne, S.ne, S.wo.up S.lst, by simp; omega⟩
  · rcases List.mem_append.mp hx with hx | hx
    · obtain ⟨r', h1, h2⟩ := S.els x hx
      exact ⟨r', h1, go _ _ h2⟩
    · rw [List.mem_singleton.mp hx]
      exact ⟨r, rfl, go _ _ h⟩
  · obtain ⟨dx, e⟩ := S.rt
    exact ⟨dx, by rw [upd_ne (ne_of e S.lst (by intro z; cases z))]; exact e⟩
theorem Sx.dp {Tt : List (Addr × Str)} {l m p : Addr} {n : Nat} {o u : Int} {v : V} {tx : Str} : ∀ {xs : List V}, (∀ x ∈ xs, ∃ r, x = .ref r ∧ H r = some (.tup [.str "ratio", .str tx])) → DpAll K H xs (List.replicate xs.length (.tuple [.str "ratio", .str tx]))
  | [], _ => .nil
  | x :: r, h => by
    obtain ⟨q, rfl, hq⟩ := h x List.mem_cons_self
    exact .cons (.tup (.inl (.inl hq)) (.cons (.str _) (.cons (.str _) .nil))) (Sx.dp (Tt := Tt) (l := l) (m := m) (p := p) (n := n) (o := o) (u := u) (v := v) fun y hy => h y (List.mem_cons_of_mem _ hy))
end
end L3
end
section
namespace L3
open PySem PySem.Spec PySem.Calls PyProof.Rows PySem.W
section
variable {M : Model} {A : Around} {E : Value → Shared → Prop} {s : Shared} {x l C : Addr} {ox : Obj} {i : Int} {b : Bool} {t : Tok} {z : Str} {P : Fin → Shared → Prop}
theorem dc_int_gt (e : s.heap.get? x = some ox) (hd : ox.data = .plain) (h : P (.done (.ret .notImplemented)) s) : wpAny M A (Builtin.«int.__gt__» ⟨[.int i t, .ref x], []⟩) P E s := by
  obtain ⟨hp, g, d, tk, os⟩ := s
  wp_walk
  try (rw [hd]; wp_walk)
  exact h
theorem dc_int_eq (e : s.heap.get? x = some ox) (hd : ox.data = .plain) (h : P (.done (.ret .notImplemented)) s) : wpAny M A (Builtin.«int.__eq__» ⟨[.int i t, .ref x], []⟩) P E s := by
  obtain ⟨hp, g, d, tk, os⟩ := s
  wp_walk
  try (rw [hd]; wp_walk)
  exact h
end
section
variable {prog : Program} {w : World} {A : Around} {E : Value → Shared → Prop} {s : Shared} {K : Frag} {x C f : Addr} {ox : Obj} {od : Option Obj} {T id : String} {name : Str} {B : Builtin} {u : Value} {op : CmpOp}
theorem cdec (slot : Slot T name id) (hT : s.TypeIs u T) (entry : entryFor table id = some B) (args : argsOk id ⟨[u, .ref x], []⟩)
    (hB : ∀ {M : Model} {A : Around} {E : Value → Shared → Prop} {P : Fin → Shared → Prop}, P (.done (.ret .notImplemented)) s → wpAny M A (B ⟨[u, .ref x], []⟩) P E s) (Q : Option Value → Shared → Prop) (h : Q none s) :
    wpAny (model prog w) A (tryCompare u name (.ref x)) Q E s := by
  unfold tryCompare
  refine wpAny_bind (wpAny_callSpecialIfBound?_slot hT slot ?_)
  refine wpAny_call (codeAny_call_builtin slot.plain entry (slot.check _ _ _ _ _ _ _ _ hT args (hB ?_)))
  exact wpAny_pure h
/-- a value of a built-in type, as the machine has it -/
inductive LU (h : Heap) : Value → String → Prop
  | non : LU h .none "NoneType"
  | bl (b : Bool) : LU h (.bool b) "bool"
  | str (z : Str) (t : Tok) : LU h (.str z t) "str"
  | tup {l : Addr} {o : Obj} : h.get? l = some o → o.cls = .type "tuple" → LU h (.ref l) "tuple"
  | lst {l : Addr} {o : Obj} : h.get? l = some o → o.cls = .type "list" → LU h (.ref l) "list"
  | dic {l : Addr} {o : Obj} : h.get? l = some o → o.cls = .type "dict" → LU h (.ref l) "dict"
theorem LU.is (h : LU s.heap u T) : s.TypeIs u T := by
  cases h with
  | non => exact rfl
  | bl b => exact rfl
  | str z t => exact rfl
  | tup e c => exact ⟨_, e, c⟩
  | lst e c => exact ⟨_, e, c⟩
  | dic e c => exact ⟨_, e, c⟩
def DecN (op : CmpOp) : Prop := ∀ (prog : Program) (w : World) (A : Around) (E : Value → Shared → Prop) (s : Shared) (x : Addr) (ox : Obj) (i : Int) (t : Tok), s.heap.get? x = some ox → ox.data = .plain →
  ∀ Q : Option Value → Shared → Prop, Q none s → wpAny (model prog w) A (tryCompare (.int i t) (cmpInfo op).2.1 (.ref x)) Q E s
theorem decN_gt : DecN .Gt := fun prog w A E s x ox i t e hd Q h => cdec PySem.F.slot_int_gt (typeIs_int s i t) PySem.F.entry_int_gt (PySem.F.args_int_gt_2 _ _) (fun h => dc_int_gt e hd h) Q h
theorem decN_eq : DecN .Eq := fun prog w A E s x ox i t e hd Q h => cdec PySem.F.slot_int_eq (typeIs_int s i t) PySem.F.entry_int_eq (PySem.F.args_int_eq_2 _ _) (fun h => dc_int_eq e hd h) Q h
/-- an own one asked -/
theorem try_own {Q : Value → Shared → Prop} (X : K.In s.heap) (I : InstAt s.heap x ox C od) (hs : findIn K (.ref C) name = some (some (.ref f))) (hf : isFn K (.ref f) = true) (h : wpAny (model prog w) A (call (.ref f) [.ref x, u]) (PySem.W.CmpBack Q) E s) :
    wpAny (model prog w) A (tryCompare (.ref x) name u) (fun r s' => ∃ v, r = some v ∧ Q v s') E s := by
  unfold tryCompare
  refine wpAny_bind (ifBound_K X I hs hf (wpAny_mono h (fun v s' hv => ?_) fun _ _ e => e))
  cases v <;> first | exact hv.elim | exact wpAny_pure ⟨_, rfl, hv⟩
/-- one of a built-in type, then an own one -/
theorem cmp_refl {Q : Value → Shared → Prop} {r : Str} (hu : A.units < cLine) (X : K.In s.heap) (I : InstAt s.heap x ox C od) (hT : s.TypeIs u T) (hsub : subIn K (.ref C) (.type T) = some false) (hr : (cmpInfo op).2.2 = r)
    (dec : ∀ Q : Option Value → Shared → Prop, Q none s → wpAny (model prog w) A (tryCompare u (cmpInfo op).2.1 (.ref x)) Q E s)
    (one : wpAny (model prog w) A (tryCompare (.ref x) r u) (fun r s' => ∃ v, r = some v ∧ Q v s') E s) : wpAny (model prog w) A (richCompare op u (.ref x)) Q E s := by
  have hty : ∀ {Q : Value → Shared → Prop}, Q (.type T) s → wpAny (model prog w) A (typeOf u) Q E s := fun {Q} q => by
    cases u <;> first | (obtain ⟨o, h1, h2⟩ := hT; exact wpAny_typeOf_ref h1 (by rw [h2]; exact q)) | (rw [show typeOf _ = pure (Value.type T) from hT]; exact wpAny_pure q)
  unfold richCompare
  simp only [hT.oneThing_none]
  refine wpAny_holding (wpAny_bind (wpAny_cRoomFor hu ?_))
  refine wpAny_bind (hty (wpAny_bind (I.type.here ?_)))
  rw [if_pos (show (Value.type T != Value.ref C) = true from rfl)]
  refine wpAny_bind ((looks_subIn X hsub).here ?_)
  simp only [Bool.false_eq_true, if_false]
  refine wpAny_bind (dec _ ?_)
  simp only [Bool.not_false, if_true]
  rw [hr]
  refine wpAny_bind (wpAny_mono one (fun r s' z => ?_) fun _ _ e => e)
  obtain ⟨v, rfl, hq⟩ := z
  exact wpAny_pure hq
end
end L3
end
section
namespace L3
open PySem PySem.Spec PySem.Calls PyProof.Rows PySem.W
end L3
namespace L3
open PySem PySem.Spec PyProof.Rows L2 LamX
/-- what the written part says of the class, for its comparisons -/
structure CmpF (K : PySem.W.Frag) (C : Addr) : Prop where
  notF : (numTys.all fun T => PySem.W.notFirst K C (.type T)) = true
  notC : PySem.W.notFirst K C (.ref C) = true
  subs : (numTys.all fun T => decide (PySem.W.subIn K (.ref C) (.type T) = some false)) = true
  ob : PySem.W.mroIn K C (.type "object") = some true
  ne : PySem.W.findIn K (.ref C) "__ne__" = some (some (.builtin "object.__ne__"))
theorem CmpF.sub {K : PySem.W.Frag} {C : Addr} (F : CmpF K C) {T : String} (h : T ∈ numTys) : PySem.W.subIn K (.ref C) (.type T) = some false := of_decide_eq_true (List.all_eq_true.mp F.subs T h)
/-- a method of two parameters by its name -/
structure Me (P : Program) (w : World) (K : PySem.W.Frag) (mg : Str → Option Value) (base : Heap) (C : Addr) (m : Str) (k : Nat) (ps : List Str) (sp : Sp) : Prop where
  ex : ∃ (f : Addr) (fd : FuncData), PySem.W.findIn K (.ref C) m = some (some (.ref f)) ∧ PySem.W.isFn K (.ref f) = true ∧ FnOk P w K mg base (L2.CX P w) k f fd ps sp ∧ L2.Binds K fd ps []
section
variable {X : Cx} {C : Addr} {op : CmpOp} {k j : Nat} {sp : Sp} {E : XK} {m : Str}
theorem oth_looks {pins : List (Addr × Obj)} {σ : L2.St} {H : Hp} {s : Shared} {y : V} {u : Value} (F : CmpF X.K C) (I : Inv X pins σ H s) (r : RelV y u) (h : OthV C y H) : ∃ tb, PySem.W.Looks (model X.prog X.w) s.heap (typeOf u) tb ∧ PySem.W.notFirst X.K C tb = true := by
  have go : ∀ T, TyX X.K H y (.type T) → T ∈ numTys → ∃ tb, PySem.W.Looks (model X.prog X.w) s.heap (typeOf u) tb ∧ PySem.W.notFirst X.K C tb = true := fun T ty hm => by
    obtain ⟨P', kx, hP, _⟩ := kit_of I r ty
    exact ⟨_, kx.ty _ _ I.kIn hP, List.all_eq_true.mp F.notF T hm⟩
  rcases h with ⟨b, dx, fs, rfl, e⟩ | ⟨i, rfl⟩ | ⟨t, h⟩
  · obtain rfl : u = Value.ref b := r
    obtain ⟨od, J⟩ := ins_inst I.hok e
    exact ⟨_, J.type, F.notC⟩
  · exact go _ (.base (.int i)) (by simp)
  · obtain ⟨T, h1, h2⟩ := h.tyAll (K := X.K)
    exact go T h1 (List.mem_cons_of_mem _ h2)
/-- own first -/
theorem cmpOwn (hop : ∀ a b, compareOp op a b = richCompare op a b) (F : CmpF X.K C) (hm : (cmpInfo op).2.1 = m) (B : Me X.prog X.w X.K X.mg X.base C m k ["self", "other"] sp) (hr : Room j X.A) (hx : Passes (L2.CX X.prog X.w) X E) (hk : k ≤ j := by decide) :
    OpR X (compareOp op) (rOwn C sp E) := by
  obtain ⟨f, fd, h1, h2, G, b⟩ := B.ex
  intro pins s σ H x y v u Q I rx ry h
  obtain ⟨a, dx, fs, rfl, ea, ho, q⟩ := h
  obtain rfl : v = Value.ref a := rx
  obtain ⟨od, J⟩ := ins_inst I.hok ea
  obtain ⟨tb, L, nf⟩ := oth_looks F I ry ho
  obtain ⟨mm, Fr⟩ := I.fr
  rw [hop]
  subst hm
  exact PySem.W.cmp_K hr.units0 Fr I.mod.kin J L nf h1 h2 (wpAny_mono (run_fn G (hr.mono hk) b .nil hx I (vs := [.ref a, y]) (.cons (show RelV (.ref a) (.ref a) from rfl) (.cons ry .nil)) (by rw [List.append_nil]; exact q)) (fun w' s' ⟨v', H', I', r', z⟩ => rel_back r' ⟨v', H', I', r', z⟩) fun _ _ z => z)
theorem ask_own {pins : List (Addr × Obj)} {s : Shared} {σ : L2.St} {H : Hp} {a dx : Addr} {fs : List (Str × V)} {x : V} {v : Value} {Q : VK} (B : Me X.prog X.w X.K X.mg X.base C m k ["self", "other"] sp) (hr : Room j X.A) (hx : Passes (L2.CX X.prog X.w) X E) (hk : k ≤ j)
    (I : Inv X pins σ H s) (rx : RelV x v) (ea : H a = some (.ins C dx fs)) (q : sp [.ref a, x] H Q E) : wpAny (model X.prog X.w) X.A (tryCompare (.ref a) m v) (fun r s' => ∃ z, r = some z ∧ EP X pins σ Q z s') X.xe s := by
  obtain ⟨f, fd, h1, h2, G, b⟩ := B.ex
  obtain ⟨od, J⟩ := ins_inst I.hok ea
  exact try_own I.kIn J h1 h2 (wpAny_mono (run_fn G (hr.mono hk) b .nil hx I (vs := [.ref a, x]) (.cons (show RelV (.ref a) (.ref a) from rfl) (.cons rx .nil)) (by rw [List.append_nil]; exact q)) (fun w' s' ⟨v', H', I', r', z⟩ => rel_back r' ⟨v', H', I', r', z⟩) fun _ _ z => z)
/-- an int, then own -/
theorem cmpInt (hop : ∀ a b, compareOp op a b = richCompare op a b) (d : DecN op) (F : CmpF X.K C) (hm : (cmpInfo op).2.2 = m) (B : Me X.prog X.w X.K X.mg X.base C m k ["self", "other"] sp) (hr : Room j X.A) (hx : Passes (L2.CX X.prog X.w) X E) (hk : k ≤ j := by decide) :
    OpR X (compareOp op) (rInt C sp E) := by
  intro pins s σ H x y v u Q I rx ry h
  obtain ⟨a, dx, fs, rfl, ea, ⟨i, rfl⟩, q⟩ := h
  obtain rfl : u = Value.ref a := ry
  obtain ⟨t, rfl⟩ := (show ∃ t, v = Value.int i t from rx)
  obtain ⟨od, J⟩ := ins_inst I.hok ea
  rw [hop]
  exact cmp_refl hr.units0 I.kIn J (typeIs_int s i t) (F.sub (by simp)) hm (fun Q h => d _ _ _ _ s a _ i t J.at_ rfl Q h) (ask_own B hr hx hk I (show RelV (.int i) (.int i t) from ⟨t, rfl⟩) ea q)
/-- numbers compared, one of them a fraction at least -/
theorem cmpBin {spR : Sp} {m' : Str} (hop : ∀ a b, compareOp op a b = richCompare op a b) (d : DecN op) (F : CmpF X.K C) (hm : (cmpInfo op).2.1 = m) (hm' : (cmpInfo op).2.2 = m') (B : Me X.prog X.w X.K X.mg X.base C m k ["self", "other"] sp) (B' : Me X.prog X.w X.K X.mg X.base C m' k ["self", "other"] spR) (hr : Room j X.A) (hx : Passes (L2.CX X.prog X.w) X E) (hk : k ≤ j := by decide) :
    OpR X (compareOp op) (rBin C sp spR E) := OpR.or (cmpOwn hop F hm B hr hx hk) (cmpInt hop d F hm' B' hr hx hk)
end
structure MeK (P : Program) (w : World) (K : PySem.W.Frag) (mg : Str → Option Value) (base : Heap) (C : Addr) (m : Str) (k : Nat) (sp : Sp) : Prop where
  ex : ∃ (f : Addr) (fd : FuncData), Meth K C m f ∧ FnOk P w K mg base (L2.CX P w) k f fd ["self"] sp ∧ L2.Binds K fd ["self"] []
theorem pe_m0 {X : Cx} {C : Addr} {k j : Nat} {sp : Sp} {E : XK} {m : Str} {o : Expr} {ta : TE} {apos pos : Pos} {pl : Sem Bool} (B : MeK X.prog X.w X.K X.mg X.base C m k sp) (c : Cls X.K C) (hr : Room j X.A) (hx : Passes (L2.CX X.prog X.w) X E) (he : PE X o ta) (hk : k ≤ j := by decide)
    (ht : eval (.Call (.Attribute o m apos) [] [] pos) X.env = (do
      let ov ← eval o X.env
      standAt apos.atName
      let (f, first) ← holding [ov] (getMethod ov m pl)
      callWith pos f first (backTo pos (starEach [] X.env)) (backToKw pos (keywordEach [] X.env))) := by rfl) : PE X (.Call (.Attribute o m apos) [] [] pos) (tMeth C m sp [] E ta tNil) := by
  obtain ⟨f, fd, h1, G, b⟩ := B.ex
  exact pe_meth0 he c h1 G (hr.mono hk) b .nil hx ht
section
variable {C CB : Addr} {H : Hp} {Q : VK} {x y : V} {o u o' u' : Int} {E : XK}
def spCmp (g : Int → Int → Int → Int → Bool) (C CB : Addr) : Sp := fun vs H Q E => ∃ p y o u, vs = [.ref p, y] ∧ Rt C H p o u ∧ Bd o u ∧
  ((∃ o' u', Nm C H y o' u' ∧ Bd o' u' ∧ ∀ H', Ex H H' → Q (.bl (g o u o' u')) H') ∨ (∃ t, Od H y t ∧ Rz CB "value" y H E))
def spEqR (C : Addr) : Sp := fun vs H Q _ => ∃ p y o u, vs = [.ref p, y] ∧ Rt C H p o u ∧ ((∃ o' u', Nm C H y o' u' ∧ Q (.bl (decide (o = o') && decide (u = u'))) H) ∨ (∃ t, Od H y t ∧ Q (.bl false) H))
def gLt (o u o' u' : Int) : Bool := decide (o * u' < o' * u)
def gGt (o u o' u' : Int) : Bool := decide (o * u' > o' * u)
theorem s_cmp {g g' : Int → Int → Int → Int → Bool} (hc : ∀ o u o' u', g' o' u' o u = g o u o' u') (n1 : Nm C H x o u) (n2 : Nm C H y o' u') (one : (∃ q, x = .ref q) ∨ ∃ q, y = .ref q) (b1 : Bd o u) (b2 : Bd o' u')
    (h : ∀ H', Ex H H' → Q (.bl (g o u o' u')) H') : rBin C (spCmp g C CB) (spCmp g' C CB) E x y H Q := by
  rcases n1 with ⟨q, rfl, r1⟩ | ⟨rfl, rfl⟩
  · refine .inl ?_
    obtain ⟨dx, e⟩ := id r1
    refine ⟨q, dx, _, rfl, e, ?_, q, y, o, u, rfl, r1, b1, .inl ⟨o', u', n2, b2, h⟩⟩
    rcases n2 with ⟨q', rfl, dx', e'⟩ | ⟨rfl, rfl⟩
    · exact .inl ⟨q', dx', _, rfl, e'⟩
    · exact .inr (.inl ⟨_, rfl⟩)
  · rcases n2 with ⟨q', rfl, r2⟩ | ⟨rfl, rfl⟩
    · refine .inr ?_
      obtain ⟨dx', e'⟩ := id r2
      exact ⟨q', dx', _, rfl, e', ⟨_, rfl⟩, q', _, o', u', rfl, r2, b2, .inl ⟨o, 1, .inr ⟨rfl, rfl⟩, b1, fun H' he => by rw [hc]; exact h H' he⟩⟩
    · rcases one with ⟨q, e⟩ | ⟨q, e⟩ <;> cases e
theorem cGt (o u o' u' : Int) : gLt o' u' o u = gGt o u o' u' := by unfold gGt gLt; congr 1
end
end L3
end
section
namespace L3
open PySem PySem.Spec PyProof.Rows L2 LamX
section
variable {C CB : Addr} {H H' : Hp} {Q : VK} {x y : V} {o u o' u' : Int} {E : XK}
theorem Rz.ex {g : Str} {v : V} (h : Rz C g v H E) (e : Ex H H') : Rz C g v H' E := fun d H2 hd e2 hx => h d H2 (e.free hd) (e.trans e2) hx
end
end L3
end
section
namespace L3
open PySem PySem.Spec PyProof.Rows L2 LamX
def LamO (f : Addr) (env : Env) (params : Arguments) (body : Expr) (scope : Scope) (c' : Addr) : HO := .ext fun h => ∃ pm ctv, h.get? f = some (PySem.W.kla_obj "<lambda>" (env.qual ++ "<lambda>") params body scope (cloFrom env.cells scope.names []) pm c' ctv)
end L3
end
section
namespace L3
open PySem PySem.Spec PySem.Calls PyProof.Rows PySem.W
open PySem.MeetsSeq2
open PySem.AutoSeq1 (wpAny_loadPart')
end L3
namespace L3
open PySem PySem.Spec PyProof.Rows L2 LamX L2H
end L3
end
section
namespace L3
open PySem PySem.Spec PyProof.Rows L2 LamX ClX
structure StM (P : Program) (w : World) (K : PySem.W.Frag) (mg : Str → Option Value) (base : Heap) (CX : CXT) (k : Nat) (C : Addr) (m : Str) (ps : List Str) (sp : Sp) : Prop where
  ex : ∃ (mc : Value) (p g : Addr) (gd : FuncData) (rest : List Value), CRead K C mc ∧ PySem.W.findCls K (.ref C) mc m = some (.get (.builtin "staticmethod.__get__") (.ref p) .none (.ref C)) ∧ PySem.W.recIn K p "staticmethod" = some (.ref g :: rest) ∧ PySem.W.handedIn (.ref g) = true ∧
    PySem.W.keepIn K (.ref g) = true ∧ FnOk P w K mg base CX k g gd ps sp ∧ L2.Binds K gd ps [] ∧ ∀ (s : Shared) (ws : List Value), K.In s.heap → ws.length = ps.length → BindsTo s gd ⟨[], ps.zip ws⟩ (ps.zip ws)
def tSt (C : Addr) (sp : Sp) (E : XK) (ta : TE) (t : TA) : TE := fun σ H Q => ta σ H fun x H1 => x = .ref C ∧ t σ H1 fun vs H2 => sp vs H2 Q E
section
variable {X : Cx} {CX : CXT} {k j : Nat} {C : Addr} {sp : Sp} {E : XK} {o e : Expr} {es : List Expr} {m : Str} {ps : List Str} {pos apos : Pos} {ta : TE} {t : TA} {pl : Sem Bool}
theorem getst {pins : List (Addr × Obj)} {σ : L2.St} {H : Hp} {s : Shared} {A : Around} {E' : Value → Shared → Prop} {Q : Value × List Value → Shared → Prop} {mc : Value} {p g : Addr} {rest : List Value} (I : Inv X pins σ H s) (r : CRead X.K C mc) (h1 : PySem.W.findCls X.K (.ref C) mc m = some (.get (.builtin "staticmethod.__get__") (.ref p) .none (.ref C)))
    (h2 : PySem.W.recIn X.K p "staticmethod" = some (.ref g :: rest)) (h3 : PySem.W.handedIn (.ref g) = true) (h : ∀ s', Inv X pins σ H s' → Q (.ref g, []) s') : wpAny (model X.prog X.w) A (getMethod (.ref C) m pl) Q E' s :=
  PySem.W.method_cls I.kIn r.ga (PySem.W.cls_bind I.kIn r.rd h1 (wpAny_call (PySem.W.sm_get (s := { s with toks := s.toks + 1 }) I.kIn h2 (PySem.W.handed_on h3 (h _ (I.tok _))))))
theorem pe_st (c : StM X.prog X.w X.K X.mg X.base CX k C m ps sp) (hr : Room j X.A) (hx : Passes CX X E) (he : PE X o ta) (ha : PA X (e :: es) t) (hk : k ≤ j := by decide)
    (hst : starEach (e :: es) X.env = (false, eval e X.env) :: starEach es X.env := by rfl) (hpl : (backTo pos (starEach es X.env)).any (·.1) = false := by rfl)
    (ht : eval (.Call (.Attribute o m apos) (e :: es) [] pos) X.env = (do
      let ov ← eval o X.env
      standAt apos.atName
      let (f, first) ← holding [ov] (getMethod ov m pl)
      callWith pos f first (backTo pos (starEach (e :: es) X.env)) (backToKw pos (keywordEach [] X.env))) := by rfl) :
    PE X (.Call (.Attribute o m apos) (e :: es) [] pos) (tSt C sp E ta t) := by
  obtain ⟨mc, p, g, gd, rest, r, h1, h2, h3, kp, F, b, _⟩ := c.ex
  refine ⟨fun pins s σ H Q I h => ?_⟩
  refine PySem.W.methodCall_KW (pl := pl) (thn (he.run pins s σ H _ I h) fun u s1 hh => ?_) ht
  obtain ⟨x, H1, I1, rx, ex, q⟩ := hh
  subst ex
  obtain rfl : u = Value.ref C := rx
  refine getst I1 r h1 h2 h3 fun s2 I2 => ?_
  refine PySem.W.callWith_K (h₀ := X.base) (first := []) I2.ok.mod.kin kp (thn (ha.run pos pins s2 σ H1 _ I2 q) fun us s3 hh => ?_) hst hpl
  obtain ⟨vs, H2, I3, rv, q2⟩ := hh
  exact ⟨I3.kIn, run_fn F (hr.mono hk) b .nil hx I3 rv (by rw [List.append_nil]; exact q2)⟩
end
end L3
end
section
namespace L3
open PySem PySem.Spec PyProof.Rows L2 LamX L2H
end L3
end
section
namespace L3
open PySem PySem.Spec PyProof.Rows L2 LamX
section
variable {C CB : Addr} {H H' : Hp} {Q : VK} {E : XK}
/-- no integer: another value or a fraction -/
def OdR (C : Addr) (H : Hp) (x : V) : Prop := (∃ t, Od H x t) ∨ ∃ q o u, x = .ref q ∧ Rt C H q o u
theorem OdR.exN {x : V} (h : OdR C H x) (e : ExtN H H') : OdR C H' x := by
  rcases h with ⟨t, h⟩ | ⟨q, o, u, rfl, h⟩
  · exact .inl ⟨t, h.exN e⟩
  · exact .inr ⟨q, o, u, rfl, h.exN e⟩
end
end L3
end
section
namespace L3
open PySem PySem.Spec PyProof.Rows L2 LamX
section
variable {K : PySem.W.Frag} {C CB : Addr} {H H' : Hp} {Q : VK} {E : XK}
theorem kit_lt {a : String} {b1 b2 : Bool} (h1 : kitB a "list" = some b1) (h2 : kitB a "tuple" = some b2) : PySem.W.kitAny K (.type a) [.type "list", .type "tuple"] = some (b1 || b2) := by
  have e1 := kit_ty (K := K) h1
  have e2 := kit_ty (K := K) h2
  unfold PySem.W.kitAny
  unfold PySem.W.kitAny
  unfold PySem.W.kitAny
  rw [e1, e2]
  cases b1 <;> cases b2 <;> rfl
inductive Nms (C : Addr) (H : Hp) : List V → List (Int × Int) → Prop
  | nil : Nms C H [] []
  | cons {v : V} {vs : List V} {q : Int × Int} {qs : List (Int × Int)} : Nm C H v q.1 q.2 → Bd q.1 q.2 → Nms C H vs qs → Nms C H (v :: vs) (q :: qs)
theorem Nm.ex' {v : V} {o u : Int} (h : Nm C H v o u) (e : Ex H H') : Nm C H' v o u := by
  rcases h with ⟨q, rfl, r⟩ | h
  · exact .inl ⟨q, rfl, r.ex e⟩
  · exact .inr h
theorem Nms.ex {vs : List V} {qs : List (Int × Int)} (h : Nms C H vs qs) (e : Ex H H') : Nms C H' vs qs := by
  induction h with
  | nil => exact .nil
  | cons a b _ ih => exact .cons (a.ex' e) b ih
theorem Nms.length {vs : List V} {qs : List (Int × Int)} (h : Nms C H vs qs) : vs.length = qs.length := by
  induction h with
  | nil => rfl
  | cons _ _ _ b => simp [b]
theorem Nms.get {vs : List V} {qs : List (Int × Int)} (h : Nms C H vs qs) : ∀ {i : Nat} {x : V}, vs[i]? = some x → ∃ q, qs[i]? = some q ∧ Nm C H x q.1 q.2 ∧ Bd q.1 q.2 := by
  induction h with
  | nil => intro i x e; simp at e
  | cons a b _ ih =>
    intro i x e
    cases i with
    | zero => cases e; exact ⟨_, rfl, a, b⟩
    | succ i => exact ih (by simpa using e)
/-- no list, no tuple; or an empty one -/
inductive NoLT (H : Hp) : V → Prop
  | non : NoLT H .non
  | bl (b : Bool) : NoLT H (.bl b)
  | int (i : Int) : NoLT H (.int i)
  | str (z : Str) : NoLT H (.str z)
  | dic {p : Addr} {kvs : List (Key × V)} : H p = some (.dK kvs) → NoLT H (.ref p)
theorem NoLT.ty {v : V} (h : NoLT H v) : ∃ t, TyX K H v t ∧ PySem.W.kitAny K t [.type "list", .type "tuple"] = some false := by
  cases h with
  | non => exact ⟨_, .base .non, kit_lt (b1 := false) (b2 := false) (by decide +kernel) (by decide +kernel)⟩
  | bl b => exact ⟨_, .base (.bl b), kit_lt (b1 := false) (b2 := false) (by decide +kernel) (by decide +kernel)⟩
  | int b => exact ⟨_, .base (.int b), kit_lt (b1 := false) (b2 := false) (by decide +kernel) (by decide +kernel)⟩
  | str b => exact ⟨_, .base (.str b), kit_lt (b1 := false) (b2 := false) (by decide +kernel) (by decide +kernel)⟩
  | dic h => exact ⟨_, .base (.dK h), kit_lt (b1 := false) (b2 := false) (by decide +kernel) (by decide +kernel)⟩
theorem NoLT.ex {v : V} (h : NoLT H v) (e : Ex H H') : NoLT H' v := by
  cases h with
  | non => exact .non
  | bl b => exact .bl b
  | int b => exact .int b
  | str b => exact .str b
  | dic h => exact .dic (e _ _ h)
variable {g : TG} {tb : TS} {D : Ends} {σ : L2.St} {tl : TE}
def ForL (K : PySem.W.Frag) (a : Addr) (g : TG) (tb : TS) (D : Ends) (σ : L2.St) (H : Hp) : Prop := ∃ W : Nat → Nat → L2.St → Hp → Prop, (∃ m, W 0 m σ H) ∧ ∀ (i m : Nat) (σ : L2.St) (H : Hp), W i m σ H → (Itl K a).stop i H ∧ D.nx σ H ∨ (Itl K a).go i H ∧
  ∃ N, (∀ (σ' : L2.St) (H' : Hp), N σ' H' → ∃ m', m' < m ∧ W (i + 1) m' σ' H') ∧ ∀ (x : V) (H' : Hp), (Itl K a).yld i H x H' → g x σ H' fun σ2 H2 => tb { nx := N, rt := D.rt, bk := D.nx, ct := N } σ2 H2
def ForT (K : PySem.W.Frag) (a : Addr) (g : TG) (tb : TS) (D : Ends) (σ : L2.St) (H : Hp) : Prop := ∃ W : Nat → Nat → L2.St → Hp → Prop, (∃ m, W 0 m σ H) ∧ ∀ (i m : Nat) (σ : L2.St) (H : Hp), W i m σ H → (Itt K a).stop i H ∧ D.nx σ H ∨ (Itt K a).go i H ∧
  ∃ N, (∀ (σ' : L2.St) (H' : Hp), N σ' H' → ∃ m', m' < m ∧ W (i + 1) m' σ' H') ∧ ∀ (x : V) (H' : Hp), (Itt K a).yld i H x H' → g x σ H' fun σ2 H2 => tb { nx := N, rt := D.rt, bk := D.nx, ct := N } σ2 H2
theorem s_forL (h : tl σ H fun x H1 => ∃ a, x = .ref a ∧ (∃ xs, SqL K H1 a xs) ∧ ForL K a g tb D σ H1) : tFor (iList K tl) g tb D σ H := h
theorem s_forT (h : tl σ H fun x H1 => ∃ a, x = .ref a ∧ (∃ xs, SqT K H1 a xs) ∧ ForT K a g tb D σ H1) : tFor (iTup K tl) g tb D σ H := h
theorem s_fL {a : Addr} {xs : List V} (ha : H a = some (.lst xs)) (Pv : Nat → L2.St → Hp → Prop) (h0 : Pv 0 σ H) (hs : ∀ i σ H, Pv i σ H → H a = some (.lst xs))
    (hb : ∀ i x σ H, xs[i]? = some x → Pv i σ H → g x σ H fun σ2 H2 => tb { nx := Pv (i + 1), rt := D.rt, bk := D.nx, ct := Pv (i + 1) } σ2 H2) (he : ∀ σ H, Pv xs.length σ H → D.nx σ H) :
    ∃ a', V.ref a = .ref a' ∧ (∃ xs, SqL K H a' xs) ∧ ForL K a' g tb D σ H := ⟨a, rfl, ⟨xs, .inl (.inl ha)⟩, for_list Pv h0 (fun i σ H _ h => .inl (.inl (hs i σ H h))) hb he⟩
theorem s_gNm {i : Nat} {v : V} {R : L2.St → Hp → Prop} (h : R (σ.set i (some v)) H) : gName i v σ H R := h
end
end L3
end
section
namespace L3
open PySem PySem.Spec PyProof.Rows L2 LamX
end L3
end
section
namespace L3
open PySem PySem.Spec PyProof.Rows L2 LamX
section
variable {K : PySem.W.Frag} {σ : L2.St} {H H' : Hp} {Q : VK} {C CB : Addr}
inductive Vl (H : Hp) : V → Str → Prop
  | od {v : V} {t : Str} : Od H v t → Vl H v t
  | int (i : Int) : i.natAbs.log2 < 1920 → (PyData.int i).shown.length ≤ 1001 → Vl H (.int i) (PyData.int i).shown
  | d12 {p : Addr} : H p = some (.dK [(.inl 1, .int 2)]) → Vl H (.ref p) (PyData.dict [(.int 1, .int 2)]).shown
theorem Vl.exN {v : V} {t : Str} (h : Vl H v t) (e : ExtN H H') : Vl H' v t := by
  cases h with
  | od h => exact .od (h.exN e)
  | int i h2 h3 => exact .int i h2 h3
  | d12 h => exact .d12 (e _ _ h fun _ z => nomatch z)
theorem Vl.ex {v : V} {t : Str} (h : Vl H v t) (e : Ex H H') : Vl H' v t := h.exN e.n
theorem Vl.up {v : V} {t : Str} {l : Addr} {o : HO} (h : Vl H v t) (hn : v ≠ .ref l) : Vl (upd H l o) v t := by
  cases h with
  | od h => exact .od (h.up hn)
  | int i h2 h3 => exact .int i h2 h3
  | d12 h => exact .d12 (by rw [upd_ne (fun z => hn (by rw [z]))]; exact h)
theorem Vl.keep {p : Addr} {v : V} {t : Str} (h : Vl H v t) (hn : v ≠ .ref p) (k : ∀ b o, b ≠ p → H b = some o → H' b = some o) : Vl H' v t := by
  cases h with
  | od h => exact .od (h.keep hn k)
  | int i h2 h3 => exact .int i h2 h3
  | d12 h => exact .d12 (k _ _ (fun z => hn (by rw [z])) h)
/-- what lies nowhere yet is none of these -/
theorem Vl.new {v : V} {t : Str} {l : Addr} (h : Vl H v t) (hl : H l = none) : v ≠ .ref l := fun z => by
  subst z
  cases h with
  | od h =>
    cases h with
    | tup q _ _ => rw [hl] at q; cases q
    | lst q _ _ => rw [hl] at q; cases q
    | dic q => rw [hl] at q; cases q
  | d12 q => rw [hl] at q; cases q
/-- the heard pairs -/
inductive Hrd (H : Hp) : List V → List Str → Prop
  | nil : Hrd H [] []
  | cons {r : Addr} {vs : List V} {t : Str} {ts : List Str} : H r = some (.tup [.str "ratio", .str t]) → Hrd H vs ts → Hrd H (.ref r :: vs) (t :: ts)
theorem Hrd.exN {vs : List V} {ts : List Str} (h : Hrd H vs ts) (e : ExtN H H') : Hrd H' vs ts := by
  induction h with
  | nil => exact .nil
  | cons a _ b => exact .cons (e _ _ a fun _ z => nomatch z) b
theorem Hrd.up {vs : List V} {ts : List Str} {l : Addr} {xs zs : List V} (h : Hrd H vs ts) (hl : H l = some (.lst xs)) : Hrd (upd H l (.lst zs)) vs ts := by
  induction h with
  | nil => exact .nil
  | cons a _ b => exact .cons (by rw [upd_ne (ne_of a hl (by intro z; cases z))]; exact a) b
theorem Hrd.snoc {vs : List V} {ts : List Str} {r : Addr} {t : Str} (h : Hrd H vs ts) (a : H r = some (.tup [.str "ratio", .str t])) : Hrd H (vs ++ [.ref r]) (ts ++ [t]) := by
  induction h with
  | nil => exact .cons a .nil
  | cons b _ c => exact .cons b c
theorem Hrd.length {vs : List V} {ts : List Str} (h : Hrd H vs ts) : vs.length = ts.length := by
  induction h with
  | nil => rfl
  | cons _ _ b => simp [b]
def hrD (ts : List Str) : List PyData := ts.map fun t => .tuple [.str "ratio", .str t]
theorem Hrd.dp {vs : List V} {ts : List Str} (h : Hrd H vs ts) : DpAll K H vs (hrD ts) := by
  induction h with
  | nil => exact .nil
  | cons a _ b => exact .cons (.tup (.inl (.inl a)) (.cons (.str _) (.cons (.str _) .nil))) b
/-- so far heard: the list l; what is known of some values; the pen -/
structure Sy (Tt : List (Addr × Str)) (l p : Addr) (n : Nat) (Pv : Hp → Prop) (H : Hp) (xs : List V) (ts : List Str) : Prop where
  lst : H l = some (.lst xs)
  els : Hrd H xs ts
  pv : Pv H
  wo : Wo Tt H p n
  few : xs.length ≤ 1000
structure Clo (l : Addr) (Pv : Hp → Prop) : Prop where
  ext : ∀ H H', Pv H → ExtN H H' → Pv H'
  upd : ∀ H zs, Pv H → Pv (upd H l (.lst zs))
theorem Sy.exN {Tt : List (Addr × Str)} {l p : Addr} {n : Nat} {Pv : Hp → Prop} {xs : List V} {ts : List Str} (S : Sy Tt l p n Pv H xs ts) (c : Clo l Pv) (e : ExtN H H') (t : Tabs Tt H') : Sy Tt l p n Pv H' xs ts :=
  ⟨e _ _ S.lst (fun _ z => nomatch z), S.els.exN e, c.ext _ _ S.pv e, S.wo.exN e t, S.few⟩
theorem Sy.app {Tt : List (Addr × Str)} {l p : Addr} {n : Nat} {Pv : Hp → Prop} {xs : List V} {ts : List Str} {r : Addr} {tx : Str} (S : Sy Tt l p n Pv H xs ts) (c : Clo l Pv) (h : H r = some (.tup [.str "ratio", .str tx])) (hf : xs.length < 1000) :
    Sy Tt l p n Pv (upd H l (.lst (xs ++ [.ref r]))) (xs ++ [.ref r]) (ts ++ [tx]) :=
  ⟨upd_same, (S.els.up S.lst).snoc (by rw [upd_ne (ne_of h S.lst (by intro z; cases z))]; exact h), c.upd _ _ S.pv, S.wo.up S.lst, by simp; omega⟩
/-- no list or tuple of numbers -/
def Lt (H : Hp) (v : V) : Prop := NoLT H v ∨ ∃ a, v = .ref a ∧ (H a = some (.lst []) ∨ H a = some (.tup []))
theorem Lt.map {v : V} {G : Hp} (h : Lt H v) (f : ∀ a o, v = .ref a → H a = some o → (∀ ps, o ≠ .tbl ps) → G a = some o) : Lt G v := by
  rcases h with h | ⟨a, rfl, h⟩
  · cases h with
    | non => exact .inl .non
    | bl b => exact .inl (.bl b)
    | int i => exact .inl (.int i)
    | str z => exact .inl (.str z)
    | dic h => exact .inl (.dic (f _ _ rfl h fun _ z => nomatch z))
  · exact .inr ⟨a, rfl, h.imp (fun h => f _ _ rfl h fun _ z => nomatch z) (fun h => f _ _ rfl h fun _ z => nomatch z)⟩
theorem Lt.exN {v : V} (h : Lt H v) (e : ExtN H H') : Lt H' v := h.map fun a o _ h n => e a o h n
theorem Lt.up {v : V} {l : Addr} {o : HO} (h : Lt H v) (hn : v ≠ .ref l) : Lt (upd H l o) v := h.map fun a o e h _ => by rw [upd_ne (fun z => hn (by rw [e, z]))]; exact h
theorem Lt.keep {p : Addr} {v : V} (h : Lt H v) (hn : v ≠ .ref p) (k : ∀ b o, b ≠ p → H b = some o → H' b = some o) : Lt H' v := h.map fun a o e h _ => k a o (fun z => hn (by rw [e, z])) h
end
end L3
end
section
namespace L3
open PySem PySem.Spec PyProof.Rows L2 LamX ClX
def rStrB (K : PySem.W.Frag) : List V → Hp → VK → Prop := fun xs H Q => ∃ i : Int, xs = [.int i] ∧ PySem.W.nsIn K cStatics "sys.int_max_str_digits" = some none ∧ i.natAbs < 10 ^ 4300 ∧ Q (.str (strOf i)) H
theorem callStrB {X : Cx} (hc : X.calm = true) : CallR X (.type "str") (rStrB X.K) := by
  intro pins s σ H xs us Q I r h
  obtain ⟨i, rfl, hk, hi, q⟩ := h
  obtain ⟨u, rfl, t, rfl⟩ := vals1 r
  exact str_of_int_or (I.ok.hd hc) (digits_free I.kIn I.nolimit hk) (fun _ => ⟨.str _, H, I.tok _, ⟨_, rfl⟩, q⟩) (fun h => absurd hi (Nat.not_lt_of_le h))
structure Er2 (P : Program) (w : World) (K : PySem.W.Frag) (mg : Str → Option Value) (base : Heap) (x : Str) (C : Addr) (g g2 : Str) : Prop where
  oex : OexC K C
  m : mg x = some (.ref C)
  ex : ∃ (f : Addr) (fd : FuncData) (y y2 : Str), PySem.W.findIn K (.ref C) "__init__" = some (some (.ref f)) ∧ PySem.W.typeIn K (.ref f) = some (.type "function") ∧ FnOk P w K mg base CX0 1 f fd ["self", y, y2] (spErr2 C g g2) ∧ L2.Binds K fd ["self", y, y2] []
def Rz2 (C : Addr) (g g2 : Str) (v v2 : V) (H : Hp) (E : XK) : Prop := ∀ d H', H d = none → Ex H H' → H' d = some (.xd [(g2, v2), (g, v)]) → E (.ref C) (some d) H'
theorem Rz2.ex {C : Addr} {g g2 : Str} {v v2 : V} {H H' : Hp} {E : XK} (h : Rz2 C g g2 v v2 H E) (e : Ex H H') : Rz2 C g g2 v v2 H' E := fun d H2 hd e2 hx => h d H2 (e.free hd) (e.trans e2) hx
def rMk2 (C : Addr) (g g2 : Str) (vs : List V) (H1 : Hp) (E : XK) : Prop := vs.length ≤ 1000 ∧ ∀ a, H1 a = none → spErr2 C g g2 (.ref a :: (vs ++ [])) (upd H1 a (exo a C none))
  (fun v H2 => v = .non ∧ ∃ (d : Addr) (fs : List (Str × V)), H2 a = some (exo a C (some d)) ∧ H2 d = some (exd d fs) ∧ H1 d = none ∧ E (.ref C) (some d) (upd (del H2 a) d (.xd fs))) (fun _ _ _ => False)
def tRaise2 (C : Addr) (g g2 : Str) (te te2 : TE) (W : WX) : TS := fun _ σ H => te σ H fun v H1 => te2 σ H1 fun v2 H2 => rMk2 C g g2 [v, v2] H2 (fun cls d H' => W cls d σ H')
theorem ps_raise2 {X : Cx} {W : WX} {x g g2 : Str} {C : Addr} {j : Nat} {e e2 : Expr} {te te2 : TE} {p p1 pos : Pos} (c : Er2 X.prog X.w X.K X.mg X.base x C g g2) (hr : Room j X.A) (hc : X.calm = true) (tk : Takes X W) (ha : PA X [e, e2] (tCons te (tCons te2 tNil))) (hk : 2 ≤ j := by decide) (gl : Gl X x := by rfl)
    (hdb : (x == ("__debug__" : Str)) = false := by decide) (hst : starEach [e, e2] X.env = (false, eval e X.env) :: starEach [e2] X.env := by rfl) (hpl : (backTo p1 (starEach [e2] X.env)).any (·.1) = false := by rfl) :
    PS X (.Raise (some (.Call (.Name x p) [e, e2] [] p1)) none pos) (tRaise2 C g g2 te te2 W) := by
  obtain ⟨f, fd, y, y2, i1, i2, F, b⟩ := c.ex
  exact ps_raise (pos := pos) hc tk (pmk_oex (p := p) (pos := p1) c.oex i1 i2 F (hr.mono hk) b .nil pass0 gl c.m ha hdb hst hpl)
theorem s_raise2 {C : Addr} {g g2 : Str} {te te2 : TE} {W : WX} {D : Ends} {σ : L2.St} {H : Hp} (h : te σ H fun v H1 => te2 σ H1 fun v2 H2 => rMk2 C g g2 [v, v2] H2 (fun cls d H' => W cls d σ H')) : tRaise2 C g g2 te te2 W D σ H := h
theorem s_rz2 {C : Addr} {g g2 : Str} {v v2 : V} {H : Hp} {E : XK} (h : Rz2 C g g2 v v2 H E) : rMk2 C g g2 [v, v2] H E := by
  refine ⟨(show 2 ≤ 1000 by decide), fun a ha => ⟨a, v, v2, rfl, upd_same, fun dx h1 h2 => ⟨rfl, dx, [(g2, v2), (g, v)], ?_, upd_same, ?_, h dx _ ?_ ?_ upd_same⟩⟩⟩
  · rw [upd_ne (Ne.symm h2), upd_same]
  · rw [upd_ne h2] at h1; exact h1
  · rw [upd_ne h2] at h1; exact h1
  · intro b o e
    have n1 : b ≠ a := ne_of_none e ha
    have n2 : b ≠ dx := by
      rw [upd_ne h2] at h1
      exact ne_of_none e h1
    rw [upd_ne n2, del_ne n1, upd_ne n2, upd_ne n1, upd_ne n2, upd_ne n1]
    exact e
end L3
end
section
namespace L3
open PySem PySem.Spec PySem.Calls PyProof.Rows PySem.W PySem.TypeEq
end L3
namespace L3
open PySem PySem.Spec PyProof.Rows L2 LamX
/-- two functions made by lambdas -/
def FnAt (H : Hp) (f : Addr) : Prop := H f = some (FnV f)
theorem FnAt.exN {H H' : Hp} {f : Addr} (h : FnAt H f) (e : ExtN H H') : FnAt H' f := e _ _ h fun _ z => by unfold FnV at z; cases z
end L3
end
section
namespace L3
open PySem PySem.Spec PyProof.Rows L2 LamX
/-- a number within, or anything else -/
def InB (v : V) (a b : Int) : Prop := ∃ i, v = .int i ∧ a ≤ i ∧ i ≤ b
def OutB (H : Hp) (v : V) (a b : Int) : Prop := (∃ t, Od H v t) ∨ ∃ i, v = .int i ∧ ¬ (a ≤ i ∧ i ≤ b)
theorem OutB.exN {H H' : Hp} {v : V} {a b : Int} (h : OutB H v a b) (e : ExtN H H') : OutB H' v a b := h.imp (fun ⟨t, h⟩ => ⟨t, h.exN e⟩) id
/-- a number or another value -/
def Kv (H : Hp) (v : V) : Prop := (∃ i, v = .int i) ∨ ∃ t, Od H v t
theorem Kv.exN {H H' : Hp} {v : V} (h : Kv H v) (e : ExtN H H') : Kv H' v := h.imp id fun ⟨t, h⟩ => ⟨t, h.exN e⟩
theorem Kv.ex {H H' : Hp} {v : V} (h : Kv H v) (e : Ex H H') : Kv H' v := h.exN e.n
theorem Kv.keep {H H' : Hp} {p : Addr} {v : V} (h : Kv H v) (hn : v ≠ .ref p) (k : ∀ b o, b ≠ p → H b = some o → H' b = some o) : Kv H' v := h.imp id fun ⟨t, h⟩ => ⟨t, h.keep hn k⟩
def fxF (i : Int) (t : Addr) : List (Str × V) := putF "modulus" (.int 1) (putF "parts" (.ref t) (putF "size" (.int i) []))
def Fx (C : Addr) (H : Hp) (q : Addr) (i : Int) : Prop := ∃ dx t, H q = some (.ins C dx (fxF i t)) ∧ H t = some (.tup [.ref q])
def dvF (x y w : Int) (t : Addr) : List (Str × V) := putF "modulus" (.int w) (putF "parts" (.ref t) (putF "w" (.int w) (putF "y" (.int y) (putF "x" (.int x) []))))
def Dv (C : Addr) (H : Hp) (q : Addr) (x y w : Int) : Prop := ∃ dx t, H q = some (.ins C dx (dvF x y w t)) ∧ H t = some (.tup [.ref q])
def byF (f t : Addr) : List (Str × V) := putF "modulus" (.int 1) (putF "parts" (.ref t) (putF "function" (.ref f) []))
def Byr (C : Addr) (H : Hp) (q f : Addr) : Prop := ∃ dx t, H q = some (.ins C dx (byF f t)) ∧ H t = some (.tup [])
section
variable {C CS CR : Addr} {H H' : Hp} {Q : VK} {E : XK}
theorem Fx.exN {q : Addr} {i : Int} (h : Fx C H q i) (e : ExtN H H') : Fx C H' q i := by
  obtain ⟨dx, t, a, b⟩ := h
  exact ⟨dx, t, e _ _ a (fun _ z => nomatch z), e _ _ b (fun _ z => nomatch z)⟩
theorem Fx.ex {q : Addr} {i : Int} (h : Fx C H q i) (e : Ex H H') : Fx C H' q i := h.exN e.n
theorem Dv.exN {q : Addr} {x y w : Int} (h : Dv C H q x y w) (e : ExtN H H') : Dv C H' q x y w := by
  obtain ⟨dx, t, a, b⟩ := h
  exact ⟨dx, t, e _ _ a (fun _ z => nomatch z), e _ _ b (fun _ z => nomatch z)⟩
theorem Dv.ex {q : Addr} {x y w : Int} (h : Dv C H q x y w) (e : Ex H H') : Dv C H' q x y w := h.exN e.n
theorem Byr.exN {q f : Addr} (h : Byr C H q f) (e : ExtN H H') : Byr C H' q f := by
  obtain ⟨dx, t, a, b⟩ := h
  exact ⟨dx, t, e _ _ a (fun _ z => nomatch z), e _ _ b (fun _ z => nomatch z)⟩
/-- what a made instance leaves: itself, its dict, its tuple -/
def MkT (C : Addr) (fs : Addr → List (Str × V)) (tv : List V) (p dx : Addr) (H : Hp) (Q : VK) : Prop := ∀ t H', H t = none → t ≠ p → (∀ c o, c ≠ p → H c = some o → H' c = some o) → H' t = some (.tup tv) → H' p = some (.ins C dx (fs t)) → Q .non H'
theorem mkt {fs : Addr → List (Str × V)} {tv : List V} {p dx : Addr} (hp : H p = none) (hd : H dx = none) (hn : dx ≠ p) (h : ∀ t H', H t = none → Ex H H' → H' p = some (.ins C dx (fs t)) → H' t = some (.tup tv) → Q (.ref p) H') :
    MkT C fs tv p dx (upd (upd H dx (.own p)) p (.ins C dx [])) (fun v H2 => v = .non ∧ ap Q (.ref p) H2) := fun t H' ht htp hk h1 h2 => by
  have ht' : H t = none := by
    rw [upd_ne htp] at ht
    by_cases z : t = dx
    · rw [z]; exact hd
    · rw [upd_ne z] at ht; exact ht
  refine ⟨rfl, h t H' ht' (fun c o e => ?_) h2 h1⟩
  exact hk c o (ne_of_none e hp) (by rw [upd_ne (ne_of_none e hp), upd_ne (ne_of_none e hd)]; exact e)
def WrD (H : Hp) (a b c : V) (z : Str) : Prop := (OutB H a 0 24 ∧ z = "x") ∨ (InB a 0 24 ∧ OutB H b (-1000) 1000 ∧ z = "y") ∨ (InB a 0 24 ∧ InB b (-1000) 1000 ∧ OutB H c 1 24 ∧ z = "w")
theorem WrD.exN {a b c : V} {z : Str} (h : WrD H a b c z) (e : ExtN H H') : WrD H' a b c z := by
  rcases h with ⟨h, r⟩ | ⟨i, h, r⟩ | ⟨i, j, h, r⟩
  · exact .inl ⟨h.exN e, r⟩
  · exact .inr (.inl ⟨i, h.exN e, r⟩)
  · exact .inr (.inr ⟨i, j, h.exN e, r⟩)
def spDv (C CR : Addr) : Sp := fun vs H Q E => ∃ p dx a b c, vs = [.ref p, a, b, c] ∧ H p = some (.ins C dx []) ∧
  ((∃ x y w, a = .int x ∧ b = .int y ∧ c = .int w ∧ (0 ≤ x ∧ x ≤ 24) ∧ (-1000 ≤ y ∧ y ≤ 1000) ∧ (1 ≤ w ∧ w ≤ 24) ∧ MkT C (dvF x y w) [.ref p] p dx H Q) ∨ (∃ z, WrD H a b c z ∧ Rz CR "part" (.str z) H E))
theorem s_mkDv {x y w : Int} (hx : 0 ≤ x ∧ x ≤ 24) (hy : -1000 ≤ y ∧ y ≤ 1000) (hw : 1 ≤ w ∧ w ≤ 24) (h : ∀ q H', H q = none → Ex H H' → Dv C H' q x y w → Q (.ref q) H') : ∀ p dx, H p = none → H dx = none → dx ≠ p → spDv C CR (.ref p :: ([.int x, .int y, .int w] ++ [])) (upd (upd H dx (.own p)) p (.ins C dx [])) (fun v H2 => v = .non ∧ ap Q (.ref p) H2) E := fun p dx hp hd hn =>
  ⟨p, dx, _, _, _, rfl, upd_same, .inl ⟨x, y, w, rfl, rfl, rfl, hx, hy, hw, mkt hp hd hn fun t H' ht e h1 h2 => h p H' hp e ⟨dx, t, h1, h2⟩⟩⟩
end
end L3
end
section
namespace L3
open PySem PySem.Spec PyProof.Rows L2 LamX
section
variable {K : PySem.W.Frag} {σ : L2.St} {H H' : Hp} {Q : VK} {C CR CS CF CD : Addr}
/-- the list of other values -/
def OddL (H : Hp) (l : Addr) : Prop := ∃ t e d, H l = some (.lst [.non, .bl true, .str "1", .ref t, .ref e, .ref d, .bl false]) ∧ H t = some (.tup [.int 1]) ∧ H e = some (.lst []) ∧ H d = some (.dK [])
theorem OddL.ex {l : Addr} (h : OddL H l) (e : Ex H H') : OddL H' l := by
  obtain ⟨t, a, d, h1, h2, h3, h4⟩ := h
  exact ⟨t, a, d, e _ _ h1, e _ _ h2, e _ _ h3, e _ _ h4⟩
theorem OddL.keep {l p : Addr} {n : Nat} (h : OddL H l) (hp : Pen H p n) (k : ∀ b o, b ≠ p → H b = some o → H' b = some o) : OddL H' l := by
  obtain ⟨t, a, d, h1, h2, h3, h4⟩ := h
  have nn : ∀ {q : Addr} {o : HO}, H q = some o → (∀ c n, o ≠ PenO p c n) → H' q = some o := fun {q o} e z => k _ _ (hp.ne e z) e
  exact ⟨t, a, d, nn h1 (fun c n z => by unfold PenO at z; cases z), nn h2 (fun c n z => by unfold PenO at z; cases z), nn h3 (fun c n z => by unfold PenO at z; cases z), nn h4 (fun c n z => by unfold PenO at z; cases z)⟩
theorem Byr.ex {q f : Addr} (h : Byr C H q f) (e : Ex H H') : Byr C H' q f := h.exN e.n
theorem FnAt.ex {f : Addr} (h : FnAt H f) (e : Ex H H') : FnAt H' f := h.exN e.n
end
end L3
end
section
namespace L3
open PySem PySem.Spec PySem.HandSPX
end L3
end
section
namespace L3
open PySem PySem.Spec PyProof.Rows L2 LamX
def LamF (f : Addr) (q : Str) (params : Arguments) (body : Expr) (scope : Scope) (c' : Addr) : HO := .ext fun h => ∃ pm ctv, h.get? f = some (PySem.W.kla_obj "<lambda>" q params body scope [] pm c' ctv)
/-- what is promised of such a lambda, wherever it is called -/
structure Lam1 (P : Program) (w : World) (K : PySem.W.Frag) (mg : Str → Option Value) (base : Heap) (k : Nat) (x : Str) (q : Str) (params : Arguments) (body : Expr) (scope : Scope) (sp : Sp) : Prop where
  bind : ∀ (pm cv ctv u : Value), bindArgs (PySem.W.kla_fn "<lambda>" q params body scope [] pm cv ctv) ⟨[u], []⟩ = pure [(x, u)]
  sc : FnScope [x] [x] scope
  body : ∀ (A : Around) (outer : List Env) (s : Shared) (H : Hp) (E : XK) (f c' : Addr) (v : V) (Q : VK), Room k (A.deeper (envOfC q scope s.heap.objs.size f (.ref c'))) → sp [v] H Q E → ∃ t, PE (cxOf CX0 P w K mg base [x] q scope f (.ref c') A outer s H E) body t ∧ t [some v] H Q
def LamAt (P : Program) (w : World) (K : PySem.W.Frag) (mg : Str → Option Value) (base : Heap) (k : Nat) (H : Hp) (f : Addr) (sp : Sp) : Prop :=
  ∃ (x q : Str) (params : Arguments) (body : Expr) (scope : Scope) (c' : Addr), H f = some (LamF f q params body scope c') ∧ H c' = some (CodeO c' q) ∧ Lam1 P w K mg base k x q params body scope sp
theorem LamAt.exN {P : Program} {w : World} {K : PySem.W.Frag} {mg : Str → Option Value} {base : Heap} {k : Nat} {H H' : Hp} {f : Addr} {sp : Sp} (h : LamAt P w K mg base k H f sp) (e : ExtN H H') : LamAt P w K mg base k H' f sp := by
  obtain ⟨x, q, params, body, scope, c', h1, h2, h3⟩ := h
  exact ⟨x, q, params, body, scope, c', e _ _ h1 (fun _ z => by unfold LamF at z; cases z), e _ _ h2 codeO_ne, h3⟩
theorem LamAt.keep {P : Program} {w : World} {K : PySem.W.Frag} {mg : Str → Option Value} {base : Heap} {k : Nat} {H H' : Hp} {f : Addr} {sp : Sp} (h : LamAt P w K mg base k H f sp) (e : ∀ b o, H b = some o → (∃ f q a b s c, o = LamF f q a b s c) ∨ (∃ c q, o = CodeO c q) → H' b = some o) : LamAt P w K mg base k H' f sp := by
  obtain ⟨x, q, params, body, scope, c', h1, h2, h3⟩ := h
  exact ⟨x, q, params, body, scope, c', e _ _ h1 (.inl ⟨_, _, _, _, _, _, rfl⟩), e _ _ h2 (.inr ⟨_, _, rfl⟩), h3⟩
def tCallF (P : Program) (w : World) (K : PySem.W.Frag) (mg : Str → Option Value) (base : Heap) (k : Nat) (tf : TE) (ta : TA) : TE := fun σ H Q =>
  tf σ H fun fv H1 => ∃ (f : Addr) (sp : Sp), fv = .ref f ∧ LamAt P w K mg base k H1 f sp ∧ ta σ H1 fun vs H2 => ∃ v, vs = [v] ∧ LamAt P w K mg base k H2 f sp ∧ sp [v] H2 Q (fun _ _ _ => False)
end L3
end
section
namespace L3
open PySem PySem.Spec PyProof.Rows L2 LamX
def ErAt (H : Hp) (a C : Addr) (fs : List (Str × V)) : Prop := (∃ d, H a = some (exo a C (some d)) ∧ H d = some (exd d fs)) ∨ (fs = [] ∧ H a = some (exo a C none))
theorem exo_tbl {e C : Addr} {d : Option Addr} : ∀ ps, exo e C d ≠ .tbl ps := fun _ z => by unfold exo at z; cases z
theorem exd_tbl {d : Addr} {fs : List (Str × V)} : ∀ ps, exd d fs ≠ .tbl ps := fun _ z => by unfold exd at z; cases z
theorem ErAt.exN {H H' : Hp} {a C : Addr} {fs : List (Str × V)} (h : ErAt H a C fs) (e : ExtN H H') : ErAt H' a C fs := by
  rcases h with ⟨d, h1, h2⟩ | ⟨h1, h2⟩
  · exact .inl ⟨d, e _ _ h1 exo_tbl, e _ _ h2 exd_tbl⟩
  · exact .inr ⟨h1, e _ _ h2 exo_tbl⟩
def tLstN (t : TA) : TE := fun σ H Q => t σ H fun xs H1 => xs.length ≤ sizeLine ∧ ∀ p, H1 p = none → p ≠ sysModules → ap Q (.ref p) (upd H1 p (.lst xs))
def litB : V → Bool
  | .int _ => true
  | .bl _ => true
  | .str _ => true
  | .non => true
  | _ => false
def litD : V → PyData
  | .int i => .int i
  | .bl b => .bool b
  | .str z => .str z
  | _ => .none
inductive Vd (H : Hp) : V → PyData → Prop
  | non : Vd H .non .none
  | bl (b : Bool) : Vd H (.bl b) (.bool b)
  | int (i : Int) : Vd H (.int i) (.int i)
  | str (z : Str) : Vd H (.str z) (.str z)
  | tup {p : Addr} {xs : List V} : H p = some (.tup xs) → xs.all litB = true → Vd H (.ref p) (.tuple (xs.map litD))
  | lst {p : Addr} {xs : List V} : H p = some (.lst xs) → p ≠ sysModules → xs.all litB = true → Vd H (.ref p) (.list (xs.map litD))
  | d0 {p : Addr} : H p = some (.dK []) → Vd H (.ref p) (.dict [])
  | d1 {p : Addr} {k v : Str} : H p = some (.dK [(.inr k, .str v)]) → Vd H (.ref p) (.dict [(.str k, .str v)])
theorem Vd.map {H H' : Hp} {v : V} {d : PyData} (h : Vd H v d) (f : ∀ a o, v = .ref a → H a = some o → (∀ ps, o ≠ .tbl ps) → H' a = some o) : Vd H' v d := by
  cases h with
  | non => exact .non
  | bl b => exact .bl b
  | int i => exact .int i
  | str z => exact .str z
  | tup h1 h2 => exact .tup (f _ _ rfl h1 fun _ z => nomatch z) h2
  | lst h1 h2 h3 => exact .lst (f _ _ rfl h1 fun _ z => nomatch z) h2 h3
  | d0 h1 => exact .d0 (f _ _ rfl h1 fun _ z => nomatch z)
  | d1 h1 => exact .d1 (f _ _ rfl h1 fun _ z => nomatch z)
theorem Vd.exN {H H' : Hp} {v : V} {d : PyData} (h : Vd H v d) (e : ExtN H H') : Vd H' v d := h.map fun a o _ h n => e a o h n
theorem Vd.ex {H H' : Hp} {v : V} {d : PyData} (h : Vd H v d) (e : Ex H H') : Vd H' v d := h.exN e.n
inductive VdAll (H : Hp) : List V → List PyData → Prop
  | nil : VdAll H [] []
  | cons {v : V} {d : PyData} {vs : List V} {ds : List PyData} : Vd H v d → VdAll H vs ds → VdAll H (v :: vs) (d :: ds)
theorem VdAll.exN {H H' : Hp} {vs : List V} {ds : List PyData} (h : VdAll H vs ds) (e : ExtN H H') : VdAll H' vs ds := by
  induction h with
  | nil => exact .nil
  | cons a _ b => exact .cons (a.exN e) b
end L3
end
section
namespace L3
open PySem PySem.Spec PyProof.Rows L2 LamX
section
variable {σ : L2.St} {H : Hp} {te : TE} {Q : VK} {K : PySem.W.Frag}
def spTell (K : PySem.W.Frag) (gs : List Str) : Sp := fun xs H Q _ => ∃ a C fs vs, xs = [.ref a] ∧ ErAt H a C fs ∧ XfC K C ∧ (∀ g ∈ gs, PySem.W.findIn K (.ref C) g = some none) ∧ gs.map (fun g => fs.lookup g) = vs.map some ∧ vs.length ≤ 1000 ∧
  ∀ p H', p ≠ sysModules → H p = none → Ex H H' → H' p = some (.lst vs) → Q (.ref p) H'
def spKind (K : PySem.W.Frag) (C : Addr) : Sp := fun xs H Q _ => ∃ a D fs b, xs = [.ref a] ∧ ErAt H a D fs ∧ ExcC K D ∧ PySem.W.kitOne K (.ref D) (.ref C) = some b ∧ Q (.bl b) H
/-- one row: an error, what tells it, what is due, its number -/
def Row (Lm : Hp → Addr → Sp → Prop) (K : PySem.W.Frag) (cs : List Addr) (v1 v2 : V) (H : Hp) (v : V) : Prop := ∃ t e f l j fs gs vs, v = .ref t ∧ H t = some (.tup [.ref e, .ref f, .ref l, .int ((j : Nat) : Int)]) ∧ j < 26 ∧ ErAt H e (cs.getD j 0) fs ∧ Lm H f (spTell K gs) ∧ H l = some (.lst vs) ∧ l ≠ sysModules ∧
  (∀ g ∈ gs, PySem.W.findIn K (.ref (cs.getD j 0)) g = some none) ∧ gs.map (fun g => fs.lookup g) = vs.map some ∧ (∀ x ∈ vs, x = v1 ∨ x = v2) ∧ vs.length ≤ 2
theorem Row.exN {Lm : Hp → Addr → Sp → Prop} (hL : ∀ H H' f sp, Lm H f sp → ExtN H H' → Lm H' f sp) {cs : List Addr} {v1 v2 : V} {H H' : Hp} {v : V} (h : Row Lm K cs v1 v2 H v) (e : ExtN H H') : Row Lm K cs v1 v2 H' v := by
  obtain ⟨t, e0, f, l, j, fs, gs, vs, h1, h2, h3, h4, h5, h6, h7⟩ := h
  exact ⟨t, e0, f, l, j, fs, gs, vs, h1, e _ _ h2 (fun _ z => nomatch z), h3, h4.exN e, hL _ _ _ _ h5 e, e _ _ h6 (fun _ z => nomatch z), h7⟩
end
section
variable {σ : L2.St} {H : Hp} {Q : VK} {K : PySem.W.Frag}
theorem s_lstN {t : TA} (h : t σ H fun xs H1 => xs.length ≤ sizeLine ∧ ∀ p, H1 p = none → p ≠ sysModules → ap Q (.ref p) (upd H1 p (.lst xs))) : tLstN t σ H Q := h
theorem s_callF {P : Program} {w : World} {mg : Str → Option Value} {base : Heap} {k : Nat} {tf : TE} {ta : TA} (h : tf σ H fun fv H1 => ∃ (f : Addr) (sp : Sp), fv = .ref f ∧ LamAt P w K mg base k H1 f sp ∧ ta σ H1 fun vs H2 => ∃ v, vs = [v] ∧ LamAt P w K mg base k H2 f sp ∧ sp [v] H2 Q (fun _ _ _ => False)) : tCallF P w K mg base k tf ta σ H Q := h
def KindsAt (Lm : Hp → Addr → Sp → Prop) (K : PySem.W.Frag) (cs : List Addr) (H : Hp) (l : Addr) : Prop := ∃ xs, H l = some (.lst xs) ∧ xs.length = 26 ∧ ∀ j, j < 26 → ∃ f, xs[j]? = some (.ref f) ∧ Lm H f (spKind K (cs.getD j 0))
theorem KindsAt.exN {Lm : Hp → Addr → Sp → Prop} (hL : ∀ H H' f sp, Lm H f sp → ExtN H H' → Lm H' f sp) {cs : List Addr} {H H' : Hp} {l : Addr} (h : KindsAt Lm K cs H l) (e : ExtN H H') : KindsAt Lm K cs H' l := by
  obtain ⟨xs, h1, h2, h3⟩ := h
  exact ⟨xs, e _ _ h1 (fun _ z => nomatch z), h2, fun j hj => (h3 j hj).imp fun f h => ⟨h.1, hL _ _ _ _ h.2 e⟩⟩
end
end L3
end
section
namespace L3
open PySem PySem.Spec PyProof.Rows L2 LamX
inductive Pq (K : PySem.W.Frag) (H : Hp) : V → V → Bool → Prop
  | dat {x y : V} {d e : PyData} : Dp K H x d → Dp K H y e → SeqAt.shaped d = true → SeqAt.shaped e = true → Pq K H x y (PyData.eqv d e)
  | d0 {p : Addr} : H p = some (.dK []) → Pq K H (.ref p) (.ref p) true
  | d1 {p : Addr} {k v : Str} : H p = some (.dK [(.inr k, .str v)]) → Pq K H (.ref p) (.ref p) true
end L3
end
section
namespace L3
open PySem PySem.Spec PyProof.Rows L2 LamX
section
variable {K : PySem.W.Frag} {σ : L2.St} {H H' : Hp} {Q : VK} {C : Addr}
def PaAt (H : Hp) (q C : Addr) (fs : List (Str × V)) : Prop := ∃ dx, H q = some (.ins C dx fs)
theorem PaAt.exN {q : Addr} {fs : List (Str × V)} (h : PaAt H q C fs) (e : ExtN H H') : PaAt H' q C fs := h.imp fun _ h => e _ _ h fun _ z => nomatch z
theorem PaAt.ex {q : Addr} {fs : List (Str × V)} (h : PaAt H q C fs) (e : Ex H H') : PaAt H' q C fs := h.exN e.n
def flF (ns : List Str) (xs : List V) : List (Str × V) := (ns.zip xs).foldl (fun a p => putF p.1 p.2 a) []
def spInit (C : Addr) (ns : List Str) : Sp := fun vs H Q _ => ∃ p dx xs, vs = .ref p :: xs ∧ xs.length = ns.length ∧ H p = some (.ins C dx []) ∧ ∀ H', (∀ c o, c ≠ p → H c = some o → H' c = some o) → H' p = some (.ins C dx (flF ns xs)) → Q .non H'
end
section
variable {K : PySem.W.Frag} {σ : L2.St} {H H' : Hp} {Q : VK} {C : Addr}
theorem Pq.ex {x y : V} {b : Bool} (h : Pq K H x y b) (e : Ex H H') : Pq K H' x y b := by
  have sl : ∀ a xs, SqL K H a xs → SqL K H' a xs := fun a xs h => by
    rcases h with (h | ⟨o, h⟩) | h
    · exact .inl (.inl (e _ _ h))
    · exact .inl (.inr ⟨o, e _ _ h⟩)
    · exact .inr h
  have st : ∀ a xs, SqT K H a xs → SqT K H' a xs := fun a xs h => by
    rcases h with (h | ⟨o, h⟩) | h
    · exact .inl (.inl (e _ _ h))
    · exact .inl (.inr ⟨o, e _ _ h⟩)
    · exact .inr h
  cases h with
  | dat h1 h2 h3 h4 => exact .dat (Dp.exN e.n _ _ sl st h1) (Dp.exN e.n _ _ sl st h2) h3 h4
  | d0 h => exact .d0 (e _ _ h)
  | d1 h => exact .d1 (e _ _ h)
def spTellP (K : PySem.W.Frag) (gs : List Str) : Sp := fun xs H Q _ => ∃ a C fs vs, xs = [.ref a] ∧ PaAt H a C fs ∧ Cls K C ∧ (∀ g ∈ gs, NoAttr K C g) ∧ gs.map (fun g => fs.lookup g) = vs.map some ∧
  ∀ p H', p ≠ sysModules → H p = none → Ex H H' → H' p = some (.lst vs) → Q (.ref p) H'
structure RowD where
  c : Nat
  fs : List (Str × V)
  gs : List Str
  vs : List V
  B : V
def RowAt (Lm : Hp → Addr → Sp → Prop) (K : PySem.W.Frag) (cs : List Addr) (H : Hp) (x : V) (r : RowD) : Prop := ∃ t e f l, x = .ref t ∧ H t = some (.tup [.ref e, .ref f, .ref l, r.B]) ∧ PaAt H e (cs.getD r.c 0) r.fs ∧ Lm H f (spTellP K r.gs) ∧ H l = some (.lst r.vs) ∧ l ≠ sysModules
theorem RowAt.exN {Lm : Hp → Addr → Sp → Prop} (hL : ∀ H H' f sp, Lm H f sp → ExtN H H' → Lm H' f sp) {cs : List Addr} {x : V} {r : RowD} (h : RowAt Lm K cs H x r) (e : ExtN H H') : RowAt Lm K cs H' x r := by
  obtain ⟨t, e0, f, l, h1, h2, h3, h4, h5, h6⟩ := h
  exact ⟨t, e0, f, l, h1, e _ _ h2 (fun _ z => nomatch z), h3.exN e, hL _ _ _ _ h4 e, e _ _ h5 (fun _ z => nomatch z), h6⟩
end
end L3
end
section
namespace L3
open PySem PySem.Calls PyProof.Rows
end L3
namespace L3
open PySem PySem.Spec PyProof.Rows L2 LamX StX RZ
section
variable {K : PySem.W.Frag} {σ : L2.St} {H : Hp} {Q : VK} {te ta : TE} {t : TA} {C : Addr} {sp : Sp} {E : XK}
theorem s_star {R : List V → Hp → Prop} (h : te σ H fun x H1 => ∃ p xs, x = V.ref p ∧ (SqT K H1 p xs ∨ SqL K H1 p xs) ∧ t σ H1 fun ys H2 => R (xs ++ ys) H2) : tStar K te t σ H R := h
theorem s_mkCR (h : t σ H fun vs H1 => ∀ x dx, H1 x = none → H1 dx = none → dx ≠ x → sp (V.ref x :: vs) (upd (upd H1 dx (.own x)) x (.ins C dx [])) (fun v H2 => v = .non ∧ ap Q (.ref x) H2) E) : tMakeR C sp E t σ H Q := h
end
theorem TyA.exN {K : PySem.W.Frag} {H H' : Hp} {v : V} {t : Value} (h : TyA K H v t) (e : ExtN H H') : TyA K H' v t := by
  cases h with
  | x h =>
    refine .x ?_
    cases h with
    | base h =>
      refine .base ?_
      cases h with
      | non => exact .non
      | bl b => exact .bl b
      | int i => exact .int i
      | str z => exact .str z
      | flt z => exact .flt z
      | lst h => exact .lst (e _ _ h fun _ z => nomatch z)
      | frz h => exact .frz (e _ _ h fun _ z => nomatch z)
      | tup h => exact .tup (e _ _ h fun _ z => nomatch z)
      | dK h => exact .dK (e _ _ h fun _ z => nomatch z)
      | dT h => exact .dT (e _ _ h fun _ z => nomatch z)
      | ins h a b c d f => exact .ins (e _ _ h fun _ z => nomatch z) a b c d f
    | byt b => exact .byt b
    | set h => exact .set (e _ _ h fun _ z => nomatch z)
    | kList h c => exact .kList h c
    | kTuple h c => exact .kTuple h c
    | kDict h c => exact .kDict h c
    | fTuple h => exact .fTuple (e _ _ h fun _ z => nomatch z)
    | fDict h => exact .fDict (e _ _ h fun _ z => nomatch z)
  | fn h => exact .fn (e _ _ h fun _ z => by unfold FnV at z; cases z)
/-- a value that is no number -/
def NI (K : PySem.W.Frag) (H : Hp) (v : V) : Prop := (∃ b, v = .bl b) ∨ ∃ ty, TyA K H v ty ∧ PySem.W.kitOne K ty (.type "int") = some false
/-- a value that is none of a class -/
def NC (K : PySem.W.Frag) (H : Hp) (u : Value) (v : V) : Prop := ∃ ty, TyA K H v ty ∧ PySem.W.kitOne K ty u = some false
theorem NI.exN {K : PySem.W.Frag} {H H' : Hp} {v : V} (h : NI K H v) (e : ExtN H H') : NI K H' v := h.imp id fun ⟨ty, a, b⟩ => ⟨ty, a.exN e, b⟩
theorem NC.exN {K : PySem.W.Frag} {H H' : Hp} {u : Value} {v : V} (h : NC K H u v) (e : ExtN H H') : NC K H' u v := by
  obtain ⟨ty, a, b⟩ := h
  exact ⟨ty, a.exN e, b⟩
/-- no number, or one beyond its bounds -/
def OutS (K : PySem.W.Frag) (H : Hp) (x : V) (a b : Int) : Prop := NI K H x ∨ ∃ i, x = .int i ∧ ¬ (a ≤ i ∧ i ≤ b)
theorem OutS.exN {K : PySem.W.Frag} {H H' : Hp} {x : V} {a b : Int} (h : OutS K H x a b) (e : ExtN H H') : OutS K H' x a b := h.imp (fun h => h.exN e) id
def spIsI2 (K : PySem.W.Frag) : Sp := fun vs H Q _ => ∃ x, vs = [x] ∧ ((∃ i, x = .int i ∧ Q (.bl true) H) ∨ (NI K H x ∧ Q (.bl false) H))
def spWithin2 (K : PySem.W.Frag) : Sp := fun vs H Q _ => ∃ x a b, vs = [x, .int a, .int b] ∧ ((∃ i, x = .int i ∧ a ≤ i ∧ i ≤ b ∧ Q (.bl true) H) ∨ (OutS K H x a b ∧ Q (.bl false) H))
section
variable {K : PySem.W.Frag} {σ : L2.St} {H : Hp} {Q : VK}
theorem s_lcZ {te : TE} {g : TG} {tt : TT} {vs : List Nat} {ta : TA} (h : ta σ H fun ws H1 => ∃ a b xs ys, ws = [.ref a, .ref b] ∧ ((SqL K H1 a xs ∧ SqL K H1 b ys ∧ LC (Itz K a b) g tt te vs σ H1 Q) ∨ (SqT K H1 a xs ∧ SqT K H1 b ys ∧ LC (ItzT K a b) g tt te vs σ H1 Q))) : tLc (iZipA K ta) g tt te vs σ H Q := h
end
def siz (n : Int) : Prop := 1 ≤ n ∧ n ≤ 10 ^ 30
def endsF : Int → List Int → List Int
  | _, [] => []
  | a, n :: r => (a + n) :: endsF (a + n) r
def endsOf (ns : List Int) : List Int := endsF 0 ns
theorem endsF_len : ∀ (ns : List Int) (a : Int), (endsF a ns).length = ns.length
  | [], _ => rfl
  | n :: r, a => by rw [endsF, List.length_cons, endsF_len r, List.length_cons]
theorem endsF_snoc : ∀ (ns : List Int) (a n : Int), endsF a (ns ++ [n]) = endsF a ns ++ [a + ns.sum + n]
  | [], a, n => by simp [endsF]
  | m :: r, a, n => by
    rw [List.cons_append, endsF, endsF, endsF_snoc r, List.cons_append, List.sum_cons, Int.add_assoc a m]
theorem endsOf_len (ns : List Int) : (endsOf ns).length = ns.length := endsF_len ns 0
theorem endsOf_snoc (ns : List Int) (n : Int) : endsOf (ns ++ [n]) = endsOf ns ++ [ns.sum + n] := by
  have := endsF_snoc ns 0 n
  rw [Int.zero_add] at this
  exact this
theorem take_snoc {α : Type} {l : List α} {i : Nat} {x : α} (h : l[i]? = some x) : l.take (i + 1) = l.take i ++ [x] := by
  rw [List.take_add_one, h]; rfl
def restsOf (ns : List Int) : List Int := (List.range ns.length).map fun i => ns.sum - (endsOf ns).getD i 0 + ns.getD i 0
def ckF (t1 t2 t3 : Addr) (tot : Int) : List (Str × V) := putF "rests" (.ref t3) (putF "total" (.int tot) (putF "ends" (.ref t2) (putF "sizes" (.ref t1) [])))
def Ck (C : Addr) (H : Hp) (q : Addr) (ns : List Int) : Prop := ∃ dx t1 t2 t3, H q = some (.ins C dx (ckF t1 t2 t3 ns.sum)) ∧ H t1 = some (.tup (ns.map V.int)) ∧ H t2 = some (.tup ((endsOf ns).map V.int)) ∧ H t3 = some (.tup ((restsOf ns).map V.int))
theorem Ck.exN {C : Addr} {H H' : Hp} {q : Addr} {ns : List Int} (h : Ck C H q ns) (e : ExtN H H') : Ck C H' q ns := by
  obtain ⟨dx, t1, t2, t3, a, b, c, d⟩ := h
  exact ⟨dx, t1, t2, t3, e _ _ a (fun _ z => nomatch z), e _ _ b (fun _ z => nomatch z), e _ _ c (fun _ z => nomatch z), e _ _ d (fun _ z => nomatch z)⟩
theorem Ck.ex {C : Addr} {H H' : Hp} {q : Addr} {ns : List Int} (h : Ck C H q ns) (e : Ex H H') : Ck C H' q ns := h.exN e.n
theorem Rz.ex' {C : Addr} {g : Str} {v : V} {H H' : Hp} {E : XK} (h : Rz C g v H E) (e : Ex H H') : Rz C g v H' E := fun d H2 hd e2 hx => h d H2 (e.free hd) (e.trans e2) hx
/-- what Chunks(*xs) comes to -/
def CkG (K : PySem.W.Frag) (CB CM : Addr) (H : Hp) (xs : List V) (G : List Int → Prop) (E : XK) : Prop := xs.length ≤ 100000 ∧
  ((∃ ns : List Int, xs = ns.map V.int ∧ (∀ n ∈ ns, siz n) ∧ ((ns.length ≤ 5000 ∧ G ns) ∨ (5000 < ns.length ∧ Rz2 CM "what" "most" (.str "chunks") (.int 5000) H E))) ∨
   ∃ (ns : List Int) (z : V) (rest : List V), xs = ns.map V.int ++ z :: rest ∧ (∀ n ∈ ns, siz n) ∧ OutS K H z 1 (10 ^ 30) ∧ Rz CB "value" z H E)
theorem CkG.ex {K : PySem.W.Frag} {CB CM : Addr} {H H' : Hp} {xs : List V} {G G' : List Int → Prop} {E : XK} (h : CkG K CB CM H xs G E) (e : Ex H H') (g : ∀ ns, G ns → G' ns) : CkG K CB CM H' xs G' E := by
  obtain ⟨h0, ⟨ns, h1, h2, h3⟩ | ⟨ns, z, rest, h1, h2, h3, h4⟩⟩ := h
  · exact ⟨h0, .inl ⟨ns, h1, h2, h3.imp (fun ⟨a, b⟩ => ⟨a, g _ b⟩) fun ⟨a, b⟩ => ⟨a, b.ex e⟩⟩⟩
  · exact ⟨h0, .inr ⟨ns, z, rest, h1, h2, h3.exN e.n, h4.ex' e⟩⟩
end L3
end
section
namespace L3
open PySem PySem.Spec PyProof.Rows L2 LamX
structure ClT (K : PySem.W.Frag) (mg : Str → Option Value) (x : Str) (C : Addr) : Prop where
  g : ∃ u, mg x = some u ∧ RelV (.ref C) u
  cl : Cls K C
  kC : PySem.W.kitOne K (.ref C) (.ref C) = some true
  ha : PySem.W.findIn K (.ref C) "__class__" = some (some (.builtin "object.__class__"))
  hn : PySem.W.specialIn K (.builtin "object.__class__") "__get__" = some (some (.builtin "getset_descriptor.__get__"))
  htk : PySem.W.takesIn K (.builtin "object.__class__") = some true
  hm : PySem.W.mroIn K C (.type "object") = some true
theorem ClT.ty {K : PySem.W.Frag} {mg : Str → Option Value} {x : Str} {C : Addr} (T : ClT K mg x C) {H : Hp} {p dx : Addr} {fs : List (Str × V)} (e : H p = some (.ins C dx fs)) : TyA K H (.ref p) (.ref C) := .x (.base (.ins e T.cl T.ha T.hn T.htk T.hm))
structure ErT (K : PySem.W.Frag) (mg : Str → Option Value) (x : Str) (C CL : Addr) (fs : List Str) : Prop where
  g : ∃ u, mg x = some u ∧ RelV (.ref C) u
  exc : ExcC K C
  xf : XfC K C
  nV : ∀ f ∈ fs, PySem.W.findIn K (.ref C) f = some none
  kB : PySem.W.kitOne K (.ref C) (.ref C) = some true
  em : PySem.W.exmOne K (.ref C) (.ref CL) = some true
  kV : PySem.W.kitOne K (.ref C) (.type "ValueError") = some true
/-- neither a list nor a tuple -/
def NLT (K : PySem.W.Frag) (H : Hp) (v : V) : Prop := ∃ t, TyX K H v t ∧ PySem.W.kitAny K t [.type "list", .type "tuple"] = some false
theorem TyX.exN {K : PySem.W.Frag} {H H' : Hp} {v : V} {t : Value} (h : TyX K H v t) (e : ExtN H H') : TyX K H' v t := by
  cases h with
  | base h =>
    refine .base ?_
    cases h with
    | non => exact .non
    | bl b => exact .bl b
    | int i => exact .int i
    | str z => exact .str z
    | flt z => exact .flt z
    | lst h => exact .lst (e _ _ h fun _ z => nomatch z)
    | frz h => exact .frz (e _ _ h fun _ z => nomatch z)
    | tup h => exact .tup (e _ _ h fun _ z => nomatch z)
    | dK h => exact .dK (e _ _ h fun _ z => nomatch z)
    | dT h => exact .dT (e _ _ h fun _ z => nomatch z)
    | ins h a b c d f => exact .ins (e _ _ h fun _ z => nomatch z) a b c d f
  | byt b => exact .byt b
  | set h => exact .set (e _ _ h fun _ z => nomatch z)
  | kList h c => exact .kList h c
  | kTuple h c => exact .kTuple h c
  | kDict h c => exact .kDict h c
  | fTuple h => exact .fTuple (e _ _ h fun _ z => nomatch z)
  | fDict h => exact .fDict (e _ _ h fun _ z => nomatch z)
theorem NLT.exN {K : PySem.W.Frag} {H H' : Hp} {v : V} (h : NLT K H v) (e : ExtN H H') : NLT K H' v := by
  obtain ⟨t, a, b⟩ := h
  exact ⟨t, L3.TyX.exN a e, b⟩
section
variable {K : PySem.W.Frag} {H H' : Hp} {Q : VK} {C CB CM : Addr} {E : XK}
theorem sz100k {n : Nat} (h : n ≤ 100000) : n < sizeLine := Nat.lt_of_le_of_lt h (by decide)
theorem endsOf_take (ns : List Int) : ∀ i, i ≤ ns.length → endsOf (ns.take i) = (endsOf ns).take i := by
  have h : ∀ (ns : List Int) (a : Int) (i : Nat), endsF a (ns.take i) = (endsF a ns).take i := by
    intro ns
    induction ns with
    | nil => intro a i; simp [endsF]
    | cons n r ih =>
      intro a i
      cases i with
      | zero => rfl
      | succ i => rw [List.take_succ_cons, endsF, endsF, List.take_succ_cons, ih]
  exact fun i _ => h ns 0 i
theorem endsOf_get {ns : List Int} {i : Nat} (h : i < ns.length) : (endsOf ns)[i]? = some ((ns.take (i + 1)).sum) := by
  have hx : ns[i]? = some ns[i] := List.getElem?_eq_getElem h
  have e1 := endsOf_take ns (i + 1) (by omega)
  rw [take_snoc hx, endsOf_snoc] at e1
  have e2 : (endsOf (ns.take i) ++ [(ns.take i).sum + ns[i]])[i]? = some ((ns.take i).sum + ns[i]) := by
    rw [List.getElem?_append_right (by rw [endsOf_len, List.length_take]; omega), endsOf_len, List.length_take, Nat.min_eq_left (by omega), Nat.sub_self]; rfl
  rw [e1, List.getElem?_take, if_pos (by omega)] at e2
  rw [e2, take_snoc hx, List.sum_append, List.sum_cons, List.sum_nil, Int.add_zero]
end
end L3
end
section
namespace L3
open PySem PySem.Spec PyProof.Rows L2 NumText
theorem join_mem {S : List Nat} : ∀ {ps : List (List Nat)} {p : List Nat}, p ∈ ps → (∀ c ∈ p, c ∈ TL.joinL S ps) ∧ p.length ≤ (TL.joinL S ps).length
  | [], _, h => by cases h
  | [q], p, h => by rw [List.mem_singleton.mp h]; exact ⟨fun c hc => hc, Nat.le_refl _⟩
  | q :: r :: rs, p, h => by
    show (∀ c ∈ p, c ∈ q ++ (S ++ TL.joinL S (r :: rs))) ∧ p.length ≤ (q ++ (S ++ TL.joinL S (r :: rs))).length
    rcases List.mem_cons.mp h with rfl | h
    · exact ⟨fun c hc => List.mem_append_left _ hc, by simp⟩
    · obtain ⟨a, b⟩ := join_mem (S := S) h
      exact ⟨fun c hc => List.mem_append_right _ (List.mem_append_right _ (a c hc)), by simp; omega⟩
def Pg (n : Nat) (z : Str) : Prop := z.length ≤ n ∧ ∀ c ∈ z.cps.toList, c < 1114112
theorem Pg.mono {n m : Nat} {z : Str} (h : Pg n z) (hm : n ≤ m) : Pg m z := ⟨Nat.le_trans h.1 hm, h.2⟩
theorem Pg.app {n m : Nat} {a b : Str} (h1 : Pg n a) (h2 : Pg m b) : Pg (n + m) (a ++ b) := by
  refine ⟨by rw [len_app]; have := h1.1; have := h2.1; omega, fun c hc => ?_⟩
  have e : (a ++ b).cps.toList = a.cps.toList ++ b.cps.toList := TL.tl_append a b
  rw [e] at hc
  rcases List.mem_append.mp hc with hc | hc
  · exact h1.2 c hc
  · exact h2.2 c hc
end L3
end
section
namespace L3
open PySem PySem.Spec PyProof.Rows L2 LamX ClX
section
variable {K : PySem.W.Frag} {σ : L2.St} {H H' : Hp} {Q : VK} {C CT : Addr} {E : XK} {to te ta : TE} {t : TA}
/-- [f(x) for x in xs] -/
theorem lcMap {a : Addr} {xs : List V} {j : Nat} {vs : List Nat} (f : V → V) (ha : H a = some (.lst xs)) (hz : xs.length < sizeLine) (hw : ∀ x, wipe ((wipe σ vs).set j (some x)) vs = wipe σ vs)
    (step : ∀ x, x ∈ xs → ∀ (H1 : Hp) (R : VK), Ex H H1 → (∀ H2, Ex H1 H2 → R (f x) H2) → te ((wipe σ vs).set j (some x)) H1 R)
    (k : ∀ D H2, H D = none → Ex H H2 → H2 D = some (.lst (xs.map f)) → Q (.ref D) H2) : LC (Itl K a) (gName j) tYes te vs σ H Q := by
  intro D hD
  refine lc_list (K := K) (a := a) (xs := xs) (fun n H1 => Ex H H1 ∧ H1 D = some (.lst ((xs.take n).map f))) ⟨ex_new hD, upd_same⟩ (fun n H1 _ ⟨e, _⟩ => .inl (.inl (e _ _ ha))) (fun n x H1 hx ⟨e, hz1⟩ => ?_) (fun H1 ⟨e, hz1⟩ => ?_)
  · refine ⟨hw _, ?_⟩
    unfold tYes
    dsimp only
    refine iteT (step x (List.mem_of_getElem? hx) H1 _ e fun H2 e2 => ?_)
    have hz2 := e2 _ _ hz1
    refine ⟨_, hz2, ?_, fun b o hb => ?_, ?_⟩
    · rw [List.length_map, List.length_take]; omega
    · rw [upd_ne (ne_of_none hb hD)]; exact e2 _ _ (e _ _ hb)
    · rw [upd_same, List.take_succ, hx, List.map_append]; rfl
  · rw [List.take_of_length_le (Nat.le_refl _)] at hz1
    exact k D H1 hD e hz1
end
/-- no text: another value, or a fraction -/
inductive NoS (C : Addr) (H : Hp) : V → Prop
  | non : NoS C H .non
  | bl (b : Bool) : NoS C H (.bl b)
  | int (i : Int) : NoS C H (.int i)
  | tup {p : Addr} {xs : List V} : H p = some (.tup xs) → NoS C H (.ref p)
  | lst {p : Addr} {xs : List V} : H p = some (.lst xs) → NoS C H (.ref p)
  | dic {p : Addr} {kvs : List (Key × V)} : H p = some (.dK kvs) → NoS C H (.ref p)
  | rt {p : Addr} {o u : Int} : Rt C H p o u → NoS C H (.ref p)
theorem NoS.exN {C : Addr} {H H' : Hp} {v : V} (h : NoS C H v) (e : ExtN H H') : NoS C H' v := by
  cases h with
  | non => exact .non
  | bl b => exact .bl b
  | int b => exact .int b
  | tup h => exact .tup (e _ _ h fun _ z => nomatch z)
  | lst h => exact .lst (e _ _ h fun _ z => nomatch z)
  | dic h => exact .dic (e _ _ h fun _ z => nomatch z)
  | rt h => exact .rt (h.exN e)
end L3
namespace L3
open PySem PySem.Spec PyProof.Rows L2 LamX ClX
def bas : Int := (10 : Int) ^ (Int.toNat 30) - 1
def far (i : Nat) : Int := bas ^ (i + 1)
end L3
end
section
namespace L3
open PySem PySem.NumText PySem.Spec PyProof.Rows L2
theorem splC_facts (s : Nat) : ∀ (l acc : List Nat), s ∉ acc → TL.spl [s] 0 acc l ≠ [] ∧ TL.joinL [s] (TL.spl [s] 0 acc l) = acc ++ l ∧ ∀ p ∈ TL.spl [s] 0 acc l, s ∉ p
  | [], acc, h => by
    rw [TL.spl_nil]
    refine ⟨by simp, by simp [TL.joinL], fun p hp => ?_⟩
    rw [List.mem_singleton.mp hp]; exact h
  | c :: r, acc, h => by
    by_cases hc : c = s
    · subst hc
      rw [TL.spl_hit (by unfold TL.pre; simp)]
      obtain ⟨n1, n2, n3⟩ := splC_facts c r [] (by simp)
      refine ⟨by simp, ?_, fun p hp => ?_⟩
      · show TL.joinL [c] (acc :: TL.spl [c] 0 [] r) = _
        cases hs : TL.spl [c] 0 [] r with
        | nil => exact absurd hs n1
        | cons q qs =>
          rw [hs] at n2
          show acc ++ ([c] ++ TL.joinL [c] (q :: qs)) = _
          rw [n2]; simp
      · rcases List.mem_cons.mp hp with rfl | hp
        · exact h
        · exact n3 p hp
    · rw [TL.spl_miss (by unfold TL.pre; simp [hc])]
      obtain ⟨n1, n2, n3⟩ := splC_facts s r (acc ++ [c]) (by
        intro z
        rcases List.mem_append.mp z with z | z
        · exact h z
        · rw [List.mem_singleton] at z; exact hc z.symm)
      exact ⟨n1, by rw [n2]; simp, n3⟩
abbrev wds (z : Str) : List Str := Txt.split z " "
theorem wds_codes (z : Str) : (wds z).map TL.tl = TL.spl [32] 0 [] z.cps.toList := by
  have e : TL.tl (" " : Str) = [32] := by decide +kernel
  have := TL.split_spl z " " (by rw [e]; simp) (TL.kind_ok (by decide +kernel))
  rw [e] at this
  exact this
theorem wds_facts (z : Str) : wds z ≠ [] ∧ TL.joinL [32] ((wds z).map TL.tl) = z.cps.toList ∧ ∀ p ∈ wds z, 32 ∉ p.cps.toList ∧ p.length ≤ z.length ∧ ∀ c ∈ p.cps.toList, c ∈ z.cps.toList := by
  obtain ⟨a, b, c⟩ := splC_facts 32 z.cps.toList [] (by simp)
  rw [← wds_codes] at a b c
  rw [List.nil_append] at b
  refine ⟨fun q => a (by rw [q]; rfl), b, fun p hp => ?_⟩
  have hm : TL.tl p ∈ (wds z).map TL.tl := List.mem_map.mpr ⟨p, hp, rfl⟩
  obtain ⟨m1, m2⟩ := join_mem (S := [32]) hm
  rw [b] at m1 m2
  refine ⟨c _ hm, ?_, m1⟩
  rw [← len_codes, ← len_codes z]
  exact m2
theorem wds_of {z : Str} (ps : List (List Nat)) (hne : ps ≠ []) (h : z.cps.toList = TL.joinL [32] ps) (hp : ∀ p ∈ ps, 32 ∉ p) : (wds z).map TL.tl = ps := by
  rw [wds_codes, h]
  exact TL.spl_join hne hp
/-- joined, then cut -/
theorem wds_join {ps : List Str} (hne : ps ≠ []) (hp : ∀ p ∈ ps, 32 ∉ p.cps.toList) : wds (Txt.join " " ps) = ps := by
  refine TL.map_tl_inj (wds_of (ps.map TL.tl) (by simpa using hne) ?_ fun p h => ?_)
  · have e : TL.tl (" " : Str) = [32] := by decide +kernel
    show TL.tl (Txt.join " " ps) = _
    rw [TL.join_eq, TL.tl_join, e]
  · obtain ⟨q, hq, rfl⟩ := List.mem_map.mp h
    exact hp q hq
end L3
end
section
namespace L3
open PySem PySem.NumText PySem.Spec PyProof.Rows L2 LamX RZ
section
variable {K : PySem.W.Frag} {σ : L2.St} {H : Hp} {Q : VK} {g : TG} {tb : TS} {D : Ends} {ta to te : TE} {t : TA}
/-- a walk over anything -/
def ForJ (J : It) (g : TG) (tb : TS) (D : Ends) (σ : L2.St) (H : Hp) : Prop := ∃ W : Nat → Nat → L2.St → Hp → Prop, (∃ m, W 0 m σ H) ∧ ∀ (i m : Nat) (σ : L2.St) (H : Hp), W i m σ H → J.stop i H ∧ D.nx σ H ∨ J.go i H ∧
  ∃ N, (∀ (σ' : L2.St) (H' : Hp), N σ' H' → ∃ m', m' < m ∧ W (i + 1) m' σ' H') ∧ ∀ (x : V) (H' : Hp), J.yld i H x H' → g x σ H' fun σ2 H2 => tb { nx := N, rt := D.rt, bk := D.nx, ct := N } σ2 H2
theorem s_forE (h : t σ H fun ws H1 => ∃ a xs, ws = [.ref a] ∧ SqL K H1 a xs ∧ ForJ (Ite K a) g tb D σ H1) : tFor (iEnum K t) g tb D σ H := h
theorem s_forZ (h : t σ H fun ws H1 => ∃ a b xs ys, ws = [.ref a, .ref b] ∧ ((SqL K H1 a xs ∧ SqL K H1 b ys ∧ ForJ (Itz K a b) g tb D σ H1) ∨ (SqT K H1 a xs ∧ SqT K H1 b ys ∧ ForJ (ItzT K a b) g tb D σ H1))) : tFor (iZipA K t) g tb D σ H := h
/-- for i, x in enumerate(xs) -/
theorem forEn {a : Addr} {xs : List V} (Pv : Nat → L2.St → Hp → Prop) (h0 : Pv 0 σ H) (hs : ∀ i σ H, Pv i σ H → H a = some (.lst xs))
    (hb : ∀ (i : Nat) x T σ H, xs[i]? = some x → Pv i σ H → H T = none → ∀ H1, Ex H H1 → (∀ b, b ≠ T → H1 b = H b) → H1 T = some (.tup [.int (i : Int), x]) → g (.ref T) σ H1 fun σ2 H2 => tb { nx := Pv (i + 1), rt := D.rt, bk := D.nx, ct := Pv (i + 1) } σ2 H2)
    (he : ∀ σ H, Pv xs.length σ H → D.nx σ H) : ForJ (Ite K a) g tb D σ H :=
  for_it walk_enum Pv h0 (fun i σ H _ h => .inl (.inl (hs i σ H h))) (fun i x σ H1 H2 hi hp hy => by
    obtain ⟨T, x', y', rfl, hT, rfl, hx, hy⟩ := hy
    cases hx
    exact hb i y' T σ H1 hy hp hT _ (ex_new hT) (fun b hb => upd_ne hb) upd_same) he
theorem s_orT (h : ta σ H fun x H1 => ∃ k, TruV K x H1 k ∧ if k = true then Q x H1 else te σ H1 Q) : tOrT K ta te σ H Q := h
end
section
variable {K : PySem.W.Frag} {σ : L2.St} {H : Hp} {Q : VK}
theorem s_lcTp {te ta : TE} {g : TG} {tt : TT} {vs : List Nat} (h : ta σ H fun x H1 => ∃ a, x = .ref a ∧ (∃ xs, SqT K H1 a xs) ∧ LC (Itt K a) g tt te vs σ H1 Q) : tLc (iTup K ta) g tt te vs σ H Q := h
end
end L3
end
section
namespace L3
open PySem PySem.NumText PySem.Spec PyProof.Rows L2 LamX RZ
section
variable {σ : L2.St} {H : Hp} {g : TG} {tb : TS} {D : Ends}
theorem s_forR1 {tr : TA} (h : tr σ H fun ws H1 => ∃ j : Int, ws = [.int j] ∧ -(2 ^ 62) ≤ j ∧ j < 2 ^ 62 ∧ ForJ (Itr 0 j.toNat) g tb D σ H1) : tFor (iRng1 tr) g tb D σ H := h
theorem forRg {lo : Int} {n : Nat} (Pv : Nat → L2.St → Hp → Prop) (h0 : Pv 0 σ H)
    (hb : ∀ (i : Nat) σ H, i < n → Pv i σ H → g (.int (lo + (i : Int))) σ H fun σ2 H2 => tb { nx := Pv (i + 1), rt := D.rt, bk := D.nx, ct := Pv (i + 1) } σ2 H2)
    (he : ∀ σ H, Pv n σ H → D.nx σ H) : ForJ (Itr lo n) g tb D σ H :=
  for_it walk_range Pv h0 (fun i σ H _ h => trivial) (fun i x σ H1 H2 hi hp hy => by
    obtain ⟨rfl, rfl⟩ := hy
    exact hb i σ _ hi hp) he
end
theorem joinL_len (S : List Nat) : ∀ ps : List (List Nat), (TL.joinL S ps).length ≤ (ps.map (·.length)).sum + ps.length * S.length
  | [] => by simp [TL.joinL]
  | [p] => by simp [TL.joinL]
  | p :: q :: r => by
    have ih := joinL_len S (q :: r)
    show (p ++ (S ++ TL.joinL S (q :: r))).length ≤ _
    simp only [List.length_append, List.map_cons, List.sum_cons, List.length_cons] at ih ⊢
    simp only [Nat.add_mul, Nat.one_mul] at ih ⊢
    omega
theorem join_len (a : Str) (ys : List Str) : (Txt.join a ys).length ≤ (ys.map (·.length)).sum + ys.length * a.length := by
  have h := joinL_len (TL.tl a) (ys.map TL.tl)
  have e : TL.tl (Txt.join a ys) = TL.joinL (TL.tl a) (ys.map TL.tl) := by rw [TL.join_eq, TL.tl_join]
  rw [← e, List.map_map, List.length_map] at h
  have e2 : (ys.map ((·.length) ∘ TL.tl)) = ys.map (·.length) := List.map_congr_left fun x _ => (TL.len_tl x).symm
  rw [e2, ← TL.len_tl, ← TL.len_tl] at h
  exact h
theorem sum_le {m : Nat} : ∀ {ys : List Str}, (∀ y ∈ ys, y.length ≤ m) → (ys.map (·.length)).sum ≤ m * ys.length
  | [], _ => by simp
  | y :: r, h => by
    have := sum_le fun y hy => h y (List.mem_cons_of_mem _ hy)
    have := h y List.mem_cons_self
    simp only [List.map_cons, List.sum_cons, List.length_cons, Nat.mul_add, Nat.mul_one]
    omega
theorem joinL_mem (S : List Nat) (c : Nat) : ∀ ps : List (List Nat), c ∈ TL.joinL S ps → c ∈ S ∨ ∃ p ∈ ps, c ∈ p
  | [], h => nomatch h
  | [p], h => .inr ⟨p, List.mem_singleton_self p, h⟩
  | p :: q :: r, h => by
    have h : c ∈ p ++ (S ++ TL.joinL S (q :: r)) := h
    rcases List.mem_append.mp h with h | h
    · exact .inr ⟨p, List.mem_cons_self, h⟩
    · rcases List.mem_append.mp h with h | h
      · exact .inl h
      · exact (joinL_mem S c (q :: r) h).imp id fun ⟨x, hx, hc⟩ => ⟨x, List.mem_cons_of_mem _ hx, hc⟩
theorem join_codes {a : Str} {ys : List Str} {c : Nat} (h : c ∈ (Txt.join a ys).cps.toList) : c ∈ a.cps.toList ∨ ∃ y ∈ ys, c ∈ y.cps.toList := by
  have e : TL.tl (Txt.join a ys) = TL.joinL (TL.tl a) (ys.map TL.tl) := by rw [TL.join_eq, TL.tl_join]
  have h : c ∈ TL.tl (Txt.join a ys) := h
  rw [e] at h
  refine (joinL_mem _ c _ h).imp id fun ⟨p, hp, hc⟩ => ?_
  obtain ⟨y, hy, rfl⟩ := List.mem_map.mp hp
  exact ⟨y, hy, hc⟩
/-- a plain text of at most m signs -/
def Pt (m : Nat) (z : Str) : Prop := z.length ≤ m ∧ ∀ c ∈ z.cps.toList, c < 1114112
def ptB (m : Nat) (z : Str) : Bool := decide (z.length ≤ m) && z.cps.toList.all fun c => decide (c < 1114112)
theorem pt_of {m : Nat} {z : Str} (h : ptB m z = true) : Pt m z := by
  unfold ptB at h
  simp only [Bool.and_eq_true, decide_eq_true_eq, List.all_eq_true] at h
  exact h
theorem pt_join {m n : Nat} {ys : List Str} (h : ∀ y ∈ ys, Pt m y) (hn : ys.length ≤ n) : Pt (m * n + n) (Txt.join " " ys) := by
  refine ⟨?_, fun c hc => ?_⟩
  · have h1 := join_len " " ys
    have h2 := sum_le fun y hy => (h y hy).1
    have h3 : m * ys.length ≤ m * n := Nat.mul_le_mul_left _ hn
    have e : (" " : Str).length = 1 := by decide +kernel
    rw [e] at h1
    omega
  · rcases join_codes hc with hc | ⟨y, hy, hc⟩
    · have e : (" " : Str).cps.toList = [32] := by decide +kernel
      rw [e, List.mem_singleton] at hc
      omega
    · exact (h y hy).2 c hc
theorem strOkO (s : String) : PyData.strOk (Str.ofString s) = true := by
  unfold PyData.strOk
  have e := ofString_codes s
  rw [← Array.all_toList, e, List.all_map]
  refine List.all_eq_true.mpr fun c _ => ?_
  show decide (c.toNat < 0x110000) = true
  refine decide_eq_true ?_
  rcases c.valid with h | ⟨_, h⟩
  · exact Nat.lt_trans h (by decide)
  · exact h
theorem strOkI (i : Int) : PyData.strOk (PyData.int i).shown = true := by
  show PyData.strOk (Str.ofString (toString i)) = true
  exact strOkO _
section
variable {K : PySem.W.Frag} {H : Hp} {Q : VK}
theorem log_le {n k : Nat} (h : n ≤ k) (hk : k < 2 ^ 1920) : n.log2 < 1920 := by
  rcases Nat.eq_zero_or_pos n with rfl | hp
  · decide
  · exact (Nat.log2_lt (by omega)).mpr (Nat.lt_of_le_of_lt h hk)
end
section
variable {K : PySem.W.Frag} {σ : L2.St} {H H' : Hp} {Q : VK} {C : Addr}
theorem s_stC {sp : Sp} {E : XK} {t : TA} (h : t σ H fun vs H2 => sp vs H2 Q E) : tSt C sp E (tC (.ref C)) t σ H Q := ⟨rfl, h⟩
theorem s_cmC {sp : Sp} {E : XK} {t : TA} (h : t σ H fun vs H2 => sp (.ref C :: vs) H2 Q E) : ClX.tCMeth C sp E (tC (.ref C)) t σ H Q := ⟨rfl, h⟩
theorem Ck.keep {q a : Addr} {n : Nat} {ns : List Int} (h : Ck C H q ns) (p : Pen H a n) (k : ∀ b o, b ≠ a → H b = some o → H' b = some o) : Ck C H' q ns := by
  obtain ⟨dx, t1, t2, t3, a1, b, c, d⟩ := h
  have nn : ∀ {q : Addr} {o : HO}, H q = some o → (∀ c n, o ≠ PenO a c n) → H' q = some o := fun {q o} e z => k _ _ (p.ne e z) e
  exact ⟨dx, t1, t2, t3, nn a1 (fun c n z => by unfold PenO at z; cases z), nn b (fun c n z => by unfold PenO at z; cases z), nn c (fun c n z => by unfold PenO at z; cases z), nn d (fun c n z => by unfold PenO at z; cases z)⟩
theorem tup_keep {q a : Addr} {n : Nat} {xs : List V} (h : H q = some (.tup xs)) (p : Pen H a n) (k : ∀ b o, b ≠ a → H b = some o → H' b = some o) : H' q = some (.tup xs) := k _ _ (p.ne h (fun c n z => by unfold PenO at z; cases z)) h
end
theorem _root_.L2.SqL.exL {K : PySem.W.Frag} {H H' : Hp} {a : Addr} {xs : List V} (h : SqL K H a xs) (e : Ex H H') : SqL K H' a xs := by
  rcases h with (h | ⟨o, h⟩) | h
  · exact .inl (.inl (e _ _ h))
  · exact .inl (.inr ⟨o, e _ _ h⟩)
  · exact .inr h
theorem _root_.L2.SqT.exT {K : PySem.W.Frag} {H H' : Hp} {a : Addr} {xs : List V} (h : SqT K H a xs) (e : Ex H H') : SqT K H' a xs := by
  rcases h with (h | ⟨o, h⟩) | h
  · exact .inl (.inl (e _ _ h))
  · exact .inl (.inr ⟨o, e _ _ h⟩)
  · exact .inr h
theorem _root_.L2.Dp.ex' {K : PySem.W.Frag} {H H' : Hp} {v : V} {d : PyData} (h : Dp K H v d) (e : Ex H H') : Dp K H' v d := L3.Dp.exN e.n d v (fun a xs h => h.exL e) (fun a xs h => h.exT e) h
theorem KX.join {X : Cx} {K : PySem.W.Frag} {o e : Expr} {to te : TE} {apos pos : Pos} (hK : X.K = K) (ho : PE X o to) (he : PE X e te) (hs : starEach [e] X.env = [(false, eval e X.env)] := by rfl) (hbase : attributeBase o "join" X.env (eval o X.env) = eval o X.env := by rfl) (hline : (apos.endLine == pos.line) = true := by rfl) :
    PE X (.Call (.Attribute o "join" apos) [e] [] pos) (tM1 (fun x xs H Q => ∃ a p, ∃ ys : List Str, x = .str a ∧ xs = [.ref p] ∧ (SqL K H p (ys.map V.str) ∨ SqT K H p (ys.map V.str)) ∧
      (ys.map (·.length)).sum + ys.length * a.length ≤ 16777216 ∧ Q (.str (Txt.join a ys)) H) to te) := by
  subst hK
  exact pe_join ho he hs hbase hline
end L3
end
section
namespace L3
open PySem PySem.NumText PySem.Spec PyProof.Rows L2 LamX RZ
structure Mt (P : Program) (w : World) (K : PySem.W.Frag) (mg : Str → Option Value) (base : Heap) (CX : CXT) (k : Nat) (C : Addr) (m c : Str) (ps : List Str) (sp : Sp) : Prop where
  ex : ∃ (f : Addr) (fd : FuncData), Cls K C ∧ Meth K C m f ∧ FnOk P w K mg base CX k f fd (c :: ps) sp ∧ L2.Binds K fd (c :: ps) [] ∧
    ∀ (s : Shared) (a : Value) (ws : List Value), K.In s.heap → ws.length = ps.length → BindsTo s fd ⟨[a], ps.zip ws⟩ ((c :: ps).zip (a :: ws))
section
variable {X : Cx} {CX : CXT} {k j : Nat} {C : Addr} {sp : Sp} {E : XK} {o e : Expr} {es : List Expr} {m cn : Str} {ps : List Str} {pos apos : Pos} {ta : TE} {t : TA} {pl : Sem Bool}
theorem pe_mt (c : Mt X.prog X.w X.K X.mg X.base CX k C m cn ps sp) (hr : Room j X.A) (hx : Passes CX X E) (he : PE X o ta) (ha : PA X (e :: es) t) (hk : k ≤ j := by decide)
    (hst : starEach (e :: es) X.env = (false, eval e X.env) :: starEach es X.env := by rfl) (hpl : (backTo pos (starEach es X.env)).any (·.1) = false := by rfl)
    (ht : eval (.Call (.Attribute o m apos) (e :: es) [] pos) X.env = (do
      let ov ← eval o X.env
      standAt apos.atName
      let (f, first) ← holding [ov] (getMethod ov m pl)
      callWith pos f first (backTo pos (starEach (e :: es) X.env)) (backToKw pos (keywordEach [] X.env))) := by rfl) :
    PE X (.Call (.Attribute o m apos) (e :: es) [] pos) (tMeth C m sp [] E ta t) := by
  obtain ⟨f, fd, cl, cm, F, b, _⟩ := c.ex
  exact pe_meth he cl cm F (hr.mono hk) b .nil hx ha hst hpl ht
end
theorem s_mt {C : Addr} {m : Str} {sp : Sp} {dvs : List V} {E : XK} {ta : TE} {t : TA} {σ : L2.St} {H : Hp} {Q : VK} (h : ta σ H fun x H1 => ∃ a dx fs, x = .ref a ∧ H1 a = some (.ins C dx fs) ∧ fs.lookup m = none ∧ t σ H1 fun vs H2 => sp (x :: (vs ++ dvs)) H2 Q E) : tMeth C m sp dvs E ta t σ H Q := h
end L3
end
section
namespace L2
open PySem PySem.Spec PyProof.Rows HT
end L2
namespace HT
open PySem PySem.Spec PyProof.Rows L2
end HT
namespace L3
open PySem PySem.NumText PySem.Spec PyProof.Rows L2 LamX RZ
section
variable {X : Cx}
def tRevT (K : PySem.W.Frag) (te : TE) : TE := fun σ H Q => te σ H fun x H1 => ∃ a xs, x = .ref a ∧ SqT K H1 a xs ∧ ∀ p, H1 p = none → Q (.ref p) (upd H1 p (.tup xs.reverse))
end
section
variable {K : PySem.W.Frag} {te : TE} {σ : L2.St} {H : Hp} {Q : VK}
theorem s_revT (h : te σ H fun x H1 => ∃ a xs, x = .ref a ∧ SqT K H1 a xs ∧ ∀ p, H1 p = none → Q (.ref p) (upd H1 p (.tup xs.reverse))) : tRevT K te σ H Q := h
theorem s_revL (h : te σ H fun x H1 => ∃ a xs, x = .ref a ∧ SqL K H1 a xs ∧ ∀ p, H1 p = none → Q (.ref p) (upd H1 p (.lst xs.reverse))) : L2.tRevL K te σ H Q := h
end
end L3
end
section
namespace L3
open PySem PySem.NumText PySem.Spec PyProof.Rows L2 LamX RZ
def CkTo (C CM : Addr) (H : Hp) (ns : List Int) (Q : VK) (E : XK) : Prop := (ns.length ≤ 5000 ∧ ∀ r H', Ex H H' → Ck C H' r ns → Q (.ref r) H') ∨ (5000 < ns.length ∧ Rz2 CM "what" "most" (.str "chunks") (.int 5000) H E)
theorem CkTo.g {K : PySem.W.Frag} {C CB CM : Addr} {H : Hp} {ns : List Int} {Q : VK} {E : XK} (h : CkTo C CM H ns Q E) (hl : ns.length ≤ 100000) (hs : ∀ n ∈ ns, siz n) : CkG K CB CM H (ns.map V.int) (fun ns => ∀ q H', H q = none → Ex H H' → Ck C H' q ns → Q (.ref q) H') E :=
  ⟨by rw [List.length_map]; exact hl, .inl ⟨ns, rfl, hs, h.imp (fun ⟨a, b⟩ => ⟨a, fun q H' _ e c => b q H' e c⟩) id⟩⟩
end L3
end
section
namespace L3
open PySem PySem.NumText PySem.Spec PyProof.Rows L2 LamX RZ
def ErP (g : Str) (tag : Str) (c : Addr) (cls : Value) (d : Option Addr) (H' : Hp) (Q : VK) : Prop := ∃ dd v, cls = .ref c ∧ d = some dd ∧ H' dd = some (.xd [(g, v)]) ∧ ∀ p H2, H' p = none → Ex H' H2 → H2 p = some (.tup [.str tag, v]) → Q (.ref p) H2
end L3
end
section
namespace L3
open PySem PySem.NumText PySem.Spec PyProof.Rows L2 LamX RZ
end L3
end
section
namespace L3
open PySem PySem.NumText PySem.Spec PyProof.Rows L2 LamX RZ
theorem atI_nat {α : Type} {xs : List α} {j : Nat} {v : α} (h : xs[j]? = some v) : atI xs (j : Int) = some v := by
  rw [atI_int (by omega) (by have := (List.getElem?_eq_some_iff.mp h).1; omega), Int.toNat_natCast]
  exact h
end L3
end
section
namespace L3
open PySem PySem.NumText PySem.Spec PyProof.Rows L2 LamX RZ
def Hds (H : Hp) : List Addr → List (List V) → Prop
  | [], [] => True
  | q :: qs, t :: ts => H q = some (.tup t) ∧ Hds H qs ts
  | _, _ => False
theorem Hds.imp {H H' : Hp} : ∀ {qs : List Addr} {ts : List (List V)}, Hds H qs ts → (∀ q t, H q = some (.tup t) → H' q = some (.tup t)) → Hds H' qs ts
  | [], [], _, _ => trivial
  | _ :: _, _ :: _, ⟨a, b⟩, k => ⟨k _ _ a, Hds.imp b k⟩
  | [], _ :: _, h, _ => h.elim
  | _ :: _, [], h, _ => h.elim
theorem Hds.app {H : Hp} {q : Addr} {t : List V} (hq : H q = some (.tup t)) : ∀ {qs : List Addr} {ts : List (List V)}, Hds H qs ts → Hds H (qs ++ [q]) (ts ++ [t])
  | [], [], _ => ⟨hq, trivial⟩
  | _ :: _, _ :: _, ⟨a, b⟩ => ⟨a, Hds.app hq b⟩
  | [], _ :: _, h => h.elim
  | _ :: _, [], h => h.elim
theorem Hds.len {H : Hp} : ∀ {qs : List Addr} {ts : List (List V)}, Hds H qs ts → qs.length = ts.length
  | [], [], _ => rfl
  | _ :: _, _ :: _, ⟨_, b⟩ => by rw [List.length_cons, List.length_cons, Hds.len b]
  | [], _ :: _, h => h.elim
  | _ :: _, [], h => h.elim
theorem Hds.dp {K : PySem.W.Frag} {H : Hp} {f : List V → List PyData} : ∀ {qs : List Addr} {ts : List (List V)}, Hds H qs ts → (∀ t ∈ ts, DpAll K H t (f t)) → DpAll K H (qs.map V.ref) (ts.map fun t => .tuple (f t))
  | [], [], _, _ => .nil
  | _ :: _, t :: _, ⟨a, b⟩, h => .cons (.tup (.inl (.inl a)) (h t List.mem_cons_self)) (Hds.dp b fun u hu => h u (List.mem_cons_of_mem _ hu))
  | [], _ :: _, h, _ => h.elim
  | _ :: _, [], h, _ => h.elim
def HdAt (H : Hp) (hl : Addr) (ts : List (List V)) : Prop := ∃ qs : List Addr, H hl = some (.lst (qs.map V.ref)) ∧ Hds H qs ts
theorem HdAt.ex {H H' : Hp} {hl : Addr} {ts : List (List V)} (h : HdAt H hl ts) (e : Ex H H') : HdAt H' hl ts := by
  obtain ⟨qs, a, b⟩ := h
  exact ⟨qs, e _ _ a, b.imp fun q t h => e _ _ h⟩
theorem HdAt.exN {H H' : Hp} {hl : Addr} {ts : List (List V)} (h : HdAt H hl ts) (e : ExtN H H') : HdAt H' hl ts := by
  obtain ⟨qs, a, b⟩ := h
  exact ⟨qs, e _ _ a (fun _ z => nomatch z), b.imp fun q t h => e _ _ h (fun _ z => nomatch z)⟩
theorem HdAt.one {H : Hp} {hl q : Addr} {t : List V} (a : H hl = some (.lst [.ref q])) (b : H q = some (.tup t)) : HdAt H hl [t] := ⟨[q], a, b, trivial⟩
theorem HdAt.sq {H : Hp} {hl : Addr} {ts : List (List V)} (h : HdAt H hl ts) {K : PySem.W.Frag} {R : Prop} (r : R) : tyV K "list" (.ref hl) H ∧ R := by
  obtain ⟨qs, a, _⟩ := h
  exact s_tyL a r
theorem HdAt.dp {K : PySem.W.Frag} {H : Hp} {hl : Addr} {ts : List (List V)} {f : List V → List PyData} (h : HdAt H hl ts) (k : ∀ t ∈ ts, DpAll K H t (f t)) : Dp K H (.ref hl) (.list (ts.map fun t => .tuple (f t))) := by
  obtain ⟨qs, a, b⟩ := h
  exact .lst (.inl (.inl a)) (b.dp k)
end L3
end
section
namespace L3
open PySem PySem.NumText PySem.Spec PyProof.Rows L2 LamX RZ ClX
def tStR (C : Addr) (sp : Sp) (E : XK) (ta : TE) (t : TA) : TE := fun σ H Q => ta σ H fun x H1 => x = .ref C ∧ t σ H1 fun vs H2 => sp vs.reverse H2 Q E
theorem vals_rev {vs : List V} {us : List Value} (r : Vals vs us) : Vals vs.reverse us.reverse := by
  induction r with
  | nil => exact .nil
  | cons a _ ih => rw [List.reverse_cons, List.reverse_cons]; exact ih.append (.cons a .nil)
section
variable {K : PySem.W.Frag} {σ : L2.St} {H : Hp} {Q : VK} {C CB CC CM CT CN : Addr}
theorem s_stR {sp : Sp} {E : XK} {t : TA} (h : t σ H fun vs H2 => sp vs.reverse H2 Q E) : tStR C sp E (tC (.ref C)) t σ H Q := ⟨rfl, h⟩
/-- a quotient by what is above 0 -/
theorem s_divP {i j : Int} (h0 : 0 < j) (h1 : j ≤ 10 ^ 40) (h : Q (.int (i / j)) H) : rI CDivW (fun i j => V.int (i / j)) (.int i) (.int j) H Q :=
  ⟨i, j, rfl, rfl, wide_div (b := 200) h0 (Nat.lt_of_le_of_lt (show j.natAbs ≤ 10 ^ 40 by omega) (by decide +kernel)) (by decide) (by decide), h⟩
/-- a value that is refused, heard with its text -/
structure ShV (H : Hp) (K : PySem.W.Frag) (v : V) (x : PyData) : Prop where
  dp : Dp K H v x
  sh : x.showable = true
  dep : x.depth ≤ 60
  len : x.shown.length ≤ sizeLine
  ok : PyData.strOk x.shown = true
theorem sqL_exN {H H' : Hp} {a : Addr} {xs : List V} (h : SqL K H a xs) (e : ExtN H H') : SqL K H' a xs := by
  rcases h with (h | ⟨o, h⟩) | h
  · exact .inl (.inl (e _ _ h fun _ z => nomatch z))
  · exact .inl (.inr ⟨o, e _ _ h fun _ z => nomatch z⟩)
  · exact .inr h
theorem sqT_exN {H H' : Hp} {a : Addr} {xs : List V} (h : SqT K H a xs) (e : ExtN H H') : SqT K H' a xs := by
  rcases h with (h | ⟨o, h⟩) | h
  · exact .inl (.inl (e _ _ h fun _ z => nomatch z))
  · exact .inl (.inr ⟨o, e _ _ h fun _ z => nomatch z⟩)
  · exact .inr h
theorem ShV.up {H H' : Hp} {v : V} {x : PyData} (h : ShV H K v x) (e : ExtN H H') : Dp K H' v x := Dp.exN e x v (fun _ _ z => sqL_exN z e) (fun _ _ z => sqT_exN z e) h.dp
theorem ShV.exN {H H' : Hp} {v : V} {x : PyData} (h : ShV H K v x) (e : ExtN H H') : ShV H' K v x := ⟨h.up e, h.sh, h.dep, h.len, h.ok⟩
theorem ShV.int {H : Hp} {i : Int} (h : i.natAbs ≤ 10 ^ 40) : ShV H K (.int i) (.int i) :=
  have h2 : i.natAbs.log2 < 1920 := log_le h (by decide +kernel)
  ⟨.int i, decide_eq_true h2, Nat.zero_le _, Nat.le_trans (fit_shown (x := .int i) (decide_eq_true h2)) (by decide +kernel), strOkI i⟩
end
def spUpDiv : Sp := fun vs H Q _ => ∃ a b, vs = [.int a, .int b] ∧ 0 < b ∧ b ≤ 10 ^ 40 ∧ Q (.int ((a + b - 1) / b)) H
end L3
end
section
namespace L3
open PySem PySem.Spec PyProof.Rows L2 LamX ItX
def ItT (t it : Addr) : HO := .ext fun h => h.IsTupleIter it t 0
def iOwn (K : PySem.W.Frag) (C : Addr) (sp : Nat → Sp) (E : XK) (te : TE) : TI := fun σ H R => te σ H fun x H1 => ∃ a dx fs, x = .ref a ∧ H1 a = some (.ins C dx fs) ∧
  ∀ n, sp n [.ref a] H1 (fun v H2 => ∃ it t, v = .ref it ∧ H2 it = some (ItT t it) ∧ n ≤ it ∧ R (Itt K t) (dropH H2 it)) E
section
variable {X : Cx} {K : PySem.W.Frag} {C : Addr} {k j : Nat} {E : XK}
def rInOwn (C : Addr) (sp : Sp) (E : XK) (ng : Bool) : R2 := fun x y H Q => ∃ a dx fs, y = .ref a ∧ H a = some (.ins C dx fs) ∧ sp [y, x] H (fun z H' => ∃ c, z = .bl c ∧ Q (.bl (c ^^ ng)) H') E
def rIxOwn (C : Addr) (sp : Sp) (E : XK) : R2 := fun x y H Q => ∃ a dx fs, x = .ref a ∧ H a = some (.ins C dx fs) ∧ sp [x, y] H Q E
structure GetM (P : Program) (w : World) (K : PySem.W.Frag) (mg : Str → Option Value) (base : Heap) (C : Addr) (k : Nat) (ps : List Str) (sp : Sp) : Prop where
  ex : ∃ (f : Addr) (fd : FuncData), PySem.W.findIn K (.ref C) "__getitem__" = some (some (.ref f)) ∧ PySem.W.isFn K (.ref f) = true ∧ PySem.W.fnIn K f = true ∧ PySem.W.noSeq K C = true ∧ ps.length = 2 ∧ FnOk P w K mg base (L2.CX P w) k f fd ps sp ∧ L2.Binds K fd ps []
theorem pe_ixOwn {sp : Sp} {ps : List Str} {o b : Expr} {ta tb : TE} {pos : Pos} (B : GetM X.prog X.w X.K X.mg X.base C k ps sp) (hr : Room (j + 1) X.A) (hx : Passes (L2.CX X.prog X.w) X E) (ha : PE X o ta) (hb : PE X b tb) (hk : k ≤ j := by decide)
    (hs : ∀ o i, subscripted b true o i = runValue (.builtin "lifetime.subscript" ⟨[o, i], []⟩) := by intros; rfl) : PE X (.Subscript o b pos) (tOp (rIxOwn C sp E) ta tb) := by
  obtain ⟨f, fd, h1, h2, h3, _, hl, G, bb⟩ := B.ex
  refine ⟨fun pins s σ H Q I h => ?_⟩
  refine Subscript_ (binT ha hb I h fun v u s2 x y H2 I2 rx ry q => ?_)
  obtain ⟨a, dx, fs, rfl, ea, q⟩ := q
  obtain rfl : v = Value.ref a := rx
  obtain ⟨od, J⟩ := ins_inst I2.hok ea
  obtain ⟨m, Fr⟩ := I2.fr
  refine PySem.W.sub_K Fr I2.mod.kin J h1 h3 h2 ?_ (hs _ _)
  refine wpAny_call (codeAny_mono (G.run X.A.in1 X.stack s2 H2 ⟨[.ref a, u], []⟩ [.ref a, u] [.ref a, y] Q E (hr.in1.mono hk) I2.env0.in1 (by have := bb s2 [.ref a, u] I2.kIn hl.symm; rw [List.append_nil] at this; exact this) (.cons (show RelV (.ref a) (.ref a) from rfl) (.cons ry .nil)) q) fun r s' z => ?_)
  match r, z with
  | .error e, z => exact hx pins σ H2 s2 e s' I2 z
  | .ok (.ret u), z => exact I2.after z
end
def SlO (sl : Addr) (lo hi st : Option Int) : HO := .ext fun h => ∃ vl vu vs, h.IsSliceOf sl vl vu vs ∧ IsPart vl lo ∧ IsPart vu hi ∧ IsPart vs st
def cut3 {α : Type} (xs : List α) (lo hi st : Option Int) : List α :=
  (sliceRange (sliceBounds lo hi st xs.length).1 (sliceBounds lo hi st xs.length).2.1 (sliceBounds lo hi st xs.length).2.2).filterMap (xs[·]?)
end L3
namespace HT
open PySem PySem.Spec PyProof.Rows L2
end HT
end
section
namespace PySem
open Sem (wp)
end PySem
namespace L3
open PySem PySem.Spec PyProof.Rows L2 LamX ItX
section
variable {X : Cx} {K : PySem.W.Frag} {C : Addr} {k j : Nat} {E : XK}
def tSlOwn (C : Addr) (sp : Sp) (E : XK) (te : TE) (tl th ts : TO) : TE := fun σ H Q => te σ H fun x H1 => tl σ H1 fun l H2 => th σ H2 fun u H3 => ts σ H3 fun k H4 => ∃ a dx fs, x = .ref a ∧ H4 a = some (.ins C dx fs) ∧ ∀ sl, H4 sl = none → sp [x, .ref sl] (upd H4 sl (SlO sl l u k)) Q E
/-- xs[lo:hi:st], a list -/
def tSl3 (K : PySem.W.Frag) (te : TE) (tl th ts : TO) : TE := fun σ H Q => te σ H fun x H1 => tl σ H1 fun l H2 => th σ H2 fun u H3 => ts σ H3 fun k H4 => ∃ a xs, x = .ref a ∧ SqL K H4 a xs ∧ k ≠ some 0 ∧ ∀ p, H4 p = none → ap Q (.ref p) (upd H4 p (.lst (cut3 xs l u k)))
end
section
variable {K : PySem.W.Frag} {C : Addr} {E : XK} {σ : L2.St} {H : Hp} {D : Ends} {Q : VK} {te : TE} {tl th ts : TO} {sp : Sp}
theorem s_slOwn (h : te σ H fun x H1 => tl σ H1 fun l H2 => th σ H2 fun u H3 => ts σ H3 fun k H4 => ∃ a dx fs, x = .ref a ∧ H4 a = some (.ins C dx fs) ∧ ∀ sl, H4 sl = none → sp [x, .ref sl] (upd H4 sl (SlO sl l u k)) Q E) : tSlOwn C sp E te tl th ts σ H Q := h
theorem s_sl3 (h : te σ H fun x H1 => tl σ H1 fun l H2 => th σ H2 fun u H3 => ts σ H3 fun k H4 => ∃ a xs, x = .ref a ∧ SqL K H4 a xs ∧ k ≠ some 0 ∧ ∀ p, H4 p = none → ap Q (.ref p) (upd H4 p (.lst (cut3 xs l u k)))) : tSl3 K te tl th ts σ H Q := h
theorem s_lcO {spn : Nat → Sp} {ee : TE} {g : TG} {tt : TT} {vs : List Nat} (h : te σ H fun x H1 => ∃ a dx fs, x = .ref a ∧ H1 a = some (.ins C dx fs) ∧ ∀ n, spn n [.ref a] H1 (fun v H2 => ∃ it t, v = .ref it ∧ H2 it = some (ItT t it) ∧ n ≤ it ∧ LC (Itt K t) g tt ee vs σ (dropH H2 it) Q) E) : tLc (iOwn K C spn E te) g tt ee vs σ H Q := h
end
end L3
end
section
namespace L3
open PySem PySem.NumText PySem.Spec PyProof.Rows L2 LamX RZ ClX
section
variable {K : PySem.W.Frag} {CB CC CM CT CN : Addr} {σ : L2.St} {H : Hp} {Q : VK}
/-- lists of ints, new ones -/
def LsAt (H : Hp) : List Addr → List (List Int) → Prop
  | [], [] => True
  | q :: qs, n :: ns => H q = some (.lst (n.map V.int)) ∧ LsAt H qs ns
  | _, _ => False
theorem LsAt.imp {H H' : Hp} : ∀ {qs : List Addr} {nss : List (List Int)}, LsAt H qs nss → (∀ q ∈ qs, ∀ n : List Int, H q = some (.lst (n.map V.int)) → H' q = some (.lst (n.map V.int))) → LsAt H' qs nss
  | [], [], _, _ => trivial
  | q :: _, _ :: _, ⟨a, b⟩, k => ⟨k q List.mem_cons_self _ a, LsAt.imp b fun q h => k q (List.mem_cons_of_mem _ h)⟩
  | [], _ :: _, h, _ => h.elim
  | _ :: _, [], h, _ => h.elim
theorem LsAt.app {H : Hp} {q : Addr} {n : List Int} (hq : H q = some (.lst (n.map V.int))) : ∀ {qs : List Addr} {nss : List (List Int)}, LsAt H qs nss → LsAt H (qs ++ [q]) (nss ++ [n])
  | [], [], _ => ⟨hq, trivial⟩
  | _ :: _, _ :: _, ⟨a, b⟩ => ⟨a, LsAt.app hq b⟩
  | [], _ :: _, h => h.elim
  | _ :: _, [], h => h.elim
theorem LsAt.len {H : Hp} : ∀ {qs : List Addr} {nss : List (List Int)}, LsAt H qs nss → qs.length = nss.length
  | [], [], _ => rfl
  | _ :: _, _ :: _, ⟨_, b⟩ => by rw [List.length_cons, List.length_cons, LsAt.len b]
  | [], _ :: _, h => h.elim
  | _ :: _, [], h => h.elim
def lsD (ns : List Int) : PyData := .list (ns.map PyData.int)
theorem LsAt.dp {H : Hp} : ∀ {qs : List Addr} {nss : List (List Int)}, LsAt H qs nss → DpAll K H (qs.map V.ref) (nss.map lsD)
  | [], [], _ => .nil
  | _ :: _, _ :: _, ⟨a, b⟩ => .cons (.lst (.inl (.inl a)) (dpInts _)) (LsAt.dp b)
  | [], _ :: _, h => h.elim
  | _ :: _, [], h => h.elim
end
end L3
end
section
namespace L3
open PySem PySem.Spec PySem.Calls PyProof.Rows PySem.W
end L3
namespace L3
open PySem PySem.NumText PySem.Spec PyProof.Rows L2 LamX RZ ClX
end L3
namespace L2
open PySem PySem.Spec PyProof.Rows
end L2
end
section
namespace L3
open PySem PySem.NumText PySem.Spec PyProof.Rows L2 LamX RZ ClX
inductive RT
  | fx (s : Int)
  | dv (x y w : Int)
  | jn (lo : Bool) (a b : RT)
deriving DecidableEq
namespace RT
def n : RT → Nat
  | fx _ => 1
  | dv _ _ _ => 1
  | jn _ a b => a.n + b.n
def md : RT → Nat
  | fx _ => 1
  | dv _ _ w => w.toNat
  | jn _ a b => Nat.lcm a.md b.md
def ok : RT → Prop
  | fx s => 1 ≤ s ∧ s ≤ 10 ^ 30
  | dv x y w => (0 ≤ x ∧ x ≤ 24) ∧ (-1000 ≤ y ∧ y ≤ 1000) ∧ (1 ≤ w ∧ w ≤ 24)
  | jn _ a b => a.ok ∧ b.ok
/-- which class -/
def ix : RT → Nat
  | fx _ => 0
  | dv _ _ _ => 1
  | jn true _ _ => 2
  | jn false _ _ => 3
theorem n_pos : ∀ t : RT, 1 ≤ t.n
  | fx _ => Nat.le_refl 1
  | dv _ _ _ => Nat.le_refl 1
  | jn _ a b => by have := a.n_pos; show 1 ≤ a.n + b.n; omega
theorem md_pos : ∀ {t : RT}, t.ok → 1 ≤ t.md
  | fx _, _ => Nat.le_refl 1
  | dv _ _ w, h => by have := h.2.2.1; show 1 ≤ w.toNat; omega
  | jn _ a b, h => Nat.lcm_pos (md_pos h.1) (md_pos h.2)
/-- in bounds, few parts, few residues -/
structure fine (t : RT) : Prop where
  ok : t.ok
  n : t.n ≤ 6
  md : t.md ≤ 5000
theorem md_l {lo : Bool} {a b : RT} (h : (jn lo a b).ok) : a.md ≤ (jn lo a b).md := Nat.le_of_dvd (md_pos h) (Nat.dvd_lcm_left _ _)
theorem md_r {lo : Bool} {a b : RT} (h : (jn lo a b).ok) : b.md ≤ (jn lo a b).md := Nat.le_of_dvd (md_pos h) (Nat.dvd_lcm_right _ _)
theorem fine.l {lo : Bool} {a b : RT} (h : (jn lo a b).fine) : a.fine := ⟨h.ok.1, by have h1 : a.n + b.n ≤ 6 := h.n; have := b.n_pos; omega, Nat.le_trans (md_l h.ok) h.md⟩
theorem fine.r {lo : Bool} {a b : RT} (h : (jn lo a b).fine) : b.fine := ⟨h.ok.2, by have h1 : a.n + b.n ≤ 6 := h.n; have := a.n_pos; omega, Nat.le_trans (md_r h.ok) h.md⟩
end RT
/-- the text's sign -/
def sgnS (lo : Bool) : Str := if lo then "&" else "|"
def PlAt (H : Hp) : RT → V → Prop
  | .fx s, v => ∃ p, v = .ref p ∧ H p = some (.tup [.str "fixed", .int s])
  | .dv x y w, v => ∃ p, v = .ref p ∧ H p = some (.tup [.str "divided", .int x, .int y, .int w])
  | .jn lo a b, v => ∃ p u1 u2, v = .ref p ∧ H p = some (.tup [.str (sgnS lo), u1, u2]) ∧ PlAt H a u1 ∧ PlAt H b u2
theorem PlAt.imp {H H' : Hp} (k : ∀ p xs, H p = some (.tup xs) → H' p = some (.tup xs)) : ∀ {t : RT} {v : V}, PlAt H t v → PlAt H' t v
  | .fx _, _, ⟨p, e, h⟩ => ⟨p, e, k _ _ h⟩
  | .dv _ _ _, _, ⟨p, e, h⟩ => ⟨p, e, k _ _ h⟩
  | .jn _ _ _, _, ⟨p, x, y, e, h, a, b⟩ => ⟨p, x, y, e, k _ _ h, PlAt.imp k a, PlAt.imp k b⟩
theorem PlAt.exN {H H' : Hp} {t : RT} {v : V} (h : PlAt H t v) (e : ExtN H H') : PlAt H' t v := h.imp fun p xs h => e _ _ h fun _ z => nomatch z
theorem PlAt.ex {H H' : Hp} {t : RT} {v : V} (h : PlAt H t v) (e : Ex H H') : PlAt H' t v := h.exN e.n
theorem PlAt.keep {H H' : Hp} {t : RT} {v : V} {p : Addr} {n : Nat} (h : PlAt H t v) (hp : Pen H p n) (k : ∀ b o, b ≠ p → H b = some o → H' b = some o) : PlAt H' t v := h.imp fun q xs e => tup_keep e hp k
/-- which kind it is stands first -/
theorem PlAt.ref {H : Hp} {t : RT} {v : V} (h : PlAt H t v) : ∃ p xs, v = .ref p ∧ H p = some (.tup xs) := by
  cases t with
  | fx s => obtain ⟨p, e, h⟩ := h; exact ⟨p, _, e, h⟩
  | dv x y w => obtain ⟨p, e, h⟩ := h; exact ⟨p, _, e, h⟩
  | jn lo a b => obtain ⟨p, x, y, e, h, _⟩ := h; exact ⟨p, _, e, h⟩
def PlAll (H : Hp) : List RT → List V → Prop
  | [], [] => True
  | t :: ts, v :: vs => PlAt H t v ∧ PlAll H ts vs
  | _, _ => False
theorem PlAll.imp {H H' : Hp} (k : ∀ t v, PlAt H t v → PlAt H' t v) : ∀ {ts : List RT} {vs : List V}, PlAll H ts vs → PlAll H' ts vs
  | [], [], _ => trivial
  | _ :: _, _ :: _, ⟨a, b⟩ => ⟨k _ _ a, PlAll.imp k b⟩
  | [], _ :: _, h => h.elim
  | _ :: _, [], h => h.elim
theorem PlAll.app {H : Hp} : ∀ {ts us : List RT} {vs ws : List V}, PlAll H ts vs → PlAll H us ws → PlAll H (ts ++ us) (vs ++ ws)
  | [], _, [], _, _, h => h
  | _ :: _, _, _ :: _, _, ⟨a, b⟩, h => ⟨a, PlAll.app b h⟩
  | [], _, _ :: _, _, h, _ => h.elim
  | _ :: _, _, [], _, h, _ => h.elim
theorem PlAll.len {H : Hp} : ∀ {ts : List RT} {vs : List V}, PlAll H ts vs → vs.length = ts.length
  | [], [], _ => rfl
  | _ :: _, _ :: _, ⟨_, b⟩ => by rw [List.length_cons, List.length_cons, PlAll.len b]
  | [], _ :: _, h => h.elim
  | _ :: _, [], h => h.elim
theorem PlAll.get {H : Hp} : ∀ {ts : List RT} {vs : List V} {i : Nat} {t : RT} {v : V}, PlAll H ts vs → ts[i]? = some t → vs[i]? = some v → PlAt H t v
  | t' :: ts, v' :: vs, 0, t, v, ⟨a, _⟩, h1, h2 => by simp at h1 h2; subst h1; subst h2; exact a
  | t' :: ts, v' :: vs, i + 1, t, v, ⟨_, b⟩, h1, h2 => PlAll.get b (by simpa using h1) (by simpa using h2)
  | [], [], _, _, _, _, h1, _ => by simp at h1
  | [], _ :: _, _, _, _, h, _, _ => h.elim
  | _ :: _, [], _, _, _, h, _, _ => h.elim
structure RA where
  f : Addr
  d : Addr
  l : Addr
  g : Addr
def RA.cs (C : RA) : List Addr := [C.f, C.d, C.l, C.g]
def RA.at (C : RA) (i : Nat) : Addr := C.cs.getD i 0
def RA.vs (C : RA) : List Value := [.ref C.f, .ref C.d, .ref C.l, .ref C.g]
def jnF (qa qb t : Addr) (m : Int) : List (Str × V) := putF "modulus" (.int m) (putF "parts" (.ref t) (putF "other" (.ref qb) (putF "one" (.ref qa) [])))
def RuAt (C : RA) (H : Hp) : RT → Addr → List Addr → Prop
  | .fx s, p, ps => ps = [p] ∧ Fx C.f H p s
  | .dv x y w, p, ps => ps = [p] ∧ Dv C.d H p x y w
  | .jn lo a b, p, ps => ∃ qa qb pa pb dx t, ps = pa ++ pb ∧ H p = some (.ins (if lo then C.l else C.g) dx (jnF qa qb t ((Nat.lcm a.md b.md : Nat) : Int))) ∧ H t = some (.tup (ps.map V.ref)) ∧ RuAt C H a qa pa ∧ RuAt C H b qb pb
section
variable {C : RA} {H H' : Hp}
theorem RuAt.imp (k1 : ∀ p xs, H p = some (.tup xs) → H' p = some (.tup xs)) (k2 : ∀ p c dx g v fs, H p = some (.ins c dx (putF g v fs)) → H' p = some (.ins c dx (putF g v fs))) : ∀ {t : RT} {p : Addr} {ps : List Addr}, RuAt C H t p ps → RuAt C H' t p ps
  | .fx _, _, _, ⟨e, dx, t, a, b⟩ => ⟨e, dx, t, k2 _ _ _ _ _ _ a, k1 _ _ b⟩
  | .dv _ _ _, _, _, ⟨e, dx, t, a, b⟩ => ⟨e, dx, t, k2 _ _ _ _ _ _ a, k1 _ _ b⟩
  | .jn _ _ _, _, _, ⟨qa, qb, pa, pb, dx, t, e, h1, h2, h3, h4⟩ => ⟨qa, qb, pa, pb, dx, t, e, k2 _ _ _ _ _ _ h1, k1 _ _ h2, RuAt.imp k1 k2 h3, RuAt.imp k1 k2 h4⟩
variable {t : RT} {p : Addr} {ps : List Addr}
theorem RuAt.exN (h : RuAt C H t p ps) (e : ExtN H H') : RuAt C H' t p ps := h.imp (fun _ _ h => e _ _ h fun _ z => nomatch z) fun _ _ _ _ _ _ h => e _ _ h fun _ z => nomatch z
theorem RuAt.ex (h : RuAt C H t p ps) (e : Ex H H') : RuAt C H' t p ps := h.exN e.n
theorem ins_ne {q c dx : Addr} {fs : List (Str × V)} {n : Nat} (hp : Pen H p n) (h : H q = some (.ins c dx fs)) : q ≠ p := hp.ne h fun c n z => by unfold PenO at z; cases z
theorem RuAt.keep {a : Addr} {n : Nat} (h : RuAt C H t p ps) (hp : Pen H a n) (k : ∀ b o, b ≠ a → H b = some o → H' b = some o) : RuAt C H' t p ps :=
  h.imp (fun _ _ h => tup_keep h hp k) fun _ _ _ _ _ _ h => k _ _ (ins_ne hp h) h
/-- an instance without attributes changes -/
theorem putF_ne {g : Str} {v : V} {fs : List (Str × V)} : putF g v fs ≠ [] := by
  intro z
  cases fs with
  | nil => cases z
  | cons a b => unfold putF at z; split at z <;> cases z
theorem RuAt.fresh {q c dx : Addr} (h : RuAt C H t p ps) (hq : H q = some (.ins c dx [])) (k : ∀ b o, b ≠ q → H b = some o → H' b = some o) : RuAt C H' t p ps :=
  h.imp (fun _ _ h => k _ _ (fun z => by rw [z, hq] at h; cases h) h) fun _ _ _ g v fs h => k _ _ (fun z => by
    rw [z, hq] at h
    injection h with h
    injection h with _ _ h
    exact putF_ne h.symm) h
theorem RuAt.len (h : RuAt C H t p ps) : ps.length = t.n := by
  induction t generalizing p ps with
  | fx s => rw [h.1]; rfl
  | dv x y w => rw [h.1]; rfl
  | jn lo a b ha hb =>
    obtain ⟨qa, qb, pa, pb, dx, t, e, _, _, h3, h4⟩ := h
    rw [e, List.length_append, ha h3, hb h4]; rfl
/-- what all of them have -/
theorem RuAt.ins (h : RuAt C H t p ps) : ∃ dx fs tp, H p = some (.ins (C.at t.ix) dx fs) ∧ fs.lookup ("parts" : Str) = some (.ref tp) ∧ H tp = some (.tup (ps.map V.ref)) ∧ ∃ m, fs.lookup ("modulus" : Str) = some (.int m) ∧ (t.ok → m = ((t.md : Nat) : Int)) := by
  cases t with
  | fx s => obtain ⟨rfl, dx, t, a, b⟩ := h; exact ⟨dx, _, t, a, rfl, b, _, rfl, fun _ => rfl⟩
  | dv x y w => obtain ⟨rfl, dx, t, a, b⟩ := h; exact ⟨dx, _, t, a, rfl, b, _, rfl, fun h => by have := h.2.2.1; show w = ((w.toNat : Nat) : Int); omega⟩
  | jn lo a b =>
    obtain ⟨qa, qb, pa, pb, dx, t, e, h1, h2, _⟩ := h
    cases lo
    · exact ⟨dx, _, t, h1, rfl, h2, _, rfl, fun _ => rfl⟩
    · exact ⟨dx, _, t, h1, rfl, h2, _, rfl, fun _ => rfl⟩
/-- the leaves are the parts -/
def RuAll (C : RA) (H : Hp) : List RT → List Addr → Prop
  | [], [] => True
  | t :: ts, p :: ps => RuAt C H t p [p] ∧ RuAll C H ts ps
  | _, _ => False
theorem RuAll.app : ∀ {ts us : List RT} {vs ws : List Addr}, RuAll C H ts vs → RuAll C H us ws → RuAll C H (ts ++ us) (vs ++ ws)
  | [], _, [], _, _, h => h
  | _ :: _, _, _ :: _, _, ⟨a, b⟩, h => ⟨a, RuAll.app b h⟩
  | [], _, _ :: _, _, h, _ => h.elim
  | _ :: _, _, [], _, h, _ => h.elim
theorem RuAll.imp (k : ∀ t p, RuAt C H t p [p] → RuAt C H' t p [p]) : ∀ {ts : List RT} {vs : List Addr}, RuAll C H ts vs → RuAll C H' ts vs
  | [], [], _ => trivial
  | _ :: _, _ :: _, ⟨a, b⟩ => ⟨k _ _ a, RuAll.imp k b⟩
  | [], _ :: _, h => h.elim
  | _ :: _, [], h => h.elim
theorem RuAll.len : ∀ {ts : List RT} {vs : List Addr}, RuAll C H ts vs → vs.length = ts.length
  | [], [], _ => rfl
  | _ :: _, _ :: _, ⟨_, b⟩ => by rw [List.length_cons, List.length_cons, RuAll.len b]
  | [], _ :: _, h => h.elim
  | _ :: _, [], h => h.elim
theorem RuAll.get : ∀ {ts : List RT} {vs : List Addr} {i : Nat} {t : RT} {v : Addr}, RuAll C H ts vs → ts[i]? = some t → vs[i]? = some v → RuAt C H t v [v]
  | t' :: ts, v' :: vs, 0, t, v, ⟨a, _⟩, h1, h2 => by simp at h1 h2; subst h1; subst h2; exact a
  | t' :: ts, v' :: vs, i + 1, t, v, ⟨_, b⟩, h1, h2 => RuAll.get b (by simpa using h1) (by simpa using h2)
  | [], [], _, _, _, _, h1, _ => by simp at h1
  | [], _ :: _, _, _, _, h, _, _ => h.elim
  | _ :: _, [], _, _, _, h, _, _ => h.elim
end
/-- no rule that can be joined -/
def NJ (K : PySem.W.Frag) (C : RA) (H : Hp) (v : V) : Prop := ∃ ty, TyX K H v ty ∧ PySem.W.kitAny K ty C.vs = some false
theorem NJ.exN {K : PySem.W.Frag} {C : RA} {H H' : Hp} {v : V} (h : NJ K C H v) (e : ExtN H H') : NJ K C H' v := by
  obtain ⟨t, a, b⟩ := h
  exact ⟨t, L3.TyX.exN a e, b⟩
/-- a rule that is fine -/
def RuF (C : RA) (H : Hp) (t : RT) (v : V) (ps : List Addr) : Prop := t.fine ∧ ∃ p, v = .ref p ∧ RuAt C H t p ps
theorem RuF.exN {C : RA} {H H' : Hp} {t : RT} {v : V} {ps : List Addr} (h : RuF C H t v ps) (e : ExtN H H') : RuF C H' t v ps := ⟨h.1, let ⟨p, a, b⟩ := h.2; ⟨p, a, b.exN e⟩⟩
/-- two sides that are rules: what the bounds say -/
def JnB (CM : Addr) (H : Hp) (a b : RT) (G : Prop) (E : XK) : Prop := (6 < a.n + b.n ∧ Rz2 CM "what" "most" (.str "parts") (.int 6) H E) ∨ (a.n + b.n ≤ 6 ∧ ((5000 < Nat.lcm a.md b.md ∧ Rz2 CM "what" "most" (.str "residues") (.int 5000) H E) ∨ (Nat.lcm a.md b.md ≤ 5000 ∧ G)))
def RA.jn (C : RA) (lo : Bool) : Addr := if lo then C.l else C.g
theorem JnB.fine {CM : Addr} {H : Hp} {a b : RT} {G : Prop} {E : XK} {lo : Bool} (ha : a.fine) (hb : b.fine) (h1 : a.n + b.n ≤ 6) (h2 : Nat.lcm a.md b.md ≤ 5000) : (RT.jn lo a b).fine := ⟨⟨ha.ok, hb.ok⟩, h1, h2⟩
end L3
end
section
namespace L3
open PySem PySem.NumText PySem.Spec PyProof.Rows L2 LamX RZ ClX
end L3
end
section
namespace L3
open PySem PySem.NumText PySem.Spec PyProof.Rows L2 LamX RZ ClX
end L3
end
section
namespace L3
open PySem PySem.NumText PySem.Spec PyProof.Rows L2 LamX RZ ClX
/-- what is not tracked stays -/
def UnD (H0 H1 : Hp) (h0 h1 : Heap) : Prop := ∀ b o, h0.get? b = some o → H0 b = none → (∃ sl, h1.get? b = some { o with slots := sl }) ∧ H1 b = none
theorem UnD.trans {H0 H1 H2 : Hp} {h0 h1 h2 : Heap} (a : UnD H0 H1 h0 h1) (b : UnD H1 H2 h1 h2) : UnD H0 H2 h0 h2 := fun c o e n => by
  obtain ⟨⟨sl, e1⟩, n1⟩ := a c o e n
  obtain ⟨⟨sl2, e2⟩, n2⟩ := b c _ e1 n1
  exact ⟨⟨sl2, e2⟩, n2⟩
theorem UnD.of {fs : List Addr} {H H1 : Hp} {h h1 : Heap} (u : Un fs [] H H1 h h1) : UnD H H1 h h1 := fun b o e n => ⟨u.any e n (by simp), u.free b o e n (by simp)⟩
theorem UnD.refl {H : Hp} {h : Heap} : UnD H H h h := fun b o e n => ⟨⟨o.slots, e⟩, n⟩
/-- a function that can be called in all states behind this one; tl: what its call comes to -/
def LamCan (P : Program) (w : World) (K : PySem.W.Frag) (mg : Str → Option Value) (base : Heap) (k : Nat) (f : Addr) (tl : V → XK → Hp → VK → Prop) (H0 : Hp) (s0 : Shared) : Prop :=
  ∀ (A : Around) (outer : List Env) (s1 : Shared) (H1 : Hp) (u : Value) (v : V) (Q : VK) (E : XK), Room k A → Env0 P w K mg base A outer s1 H1 → UnD H0 H1 s0.heap s1.heap → RelV v u → tl v E H1 Q → codeAny (model P w) A (.call (.ref f) ⟨[u], []⟩) (CR (L2.CX P w) outer P w H1 s1 Q E) s1
theorem LamCan.up {P : Program} {w : World} {K : PySem.W.Frag} {mg : Str → Option Value} {base : Heap} {k : Nat} {f : Addr} {tl : V → XK → Hp → VK → Prop} {H0 H1 : Hp} {s0 s1 : Shared} (c : LamCan P w K mg base k f tl H0 s0) (u : UnD H0 H1 s0.heap s1.heap) : LamCan P w K mg base k f tl H1 s1 :=
  fun A outer s2 H2 uu v Q E hr e0 un rv ht => c A outer s2 H2 uu v Q E hr e0 (u.trans un) rv ht
/-- one parameter, captured names, globals -/
structure LamS1 (sc scope : Scope) (x : Str) : Prop where
  kind : scope.kind = .function
  co : scope.isCoroutine = false
  gen : scope.isGenerator = false
  own : ∀ y ∈ scope.names, (y.2 = .local → y.1 = x) ∧ y.2 ≠ .cell
  par : scope.names.lookup x = some .local
  free : ∀ y ∈ scope.names, y.2 = .free → sc.names.lookup y.1 = some .cell ∨ sc.names.lookup y.1 = some .free
theorem LamS1.has {X : Cx} {scope : Scope} {x : Str} (L : LamS1 X.env.scope scope x) (ok : X.Ok) : ∀ y ∈ scope.names, y.2 = .free → ∃ c, X.env.cells.lookup y.1 = some c := fun y hy e => by
  rcases L.free y hy e with k | k
  · exact ok.has _ (.inl k)
  · exact ok.has _ (.inr k)
section
variable {X : Cx} {pins : List (Addr × Obj)} {σ : L2.St} {H : Hp} {s : Shared} {a C dx : Addr} {fs : List (Str × V)} {A : Around} {E : Value → Shared → Prop}
/-- a function object of any kind -/
def FnO' (H : Hp) (f : Addr) : Prop := (∃ env params body scope c', H f = some (LamO f env params body scope c')) ∨ ∃ q params body scope c', H f = some (LamF f q params body scope c')
theorem FnO'.exN {H H' : Hp} {f : Addr} (h : FnO' H f) (e : ExtN H H') : FnO' H' f :=
  Or.imp (fun ⟨env, a, b, c, d, h⟩ => ⟨env, a, b, c, d, e _ _ h fun _ z => by unfold LamO at z; cases z⟩) (fun ⟨q, a, b, c, d, h⟩ => ⟨q, a, b, c, d, e _ _ h fun _ z => by unfold LamF at z; cases z⟩) h
end
end L3
end
section
namespace L3
open PySem PySem.NumText PySem.Spec PyProof.Rows L2 LamX RZ ClX
theorem all_map {α : Type} (f : α → Bool) (l : List α) : (l.map f).all id = l.all f := by rw [List.all_map]; rfl
def toks : RT → List Str
  | .fx s => ["fixed", strOf s]
  | .dv x y w => ["divided", strOf x, strOf y, strOf w]
  | .jn lo a b => "(" :: (toks a ++ (sgnS lo :: (toks b ++ [(")" : Str)])))
section
variable {ws : List Str}
theorem joinL_app (S : List Nat) : ∀ (ps qs : List (List Nat)), ps ≠ [] → qs ≠ [] → TL.joinL S (ps ++ qs) = TL.joinL S ps ++ (S ++ TL.joinL S qs) := by
  intro ps
  induction ps with
  | nil => intro qs h; exact absurd rfl h
  | cons a r ih =>
    intro qs _ hq
    cases r with
    | nil =>
      cases qs with
      | nil => exact absurd rfl hq
      | cons q s => rfl
    | cons b s =>
      have := ih qs (by simp) hq
      show a ++ (S ++ TL.joinL S ((b :: s) ++ qs)) = (a ++ (S ++ TL.joinL S (b :: s))) ++ (S ++ TL.joinL S qs)
      rw [this]; simp
end
end L3
end
section
namespace L3
open PySem PySem.NumText PySem.Spec PyProof.Rows L2 LamX RZ ClX
theorem wds_flat : ∀ {us : List Str}, us ≠ [] → wds (Txt.join " " us) = us.flatMap wds := by
  intro us hu
  have hj : ∀ us : List Str, us ≠ [] → TL.joinL [32] (us.map TL.tl) = TL.joinL [32] ((us.flatMap wds).map TL.tl) ∧ us.flatMap wds ≠ [] := by
    intro us
    induction us with
    | nil => intro h; exact absurd rfl h
    | cons u r ih =>
      intro _
      have hw := wds_facts u
      have n1 : (wds u).map TL.tl ≠ [] := by simpa using hw.1
      cases r with
      | nil =>
        refine ⟨?_, by simpa using hw.1⟩
        rw [List.flatMap_cons, List.flatMap_nil, List.append_nil, hw.2.1]
        rfl
      | cons v s =>
        obtain ⟨h1, h2⟩ := ih (by simp)
        refine ⟨?_, by rw [List.flatMap_cons]; exact fun z => hw.1 (List.append_eq_nil_iff.mp z).1⟩
        rw [List.flatMap_cons, List.map_append, joinL_app _ _ _ n1 (by simpa using h2), hw.2.1, ← h1]
        rfl
  have e : Txt.join " " us = Txt.join " " (us.flatMap wds) := by
    refine str_ext ?_
    show TL.tl (Txt.join " " us) = TL.tl (Txt.join " " (us.flatMap wds))
    rw [TL.join_eq, TL.tl_join, TL.join_eq, TL.tl_join, show TL.tl " " = [32] by decide +kernel]
    exact (hj us hu).1
  rw [e]
  refine wds_join (hj us hu).2 fun p hp => ?_
  obtain ⟨u, _, hp⟩ := List.mem_flatMap.mp hp
  exact ((wds_facts u).2.2 p hp).1
/-- a page of at most N words, each a short one -/
def Pw (N : Nat) (z : Str) : Prop := (∀ w ∈ wds z, Pt 40 w) ∧ (wds z).length ≤ N
theorem Pw.mono {N M : Nat} {z : Str} (h : Pw N z) (hm : N ≤ M) : Pw M z := ⟨h.1, Nat.le_trans h.2 hm⟩
theorem join_wds' (z : Str) : Txt.join " " (wds z) = z := by
  refine str_ext ?_
  show TL.tl (Txt.join " " (wds z)) = z.cps.toList
  rw [TL.join_eq, TL.tl_join, show TL.tl " " = [32] by decide +kernel]
  exact (wds_facts z).2.1
theorem Pw.pt {N : Nat} {z : Str} (h : Pw N z) : Pt (41 * N) z := by
  have := pt_join (n := N) h.1 h.2
  rw [join_wds'] at this
  exact ⟨Nat.le_trans this.1 (by omega), this.2⟩
theorem Pw.join {N : Nat} {us : List Str} (h1 : ∀ w ∈ us.flatMap wds, Pt 40 w) (h2 : (us.flatMap wds).length ≤ N) (hN : 1 ≤ N) : Pw N (Txt.join " " us) := by
  by_cases hu : us = []
  · subst hu
    have e : wds (Txt.join " " ([] : List Str)) = [("" : Str)] := by decide +kernel
    unfold Pw
    rw [e]
    exact ⟨fun w hw => by rw [List.mem_singleton.mp hw]; exact pt_of (by decide +kernel), hN⟩
  · unfold Pw
    rw [wds_flat hu]
    exact ⟨h1, h2⟩
end L3
end
section
namespace L3
open PySem PySem.Spec PySem.Calls PyProof.Rows PySem.W
section
variable {prog : Program} {w : World} {K : Type} [DecidableEq K] {knd : KeyKind prog w K} {A : Around} {E : Value → Shared → Prop} {s : Shared}
theorem wp_dictPut {d : Addr} {kvs : List (K × Value)} {k : K} {key v : Value} {Q : Unit → Shared → Prop} (hkey : knd.is k key = true) (hm : s.heap.DictOf knd d kvs) (hsz : kvs.length ≤ sizeLine)
    (hQ : ∀ h', h'.DictOf knd d (stored kvs k v) → Heap.SameBut d s.heap h' → Q () { s with heap := h' }) : wpAny (model prog w) A (dictPut d (knd.hash k) key v) Q E s := by
  obtain ⟨o, es, ep, ho, hc, hd, hk, hp, hn⟩ := hm
  have len : es.size = kvs.length := by rw [← hp.length]; simp
  have same : (es.findIdx? fun e => knd.is k e.key) = kvs.findIdx? fun kv => decide (kv.1 = k) := by
    have := hp.findIdx k
    obtain ⟨l⟩ := es
    simpa using this
  have inL : (es.toList.findIdx? fun e => knd.is k e.key) = es.findIdx? fun e => knd.is k e.key := by
    obtain ⟨l⟩ := es; simp
  unfold dictPut
  refine wpAny_bind (wpAny_dictFind_of hkey ho hd hk ?_)
  generalize hi : (es.findIdx? fun e => knd.is k e.key) = r at same inL
  match r with
  | some i =>
    refine wpAny_updateDict ho hd (hQ _ ?_ (Heap.SameBut.update ..))
    refine ⟨_, _, ep, Heap.get?_update_self _ ho (Obj.isFreed_of_dict (Obj.data_mapDict hd _)), hc.mapDict _, Obj.data_mapDict hd _, hk.modify _ _, ?_, ?_⟩
    · rw [stored, if_pos (any_of_findIdx_some same.symm)]
      have := hp.modify hn inL v
      obtain ⟨l⟩ := es
      simpa using this
    · rw [stored, if_pos (any_of_findIdx_some same.symm), keys_map_store]
      exact hn
  | none =>
    have out : k ∉ kvs.map (·.1) := not_mem_of_findIdx_none same.symm
    have no : ¬ (kvs.any fun kv => decide (kv.1 = k)) = true := fun z => by
      obtain ⟨kv, h1, h2⟩ := List.any_eq_true.mp z
      exact out (List.mem_map.mpr ⟨kv, h1, of_decide_eq_true h2⟩)
    refine wpAny_updateDictKeys (hz := by omega) ho hd (hQ _ ?_ (Heap.SameBut.update ..))
    refine ⟨_, _, ep + 1, Heap.get?_update_self _ ho (Obj.isFreed_of_dict (Obj.data_mapDictKeys hd _)), hc.mapDictKeys _, Obj.data_mapDictKeys hd _, hk.push hkey _, ?_, ?_⟩
    · rw [stored, if_neg no]
      have := hp.append hkey (knd.hash k) v
      obtain ⟨l⟩ := es
      simpa using this
    · rw [stored, if_neg no, List.map_append]
      refine List.nodup_append.mpr ⟨hn, by simp, fun x hx y hy => ?_⟩
      rw [List.mem_singleton.mp hy]
      intro e; rw [e] at hx; exact out hx
theorem keys_stored {kvs : List (K × Value)} {k x : K} {v : Value} (h : x ∈ (stored kvs k v).map (·.1)) : x ∈ kvs.map (·.1) ∨ x = k := by
  unfold stored at h
  split at h
  · rw [keys_map_store] at h; exact .inl h
  · rw [List.map_append] at h
    exact (List.mem_append.mp h).imp id fun z => List.mem_singleton.mp z
theorem keys_merged {x : K} : ∀ {ms kvs : List (K × Value)}, x ∈ (merged kvs ms).map (·.1) → x ∈ kvs.map (·.1) ∨ x ∈ ms.map (·.1)
  | [], _, h => .inl h
  | (k, v) :: r, kvs, h => by
    have h : x ∈ (merged (stored kvs k v) r).map (·.1) := h
    rcases keys_merged h with h | h
    · rcases keys_stored h with h | h
      · exact .inl h
      · exact .inr (by rw [h]; simp)
    · exact .inr (by rw [List.map_cons]; exact List.mem_cons_of_mem _ h)
/-- the dict at o, laid into the one at d -/
theorem wp_merge {d o : Addr} {kvs ms : List (K × Value)} {u : Bool} {Q : Unit → Shared → Prop} (hne : d ≠ o) (hs : (o == sysModules) = false) (hr : ∀ k v, knd.is k v = true → ∀ a, v ≠ .ref a) (hd : s.heap.DictOf knd d kvs) (ho : s.heap.DictOf knd o ms) (hz : kvs.length + ms.length ≤ sizeLine)
    (hu : u = true → ∀ p ∈ ms, p.1 ∉ kvs.map (·.1)) (hQ : ∀ h', h'.DictOf knd d (merged kvs ms) → Heap.SameBut d s.heap h' → Q () { s with heap := h' }) : wpAny (model prog w) A (mergeMapping d (.ref o) u) Q E s := by
  obtain ⟨od, ed, pd, hod, hcd, hdd, hkd, hpd, hnd⟩ := id hd
  obtain ⟨oo, eo, po, hoo, hco, hdo, hko, hpo, hno⟩ := id ho
  have tyo : s.TypeIs (.ref o) "dict" := ⟨oo, hoo, hco.1⟩
  unfold mergeMapping
  refine wpAny_bind (wpAny_isInstance tyo (b := true) (U := "dict") (by rw [isSubtype_type]; kernel_rfl) ?_)
  rw [if_pos rfl]
  refine wpAny_bind (wpAny_specialOf tyo (r := some (.builtin "dict.__iter__")) PySem.F.slot_dict_iter.lookup ?_)
  try dsimp only
  simp only [beq_self_eq_true]
  try dsimp only
  refine wpAny_bind (wpAny_pure ?_)
  try dsimp only
  rw [hs, if_neg Bool.false_ne_true]
  have len : eo.size = ms.length := by rw [← hpo.length]; simp
  have turn : ∀ (i : Nat), i < eo.size → ∀ (h' : Heap) (R : ForInStep PUnit → Shared → Prop), h'.DictOf knd d (merged kvs (ms.take i)) → h'.get? o = some oo → Heap.SameBut d s.heap h' →
      (∀ h'', h''.DictOf knd d (merged kvs (ms.take (i + 1))) → h''.get? o = some oo → Heap.SameBut d s.heap h'' → R (.yield PUnit.unit) { s with heap := h'' }) →
      wpAny (model prog w) A (do
        let l ← dictEntries o
        match l[i]? with
          | some e => do
            holding [e.key, e.val] (if u = true then do
                let j ← dictFind d e.key e.hash
                if j.isSome = true then do
                    rule "dict.merge.duplicate-key"
                    let x ← newExc (Value.type "KeyError") [e.key]
                    raiseNew x
                    dictPut d e.hash e.key e.val
                  else dictPut d e.hash e.key e.val
              else dictPut d e.hash e.key e.val)
            let ep ← dictEpoch o
            if (ep != po) = true then do
                unsupported "dict.changed-during-merge"
                pure (ForInStep.yield PUnit.unit)
              else pure (ForInStep.yield PUnit.unit)
          | _ => do
            unsupported "dict.changed-during-merge"
            pure (ForInStep.yield PUnit.unit)) R E { s with heap := h' } := by
    intro i hi h' R hd' ho' hs' k
    refine wpAny_bind (wpAny_dictEntries ho' hdo ?_)
    rw [Array.getElem?_eq_getElem hi]
    obtain ⟨⟨k', v⟩, hkv⟩ : ∃ p, ms[i]? = some p := ⟨_, List.getElem?_eq_getElem (by omega)⟩
    obtain ⟨hkey, hval⟩ := hpo.get? (e := eo[i]) (by simp [hi]) hkv
    obtain ⟨k2, hkey2, hhash⟩ := hko eo[i] (Array.getElem_mem hi)
    obtain rfl : k2 = k' := knd.inj _ _ _ hkey2 hkey
    try dsimp only
    have sz : (merged kvs (ms.take i)).length ≤ sizeLine := by
      have e1 := merged_length_le kvs (ms.take i)
      have e2 : (ms.take i).length ≤ ms.length := by rw [List.length_take]; omega
      omega
    have put : wpAny (model prog w) A (dictPut d eo[i].hash eo[i].key eo[i].val) (fun _ s' => wpAny (model prog w) A (do
            let ep ← dictEpoch o
            if (ep != po) = true then do
                unsupported "dict.changed-during-merge"
                pure (ForInStep.yield PUnit.unit)
              else pure (ForInStep.yield PUnit.unit)) R E s') E { s with heap := h' } := by
      rw [hhash, hval]
      refine wp_dictPut hkey hd' sz fun h2 hd2 sb => ?_
      have ho2 : h2.get? o = some oo := (sb.2 o (Ne.symm hne)).trans ho'
      refine wpAny_bind (wpAny_dictEpoch ho2 hdo ?_)
      rw [if_neg (by simp)]
      exact wpAny_pure (k h2 (by rw [merged_take_succ kvs ms i _ hkv]; exact hd2) ho2 (hs'.trans sb))
    refine wpAny_bind (wpAny_holding ?_)
    cases u with
    | false => exact put
    | true =>
      rw [if_pos rfl]
      obtain ⟨ox, ex, px, hox, hcx, hdx, hkx, hpx, hnx⟩ := id hd'
      rw [hhash]
      refine wpAny_bind (wpAny_dictFind_of hkey hox hdx hkx ?_)
      have nk : k2 ∉ (merged kvs (ms.take i)).map (·.1) := fun z => by
        rcases keys_merged z with z | z
        · exact hu rfl _ (List.mem_of_getElem? hkv) z
        · obtain ⟨p, hp, ep⟩ := List.mem_map.mp z
          obtain ⟨j, hj, hjp⟩ := List.getElem_of_mem hp
          rw [List.length_take] at hj
          have hj2 : ms[j]? = some p := by rw [← hjp, List.getElem_take, List.getElem?_eq_getElem]
          have h1 : (ms.map (·.1))[j]? = some k2 := by rw [List.getElem?_map, hj2]; exact congrArg some ep
          have h2 : (ms.map (·.1))[i]? = some k2 := by rw [List.getElem?_map, hkv]; rfl
          obtain ⟨l1, g1⟩ := List.getElem?_eq_some_iff.mp h1
          obtain ⟨l2, g2⟩ := List.getElem?_eq_some_iff.mp h2
          exact List.pairwise_iff_getElem.mp hno j i l1 l2 (by omega) (g1.trans g2.symm)
      have fn : (ex.findIdx? fun e => knd.is k2 e.key) = none := by
        have e1 := hpx.findIdx k2
        have e2 : ((merged kvs (ms.take i)).findIdx? fun kv => decide (kv.1 = k2)) = none := by
          rw [List.findIdx?_eq_none_iff]
          intro p hp
          exact decide_eq_false fun e => nk (List.mem_map.mpr ⟨p, hp, e⟩)
        rw [e2] at e1
        obtain ⟨l⟩ := ex
        simpa using e1
      rw [fn, if_neg (by simp)]
      rw [hhash] at put
      exact put
  have all : wpAny (model prog w) A (do
        let l ← dictEntries o
        let ep ← dictEpoch o
        forIn (List.range l.size) PUnit.unit fun i _ => (do
          let l ← dictEntries o
          match l[i]? with
            | some e => do
              holding [e.key, e.val] (if u = true then do
                  let j ← dictFind d e.key e.hash
                  if j.isSome = true then do
                      rule "dict.merge.duplicate-key"
                      let x ← newExc (Value.type "KeyError") [e.key]
                      raiseNew x
                      dictPut d e.hash e.key e.val
                    else dictPut d e.hash e.key e.val
                else dictPut d e.hash e.key e.val)
              let ep' ← dictEpoch o
              if (ep' != ep) = true then do
                  unsupported "dict.changed-during-merge"
                  pure (ForInStep.yield PUnit.unit)
                else pure (ForInStep.yield PUnit.unit)
            | _ => do
              unsupported "dict.changed-during-merge"
              pure (ForInStep.yield PUnit.unit) : Sem (ForInStep PUnit))
        pure ()) Q E s := by
    refine wpAny_bind (wpAny_dictEntries hoo hdo (wpAny_bind (wpAny_dictEpoch hoo hdo ?_)))
    refine wpAny_bind (wpAny_forIn_list _ (fun rest _ s' => ∃ i h', rest = List.range' i (eo.size - i) ∧ i ≤ eo.size ∧ s' = { s with heap := h' } ∧ h'.DictOf knd d (merged kvs (ms.take i)) ∧ h'.get? o = some oo ∧ Heap.SameBut d s.heap h') _ ?_ ?_ _ _ ⟨0, s.heap, by rw [List.range_eq_range', Nat.sub_zero], Nat.zero_le _, rfl, hd, hoo, Heap.SameBut.refl _ _⟩)
    · rintro x rest _ _ ⟨i, h', hr', hi, rfl, hd', ho', hs'⟩
      have lt : i < eo.size := by
        refine Nat.lt_of_le_of_ne hi fun z => ?_
        rw [z, Nat.sub_self] at hr'
        cases hr'
      rw [show eo.size - i = (eo.size - (i + 1)) + 1 by omega, List.range'_succ] at hr'
      injection hr' with e1 e2
      subst e1
      exact turn x lt h' _ hd' ho' hs' fun h2 a b c => ⟨x + 1, h2, e2, lt, rfl, a, b, c⟩
    · rintro _ _ ⟨i, h', hr', hi, rfl, hd', ho', hs'⟩
      have ei : i = eo.size := by
        refine Nat.le_antisymm hi (Nat.le_of_not_lt fun z => ?_)
        rw [show eo.size - i = (eo.size - (i + 1)) + 1 by omega, List.range'_succ] at hr'
        cases hr'
      rw [ei, len, List.take_length] at hd'
      exact wpAny_pure (hQ h' hd' hs')
  refine wpAny_bind (wpAny_dictEntries hod hdd ?_)
  split
  · refine wpAny_bind (wpAny_dictEntries hoo hdo (wpAny_bind ?_))
    refine PySem.MeetsSeq2.wpAny_forIn_array _ (fun rest _ s' => s' = s ∧ ∀ e ∈ rest, e ∈ eo.toList) _ ?_ ?_ _ _ ⟨rfl, fun e he => he⟩
    · rintro e rest _ _ ⟨rfl, hm⟩
      obtain ⟨k', hk', _⟩ := hko e (by simpa using hm e List.mem_cons_self)
      have := hr _ _ hk'
      split
      · rename_i a he
        exact absurd he (this a)
      · exact wpAny_pure ⟨rfl, fun e he => hm e (List.mem_cons_of_mem _ he)⟩
    · rintro _ _ ⟨rfl, _⟩
      exact all
  · exact all
end
end L3
end
section
namespace L3
open PySem PySem.Spec PySem.Calls PyProof.Rows PySem.W L2
section
variable {prog : Program} {w : World} {A : Around} {E : Value → Shared → Prop} {s : Shared}
theorem wp_nsSetK {d : Addr} {kvs : List (Key × Value)} {k : Str} {v : Value} {Q : Unit → Shared → Prop} (hm : s.heap.DictOf (mixKind prog w) d kvs) (hk : (Sum.inr k : Key) ∉ kvs.map (·.1))
    (hQ : ∀ h', h'.DictOf (mixKind prog w) d (kvs ++ [(Sum.inr k, v)]) → Heap.SameBut d s.heap h' → Q () { s with heap := h', toks := s.toks + 1 }) : wpAny (model prog w) A (nsSet d k v) Q E s := by
  obtain ⟨⟨cls, dd, dt, sl⟩, es, ep, ho, ⟨rfl, rfl, rfl⟩, rfl, hks, hp, hn⟩ := hm
  have no : ∀ e ∈ es.toList, e.key.isStr k = false := by
    have e1 := hp.findIdx (Sum.inr k)
    have e2 : (kvs.findIdx? fun kv => decide (kv.1 = (Sum.inr k : Key))) = none := by
      rw [List.findIdx?_eq_none_iff]
      intro p hp'
      exact decide_eq_false fun e => hk (List.mem_map.mpr ⟨p, hp', e⟩)
    rw [e2] at e1
    rw [List.findIdx?_eq_none_iff] at e1
    intro e he
    have := e1 e he
    cases q : e.key with
    | str z t =>
      rw [q] at this
      have this : keyIs (Sum.inr k) (.str z t) = false := this
      cases r : (Value.str z t).isStr k with
      | false => rfl
      | true =>
        have ez : z = k := by simpa [Value.isStr] using r
        rw [ez, keyIs_str] at this
        cases this
    | _ => rfl
  have noR : ∀ e ∈ es.toList, e.refKey = false := fun e he => by
    obtain ⟨k2, hk2, _⟩ := hks e (by simpa using he)
    rcases keyIs_shape hk2 with ⟨i, t, _, e2⟩ | ⟨x, t, _, e2⟩ <;> (unfold DictEntry.refKey; rw [e2])
  have any1 : es.any (·.refKey) = false := by
    rw [← Array.any_toList]
    cases q : es.toList.any (·.refKey) with
    | false => rfl
    | true => obtain ⟨e, he, z⟩ := List.any_eq_true.mp q; rw [noR e he] at z; cases z
  have any2 : es.toList.any (·.key.isStr k) = false := by
    cases q : es.toList.any (·.key.isStr k) with
    | false => rfl
    | true => obtain ⟨e, he, z⟩ := List.any_eq_true.mp q; rw [no e he] at z; cases z
  have may : aRefKeyMayBeTheName k es = false := by
    rw [aRefKeyMayBeTheName_at, any1, Bool.and_false]
  have put : ∀ u, Obj.putName k (PyData.keyHash w.params k) (.str k s.toks) v u = Obj.putName k (hashStr w k) (.str k s.toks) v u := fun _ => rfl
  unfold nsSet
  refine wpAny_bind (wpAny_bind (wpAny_askSetting (wpAny_pure (wpAny_bind (wpAny_mkText (wpAny_bind (wpAny_loadPart ho ?_)))))))
  dsimp only
  rw [may]
  refine wpAny_updatePart ho ?_
  have e : Obj.putName k (hashStr w k) (.str k s.toks) v ⟨.type "dict", none, .dict es ep, #[]⟩ = dictOf (es.toList ++ [⟨hashStr w k, .str k s.toks, v⟩]) (ep + 1) := by
    have z := putName_dict k (hashStr w k) (.str k s.toks) v es.toList ep
    rw [putL_new no, show putN k es.toList ep = ep + 1 from if_neg (by rw [any2]; exact Bool.false_ne_true)] at z
    rw [← z]
  have g : (s.heap.update d (Obj.putName k (hashStr w k) (.str k s.toks) v)).get? d = some (dictOf (es.toList ++ [⟨hashStr w k, .str k s.toks, v⟩]) (ep + 1)) :=
    (Heap.get?_update_self _ ho (by rw [e]; rfl)).trans (congrArg some e)
  have D : (s.heap.update d (Obj.putName k (hashStr w k) (.str k s.toks) v)).DictOf (mixKind prog w) d (kvs ++ [(Sum.inr k, v)]) := by
    refine ⟨dictOf (es.toList ++ [⟨hashStr w k, .str k s.toks, v⟩]) (ep + 1), (es.toList ++ [(⟨hashStr w k, .str k s.toks, v⟩ : DictEntry)]).toArray, ep + 1, g, ⟨rfl, rfl, rfl⟩, rfl, ?_, ?_, ?_⟩
    · intro x hx
      rw [List.mem_toArray] at hx
      rcases List.mem_append.mp hx with hx | hx
      · exact hks x (by simpa using hx)
      · rw [List.mem_singleton.mp hx]
        exact ⟨Sum.inr k, keyIs_str k s.toks, rfl⟩
    · have := hp.append (show (mixKind prog w).is (Sum.inr k) (.str k s.toks) = true from keyIs_str k s.toks) (hashStr w k) v
      simpa using this
    · rw [List.map_append]
      refine List.nodup_append.mpr ⟨hn, by simp, fun x hx y hy => ?_⟩
      rw [List.mem_singleton.mp hy]
      intro z
      rw [z] at hx
      exact hk hx
  exact hQ (s.heap.update d (Obj.putName k (hashStr w k) (.str k s.toks) v)) D (Heap.SameBut.update ..)
theorem wp_fillK {d : Addr} {Q : PUnit → Shared → Prop} : ∀ (ex : List (Str × Value)) (kvs : List (Key × Value)) (s : Shared), s.heap.DictOf (mixKind prog w) d kvs → (ex.map (·.1)).Nodup → (∀ p ∈ ex, (Sum.inr p.1 : Key) ∉ kvs.map (·.1)) →
    (∀ h', h'.DictOf (mixKind prog w) d (kvs ++ ex.map fun p => ((Sum.inr p.1 : Key), p.2)) → Heap.SameBut d s.heap h' → Q ⟨⟩ { s with heap := h', toks := s.toks + ex.length }) →
    wpAny (model prog w) A (forIn ex PUnit.unit fun x _ => (nsSet d x.1 x.2 >>= fun _ => pure (ForInStep.yield PUnit.unit))) Q E s
  | [], kvs, s, hm, _, _, h => by
    rw [List.forIn_nil]
    exact wpAny_pure (h s.heap (by rw [List.map_nil, List.append_nil]; exact hm) (.refl ..))
  | x :: r, kvs, s, hm, hn, hk, h => by
    obtain ⟨n1, n2⟩ := List.nodup_cons.mp (show (x.1 :: r.map (·.1)).Nodup from hn)
    rw [List.forIn_cons]
    refine wpAny_bind (wpAny_bind (wp_nsSetK hm (hk x List.mem_cons_self) fun h1 hd sb => wpAny_pure ?_))
    refine wp_fillK r _ { s with heap := h1, toks := s.toks + 1 } hd n2 (fun p hp => ?_) fun h2 hd2 sb2 => ?_
    · rw [List.map_append]
      intro z
      rcases List.mem_append.mp z with z | z
      · exact hk p (List.mem_cons_of_mem _ hp) z
      · have e : p.1 = x.1 := Sum.inr.inj (List.mem_singleton.mp z)
        exact n1 (List.mem_map.mpr ⟨p, hp, e⟩)
    · have := h h2 (by rw [List.append_assoc] at hd2; exact hd2) (sb.trans sb2)
      simpa only [List.length_cons, Nat.add_assoc, Nat.add_comm 1] using this
/-- one parameter, and ** -/
theorem wp_bindKw {fd : FuncData} {x : Value} {kw : List (Str × Value)} {p0 p1 : Str} {a0 a1 : Arg} {Q : List (Str × Value) → Shared → Prop} (hp : fd.params = { posonlyargs := [], args := [a0], vararg := none, kwonlyargs := [], kw_defaults := [], kwarg := some a1, defaults := [] }) (hd : fd.defaults = .none)
    (e0 : a0.arg = p0) (e1 : a1.arg = p1) (hz : kw.length ≤ sizeLine) (hn : (kw.map (·.1)).Nodup) (hk : ∀ p ∈ kw, p.1 ≠ p0)
    (hQ : ∀ h', h'.DictOf (mixKind prog w) s.heap.objs.size (kw.map fun p => ((Sum.inr p.1 : Key), p.2)) → Heap.SameBut s.heap.objs.size (s.heap.push { cls := .type "dict", data := .dict #[] }) h' → Q [(p0, x), (p1, .ref s.heap.objs.size)] { s with heap := h', toks := s.toks + kw.length }) :
    wpAny (model prog w) A (bindArgs fd ⟨[x], kw⟩) Q E s := by
  unfold bindArgs
  rw [hp, hd]
  dsimp only
  refine wpAny_bind (wpAny_forIn_list _ (fun rest b s' => s = s' ∧ ∃ done, kw = done ++ rest ∧ b = ([(a0.arg, x)], done)) _ ?_ ?_ _ _ ⟨rfl, [], rfl, rfl⟩)
  · rintro p rest _ _ ⟨rfl, done, ek, rfl⟩
    have hp' : p.1 ≠ a0.arg := by rw [e0]; exact hk p (by rw [ek]; simp)
    rw [if_neg (by simp [hp']), if_pos (show (some a1).isSome = true from rfl)]
    exact wpAny_pure ⟨rfl, done ++ [p], by rw [ek]; simp, rfl⟩
  rintro _ _ ⟨rfl, done, ek, rfl⟩
  rw [List.append_nil] at ek
  subst ek
  have sq : seqItems? Value.none = pure none := rfl
  rw [sq]
  refine wpAny_bind (wpAny_pure ?_)
  rw [if_neg (by simp)]
  rw [if_neg (by simp)]
  refine wpAny_bind (wpAny_forIn_list _ (fun rest b s' => rest = [] ∧ b = [(a0.arg, x)] ∧ s = s') _ (by rintro _ _ _ _ ⟨h, _⟩; cases h) ?_ _ _ ⟨rfl, rfl, rfl⟩)
  rintro _ _ ⟨_, rfl, rfl⟩
  refine wpAny_bind (wpAny_forIn_list _ (fun rest b s' => rest = [] ∧ b = ([(a0.arg, x)], []) ∧ s = s') _ (by rintro _ _ _ _ ⟨h, _⟩; cases h) ?_ _ _ ⟨rfl, rfl, rfl⟩)
  rintro _ _ ⟨_, rfl, rfl⟩
  try dsimp only
  rw [if_neg (by simp)]
  try dsimp only
  rw [if_neg (by omega)]
  refine wpAny_bind (wpAny_alloc ?_)
  have emp : (s.heap.push { cls := .type "dict", data := .dict #[] }).DictOf (mixKind prog w) s.heap.objs.size [] :=
    ⟨_, #[], 0, Heap.get?_push_size _ rfl, ⟨rfl, rfl, rfl⟩, rfl, fun e he => by simp at he, .nil, List.nodup_nil⟩
  refine wpAny_bind (wp_fillK kw [] { s with heap := s.heap.push { cls := .type "dict", data := .dict #[] } } emp hn (fun _ _ z => nomatch z) fun h' hd' sb => wpAny_pure ?_)
  have z := hQ h' (by rw [List.nil_append] at hd'; exact hd') sb
  have fin : ∀ l : List (Str × Value), l = [(p0, x), (p1, Value.ref s.heap.objs.size)] → Q l { s with heap := h', toks := s.toks + kw.length } := fun l e => e ▸ z
  exact fin _ (by simp [e0, e1])
end
end L3
end
section
namespace L3
open PySem PySem.Spec PySem.Calls PyProof.Rows PySem.W L2
def kI {α : Type} (p : Str × α) : Key × α := (Sum.inr p.1, p.2)
theorem kI_keys {α : Type} (ws : List (Str × α)) : (ws.map kI).map (·.1) = (ws.map (·.1)).map Sum.inr := by rw [List.map_map, List.map_map]; rfl
theorem nodup_kI {α : Type} {ws : List (Str × α)} (h : ((ws.map kI).map (·.1)).Nodup) : (ws.map (·.1)).Nodup := by
  rw [kI_keys] at h
  exact (List.pairwise_map.mp h).imp fun h e => h (by rw [e])
theorem kv_back : ∀ {ws : List (Str × V)} {vs : List (Key × Value)}, KV (ws.map kI) vs → ∃ us : List (Str × Value), vs = us.map kI ∧ KV ws us
  | [], [], _ => ⟨[], rfl, .nil⟩
  | p :: r, q :: t, h => by
    cases h with
    | cons h1 h2 =>
      obtain ⟨us, e, k⟩ := kv_back h2
      refine ⟨(p.1, q.2) :: us, ?_, .cons ⟨rfl, h1.2⟩ k⟩
      rw [List.map_cons, ← e]
      exact congrArg (· :: t) (Prod.ext h1.1.symm rfl)
theorem kv_up {ws : List (Str × V)} {us : List (Str × Value)} (h : KV ws us) : KV (ws.map kI) (us.map kI) := by
  induction h with
  | nil => exact .nil
  | cons h _ ih => exact .cons ⟨congrArg Sum.inr h.1, h.2⟩ ih
section
variable {prog : Program} {w : World} {A : Around} {E : Value → Shared → Prop} {s : Shared}
theorem wp_keywordsIn {f : Value} {d : Addr} {us : List (Str × Value)} {Q : List (Str × Value) → Shared → Prop} (hm : s.heap.DictOf (mixKind prog w) d (us.map kI)) (h : Q us s) : wpAny (model prog w) A (keywordsIn f d) Q E s := by
  obtain ⟨o, es, ep, ho, hc, hd, hks, hp, hn⟩ := hm
  unfold keywordsIn
  refine wpAny_bind (wpAny_dictEntries ho hd ?_)
  refine wpAny_bind (PySem.MeetsSeq2.wpAny_forIn_array _ (fun rest b s' => s = s' ∧ ∃ todo : List (Str × Value), us = b ++ todo ∧ Pairs (mixKind prog w) rest (todo.map kI)) _ ?_ ?_ _ _ ⟨rfl, us, rfl, hp⟩)
  · rintro e rest b _ ⟨rfl, todo, eu, hq⟩
    match todo, hq with
    | p :: t, .cons hkey hval hr =>
      rcases keyIs_shape (show keyIs (Sum.inr p.1) e.key = true from hkey) with ⟨i, tk, e1, _⟩ | ⟨z, tk, e1, e2⟩
      · cases e1
      · cases (Sum.inr.inj e1)
        rw [e2]
        refine wpAny_pure ⟨rfl, t, ?_, hr⟩
        rw [show e.val = p.2 from hval, eu]
        simp
  · rintro b _ ⟨rfl, todo, eu, hq⟩
    match todo, hq with
    | [], _ =>
      rw [List.append_nil] at eu
      exact wpAny_pure (eu ▸ h)
end
section
variable {X : Cx} {pins : List (Addr × Obj)} {σ : L2.St} {H : Hp} {s : Shared}
/-- a name's value, a dict of texts, handed over by ** -/
theorem wp_evalDS {f : Value} {i : Nat} {x : Str} {p pos : Pos} {m : Addr} {ws : List (Str × V)} {Q : Args → Shared → Prop} (hN : X.N[i]? = some x) (hv : Vis X.env.scope x) (hdb : (x == ("__debug__" : Str)) = false) (hcd : (x == ("__classdict__" : Str)) = false)
    (I : Inv X pins σ H s) (hi : σ[i]? = some (some (.ref m))) (hm : H m = some (.dK (ws.map kI)))
    (k : ∀ (d : Addr) (us : List (Str × Value)) (s1 : Shared), H d = none → Inv X pins σ (upd H d (.dK (ws.map kI))) s1 → KV ws us → (us.map (·.1)).Nodup → ws.length ≤ sizeLine → Q ⟨[], us⟩ s1) :
    wpAny (model X.prog X.w) X.A (evalArgs f true [] [(none, do let v ← eval (.Name x p) X.env; standAt pos; pure v)]) Q X.xe s := by
  unfold evalArgs
  refine wpAny_bind ?_
  refine Calls.spliced_nil ?_
  refine wpAny_bind (wpAny_pure ?_)
  try dsimp only
  refine wpAny_holding ?_
  rw [if_neg (by simp)]
  refine wpAny_bind ?_
  unfold mergedKeywords
  refine wpAny_bind (wpAny_alloc ?_)
  refine wpAny_bind (wpAny_holding ?_)
  try dsimp only
  refine wpAny_bind ?_
  rw [List.forIn_cons]
  refine wpAny_bind ?_
  try dsimp only
  rw [if_pos (show ([] : List (Str × Sem Value)).isEmpty = true from rfl)]
  refine wpAny_bind (wpAny_pure ?_)
  have hn : H s.heap.objs.size = none := I.hok.fresh (Nat.le_refl _)
  have big := StX.env0_big I.env0
  have I1 : L2.Inv X pins σ (upd H s.heap.objs.size (.dK [])) { s with heap := s.heap.push { cls := .type "dict", data := .dict #[] } } := I.laid (t' := s.toks) (fun b o e => Heap.get?_push_of_some _ e) (Nat.le_refl _) (dk_empty _ big)
  generalize hd : s.heap.objs.size = d at *
  refine wpAny_bind (wpAny_bind (thn ((pe_var (pos := p) hN hv hdb hcd).run pins _ σ _ (fun v H1 => v = .ref m ∧ H1 = upd H d (.dK [])) I1 ⟨.ref m, hi, rfl, rfl⟩) fun u s1 ⟨v, H1, I2, r1, e1, e2⟩ => ?_))
  subst e1 e2
  obtain rfl : u = Value.ref m := r1
  refine wpAny_bind (wpAny_standAt (wpAny_pure ?_))
  have nmd : d ≠ m := fun z => by rw [z, hm] at hn; cases hn
  have hm1 : upd H d (.dK []) m = some (.dK (ws.map kI)) := by rw [upd_ne (Ne.symm nmd)]; exact hm
  obtain ⟨zl, hsm, vs, rel, dd⟩ := dk_of I2.hok hm1
  obtain ⟨us, rfl, ku⟩ := kv_back rel
  obtain ⟨_, hsd, vs0, rel0, dd0⟩ := dk_of I2.hok (show upd H d (.dK []) d = some (.dK []) from upd_same)
  cases rel0
  have nd : ((us.map kI).map (·.1)).Nodup := dd.choose_spec.choose_spec.choose_spec.2.2.2.2.2
  have lus : us.length = ws.length := by rw [← ku.length]
  rw [List.length_map] at zl
  refine wpAny_bind (wpAny_onRaise (wpAny_holding (wpAny_tryCatch (wpAny_onRaise (wp_merge (knd := mixKind X.prog X.w) (kvs := []) (ms := us.map kI) nmd hsm (fun k v hk a e => ?_) dd0 dd (by rw [List.length_map, lus]; simpa using zl) (fun _ p _ => by simp) fun h' hd' sb => ?_)))))
  · rcases keyIs_shape hk with ⟨i, t, _, e2⟩ | ⟨x, t, _, e2⟩ <;> (rw [e2] at e; cases e)
  rw [merged_nil_of_nodup _ nd] at hd'
  have I3 : L2.Inv X pins σ (upd (upd H d (.dK [])) d (.dK (ws.map kI))) { s1 with heap := h' } := d_write (t' := s1.toks) I2 (by rw [upd_same]; exact True.intro) sb (let ⟨o, _, _, ho, _⟩ := hd'; ⟨o, ho⟩) (dk_new (by rw [List.length_map]; exact zl) hsd (kv_up ku) hd')
  rw [upd_upd] at I3
  have fin := k d us _ hn I3 ku (nodup_kI nd) zl
  refine wpAny_pure ?_
  try dsimp only
  rw [List.forIn_nil]
  refine wpAny_pure ?_
  try dsimp only
  rw [if_pos (show ([] : List (Str × Sem Value)).isEmpty = true from rfl)]
  refine wpAny_bind (wpAny_pure ?_)
  refine wpAny_pure ?_
  refine wpAny_pure ?_
  refine wpAny_bind (wpAny_pure ?_)
  refine wpAny_bind (wpAny_holding (wp_keywordsIn hd' ?_))
  exact wpAny_pure fin
/-- f(**x), f a class or def of the module -/
theorem wp_callDS {K : PySem.W.Frag} {f : Value} {first : List Value} {pos : Pos} {x : Sem Value} {Q : Value → Shared → Prop} {M : Model} {A : Around} {E : Value → Shared → Prop} {s : Shared} (hk : PySem.W.keepIn K f = true)
    (h : wpAny M A (evalArgs f true [] [(none, x)]) (fun a s1 => K.In s1.heap ∧ wpAny M A (call f (first ++ a.pos) a.kw) Q E s1) E s) : wpAny M A (callWith pos f first [] [(none, x)]) Q E s := by
  unfold callWith
  refine wpAny_bind (wpAny_holding (wpAny_mono h (fun a s1 ⟨h1, h2⟩ => wpAny_bind (wpAny_standAt ?_)) fun _ _ z => z))
  obtain ⟨k, hk', L⟩ := PySem.W.keeps_K hk _ h1
  dsimp only
  rw [show (([] : List (Bool × Sem Value)).any (·.1) || [((none : Option Str), x)].any (·.1.isNone)) = true from rfl]
  refine wpAny_bind (L.here ?_)
  have z : wpAny M A (callMarked starredCall f (first ++ a.pos) a.kw) Q E s1 := by unfold callMarked; exact Calls.wpAny_keep h2
  have last : ∀ {t : Sem Value}, wpAny M A t Q E s1 → wpAny M A (t >>= fun r => holding [r] point >>= fun _ => pure r) Q E s1 := fun ht => wpAny_bind (wpAny_mono ht (fun r s2 hr => wpAny_bind (wpAny_holding (wpAny_point (wpAny_pure hr)))) fun _ _ y => y)
  rcases hk' with rfl | rfl | rfl
  · exact last z
  · exact last (wpAny_operateT h2)
  · exact last (wpAny_operateT h2)
end
structure FnKw (P : Program) (w : World) (K : PySem.W.Frag) (mg : Str → Option Value) (base : Heap) (CX : CXT) (k : Nat) (f : Addr) (p0 : Str) (sp : Sp) : Prop where
  run : ∀ (A : Around) (outer : List Env) (s : Shared) (H : Hp) (x : V) (u : Value) (ws : List (Str × V)) (us : List (Str × Value)) (Q : VK) (E : XK), Room k A → Env0 P w K mg base A outer s H → RelV x u → KV ws us → (us.map (·.1)).Nodup → ws.length ≤ sizeLine → (∀ p ∈ ws, p.1 ≠ p0) →
    (∀ d, H d = none → sp [x, .ref d] (upd H d (.dK (ws.map kI))) Q E) → codeAny (model P w) A (.call (.ref f) ⟨[u], us⟩) (CR CX outer P w H s Q E) s
theorem env0_new {P : Program} {w : World} {K : PySem.W.Frag} {mg : Str → Option Value} {base : Heap} {A : Around} {outer : List Env} {s : Shared} {H : Hp} {a : Addr} {h' : Heap} {t' : Nat} {u : HO} (en : Env0 P w K mg base A outer s H) (kp : ∀ b x, s.heap.get? b = some x → h'.get? b = some x) (ha : s.heap.objs.size ≤ a) (hz : s.heap.objs.size ≤ h'.objs.size) (new : ObjOk P w (upd H a u) h' a u) :
    Env0 P w K mg base A outer { s with heap := h', toks := t' } (upd H a u) where
  frames := en.frames
  mod := en.mod
  bs := fun b x e => ⟨kp b x (en.bs b x e).1, by rw [upd_ne (Nat.ne_of_lt (Nat.lt_of_lt_of_le (Heap.lt_size (en.bs b x e).1) ha))]; exact (en.bs b x e).2⟩
  bsz := Nat.le_trans en.bsz hz
  funs := Heap.FunFrames.of_keeps (fun b x e _ => ⟨x, kp b x e, rfl⟩) en.funs
  frf := fun b hb => by
    obtain ⟨_, x, hx, _⟩ := en.funs.mem hb
    rw [upd_ne (Nat.ne_of_lt (Nat.lt_of_lt_of_le (Heap.lt_size hx) ha))]
    exact en.frf b hb
  hok := en.hok.laid kp ha new
  bare := en.bare
theorem kv_names {ws : List (Str × V)} {us : List (Str × Value)} (h : KV ws us) : ws.map (·.1) = us.map (·.1) := by
  induction h with
  | nil => rfl
  | cons h _ ih => rw [List.map_cons, List.map_cons, ih, h.1]
theorem fnKw {P : Program} {w : World} {K : PySem.W.Frag} {mg : Str → Option Value} {base : Heap} {CX : CXT} {x qual : Str} {st : Stmt} {f : Addr} {fd : FuncData} {N : List Str} {p0 p1 : Str} {a0 a1 : Arg} {k : Nat} {sp : Sp} (F : L2.Fun K x qual st f fd) (S : FnScope N [p0, p1] (defScope st)) (hCX : StX.CXUp CX)
    (hp : defArgs st = { posonlyargs := [], args := [a0], vararg := none, kwonlyargs := [], kw_defaults := [], kwarg := some a1, defaults := [] }) (e0 : a0.arg = p0) (e1 : a1.arg = p1)
    (body : ∀ (cd : Value) (A : Around) (fr : List Env) (s : Shared) (H : Hp) (vs : List V) (Q : VK) (E : XK), Room k (A.deeper (envOfC qual (defScope st) s.heap.objs.size f cd)) → sp vs H Q E →
      ∃ t, PSs (cxOf CX P w K mg base N qual (defScope st) f cd A fr s H E) (defBody st) t ∧ t { nx := fun _ H' => Q .non H', rt := Q } (L2.start N vs) H) : FnKw P w K mg base CX (k + 1) f p0 sp := by
  obtain ⟨oc, od, kV, doc, pm, an, cd, ct, sl, rfl, lk, hcd⟩ := F.ex
  refine ⟨fun A outer s H x u ws us Q E hr en rx ku hn hz hk hsp => ?_⟩
  have hn0 : H s.heap.objs.size = none := en.hok.fresh (Nat.le_refl _)
  have lu : us.length = ws.length := ku.length.symm
  refine StX.run_bnd lk hcd S hr en (G := fun vs H2 => ∃ d, H d = none ∧ vs = [x, .ref d] ∧ H2 = upd H d (.dK (ws.map kI))) (fun A' Ex Q' h => ?_) fun s2 H2 vs ⟨d, hd, ev, eH⟩ hr' => ?_
  · refine wp_bindKw (p0 := p0) (p1 := p1) hp rfl e0 e1 (by rw [lu]; exact hz) hn (fun p hp => ?_) fun h' hd' sb => ?_
    · have : p.1 ∈ ws.map (·.1) := by rw [kv_names ku]; exact List.mem_map_of_mem hp
      obtain ⟨q, hq, e⟩ := List.mem_map.mp this
      rw [← e]
      exact hk q hq
    · have kp : ∀ b o, s.heap.get? b = some o → h'.get? b = some o := fun b o e => (sb.2 b (Nat.ne_of_lt (Heap.lt_size e))).trans (Heap.get?_push_of_some _ e)
      have un : Un (frs outer) [] H (upd H s.heap.objs.size (.dK (ws.map kI))) s.heap h' := Un.laid kp (Nat.le_refl _) hn0
      have z := h { s with heap := h', toks := s.toks + us.length } (upd H s.heap.objs.size (.dK (ws.map kI))) [x, .ref s.heap.objs.size] [u, .ref s.heap.objs.size] (env0_new en kp (Nat.le_refl _) ?_ ?_) un rfl (fun e s' => hCX outer s H _ _ E e s' un kp rfl) (.cons rx (.cons rfl .nil)) rfl ⟨_, hn0, rfl, rfl⟩
      · exact z
      · have : (s.heap.push { cls := .type "dict", data := .dict #[] }).objs.size = s.heap.objs.size + 1 := Heap.size_push _ _
        have := sb.1
        omega
      · exact dk_new (by rw [List.length_map]; exact hz) (beq_eq_false_iff_ne.mpr (Ne.symm (Nat.ne_of_lt (StX.env0_big en)))) (kv_up ku) hd'
  · subst ev eH
    exact body cd A outer s2 _ _ Q E hr' (hsp d hd)
structure McKw (P : Program) (w : World) (K : PySem.W.Frag) (mg : Str → Option Value) (base : Heap) (CX : CXT) (k : Nat) (x : Str) (C : Addr) (p0 : Str) (sp : Sp) : Prop where
  ex : ∃ f, FnKw P w K mg base CX k f p0 sp ∧ mg x = some (.ref C) ∧ Mk K C f
/-- what the making asks: the instance, its dict, the dict of the given ones -/
def MkKw (C : Addr) (sp : Sp) (E : XK) (ws : List (Str × V)) (H : Hp) (Q : VK) : Prop := ∀ x dx d, H x = none → H dx = none → dx ≠ x → H d = none → d ≠ x → d ≠ dx →
  sp [.ref x, .ref d] (upd (upd (upd H dx (.own x)) x (.ins C dx [])) d (.dK (ws.map kI))) (fun v H2 => v = .non ∧ ap Q (.ref x) H2) E
theorem none_upd2 {H : Hp} {a b d : Addr} {o o' : HO} (h : upd (upd H b o) a o' d = none) : H d = none ∧ d ≠ a ∧ d ≠ b := by
  have h1 : d ≠ a := fun z => by rw [z, upd_same] at h; cases h
  rw [upd_ne h1] at h
  have h2 : d ≠ b := fun z => by rw [z, upd_same] at h; cases h
  rw [upd_ne h2] at h
  exact ⟨h, h1, h2⟩
section
variable {X : Cx} {CX : CXT} {k j : Nat} {C : Addr} {p0 : Str} {sp : Sp} {E : XK} {x : Str} {p pos : Pos} {ks : TA} {kws : List Keyword}
theorem run_mkKw {pins : List (Addr × Obj)} {σ : L2.St} {H : Hp} {s : Shared} {Q : VK} {f : Addr} {ws : List (Str × V)} {us : List (Str × Value)} (M : Mk X.K C f) (F : FnKw X.prog X.w X.K X.mg X.base CX k f p0 sp) (hr : Room (k + 1) X.A) (hx : Passes CX X E) (I : L2.Inv X pins σ H s)
    (ku : KV ws us) (hn : (us.map (·.1)).Nodup) (hz : ws.length ≤ sizeLine) (hk : ∀ p ∈ ws, p.1 ≠ p0) (q : MkKw C sp E ws H Q) : wpAny (model X.prog X.w) X.A (call (.ref C) [] us) (EP X pins σ Q) X.xe s := by
  have I2 := Inv.made (C := C) I
  have n1 : H (s.heap.objs.size + 1) = none := I.hok.fresh (Nat.le_succ _)
  have n2 : H s.heap.objs.size = none := I.hok.fresh (Nat.le_refl _)
  refine wpAny_call (make_map (f := f) I.kIn M.makes M.init (beq_iff_eq.mp M.fn) (codeAny_mono (F.run _ X.stack _ _ (.ref (s.heap.objs.size + 1)) (.ref (s.heap.objs.size + 1)) ws us _ E (hr.make C [] us) (I2.env0.make C [] us) rfl ku hn hz hk fun d hd => q _ _ d n1 n2 (Nat.ne_of_lt (Nat.lt_succ_self _)) (none_upd2 hd).1 (none_upd2 hd).2.1 (none_upd2 hd).2.2) fun y s' z => ?_))
  match y, z with
  | .error e, z => exact hx pins σ _ _ e s' I2 z
  | .ok (.ret u), z =>
    obtain ⟨v, H', I3, rv, ev, q3⟩ := I2.after z
    subst ev
    exact ⟨rv, ⟨V.ref (s.heap.objs.size + 1), H', I3, rfl, q3⟩⟩
def tMkKV (C : Addr) (ns : List Str) (sp : Sp) (E : XK) (ks : TA) : TE := fun σ H Q => ks σ H fun vs H1 => MkKw C sp E (ns.zip vs) H1 Q
def tMkDS (C : Addr) (i : Nat) (p0 : Str) (sp : Sp) (E : XK) : TE := fun σ H Q => ∃ m ws, σ[i]? = some (some (.ref m)) ∧ H m = some (.dK (ws.map kI)) ∧ (∀ p ∈ ws, p.1 ≠ p0) ∧ ∀ H1, Ex H H1 → MkKw C sp E ws H1 Q
/-- C(**y), y a slot -/
theorem pe_mkDS {i : Nat} {y : Str} {py : Pos} (c : McKw X.prog X.w X.K X.mg X.base CX k x C p0 sp) (hr : Room j X.A) (hx : Passes CX X E) (hN : X.N[i]? = some y) (hv : Vis X.env.scope y) (hk : k + 1 ≤ j := by decide) (gl : Gl X x := by rfl) (hdb : (x == ("__debug__" : Str)) = false := by decide)
    (hdy : (y == ("__debug__" : Str)) = false := by decide) (hcd : (y == ("__classdict__" : Str)) = false := by decide) {kp : Pos} (hkw : keywordEach [⟨none, .Name y py, kp⟩] X.env = [(none, eval (.Name y py) X.env)] := by rfl) : PE X (.Call (.Name x p) [] [⟨none, .Name y py, kp⟩] pos) (tMkDS C i p0 sp E) := by
  obtain ⟨f, F, m, M⟩ := c.ex
  refine ⟨fun pins s σ H Q I ⟨a, ws, hi, hm, hk0, q⟩ => ?_⟩
  refine wpAny_Call_Name_kw (ld_glob I gl m ?_ hdb)
  rw [hkw]
  refine wp_callDS (K := X.K) M.kp (wp_evalDS hN hv hdy hcd I hi hm fun d us s1 hd I1 ku nd zl => ⟨I1.kIn, ?_⟩)
  exact run_mkKw M F (hr.mono hk) hx I1 ku nd zl hk0 (q _ (ex_new hd))
end
end L3
end
section
namespace L3
open PySem PySem.Spec PySem.Calls PyProof.Rows PySem.W L2
end L3
end
section
namespace L3
open PySem PySem.NumText PySem.Spec PyProof.Rows L2 LamX RZ ClX
def ltS (a b : Str) : Bool := ltCps a.cps.toList b.cps.toList
def leS (a b : Str) : Bool := !ltS b a
theorem ltS_eq (a b : Str) : ltS a b = decide (a.cps.toList < b.cps.toList) := ltCps_eq ..
theorem leS_total (a b : Str) : leS a b = true ∨ leS b a = true := by
  unfold leS
  rw [ltS_eq, ltS_eq]
  by_cases h : b.cps.toList < a.cps.toList
  · exact .inr (by rw [decide_eq_false (List.lt_asymm h)]; rfl)
  · exact .inl (by rw [decide_eq_false h]; rfl)
theorem leS_antisymm {a b : Str} (h1 : leS a b = true) (h2 : leS b a = true) : a = b := by
  unfold leS at h1 h2
  rw [ltS_eq] at h1 h2
  have e : a.cps.toList = b.cps.toList := List.le_antisymm (by simpa using h1) (by simpa using h2)
  cases a with | mk a => cases b with | mk b =>
  congr 1
  exact Array.toList_inj.mp e
theorem leS_trans {a b c : Str} (h1 : leS a b = true) (h2 : leS b c = true) : leS a c = true := by
  unfold leS at h1 h2 ⊢
  rw [ltS_eq] at h1 h2 ⊢
  have k1 : a.cps.toList ≤ b.cps.toList := by simpa using h1
  have k2 : b.cps.toList ≤ c.cps.toList := by simpa using h2
  simpa using List.le_trans k1 k2
theorem risingS_pw : ∀ (p : Str) (l : List Str), risingS p l = true → (p :: l).Pairwise (fun a b => leS a b = true)
  | p, [], _ => by simp
  | p, x :: r, h => by
    have h' : (!ltS x p && risingS x r) = true := h
    rw [Bool.and_eq_true] at h'
    have ih := risingS_pw x r h'.2
    refine List.pairwise_cons.mpr ⟨fun y hy => ?_, ih⟩
    rcases List.mem_cons.mp hy with rfl | hy
    · exact h'.1
    · exact leS_trans (a := p) (b := x) h'.1 (List.rel_of_pairwise_cons ih hy)
theorem sortedS_pw : ∀ {l : List Str}, sortedS l = true → l.Pairwise (fun a b => leS a b = true)
  | [], _ => .nil
  | x :: r, h => risingS_pw x r h
section
variable {α : Type}
def insW (p : Str × α) : List (Str × α) → List (Str × α)
  | [] => [p]
  | q :: r => if ltS q.1 p.1 then q :: insW p r else p :: q :: r
def srtW : List (Str × α) → List (Str × α)
  | [] => []
  | p :: r => insW p (srtW r)
theorem insW_perm (p : Str × α) : ∀ l : List (Str × α), (insW p l).Perm (p :: l)
  | [] => .refl _
  | q :: r => by
    unfold insW
    by_cases h : ltS q.1 p.1 = true
    · rw [if_pos h]
      exact ((insW_perm p r).cons q).trans (.swap p q r)
    · rw [if_neg h]
theorem srtW_perm : ∀ l : List (Str × α), (srtW l).Perm l
  | [] => .refl _
  | p :: r => (insW_perm p (srtW r)).trans ((srtW_perm r).cons p)
def SrtW (l : List (Str × α)) : Prop := (l.map (·.1)).Pairwise (fun a b => leS a b = true)
theorem insW_srt {p : Str × α} : ∀ {l : List (Str × α)}, SrtW l → SrtW (insW p l)
  | [], _ => by unfold insW SrtW; simp
  | q :: r, h => by
    have h' : (∀ x ∈ r.map (·.1), leS q.1 x = true) ∧ (r.map (·.1)).Pairwise (fun a b => leS a b = true) := List.pairwise_cons.mp h
    unfold insW
    by_cases c : ltS q.1 p.1 = true
    · rw [if_pos c]
      refine List.pairwise_cons.mpr ⟨fun x hx => ?_, insW_srt h'.2⟩
      have hx' := ((insW_perm p r).map (·.1)).mem_iff.mp hx
      rcases List.mem_cons.mp hx' with rfl | hx'
      · rcases leS_total q.1 p.1 with k | k
        · exact k
        · unfold leS at k; rw [c] at k; cases k
      · exact h'.1 x hx'
    · rw [if_neg c]
      have hpq : leS p.1 q.1 = true := by unfold leS; simpa using c
      refine List.pairwise_cons.mpr ⟨fun x hx => ?_, h⟩
      rcases List.mem_cons.mp hx with rfl | hx
      · exact hpq
      · exact leS_trans hpq (h'.1 x hx)
theorem srtW_srt : ∀ l : List (Str × α), SrtW (srtW l)
  | [] => .nil
  | _ :: r => insW_srt (srtW_srt r)
theorem srtW_len (l : List (Str × α)) : (srtW l).length = l.length := (srtW_perm l).length_eq
theorem srtW_mem {l : List (Str × α)} {p : Str × α} : p ∈ srtW l ↔ p ∈ l := (srtW_perm l).mem_iff
/-- the one order of texts: what sorted gives for the names is what srtW gives -/
theorem names_srt {l : List (Str × α)} {ys : List Str} (hp : ys.Perm (l.map (·.1))) (hs : sortedS ys = true) : ys = (srtW l).map (·.1) :=
  List.Perm.eq_of_pairwise (le := fun a b => leS a b = true) (fun _ _ _ _ h1 h2 => leS_antisymm h1 h2) (sortedS_pw hs) (srtW_srt l) (hp.trans ((srtW_perm l).map (·.1)).symm)
end
section
variable {K : PySem.W.Frag} {σ : L2.St} {H : Hp} {Q : VK}
/-- sorted([..]) of texts -/
theorem s_sortS {α : Type} {a : Addr} {l : List (Str × α)} (ha : H a = some (.lst ((l.map (·.1)).map V.str))) (hz : l.length < 64) (k : ∀ p H2, H p = none → Ex H H2 → H2 p = some (.lst (((srtW l).map (·.1)).map V.str)) → Q (.ref p) H2) : rSortedS K [.ref a] H Q :=
  ⟨a, l.map (·.1), rfl, .inl (.inl ha), by rw [List.length_map]; exact hz, fun ys p hp hs hn => by rw [names_srt hp hs]; exact k p _ hn (ex_new hn) upd_same⟩
theorem s_lock {d : Addr} {kvs : List (Key × V)} {t : TE} (hd : H d = some (.dK kvs)) (h : ∀ od, t σ (upd H d (.frz od (.dK kvs))) fun v H' => H' d = some (.frz od (.dK kvs)) ∧ Q v (upd H' d (.dK kvs))) : tLockE t σ H Q := ⟨d, _, hd, trivial, h⟩
theorem lcK {te : TE} {d : Addr} {o : Obj} {kvs : List (Key × V)} {j : Nat} {tt : TT} {vs : List Nat} (b : Key → V → Bool) (f : Key → V → V) (hd : H d = some (.frz o (.dK kvs))) (hz : kvs.length < sizeLine) (hw : ∀ x, wipe ((wipe σ vs).set j (some x)) vs = wipe σ vs)
    (ht : ∀ (kk : Key) (v : V) (H1 : Hp) (R : Bool → Hp → Prop), (kk, v) ∈ kvs → Ex H H1 → R (b kk v) H1 → tt ((wipe σ vs).set j (some (kV kk))) H1 R) (he : ∀ (kk : Key) (v : V) (H1 : Hp) (R : VK), (kk, v) ∈ kvs → b kk v = true → Ex H H1 → (∀ H2, Ex H1 H2 → R (f kk v) H2) → te ((wipe σ vs).set j (some (kV kk))) H1 R)
    (k : ∀ D H2, H D = none → Ex H H2 → H2 D = some (.lst ((kvs.filter fun p => b p.1 p.2).map fun p => f p.1 p.2)) → Q (.ref D) H2) : LC (Itk d o kvs) (gName j) tt te vs σ H Q := by
  intro D hD
  refine lc_it walk_keys (fun i H1 => Ex H H1 ∧ H1 D = some (.lst (((kvs.take i).filter fun p => b p.1 p.2).map fun p => f p.1 p.2))) ⟨ex_new hD, by rw [upd_same]; rfl⟩ (fun _ H1 _ p => p.1 _ _ hd) ?_ ?_
  · rintro i x H1 H2 hi ⟨e1, e2⟩ ⟨rfl, kk, v, hkv, rfl⟩
    have hm := List.mem_of_getElem? hkv
    have htk : kvs.take (i + 1) = kvs.take i ++ [(kk, v)] := by rw [List.take_add_one, hkv]; rfl
    show wipe _ vs = wipe σ vs ∧ _
    refine ⟨hw _, ht kk v H2 _ hm e1 ?_⟩
    cases hb : b kk v with
    | true =>
      refine iteT (he kk v H2 _ hm hb e1 fun H3 e3 => ⟨_, e3 _ _ e2, ?_, fun c oo hc => ?_, ?_⟩)
      · rw [List.length_map]
        exact Nat.lt_of_le_of_lt (Nat.le_trans (List.length_filter_le _ _) (List.length_take_le ..)) (Nat.lt_of_lt_of_le (by omega) (Nat.le_of_lt hz))
      · rw [upd_ne (ne_of_none hc hD)]; exact e3 _ _ (e1 _ _ hc)
      · rw [upd_same, htk, List.filter_append, List.map_append]
        simp [hb]
    | false =>
      refine iteF ⟨e1, ?_⟩
      rw [htk, List.filter_append]
      simpa [hb] using e2
  · rintro H1 ⟨e1, e2⟩
    rw [List.take_length] at e2
    exact k _ _ hD e1 e2
theorem ex_unlock {d : Addr} {od : Obj} {u : HO} {H2 : Hp} (hd : H d = some u) (e : Ex (upd H d (.frz od u)) H2) : Ex H (upd H2 d u) := fun c o hc => by
  by_cases h : c = d
  · rw [h, upd_same]; rw [h, hd] at hc; exact hc
  · rw [upd_ne h]; exact e c o (by rw [upd_ne h]; exact hc)
/-- [f(k) for k in d if b(k)], whole -/
theorem s_lcK {ta te : TE} {d : Addr} {kvs : List (Key × V)} {j : Nat} {tt : TT} {vs : List Nat} (b : Key → V → Bool) (f : Key → V → V) (hd : H d = some (.dK kvs)) (hz : kvs.length < sizeLine) (hw : ∀ x, wipe ((wipe σ vs).set j (some x)) vs = wipe σ vs)
    (ha : ∀ od (R : VK), R (.ref d) (upd H d (.frz od (.dK kvs))) → ta σ (upd H d (.frz od (.dK kvs))) R)
    (ht : ∀ (kk : Key) (v : V) (H1 : Hp) (R : Bool → Hp → Prop), (kk, v) ∈ kvs → (∃ od, H1 d = some (.frz od (.dK kvs))) → (∀ c o, c ≠ d → H c = some o → H1 c = some o) → R (b kk v) H1 → tt ((wipe σ vs).set j (some (kV kk))) H1 R)
    (he : ∀ (kk : Key) (v : V) (H1 : Hp) (R : VK), (kk, v) ∈ kvs → b kk v = true → (∃ od, H1 d = some (.frz od (.dK kvs))) → (∀ c o, c ≠ d → H c = some o → H1 c = some o) → (∀ H2, Ex H1 H2 → R (f kk v) H2) → te ((wipe σ vs).set j (some (kV kk))) H1 R)
    (k : ∀ D H2, H D = none → Ex H H2 → H2 D = some (.lst ((kvs.filter fun p => b p.1 p.2).map fun p => f p.1 p.2)) → Q (.ref D) H2) : tLockE (tLc (iKeys ta) (gName j) tt te vs) σ H Q := by
  refine s_lock hd fun od => ?_
  show ta σ _ _
  refine ha od _ ⟨d, od, rfl, .inl ⟨kvs, upd_same, ?_⟩⟩
  show LC (Itk d od kvs) (gName j) tt te vs σ (upd H d (.frz od (.dK kvs))) fun v H' => H' d = some (.frz od (.dK kvs)) ∧ Q v (upd H' d (.dK kvs))
  have hk : ∀ H1, Ex (upd H d (.frz od (.dK kvs))) H1 → (∃ od, H1 d = some (.frz od (.dK kvs))) ∧ ∀ c o, c ≠ d → H c = some o → H1 c = some o := fun H1 e => ⟨⟨od, e _ _ upd_same⟩, fun c o hc h => e _ _ (by rw [upd_ne hc]; exact h)⟩
  exact lcK b f upd_same hz hw (fun kk v H1 R hm e r => ht kk v H1 R hm (hk H1 e).1 (hk H1 e).2 r) (fun kk v H1 R hm hb e r => he kk v H1 R hm hb (hk H1 e).1 (hk H1 e).2 r) fun D H2 hD e h2 => by
    have hDd : D ≠ d := fun z => by rw [z, upd_same] at hD; cases hD
    exact ⟨e _ _ upd_same, k D _ (by rw [upd_ne hDd] at hD; exact hD) (ex_unlock hd e) (by rw [upd_ne hDd]; exact h2)⟩
def DC (J : It) (g : TG) (tt : TT) (tk tv : TE) (vs : List Nat) (σ : L2.St) (H1 : Hp) (Q : VK) : Prop := ∀ D, H1 D = none → ∃ W : Nat → Nat → Hp → Prop, (∃ m, W 0 m (upd H1 D (.dK []))) ∧ ∀ i m H, W i m H →
  (J.stop i H ∧ Q (.ref D) H) ∨ (J.go i H ∧ ∃ Nx : Hp → Prop, (∀ H', Nx H' → ∃ m', m' < m ∧ W (i + 1) m' H') ∧ ∀ x H', J.yld i H x H' → g x (wipe σ vs) H' fun σ2 H2 => wipe σ2 vs = wipe σ vs ∧ tt σ2 H2 fun b H3 =>
    if b = true then tk σ2 H3 fun y H4 => tv σ2 H4 fun z H5 => ∃ kvs k, y = kV k ∧ H5 D = some (.dK kvs) ∧ kvs.length < sizeLine ∧ Nx (upd H5 D (.dK (putK kvs k z))) else Nx H3)
theorem s_dcL {ta tk tv : TE} {g : TG} {tt : TT} {vs : List Nat} (h : ta σ H fun x H1 => ∃ a, x = .ref a ∧ (∃ xs, SqL K H1 a xs) ∧ DC (Itl K a) g tt tk tv vs σ H1 Q) : tDc (iList K ta) g tt tk tv vs σ H Q := h
theorem s_dcT {ta tk tv : TE} {g : TG} {tt : TT} {vs : List Nat} (h : ta σ H fun x H1 => ∃ a, x = .ref a ∧ (∃ xs, SqT K H1 a xs) ∧ DC (Itt K a) g tt tk tv vs σ H1 Q) : tDc (iTup K ta) g tt tk tv vs σ H Q := h
/-- a dict comprehension over a walk -/
theorem dc_it {J : It} {n : Nat} {G : Hp → Prop} {Y : Nat → Hp → V → Hp → Prop} (w : Walk J n G Y) {g : TG} {tt : TT} {tk tv : TE} {vs : List Nat} {H1 : Hp} {D : Addr} {Qd : Hp → Prop} (Pv : Nat → Hp → Prop) (h0 : Pv 0 (upd H1 D (.dK []))) (hG : ∀ i H, i ≤ n → Pv i H → G H)
    (hs : ∀ i x H H', i < n → Pv i H → Y i H x H' → g x (wipe σ vs) H' fun σ2 H2 => wipe σ2 vs = wipe σ vs ∧ tt σ2 H2 fun b H3 =>
      if b = true then tk σ2 H3 fun y H4 => tv σ2 H4 fun z H5 => ∃ kvs k, y = kV k ∧ H5 D = some (.dK kvs) ∧ kvs.length < sizeLine ∧ Pv (i + 1) (upd H5 D (.dK (putK kvs k z))) else Pv (i + 1) H3) (hd : ∀ H, Pv n H → Qd H) :
    ∃ W : Nat → Nat → Hp → Prop, (∃ m, W 0 m (upd H1 D (.dK []))) ∧ ∀ i m H, W i m H →
      (J.stop i H ∧ Qd H) ∨ (J.go i H ∧ ∃ Nx : Hp → Prop, (∀ H', Nx H' → ∃ m', m' < m ∧ W (i + 1) m' H') ∧ ∀ x H', J.yld i H x H' → g x (wipe σ vs) H' fun σ2 H2 => wipe σ2 vs = wipe σ vs ∧ tt σ2 H2 fun b H3 =>
        if b = true then tk σ2 H3 fun y H4 => tv σ2 H4 fun z H5 => ∃ kvs k, y = kV k ∧ H5 D = some (.dK kvs) ∧ kvs.length < sizeLine ∧ Nx (upd H5 D (.dK (putK kvs k z))) else Nx H3) := by
  refine ⟨fun i m H => m = n - i ∧ i ≤ n ∧ Pv i H, ⟨n, by simp, Nat.zero_le _, h0⟩, ?_⟩
  rintro i m H ⟨rfl, hi, p⟩
  have q := hG i H hi p
  by_cases hlt : i < n
  · exact .inr ⟨w.goes i H hlt q, Pv (i + 1), fun H' p' => ⟨n - (i + 1), by omega, rfl, hlt, p'⟩, fun x H' y => hs i x H H' hlt p (w.yields i H x H' hlt q y)⟩
  · have e : i = n := by omega
    subst e
    exact .inl ⟨w.stops H q, hd H p⟩
/-- over names that are all unlike: the dict of them, in their order; each value may be told with its heap -/
theorem dcN {J : It} {ns : List Str} {G : Hp → Prop} (w : Walk J ns.length G (YAt (ns.map V.str))) (hG : ∀ H1, Ex H H1 → G H1) {j : Nat} {tt : TT} {tk tv : TE} {vs : List Nat} (b : Str → Bool) (f : Str → V) (hnd : ns.Nodup) (hz : ns.length < sizeLine) (hw : ∀ x, wipe ((wipe σ vs).set j (some x)) vs = wipe σ vs)
    (ht : ∀ (n : Str) (H1 : Hp) (R : Bool → Hp → Prop), n ∈ ns → Ex H H1 → R (b n) H1 → tt ((wipe σ vs).set j (some (.str n))) H1 R)
    (hk : ∀ (n : Str) (H1 : Hp) (R : VK), n ∈ ns → R (.str n) H1 → tk ((wipe σ vs).set j (some (.str n))) H1 R)
    (hv : ∀ (n : Str) (H1 : Hp) (R : VK), n ∈ ns → b n = true → Ex H H1 → (∀ H2, Ex H1 H2 → R (f n) H2) → tv ((wipe σ vs).set j (some (.str n))) H1 R)
    (k : ∀ D H2, H D = none → Ex H H2 → H2 D = some (.dK ((ns.filter b).map fun n => ((Sum.inr n : Key), f n))) → Q (.ref D) H2) : DC J (gName j) tt tk tv vs σ H Q := by
  intro D hD
  refine dc_it w (fun i H1 => Ex H H1 ∧ H1 D = some (.dK (((ns.take i).filter b).map fun n => ((Sum.inr n : Key), f n)))) ⟨ex_new hD, by rw [upd_same]; rfl⟩ (fun _ H1 _ p => hG H1 p.1) ?_ ?_
  · rintro i x H1 H2 hi ⟨e1, e2⟩ ⟨rfl, hx⟩
    obtain ⟨n, hn, rfl⟩ : ∃ n, ns[i]? = some n ∧ x = V.str n := by
      rw [List.getElem?_map] at hx
      cases h : ns[i]? with
      | none => rw [h] at hx; cases hx
      | some n => rw [h] at hx; exact ⟨n, rfl, (Option.some.inj hx).symm⟩
    have hm := List.mem_of_getElem? hn
    have htk : ns.take (i + 1) = ns.take i ++ [n] := by rw [List.take_add_one, hn]; rfl
    have hnew : n ∉ ns.take i := by
      have h1 : (ns.take (i + 1)).Nodup := hnd.sublist (List.take_sublist _ _)
      rw [htk, List.nodup_append] at h1
      exact fun z => h1.2.2 n z n (by simp) rfl
    show wipe _ vs = wipe σ vs ∧ _
    refine ⟨hw _, ht n H2 _ hm e1 ?_⟩
    cases hb : b n with
    | true =>
      refine iteT (hk n H2 _ hm (hv n H2 _ hm hb e1 fun H3 e3 => ⟨_, Sum.inr n, rfl, e3 _ _ e2, ?_, fun c oo hc => ?_, ?_⟩))
      · rw [List.length_map]
        exact Nat.lt_of_le_of_lt (Nat.le_trans (List.length_filter_le _ _) (by rw [List.length_take]; omega)) hz
      · rw [upd_ne (ne_of_none hc hD)]; exact e3 _ _ (e1 _ _ hc)
      · rw [upd_same, htk, List.filter_append, List.map_append]
        have hno : valV (((ns.take i).filter b).map fun n => ((Sum.inr n : Key), f n)) (Sum.inr n) = none := by
          cases hv : valV (((ns.take i).filter b).map fun n => ((Sum.inr n : Key), f n)) (Sum.inr n) with
          | none => rfl
          | some v =>
            have := valV_in hv
            rw [List.map_map] at this
            obtain ⟨m, hm1, hm2⟩ := List.mem_map.mp this
            have : m = n := Sum.inr.inj hm2
            exact absurd (List.mem_filter.mp (this ▸ hm1)).1 hnew
        rw [putK_new _ hno]
        simp [hb]
    | false =>
      refine iteF ⟨e1, ?_⟩
      rw [htk, List.filter_append]
      simpa [hb] using e2
  · rintro H1 ⟨e1, e2⟩
    rw [List.take_length] at e2
    exact k _ _ hD e1 e2
theorem walkLN {a : Addr} {ns : List Str} : Walk (Itl K a) ns.length (fun H => SqL K H a (ns.map V.str)) (YAt (ns.map V.str)) := by
  have := walk_list (K := K) (a := a) (xs := ns.map V.str)
  rwa [List.length_map] at this
end
end L3
end
section
local macro_rules | `(tactic| tm_at "s1") => `(tactic| first
  | with_reducible first
    | refine L3.s_seq ?_ | refine L3.s_asg ?_ | refine L3.s_op ?_ | refine L3.s_c ?_ | refine L3.s_cb ?_ | refine L3.s_cons ?_ | refine L3.s_nil ?_ | refine L3.s_test ?_ | refine L3.s_bl ?_
    | refine L3.s_I0 ?_ | refine L3.s_and ?_ | refine L3.s_or ?_ | refine L3.s_not ?_ | refine L3.s_if ?_ | refine L3.s_next ?_ | refine L3.s_ret ?_ | refine L3.s_retN ?_ | refine L3.s_asgS ?_ | refine L3.s_drop ?_
    | refine L3.s_un ?_ | refine L3.s_U ?_ | refine L3.s_int ?_ | refine L3.s_intB ?_ | refine L3.s_abs ?_ | refine L3.s_andV ?_ | refine L3.s_orV ?_ | refine L3.s_notV ?_ | refine L3.s_ifE ?_ | refine L3.s_call ?_ | refine L3.s_lst ?_ | refine L3.s_tup ?_ | refine L3.s_tB ?_
    | refine L3.s_addI ?_ | refine L3.s_inS ?_ | refine L3.s_ninS ?_ | refine L3.s_slice ?_ | refine L3.s_part ?_ | refine L3.s_partI ?_ | refine L3.s_nopart ?_ | refine L3.s_cI ?_ | refine L3.s_cB ?_ | refine L3.s_chain ?_ | refine L3.s_bm ?_ | refine L3.s_lcS ?_ | refine L3.s_lcR ?_ | refine L3.s_strE ?_
    | refine L2.iteT ?_ | refine L2.iteF ?_ | refine L3.iteNF ?_ | refine L3.iteNT ?_
    | refine L3.s_eqI ?_ | refine L3.s_neI ?_ | refine L3.s_eqS ?_ | refine L3.s_neS ?_
    | refine L3.s_pair ?_ | refine L3.s_pair2 ?_ | refine L3.s_fld ?_ | refine L3.s_make ?_ | refine L3.s_m1 ?_ | refine L3.s_isstr ?_
    | refine L3.s_xfV ?_ | refine L3.s_lstN ?_ | refine L3.s_callF ?_ | refine L3.s_lcL ?_ | refine L3.s_par3 ?_ | refine L3.s_trip ?_ | refine L3.s_asgT' ?_ | refine L3.s_gC ?_ | refine L3.s_gN ?_ | refine L3.s_fldG ?_ | refine L3.s_raise1 ?_ | refine L3.s_raise2 ?_ | refine L3.s_star ?_ | refine L3.s_mkCR ?_ | refine L3.s_lcZ ?_ | refine L3.s_forL ?_ | refine L3.s_forT ?_ | refine L3.s_gNm ?_ | refine L3.s_forE ?_ | refine L3.s_stC ?_ | refine L3.s_cmC ?_ | refine L3.s_forR1 ?_ | refine L3.s_lcTp ?_ | refine L3.s_forZ ?_ | refine L3.s_orT ?_
    | refine L3.s_isN ?_ | refine L3.s_isB ?_ | refine L3.s_nisN ?_ | refine L3.s_nisB ?_
  | ((with_reducible refine' L3.s_var ?e ?_); (case e => rfl))
  | ((with_reducible refine' L3.s_aug ?e ?_); (case e => rfl))
  | ((with_reducible refine' L3.s_pow ?c ?_); (case c => exact ⟨by decide, by decide, by decide⟩)))
local macro_rules | `(tactic| tm_at "s") => `(tactic| repeat tm_at "s1")
namespace K72
open PySem PySem.Spec PyProof.Rows L2 L3 LamX RZ
def topS (i : Nat) : Stmt := PySem.Challenge.pw_latechunks_k72_judging_batches_refused.main.body.getD i (.Pass ⟨0, 0, 0, 0⟩)
structure TxtB (K : PySem.W.Frag) (mg : Str → Option Value) : Prop where
  b_isinstance : mg "isinstance" = none
  b_int : mg "int" = none
  b_bool : mg "bool" = none
abbrev s_is_integer : Stmt := topS 6
theorem sc_is_integer : FnScope ["value"] ["value"] (defScope s_is_integer) := ⟨rfl, rfl, rfl, by decide +kernel, rfl, by decide +kernel, by decide +kernel⟩
abbrev s_is_within : Stmt := topS 7
theorem sc_is_within : FnScope ["value", "least", "most"] ["value", "least", "most"] (defScope s_is_within) := ⟨rfl, rfl, rfl, by decide +kernel, rfl, by decide +kernel, by decide +kernel⟩
section
variable {P : Program} {w : World} {K : PySem.W.Frag} {mg : Str → Option Value} {base : Heap}
theorem ok_is_integer {f : Addr} {fd : FuncData} (F : Fun K "is_integer" "is_integer" s_is_integer f fd) (T : TxtB K mg) : FnOk P w K mg base CX0 1 f fd ["value"] (spIsI2 K) := by
  refine funO F sc_is_integer (fun vs H Q E h => ?_) (fun cd A fr s H vs Q E hr h => ?_)
  · obtain ⟨x, rfl, _⟩ := h; rfl
  · obtain ⟨x, rfl, ⟨i, rfl, k⟩ | ⟨⟨b, rfl⟩ | ⟨ty, h1, h2⟩, k⟩⟩ := h
    · refine ⟨_, (pss_one (ps_ret (pe_and (pe_callB (KX.callIsi (K := K)) (by rfl) T.b_isinstance (by decide +kernel) (pa_cons (pv 0) (pa_cons (pe_bltn (v := .ty "int") (u := .type "int") (by rfl) T.b_int (by decide +kernel) rfl) pa_nil))) (pe_one (pe_not (pe_callB (KX.callIsi (K := K)) (by rfl) T.b_isinstance (by decide +kernel) (pa_cons (pv 0) (pa_cons (pe_bltn (v := .ty "bool") (u := .type "bool") (by rfl) T.b_bool (by decide +kernel) rfl) pa_nil)))))))), ?_⟩
      tm_at "s"
      refine s_isiT (.x (.base (.int i))) (b := true) (kit_ty (by decide +kernel)) ?_
      tm_at "s"
      refine s_isiT (.x (.base (.int i))) (b := false) (kit_ty (by decide +kernel)) ?_
      tm_at "s"
      exact k
    · refine ⟨_, (pss_one (ps_ret (pe_and (pe_callB (KX.callIsi (K := K)) (by rfl) T.b_isinstance (by decide +kernel) (pa_cons (pv 0) (pa_cons (pe_bltn (v := .ty "int") (u := .type "int") (by rfl) T.b_int (by decide +kernel) rfl) pa_nil))) (pe_one (pe_not (pe_callB (KX.callIsi (K := K)) (by rfl) T.b_isinstance (by decide +kernel) (pa_cons (pv 0) (pa_cons (pe_bltn (v := .ty "bool") (u := .type "bool") (by rfl) T.b_bool (by decide +kernel) rfl) pa_nil)))))))), ?_⟩
      tm_at "s"
      refine s_isiT (.x (.base (.bl b))) (b := true) (kit_ty (by decide +kernel)) ?_
      tm_at "s"
      refine s_isiT (.x (.base (.bl b))) (b := true) (kit_ty (by decide +kernel)) ?_
      tm_at "s"
      exact k
    · refine ⟨_, (pss_one (ps_ret (pe_and (pe_callB (KX.callIsi (K := K)) (by rfl) T.b_isinstance (by decide +kernel) (pa_cons (pv 0) (pa_cons (pe_bltn (v := .ty "int") (u := .type "int") (by rfl) T.b_int (by decide +kernel) rfl) pa_nil))) (pe_one (pe_not (pe_callB (KX.callIsi (K := K)) (by rfl) T.b_isinstance (by decide +kernel) (pa_cons (pv 0) (pa_cons (pe_bltn (v := .ty "bool") (u := .type "bool") (by rfl) T.b_bool (by decide +kernel) rfl) pa_nil)))))))), ?_⟩
      tm_at "s"
      refine s_isiT h1 h2 ?_
      tm_at "s"
      exact k
theorem ok_is_within {f : Addr} {fd : FuncData} (F : Fun K "is_within" "is_within" s_is_within f fd) (T : TxtB K mg) (c_is_integer : FnO P w K mg base CX0 1 "is_integer" ["value"] (spIsI2 K)) : FnOk P w K mg base CX0 2 f fd ["value", "least", "most"] (spWithin2 K) := by
  refine funO F sc_is_within (fun vs H Q E h => ?_) (fun cd A fr s H vs Q E hr h => ?_)
  · obtain ⟨x, a, b, rfl, _⟩ := h; rfl
  · obtain ⟨x, a, b, rfl, hc⟩ := h
    refine ⟨_, (pss_one (ps_ret (pe_and (pe_o c_is_integer hr pass0 (pa_cons (pv 0) pa_nil)) (pe_one (pe_chain op_le op_le (pv 1) (pv 0) (pv 2)))))), ?_⟩
    tm_at "s"
    rcases hc with ⟨i, rfl, h1, h2, k⟩ | ⟨ni | ⟨i, rfl, hn⟩, k⟩
    · refine ⟨_, rfl, .inl ⟨i, rfl, ?_⟩⟩
      tm_at "s"
      refine iteD (fun _ => ?_) (fun z => absurd h1 z)
      tm_at "s"
      rw [decide_eq_true h2]
      exact k
    · refine ⟨_, rfl, .inr ⟨ni, ?_⟩⟩
      tm_at "s"
      exact k
    · refine ⟨_, rfl, .inl ⟨i, rfl, ?_⟩⟩
      tm_at "s"
      refine iteD (fun z => ?_) (fun z => ?_)
      · tm_at "s"
        rw [decide_eq_false (fun y => hn ⟨z, y⟩)]
        exact k
      · tm_at "s"
        exact k
/-- the promise that the fractions ask of is_integer -/
theorem isI_od {K : PySem.W.Frag} (c : FnO P w K mg base CX0 1 "is_integer" ["value"] (spIsI2 K)) : FnO P w K mg base CX0 1 "is_integer" ["value"] spIsI := by
  obtain ⟨f, fd, F, h⟩ := c.ex
  refine ⟨f, fd, F.imp fun vs H Q E h => ?_, h⟩
  obtain ⟨x, e, h | ⟨t, ht, q⟩⟩ := h
  · exact ⟨x, e, .inl h⟩
  · exact ⟨x, e, .inr ⟨ht.noInt, q⟩⟩
end
end K72
end
section
local macro_rules | `(tactic| tm_at "s1") => `(tactic| first
  | with_reducible first
    | refine L3.s_seq ?_ | refine L3.s_asg ?_ | refine L3.s_op ?_ | refine L3.s_c ?_ | refine L3.s_cb ?_ | refine L3.s_cons ?_ | refine L3.s_nil ?_ | refine L3.s_test ?_ | refine L3.s_bl ?_
    | refine L3.s_I0 ?_ | refine L3.s_and ?_ | refine L3.s_or ?_ | refine L3.s_not ?_ | refine L3.s_if ?_ | refine L3.s_next ?_ | refine L3.s_ret ?_ | refine L3.s_retN ?_ | refine L3.s_asgS ?_ | refine L3.s_drop ?_
    | refine L3.s_un ?_ | refine L3.s_U ?_ | refine L3.s_int ?_ | refine L3.s_intB ?_ | refine L3.s_abs ?_ | refine L3.s_andV ?_ | refine L3.s_orV ?_ | refine L3.s_notV ?_ | refine L3.s_ifE ?_ | refine L3.s_call ?_ | refine L3.s_lst ?_ | refine L3.s_tup ?_ | refine L3.s_tB ?_
    | refine L3.s_addI ?_ | refine L3.s_inS ?_ | refine L3.s_ninS ?_ | refine L3.s_slice ?_ | refine L3.s_part ?_ | refine L3.s_partI ?_ | refine L3.s_nopart ?_ | refine L3.s_cI ?_ | refine L3.s_cB ?_ | refine L3.s_chain ?_ | refine L3.s_bm ?_ | refine L3.s_lcS ?_ | refine L3.s_lcR ?_ | refine L3.s_strE ?_
    | refine L2.iteT ?_ | refine L2.iteF ?_ | refine L3.iteNF ?_ | refine L3.iteNT ?_
    | refine L3.s_eqI ?_ | refine L3.s_neI ?_ | refine L3.s_eqS ?_ | refine L3.s_neS ?_
    | refine L3.s_pair ?_ | refine L3.s_pair2 ?_ | refine L3.s_fld ?_ | refine L3.s_make ?_ | refine L3.s_m1 ?_ | refine L3.s_isstr ?_
    | refine L3.s_xfV ?_ | refine L3.s_lstN ?_ | refine L3.s_callF ?_ | refine L3.s_lcL ?_ | refine L3.s_par3 ?_ | refine L3.s_trip ?_ | refine L3.s_asgT' ?_ | refine L3.s_gC ?_ | refine L3.s_gN ?_ | refine L3.s_fldG ?_ | refine L3.s_raise1 ?_ | refine L3.s_raise2 ?_ | refine L3.s_star ?_ | refine L3.s_mkCR ?_ | refine L3.s_lcZ ?_ | refine L3.s_forL ?_ | refine L3.s_forT ?_ | refine L3.s_gNm ?_ | refine L3.s_forE ?_ | refine L3.s_stC ?_ | refine L3.s_cmC ?_ | refine L3.s_forR1 ?_ | refine L3.s_lcTp ?_ | refine L3.s_forZ ?_ | refine L3.s_orT ?_ | refine L3.s_mt ?_ | refine L3.s_revT ?_ | refine L3.s_revL ?_ | refine L3.s_slOwn ?_ | refine L3.s_sl3 ?_ | refine L3.s_lcO ?_ | refine L3.s_stR ?_
    | refine L3.s_isN ?_ | refine L3.s_isB ?_ | refine L3.s_nisN ?_ | refine L3.s_nisB ?_
  | ((with_reducible refine' L3.s_var ?e ?_); (case e => rfl))
  | ((with_reducible refine' L3.s_aug ?e ?_); (case e => rfl))
  | ((with_reducible refine' L3.s_pow ?c ?_); (case c => exact ⟨by decide, by decide, by decide⟩)))
local macro_rules | `(tactic| tm_at "s") => `(tactic| repeat tm_at "s1")
namespace K72
open PySem PySem.NumText PySem.Spec PyProof.Rows L2 L3 LamX RZ ClX
abbrev s__law_pen : Stmt := topS 98
theorem sc__law_pen : FnScope ["_law_script"] ["_law_script"] (defScope s__law_pen) := ⟨rfl, rfl, rfl, by decide +kernel, rfl, by decide +kernel, by decide +kernel⟩
abbrev s__law_draw : Stmt := topS 99
theorem sc__law_draw : FnScope ["_law_pen_here", "_law_many", "_law_digit", "_law_spot", "_law_cell", "_law_great", "_law_mixed"] ["_law_pen_here", "_law_many"] (defScope s__law_draw) := ⟨rfl, rfl, rfl, by decide +kernel, rfl, by decide +kernel, by decide +kernel⟩
abbrev s__law_pick : Stmt := topS 100
theorem sc__law_pick : FnScope ["_law_pen_here", "_law_some"] ["_law_pen_here", "_law_some"] (defScope s__law_pick) := ⟨rfl, rfl, rfl, by decide +kernel, rfl, by decide +kernel, by decide +kernel⟩
structure TxtP (K : PySem.W.Frag) (mg : Str → Option Value) : Prop where
  b_list : mg "list" = none
  b_int : mg "int" = none
  b_len : mg "len" = none
  b_abs : mg "abs" = none
section
variable {P : Program} {w : World} {K : PySem.W.Frag} {mg : Str → Option Value} {base : Heap}
theorem ok_pen {f : Addr} {fd : FuncData} (F : Fun K "_law_pen" "_law_pen" s__law_pen f fd) (T : TxtP K mg) : FnG P w K mg base CX0 1 f fd ["_law_script"] (spPen K) := by
  refine funG F sc__law_pen (fun vs H Q E h => ?_) (fun cd A fr s H vs Q E hr hg h => ?_)
  · obtain ⟨a, ns, rfl, _⟩ := h; rfl
  · obtain ⟨a, ns, rfl, hs, hl, k⟩ := h
    refine ⟨_, pss_penNew ((pss_one (ps_ret (pe_lst (pa_cons (pe_callTy (KX.callList (K := K) rfl rfl) (by rfl) T.b_list (by decide +kernel) (pa_cons (pe_slice (KX.slU (K := K)) (pv 0) po_none (po_some pe_int)) pa_nil)) (pa_cons pe_int (pa_cons pe_int pa_nil))))))), ?_⟩
    show (tRet _ : TS) _ _ _
    tm_at "s"
    refine s_slL hs fun q H1 hq e1 h1 => ?_
    tm_at "s"
    refine s_listL (.inl (.inl h1)) fun l H2 hl2 e2 h2 => ?_
    tm_at "s"
    refine s_new (Nat.le_of_lt (small1000 (by simp))) fun p H3 hp e3 h3 => ?_
    have hH : H p = none := e1.free (e2.free hp)
    have nlp : l ≠ p := ne_of_none h2 hp
    have hHl : H l = none := e1.free hl2
    refine ⟨p, l, 0, ns.take 63, rfl, h3, ?_, nlp, k p _ hH (fun b o hb => ?_) ⟨l, ns.take 63, ?_, upd_same, ?_, nlp⟩⟩
    · rw [e3 _ _ h2]
      have : cutV (ns.map V.int) none (some 63) = (ns.take 63).map V.int := by
        unfold cutV
        show ((ns.map V.int).drop 0).take (HT.sIx (ns.map V.int).length (ns.map V.int).length (some (63 : Nat)) - 0) = _
        rw [HT.sIx_nat, List.drop_zero, List.length_map, Nat.sub_zero, List.map_take]
        rw [List.take_eq_take_iff]
        simp
      rw [this]
    · rw [upd_ne (ne_of_none hb hHl), upd_ne (ne_of_none hb hH)]
      exact e3 _ _ (e2 _ _ (e1 _ _ hb))
    · rw [upd_ne (Ne.symm nlp)]; exact upd_same
    · rw [List.length_take]; omega
theorem drawC : DrawC 32618 4101 2147483497 88782 1571 2147483423 117 35198 38 2147483647 := ⟨by decide, by decide, by decide, by decide, by decide, by decide, by decide, by decide, by decide⟩
theorem ok_draw {f : Addr} {fd : FuncData} (F : Fun K "_law_draw" "_law_draw" s__law_draw f fd) (T : TxtP K mg) : FnG P w K mg base CX0 1 f fd ["_law_pen_here", "_law_many"] spDraw := by
  refine funG F sc__law_draw (fun vs H Q E h => ?_) (fun cd A fr s H vs Q E hr hg h => ?_)
  · obtain ⟨a, n, many, rfl, _⟩ := h; rfl
  · obtain ⟨a, n, many, rfl, hm, hm2, ⟨c, ns, ha, hc, hl⟩, hn, k⟩ := h
    refine ⟨_, pss_sc c ns (pss_pen a c n (n + 1) ((pss_cons (ps_if (pt_cmpR op_gt (pe_ix (KX.ixU (K := K)) (pv 0) pe_int (fun _ _ => rfl)) pe_int (nomark _)) (pss_cons (ps_set (i := 2) sc__law_draw.nd rfl (Or.inl rfl) (pe_op op_mod (pe_callTy (KX.callInt (K := K)) (by rfl) T.b_int (by decide +kernel) (pa_cons (pe_ix (KX.ixU (K := K)) (pv 0) pe_int (fun _ _ => rfl)) pa_nil)) (pv 1)))
      (pss_cons (ps_asg (pe_op op_fdivW (pe_callTy (KX.callInt (K := K)) (by rfl) T.b_int (by decide +kernel) (pa_cons (pe_ix (KX.ixU (K := K)) (pv 0) pe_int (fun _ _ => rfl)) pa_nil)) (pv 1)) (pg_sub (pv 0) pe_int set_list))
      (pss_one (ps_ret (pv 2))))) pss_nil)
      (pss_cons (ps_set (i := 3) sc__law_draw.nd rfl (Or.inl rfl) (pe_ix (KX.ixU (K := K)) (pv 0) pe_int (fun _ _ => rfl)))
      (pss_cons (ps_asg (pe_op opAdd (pv 3) pe_int) (pg_sub (pv 0) pe_int set_list))
      (pss_cons (ps_set (i := 4) sc__law_draw.nd rfl (Or.inl rfl) (pe_op opAdd (pe_op opMul pe_int (pv 3)) pe_int))
      (Evl.pss_cut (ps_if (pt_cmpR (KX.neU (K := K) rfl hr.units) (pe_ix (KX.ixU (K := K)) (pv 0) pe_int (fun _ _ => rfl)) (pe_lst pa_nil) (nomark _)) (pss_one (ps_set (i := 4) sc__law_draw.nd rfl (Or.inl rfl) (pe_ix (KX.ixU (K := K)) (pe_ix (KX.ixU (K := K)) (pv 0) pe_int (fun _ _ => rfl)) (pe_op op_mod (pe_callTy (KX.callInt (K := K)) (by rfl) T.b_int (by decide +kernel) (pa_cons (pv 3) pa_nil)) (pe_callB (KX.callLen (K := K)) (by rfl) T.b_len (by decide +kernel) (pa_cons (pe_ix (KX.ixU (K := K)) (pv 0) pe_int (fun _ _ => rfl)) pa_nil))) (fun _ _ => rfl)))) pss_nil)
      (pss_cons (ps_if (PW.pt (pw_and (pt_cmpR op_lt (pv 3) (pe_callB (KX.callLen (K := K)) (by rfl) T.b_len (by decide +kernel) (pa_cons (pe_ix (KX.ixU (K := K)) (pv 0) pe_int (fun _ _ => rfl)) pa_nil)) (nomark _)) (pw_and1 (pt_cmpR op_ge (pe_callB call_abs (by rfl) T.b_abs (by decide +kernel) (pa_cons (pv 4) pa_nil)) (pe_op op_pow pe_int pe_int) (nomark _))))) (pss_cons (ps_set (i := 5) sc__law_draw.nd rfl (Or.inl rfl) (pe_op opAdd (pe_op opMul pe_int (pe_op op_sub (pe_callB call_abs (by rfl) T.b_abs (by decide +kernel) (pa_cons (pv 4) pa_nil)) (pe_op op_pow pe_int pe_int))) (pe_callTy (KX.callInt (K := K)) (by rfl) T.b_int (by decide +kernel) (pa_cons (pe_cmpR op_lt (pv 4) pe_int (nomark _)) pa_nil))))
      (pss_cons (ps_asg (pe_op op_fdivW (pe_callTy (KX.callInt (K := K)) (by rfl) T.b_int (by decide +kernel) (pa_cons (pv 5) pa_nil)) (pv 1)) (pg_sub (pv 0) pe_int set_list))
      (pss_one (ps_ret (pe_op op_mod (pe_callTy (KX.callInt (K := K)) (by rfl) T.b_int (by decide +kernel) (pa_cons (pv 5) pa_nil)) (pv 1)))))) pss_nil)
      (pss_cons (ps_set (i := 6) sc__law_draw.nd rfl (Or.inl rfl) (pe_op op_mod (pe_callTy (KX.callInt (K := K)) (by rfl) T.b_int (by decide +kernel) (pa_cons (pe_op op_pow (pe_op opAdd (pe_op opAdd (pe_op op_mod (pe_callTy (KX.callInt (K := K)) (by rfl) T.b_int (by decide +kernel) (pa_cons (pv 4) pa_nil)) pe_int) (pe_op opMul pe_int (pv 3))) pe_int) pe_int) pa_nil)) pe_int))
      (pss_cons (ps_set (i := 6) sc__law_draw.nd rfl (Or.inl rfl) (pe_op op_mod (pe_callTy (KX.callInt (K := K)) (by rfl) T.b_int (by decide +kernel) (pa_cons (pe_op op_pow (pe_op opAdd (pe_op opAdd (pe_op opMul (pv 6) (pe_op opAdd (pe_op opMul pe_int (pv 3)) pe_int)) (pe_op opMul (pe_op opMul pe_int (pv 3)) (pv 3))) pe_int) pe_int) pa_nil)) pe_int))
      (pss_one (ps_ret (pe_op op_mod (pe_callTy (KX.callInt (K := K)) (by rfl) T.b_int (by decide +kernel) (pa_cons (pe_op op_fdivW (pv 6) pe_int) pa_nil)) (pv 1)))))))))))))), ?_⟩
    exact rd_drawS drawC hm hm2 ha hc hn hl k
theorem ok_pick {f : Addr} {fd : FuncData} (F : Fun K "_law_pick" "_law_pick" s__law_pick f fd) (T : TxtP K mg) (c__law_draw : Fn P w K mg base CX0 1 "_law_draw" ["_law_pen_here", "_law_many"] spDraw) :
    FnG P w K mg base CX0 2 f fd ["_law_pen_here", "_law_some"] spPick := by
  refine funG F sc__law_pick (fun vs H Q E h => ?_) (fun cd A fr s H vs Q E hr hg h => ?_)
  · obtain ⟨a, l, n, xs, rfl, _⟩ := h; rfl
  · obtain ⟨a, l, n, xs, rfl, hl, hne, hlen, hp, hn, k⟩ := h
    refine ⟨_, (pss_one (ps_ret (pe_ix (KX.ixU (K := K)) (pv 1) (pe_f c__law_draw hr hg pass0 (pa_cons (pv 0) (pa_cons (pe_callB (KX.callLen (K := K)) (by rfl) T.b_len (by decide +kernel) (pa_cons (pv 1) pa_nil)) pa_nil))) (fun _ _ => rfl)))), ?_⟩
    tm_at "s"
    refine s_lenL hl ?_
    have hpos : 0 < xs.length := List.length_pos_iff.mpr hne
    refine ⟨a, n, _, rfl, by omega, ?_, hp, hn, fun d H' d0 d1 hp' hk => ?_⟩
    · rw [Int.natAbs_natCast]
      exact Nat.lt_of_le_of_lt hlen (Nat.lt_of_lt_of_le (by decide : 100000 < 2 ^ 20) (Nat.pow_le_pow_right (by decide) (by decide)))
    · have nl : l ≠ a := hp.ne hl fun c n z => by unfold PenO at z; cases z
      have hd : d.toNat < xs.length := by omega
      refine s_iL (v := xs[d.toNat]) (hk l _ nl hl) (by rw [atI_int d0 d1, List.getElem?_eq_getElem hd]) ?_
      exact k _ _ (List.getElem_mem hd) hp' hk
end
end K72
end
section
namespace L3
open PySem PySem.NumText PySem.Spec PyProof.Rows L2 LamX RZ ClX
/-- str(x), x a text or a number -/
def rStrV (K : PySem.W.Frag) : List V → Hp → VK → Prop := fun xs H Q => rStrB K xs H Q ∨ ∃ a, xs = [.str a] ∧ Q (.str a) H
theorem KX.strV {X : Cx} {K : PySem.W.Frag} (hK : X.K = K) (hc : X.calm = true) : CallR X (.type "str") (rStrV K) := by
  subst hK
  intro pins s σ H xs us Q I r h
  rcases h with h | ⟨a, rfl, q⟩
  · exact callStrB hc pins s σ H xs us Q I r h
  · obtain ⟨u, rfl, t, rfl⟩ := vals1 r
    exact PySem.P.str_of_str ⟨.str a, H, I, ⟨t, rfl⟩, q⟩
theorem s_strVT {K : PySem.W.Frag} {z : Str} {H : Hp} {Q : VK} (h : Q (.str z) H) : rStrV K [.str z] H Q := .inr ⟨z, rfl, h⟩
end L3
end
section
namespace L3
open PySem PySem.NumText PySem.Spec PyProof.Rows L2 LamX RZ
def wordsV : List V := [.str "cost", .str "fee", .str "none", .str "order", .str "ready", .str "self", .str "chunks", .str "crew", .str "late", .str "at"]
abbrev signsT : Str := "abcdefghijklmnopqrstuvwxyz"
def nameB (z : Str) : Bool := (decide (1 ≤ (z.length : Int)) && decide ((z.length : Int) ≤ 8)) && (!inV (.str z) wordsV && z.cps.toList.all fun c => decide (c ∈ signsT.cps.toList))
theorem nameB_len {z : Str} (h : nameB z = true) : z.length ≤ 8 := by
  unfold nameB at h
  rw [Bool.and_eq_true, Bool.and_eq_true] at h
  have := of_decide_eq_true h.1.2
  omega
/-- no text -/
def NS (K : PySem.W.Frag) (H : Hp) (x : V) : Prop := ∃ ty, TyA K H x ty ∧ PySem.W.kitOne K ty (.type "str") = some false
def spIsNm (K : PySem.W.Frag) : Sp := fun vs H Q _ => ∃ x, vs = [x] ∧ ((∃ z, x = .str z ∧ z.length ≤ 100000 ∧ ∀ H', Ex H H' → Q (.bl (nameB z)) H') ∨ (NS K H x ∧ Q (.bl false) H))
theorem map_blC {α : Type} (f : α → Bool) (l : List α) : (l.map fun c => V.bl (f c)) = (l.map f).map V.bl := by rw [List.map_map]; rfl
theorem all_mapC {α : Type} (f : α → Bool) (l : List α) : (l.map f).all id = l.all f := by rw [List.all_map]; rfl
theorem filt_trueC {α : Type} (l : List α) : l.filter (fun _ => true) = l := List.filter_eq_self.mpr fun _ _ => rfl
abbrev wI (p : Str × Int) : Key × V := (Sum.inr p.1, .int p.2)
def sumW (ws : List (Str × Int)) : Int := (ws.map (·.2)).sum
def minW : List (Str × Int) → Int
  | [] => 0
  | [p] => p.2
  | p :: q :: r => min p.2 (minW (q :: r))
def maxW : List (Str × Int) → Int
  | [] => 0
  | [p] => p.2
  | p :: q :: r => max p.2 (maxW (q :: r))
theorem minW_is : ∀ {ws : List (Str × Int)} {m : Int}, m ∈ ws.map (·.2) → (∀ y ∈ ws.map (·.2), m ≤ y) → minW ws = m
  | [], _, h, _ => by cases h
  | [p], m, h, k => by
    simp at h
    exact h.symm
  | p :: q :: r, m, h, k => by
    have kp := k p.2 (by simp)
    show min p.2 (minW (q :: r)) = m
    by_cases hm : m ∈ (q :: r).map (·.2)
    · rw [minW_is hm fun y hy => k y (List.mem_cons_of_mem _ hy)]
      omega
    · have e : m = p.2 := by
        rcases List.mem_cons.mp h with e | e
        · exact e
        · exact absurd e hm
      subst e
      have hx : minW (q :: r) ∈ (q :: r).map (·.2) := by
        have : ∀ l : List (Str × Int), l ≠ [] → minW l ∈ l.map (·.2) := by
          intro l
          induction l with
          | nil => intro z; exact absurd rfl z
          | cons a l ih =>
            intro _
            cases l with
            | nil => exact List.mem_cons_self ..
            | cons b l =>
              have := ih (by simp)
              show min a.2 (minW (b :: l)) ∈ _
              rcases Int.le_total a.2 (minW (b :: l)) with c | c
              · rw [Int.min_eq_left c]; exact List.mem_cons_self ..
              · rw [Int.min_eq_right c]; exact List.mem_cons_of_mem _ this
        exact this _ (by simp)
      have := k _ (List.mem_cons_of_mem _ hx)
      omega
theorem maxW_is : ∀ {ws : List (Str × Int)} {m : Int}, m ∈ ws.map (·.2) → (∀ y ∈ ws.map (·.2), y ≤ m) → maxW ws = m
  | [], _, h, _ => by cases h
  | [p], m, h, k => by
    simp at h
    exact h.symm
  | p :: q :: r, m, h, k => by
    have kp := k p.2 (by simp)
    show max p.2 (maxW (q :: r)) = m
    by_cases hm : m ∈ (q :: r).map (·.2)
    · rw [maxW_is hm fun y hy => k y (List.mem_cons_of_mem _ hy)]
      omega
    · have e : m = p.2 := by
        rcases List.mem_cons.mp h with e | e
        · exact e
        · exact absurd e hm
      subst e
      have hx : maxW (q :: r) ∈ (q :: r).map (·.2) := by
        have : ∀ l : List (Str × Int), l ≠ [] → maxW l ∈ l.map (·.2) := by
          intro l
          induction l with
          | nil => intro z; exact absurd rfl z
          | cons a l ih =>
            intro _
            cases l with
            | nil => exact List.mem_cons_self ..
            | cons b l =>
              have := ih (by simp)
              show max a.2 (maxW (b :: l)) ∈ _
              rcases Int.le_total a.2 (maxW (b :: l)) with c | c
              · rw [Int.max_eq_right c]; exact List.mem_cons_of_mem _ this
              · rw [Int.max_eq_left c]; exact List.mem_cons_self ..
        exact this _ (by simp)
      have := k _ (List.mem_cons_of_mem _ hx)
      omega
theorem minW_mem : ∀ {ws : List (Str × Int)}, ws ≠ [] → minW ws ∈ ws.map (·.2)
  | [], h => absurd rfl h
  | [p], _ => List.mem_cons_self ..
  | a :: b :: l, _ => by
    have := minW_mem (ws := b :: l) (by simp)
    show min a.2 (minW (b :: l)) ∈ _
    rcases Int.le_total a.2 (minW (b :: l)) with c | c
    · rw [Int.min_eq_left c]; exact List.mem_cons_self ..
    · rw [Int.min_eq_right c]; exact List.mem_cons_of_mem _ this
theorem maxW_mem : ∀ {ws : List (Str × Int)}, ws ≠ [] → maxW ws ∈ ws.map (·.2)
  | [], h => absurd rfl h
  | [p], _ => List.mem_cons_self ..
  | a :: b :: l, _ => by
    have := maxW_mem (ws := b :: l) (by simp)
    show max a.2 (maxW (b :: l)) ∈ _
    rcases Int.le_total a.2 (maxW (b :: l)) with c | c
    · rw [Int.max_eq_right c]; exact List.mem_cons_of_mem _ this
    · rw [Int.max_eq_left c]; exact List.mem_cons_self ..
/-- the first name with this speed -/
def firstW (ws : List (Str × Int)) (m : Int) : Str := match ws.find? (fun p => p.2 == m) with
  | some p => p.1
  | none => ""
def slowW (ws : List (Str × Int)) : Str := firstW ws (minW ws)
def fastW (ws : List (Str × Int)) : Str := firstW ws (maxW ws)
theorem firstW_filter {ws : List (Str × Int)} {m : Int} (h : m ∈ ws.map (·.2)) : ∃ r, (ws.filter fun p => p.2 == m).map (·.1) = firstW ws m :: r := by
  unfold firstW
  induction ws with
  | nil => cases h
  | cons p ws ih =>
    by_cases e : (p.2 == m) = true
    · rw [List.filter_cons_of_pos (p := fun p : Str × Int => p.2 == m) e, List.find?_cons_of_pos (p := fun p : Str × Int => p.2 == m) e]
      exact ⟨_, rfl⟩
    · rw [List.filter_cons_of_neg (p := fun p : Str × Int => p.2 == m) e, List.find?_cons_of_neg (p := fun p : Str × Int => p.2 == m) e]
      refine ih ?_
      rcases List.mem_cons.mp h with z | z
      · rw [z] at e; simp at e
      · exact z
/-- the speed of the first name with it, in a list of unlike names -/
theorem firstW_mem {ws : List (Str × Int)} {m : Int} (h : m ∈ ws.map (·.2)) : (firstW ws m, m) ∈ ws := by
  unfold firstW
  cases e : ws.find? (fun p => p.2 == m) with
  | none =>
    obtain ⟨p, hp, rfl⟩ := List.mem_map.mp h
    have := List.find?_eq_none.mp e p hp
    simp at this
  | some p =>
    have h1 := List.find?_some e
    have h2 := List.mem_of_find?_eq_some e
    have e3 : p.2 = m := by simpa using h1
    rw [← e3]
    exact h2
theorem valV_mem : ∀ {ws : List (Str × Int)} {n : Str} {i : Int}, (ws.map (·.1)).Nodup → (n, i) ∈ ws → valV (ws.map wI) (Sum.inr n) = some (.int i)
  | p :: r, n, i, hn, h => by
    have hn' : p.1 ∉ r.map (·.1) ∧ (r.map (·.1)).Nodup := List.nodup_cons.mp hn
    rw [List.map_cons]
    rcases List.mem_cons.mp h with e | e
    · rw [← e]; exact valV_pos rfl
    · rw [valV_neg fun z => hn'.1 (by rw [show p.1 = n from Sum.inr.inj z]; exact List.mem_map_of_mem e)]
      exact valV_mem hn'.2 e
/-- what a crew can be made of -/
structure OkW (ws : List (Str × Int)) : Prop where
  ne : ws ≠ []
  le : ws.length ≤ 8
  nm : ∀ p ∈ ws, nameB p.1 = true
  sp : ∀ p ∈ ws, 1 ≤ p.2 ∧ p.2 ≤ 60
  nd : (ws.map (·.1)).Nodup
theorem OkW.srt {ws : List (Str × Int)} (h : OkW ws) : OkW (srtW ws) where
  ne := fun z => h.ne (List.eq_nil_of_length_eq_zero (by rw [← srtW_len ws, z]; rfl))
  le := by rw [srtW_len]; exact h.le
  nm := fun p hp => h.nm p (srtW_mem.mp hp)
  sp := fun p hp => h.sp p (srtW_mem.mp hp)
  nd := ((srtW_perm ws).map (·.1)).nodup_iff.mpr h.nd
def cwF (d t : Addr) (ws : List (Str × Int)) : List (Str × V) := [("own_speeds", .ref d), ("workers", .ref t), ("speed", .int (sumW ws)), ("slowest", .str (slowW ws)), ("fastest", .str (fastW ws))]
def namesV (ws : List (Str × Int)) : List V := (ws.map (·.1)).map V.str
/-- a crew: its pairs, in order of the names -/
def Cw (C : Addr) (H : Hp) (p : Addr) (ws : List (Str × Int)) : Prop := ∃ dx d t, H p = some (.ins C dx (cwF d t ws)) ∧ H d = some (.dK (ws.map wI)) ∧ H t = some (.tup (namesV ws))
theorem Cw.exN {C : Addr} {H H' : Hp} {p : Addr} {ws : List (Str × Int)} (h : Cw C H p ws) (e : ExtN H H') : Cw C H' p ws := by
  obtain ⟨dx, d, t, h1, h2, h3⟩ := h
  exact ⟨dx, d, t, e _ _ h1 (fun _ z => nomatch z), e _ _ h2 (fun _ z => nomatch z), e _ _ h3 (fun _ z => nomatch z)⟩
theorem Cw.ex {C : Addr} {H H' : Hp} {p : Addr} {ws : List (Str × Int)} (h : Cw C H p ws) (e : Ex H H') : Cw C H' p ws := h.exN e.n
/-- a name's speed -/
def spV (ws : List (Str × Int)) : V → V
  | .str n => (valV (ws.map wI) (Sum.inr n)).getD .non
  | _ => .non
theorem spV_of {ws : List (Str × Int)} {n : Str} {i : Int} (nd : (ws.map (·.1)).Nodup) (h : (n, i) ∈ ws) : spV ws (.str n) = .int i := by
  show (valV (ws.map wI) (Sum.inr n)).getD .non = _
  rw [valV_mem nd h]; rfl
theorem spV_map {ws : List (Str × Int)} (nd : (ws.map (·.1)).Nodup) : (namesV (srtW ws)).map (spV ws) = ((srtW ws).map (·.2)).map V.int := by
  unfold namesV
  rw [List.map_map, List.map_map, List.map_map]
  exact List.map_congr_left fun q hq => spV_of nd (i := q.2) (srtW_mem.mp hq)
theorem namesV_mem {ws : List (Str × Int)} {x : V} (h : x ∈ namesV (srtW ws)) : ∃ n i, x = .str n ∧ (n, i) ∈ ws := by
  unfold namesV at h
  rw [List.map_map] at h
  obtain ⟨q, hq, e⟩ := List.mem_map.mp h
  exact ⟨q.1, q.2, e.symm, srtW_mem.mp hq⟩
def spIn (K : PySem.W.Frag) (m : Int) : Sp := fun vs H Q _ => ∃ x, vs = [x] ∧ ((∃ i, x = .int i ∧ 1 ≤ i ∧ i ≤ m ∧ Q (.bl true) H) ∨ (OutS K H x 1 m ∧ Q (.bl false) H))
def spNeedSpeed (K : PySem.W.Frag) (CS : Addr) : Sp := fun vs H Q E => ∃ x, vs = [x] ∧ ((∃ i, x = .int i ∧ 1 ≤ i ∧ i ≤ 60 ∧ Q .non H) ∨ (OutS K H x 1 60 ∧ Rz CS "value" x H E))
/-- names at the list, speeds in the dict -/
def spNeedSps (K : PySem.W.Frag) (CN CS : Addr) : Sp := fun vs H Q E => ∃ d l kvs ns, vs = [.ref d, .ref l] ∧ H d = some (.dK kvs) ∧ H l = some (.lst (ns.map V.str)) ∧ ns.length ≤ 1000 ∧ (∀ n ∈ ns, n.length ≤ 100000) ∧
  (((∀ n ∈ ns, nameB n = true) ∧ (∀ n ∈ ns, ∃ i, valV kvs (Sum.inr n) = some (.int i) ∧ 1 ≤ i ∧ i ≤ 60) ∧ ∀ H', Ex H H' → Q .non H') ∨
   (∃ as b cs, ns = as ++ b :: cs ∧ (∀ n ∈ as, nameB n = true) ∧ nameB b = false ∧ Rz CN "value" (.str b) H E) ∨
   ((∀ n ∈ ns, nameB n = true) ∧ ∃ as b cs v, ns = as ++ b :: cs ∧ (∀ n ∈ as, ∃ i, valV kvs (Sum.inr n) = some (.int i) ∧ 1 ≤ i ∧ i ≤ 60) ∧ valV kvs (Sum.inr b) = some v ∧ (∀ H', Ex H H' → OutS K H' v 1 60) ∧ Rz CS "value" v H E))
def spFirst : Sp := fun vs H Q _ => ∃ d ws m, vs = [.ref d, .int m] ∧ H d = some (.dK (ws.map wI)) ∧ (ws.map (·.1)).Nodup ∧ ws.length ≤ 1000 ∧ m ∈ ws.map (·.2) ∧ ∀ H', Ex H H' → Q (.str (firstW ws m)) H'
/-- Crew(**speeds) of names and speeds that can be -/
def spCrew (C CC CM : Addr) : Sp := fun vs H Q E => ∃ p dx d ws, vs = [.ref p, .ref d] ∧ H p = some (.ins C dx []) ∧ H d = some (.dK (ws.map wI)) ∧ ws.length < 64 ∧ (ws.map (·.1)).Nodup ∧ (∀ p ∈ ws, nameB p.1 = true) ∧ (∀ p ∈ ws, 1 ≤ p.2 ∧ p.2 ≤ 60) ∧
  ((ws = [] ∧ Rz CC "part" (.str "empty") H E) ∨ (8 < ws.length ∧ Rz2 CM "what" "most" (.str "workers") (.int 8) H E) ∨
   (OkW ws ∧ ∀ H', (∀ c o, c ≠ p → H c = some o → H' c = some o) → Cw C H' p (srtW ws) → Q .non H'))
section
variable {σ : L2.St} {H : Hp} {Q : VK} {K : PySem.W.Frag}
theorem s_dget {td ty : TE} (h : td σ H fun x H1 => ty σ H1 fun y H2 => ∃ a v, x = .ref a ∧ DGet H2 a y (some v) ∧ Q v H2) : tDGet td ty σ H Q := h
theorem s_dgS {a : Addr} {kvs : List (Key × V)} {n : Str} {v : V} {R : V → Prop} (hd : Rd H a (.dK kvs)) (e : valV kvs (Sum.inr n) = some v) (h : R v) : ∃ a' v', V.ref a = .ref a' ∧ DGet H a' (.str n) (some v') ∧ R v' := ⟨a, v, rfl, .inl ⟨kvs, Sum.inr n, hd, rfl, e.symm⟩, h⟩
theorem s_din {td ty : TE} (h : ty σ H fun y H1 => td σ H1 fun x H2 => ∃ a o, x = .ref a ∧ DGet H2 a y o ∧ Q (.bl o.isSome) H2) : tDIn ty td σ H Q := h
theorem s_dnin {td ty : TE} (h : ty σ H fun y H1 => td σ H1 fun x H2 => ∃ a o, x = .ref a ∧ DGet H2 a y o ∧ Q (.bl (!o.isSome)) H2) : tDNotIn ty td σ H Q := h
theorem s_diS {a : Addr} {kvs : List (Key × V)} {n : Str} {R : Option V → Prop} (hd : Rd H a (.dK kvs)) (h : R (valV kvs (Sum.inr n))) : ∃ a' o, V.ref a = .ref a' ∧ DGet H a' (.str n) o ∧ R o := ⟨a, _, rfl, .inl ⟨kvs, Sum.inr n, hd, rfl, rfl⟩, h⟩
theorem s_mkKV {C : Addr} {ns : List Str} {sp : Sp} {E : XK} {ks : TA} (h : ks σ H fun vs H1 => MkKw C sp E (ns.zip vs) H1 Q) : tMkKV C ns sp E ks σ H Q := h
/-- C(a = .., b = ..), what the making asks -/
theorem s_mkCw {C CC CM : Addr} {E : XK} {ws : List (Str × Int)} (ok : OkW ws) (k : ∀ q H', H q = none → Ex H H' → Cw C H' q (srtW ws) → Q (.ref q) H') : MkKw C (spCrew C CC CM) E (ws.map fun p => (p.1, V.int p.2)) H Q := by
  intro x dx d hx hdx hne hd hdx' hdd
  have e : (ws.map fun p => (p.1, V.int p.2)).map kI = ws.map wI := by rw [List.map_map]; rfl
  refine ⟨x, dx, d, ws, rfl, by rw [upd_ne (Ne.symm hdx'), upd_same], by rw [upd_same, e], ?_, ok.nd, ok.nm, ok.sp, .inr (.inr ⟨ok, fun H' kp hc => ⟨rfl, k x H' hx (fun c o hco => ?_) hc⟩⟩)⟩
  · have := ok.le; omega
  · have h1 := ne_of_none hco hx
    have h2 := ne_of_none hco hd
    have h3 := ne_of_none hco hdx
    exact kp c o h1 (by rw [upd_ne h2, upd_ne h1, upd_ne h3]; exact hco)
end
section
variable {X : Cx} {C : Addr} {k j : Nat} {E : XK}
theorem opNotInOwnP {sp : Sp} {ps : List Str} (B : Me X.prog X.w X.K X.mg X.base C "__contains__" k ps sp) (hl : ps.length = 2) (hr : Room j X.A) (hx : Passes (L2.CX X.prog X.w) X E) (hk : k ≤ j := by decide) : OpR X (compareOp .NotIn) (rInOwn C sp E true) := by
  obtain ⟨f, fd, h1, h2, G, b⟩ := B.ex
  intro pins s σ H x y v u Q I rx ry h
  obtain ⟨a, dx, fs, rfl, ea, q⟩ := h
  obtain rfl : u = Value.ref a := ry
  obtain ⟨od, J⟩ := ins_inst I.hok ea
  obtain ⟨m, Fr⟩ := I.fr
  refine PySem.W.notIn_K Fr I.mod.kin J h1 h2 ?_
  refine wpAny_call (codeAny_mono (G.run X.A X.stack s H ⟨[.ref a, v], []⟩ [.ref a, v] [.ref a, x] (fun z H' => ∃ c, z = .bl c ∧ Q (.bl (c ^^ true)) H') E (hr.mono hk) I.env0 (by have := b s [.ref a, v] I.kIn hl.symm; rw [List.append_nil] at this; exact this) (.cons (show RelV (.ref a) (.ref a) from rfl) (.cons rx .nil)) q) fun r s' z => ?_)
  match r, z with
  | .error e, z => exact hx pins σ H s e s' I z
  | .ok (.ret u), z =>
    obtain ⟨v', H', I', r', c, rfl, q'⟩ := I.after z
    cases (show u = Value.bool c from r')
    refine wpAny_of_eq (a := c) (by first | rfl | (unfold truthy; rfl)) ?_
    rw [Bool.xor_true] at q'
    exact ⟨.bl (!c), H', I', rfl, q'⟩
end
def spContW (K : PySem.W.Frag) (C : Addr) : Sp := fun vs H Q _ => ∃ p y ws, vs = [.ref p, y] ∧ Cw C H p ws ∧ ((∃ n, y = .str n ∧ Q (.bl (valV (ws.map wI) (Sum.inr n)).isSome) H) ∨ (NS K H y ∧ Q (.bl false) H))
def spGetW (K : PySem.W.Frag) (C CO : Addr) : Sp := fun vs H Q E => ∃ p y ws, vs = [.ref p, y] ∧ Cw C H p ws ∧ ((∃ n i, y = .str n ∧ valV (ws.map wI) (Sum.inr n) = some (.int i) ∧ Q (.int i) H) ∨ ((NS K H y ∨ ∃ n, y = .str n ∧ valV (ws.map wI) (Sum.inr n) = none) ∧ Rz CO "name" y H E))
end L3
end
section
local macro_rules | `(tactic| tm_at "s1") => `(tactic| first
  | with_reducible first
    | refine L3.s_seq ?_ | refine L3.s_asg ?_ | refine L3.s_op ?_ | refine L3.s_c ?_ | refine L3.s_cb ?_ | refine L3.s_cons ?_ | refine L3.s_nil ?_ | refine L3.s_test ?_ | refine L3.s_bl ?_
    | refine L3.s_I0 ?_ | refine L3.s_and ?_ | refine L3.s_or ?_ | refine L3.s_not ?_ | refine L3.s_if ?_ | refine L3.s_next ?_ | refine L3.s_ret ?_ | refine L3.s_retN ?_ | refine L3.s_asgS ?_ | refine L3.s_drop ?_
    | refine L3.s_un ?_ | refine L3.s_U ?_ | refine L3.s_int ?_ | refine L3.s_intB ?_ | refine L3.s_abs ?_ | refine L3.s_andV ?_ | refine L3.s_orV ?_ | refine L3.s_notV ?_ | refine L3.s_ifE ?_ | refine L3.s_call ?_ | refine L3.s_lst ?_ | refine L3.s_tup ?_ | refine L3.s_tB ?_
    | refine L3.s_addI ?_ | refine L3.s_inS ?_ | refine L3.s_ninS ?_ | refine L3.s_slice ?_ | refine L3.s_part ?_ | refine L3.s_partI ?_ | refine L3.s_nopart ?_ | refine L3.s_cI ?_ | refine L3.s_cB ?_ | refine L3.s_chain ?_ | refine L3.s_bm ?_ | refine L3.s_lcS ?_ | refine L3.s_lcR ?_ | refine L3.s_strE ?_
    | refine L2.iteT ?_ | refine L2.iteF ?_ | refine L3.iteNF ?_ | refine L3.iteNT ?_
    | refine L3.s_eqI ?_ | refine L3.s_neI ?_ | refine L3.s_eqS ?_ | refine L3.s_neS ?_
    | refine L3.s_pair ?_ | refine L3.s_pair2 ?_ | refine L3.s_fld ?_ | refine L3.s_make ?_ | refine L3.s_m1 ?_ | refine L3.s_isstr ?_
    | refine L3.s_xfV ?_ | refine L3.s_lstN ?_ | refine L3.s_callF ?_ | refine L3.s_lcL ?_ | refine L3.s_par3 ?_ | refine L3.s_trip ?_ | refine L3.s_asgT' ?_ | refine L3.s_gC ?_ | refine L3.s_gN ?_ | refine L3.s_fldG ?_ | refine L3.s_raise1 ?_ | refine L3.s_raise2 ?_ | refine L3.s_star ?_ | refine L3.s_mkCR ?_ | refine L3.s_lcZ ?_ | refine L3.s_forL ?_ | refine L3.s_forT ?_ | refine L3.s_gNm ?_ | refine L3.s_forE ?_ | refine L3.s_stC ?_ | refine L3.s_cmC ?_ | refine L3.s_forR1 ?_ | refine L3.s_lcTp ?_ | refine L3.s_forZ ?_ | refine L3.s_orT ?_ | refine L3.s_mt ?_ | refine L3.s_revT ?_ | refine L3.s_revL ?_ | refine L3.s_slOwn ?_ | refine L3.s_sl3 ?_ | refine L3.s_lcO ?_ | refine L3.s_stR ?_
    | refine L3.s_dcL ?_ | refine L3.s_dcT ?_ | refine L3.s_dget ?_ | refine L3.s_forET ?_ | refine L3.s_din ?_ | refine L3.s_dnin ?_ | refine L3.s_mkKV ?_
    | refine L3.s_isN ?_ | refine L3.s_isB ?_ | refine L3.s_nisN ?_ | refine L3.s_nisB ?_
  | ((with_reducible refine' L3.s_var ?e ?_); (case e => rfl))
  | ((with_reducible refine' L3.s_aug ?e ?_); (case e => rfl))
  | ((with_reducible refine' L3.s_pow ?c ?_); (case c => exact ⟨by decide, by decide, by decide⟩)))
local macro_rules | `(tactic| tm_at "s") => `(tactic| repeat tm_at "s1")
namespace K72
open PySem PySem.Spec PyProof.Rows L2 L3 LamX RZ
structure TxtW (K : PySem.W.Frag) (mg : Str → Option Value) (C CN CS CC CM CO CL aW : Addr) : Prop where
  b_isinstance : mg "isinstance" = none
  b_int : mg "int" = none
  b_bool : mg "bool" = none
  b_len : mg "len" = none
  b_str : mg "str" = none
  b_list : mg "list" = none
  b_dict : mg "dict" = none
  b_tuple : mg "tuple" = none
  b_sorted : mg "sorted" = none
  b_sum : mg "sum" = none
  b_min : mg "min" = none
  b_max : mg "max" = none
  b_all : mg "all" = none
  b_any : mg "any" = none
  c : ClT K mg "Crew" C
  n : ErT K mg "BadName" CN CL ["value"]
  s : ErT K mg "BadSpeed" CS CL ["value"]
  r : ErT K mg "BadCrew" CC CL ["part"]
  m : ErT K mg "TooMany" CM CL ["what", "most"]
  o : ErT K mg "NoWorker" CO CL ["name"]
  nO : NoAttr K C "own_speeds"
  nW : NoAttr K C "workers"
  nS : NoAttr K C "speed"
  nL : NoAttr K C "slowest"
  nF : NoAttr K C "fastest"
  g_WORDS : ∃ u, mg "WORDS" = some u ∧ RelV (.ref aW) u
  words : ∀ H, SqT K H aW wordsV
  g_SIGNS : ∃ u, mg "SIGNS" = some u ∧ RelV (.str signsT) u
  g_MOST_SPEED : ∃ u, mg "MOST_SPEED" = some u ∧ RelV (.int 60) u
  g_MOST_WORKERS : ∃ u, mg "MOST_WORKERS" = some u ∧ RelV (.int 8) u
section
variable {K : PySem.W.Frag} {mg : Str → Option Value} {C CN CS CC CM CO CL aW : Addr}
theorem TxtW.g_Crew (T : TxtW K mg C CN CS CC CM CO CL aW) : ∃ u, mg "Crew" = some u ∧ RelV (.ref C) u := T.c.g
end
abbrev s_is_name : Stmt := topS 9
abbrev names_is_name : List Str := ["value", "sign"]
theorem sc_is_name : FnScope ["value", "sign"] ["value"] (defScope s_is_name) := ⟨rfl, rfl, rfl, by decide +kernel, rfl, by decide +kernel, by decide +kernel⟩
abbrev s_is_speed : Stmt := topS 41
theorem sc_is_speed : FnScope ["value"] ["value"] (defScope s_is_speed) := ⟨rfl, rfl, rfl, by decide +kernel, rfl, by decide +kernel, by decide +kernel⟩
abbrev s_need_speed : Stmt := topS 42
theorem sc_need_speed : FnScope ["value"] ["value"] (defScope s_need_speed) := ⟨rfl, rfl, rfl, by decide +kernel, rfl, by decide +kernel, by decide +kernel⟩
abbrev s_need_speeds : Stmt := topS 43
theorem sc_need_speeds : FnScope ["speeds", "names", "name"] ["speeds", "names"] (defScope s_need_speeds) := ⟨rfl, rfl, rfl, by decide +kernel, rfl, by decide +kernel, by decide +kernel⟩
abbrev s_first_with : Stmt := topS 46
abbrev names_first_with : List Str := ["speeds", "speed", "name"]
theorem sc_first_with : FnScope ["speeds", "speed", "name"] ["speeds", "speed"] (defScope s_first_with) := ⟨rfl, rfl, rfl, by decide +kernel, rfl, by decide +kernel, by decide +kernel⟩
abbrev s_Crew___init__ : Stmt := inClass (topS 47) 0
abbrev names_Crew___init__ : List Str := ["self", "speeds", "names", "name"]
theorem sc_Crew___init__ : FnScope ["self", "speeds", "names", "name"] ["self", "speeds"] (defScope s_Crew___init__) := ⟨rfl, rfl, rfl, by decide +kernel, rfl, by decide +kernel, by decide +kernel⟩
abbrev s_Crew___contains__ : Stmt := inClass (topS 47) 8
theorem sc_Crew___contains__ : FnScope ["self", "name"] ["self", "name"] (defScope s_Crew___contains__) := ⟨rfl, rfl, rfl, by decide +kernel, rfl, by decide +kernel, by decide +kernel⟩
abbrev s_Crew___getitem__ : Stmt := inClass (topS 47) 7
theorem sc_Crew___getitem__ : FnScope ["self", "name"] ["self", "name"] (defScope s_Crew___getitem__) := ⟨rfl, rfl, rfl, by decide +kernel, rfl, by decide +kernel, by decide +kernel⟩
section
variable {P : Program} {w : World} {K : PySem.W.Frag} {mg : Str → Option Value} {base : Heap} {C CN CS CC CM CO CL aW : Addr}
theorem ok_is_name {f : Addr} {fd : FuncData} (F : Fun K "is_name" "is_name" s_is_name f fd) (T : TxtW K mg C CN CS CC CM CO CL aW) : FnOk P w K mg base CX0 1 f fd ["value"] (spIsNm K) := by
  refine funO F sc_is_name (fun vs H Q E h => ?_) (fun cd A fr s H vs Q E hr h => ?_)
  · obtain ⟨x, rfl, _⟩ := h; rfl
  · obtain ⟨x, rfl, hc⟩ := h
    refine ⟨_, (pss_cons (ps_if (PW.pt (pw_or (pt_not (pt_val (pe_callB (KX.callIsi (K := K)) (by rfl) T.b_isinstance (by decide +kernel) (pa_cons (pv 0) (pa_cons (pe_bltn (v := .ty "str") (u := .type "str") (by rfl) T.b_str (by decide +kernel) rfl) pa_nil))))) (pw_or (pt_not (pt_chain op_le op_le pe_int (pe_callB (KX.callLen (K := K)) (by rfl) T.b_len (by decide +kernel) (pa_cons (pv 0) pa_nil)) pe_int)) (pw_or1 (pt_cmpR (KX.opIn (K := K)) (pv 0) (C8.pe_gc (by rfl) T.g_WORDS) (by rfl)))))) (pss_one (ps_ret pe_bl)) pss_nil)
      (pss_one (ps_ret (pe_callB (KX.callAll (K := K) rfl rfl) (by rfl) T.b_all (by decide +kernel) (pa_cons (pe_lc (own := [("sign", 1)]) (g := gName 1) (tt := tYes) (by rfl) sc_is_name.nd (pi_str (pv 0)) (blkOk_by (own := [("sign", 1)]) (N := names_is_name) (sc := defScope s_is_name) (by decide +kernel)) (fun _ _ _ _ _ => pg_name (i := 1) sc_is_name.nd rfl (Or.inl rfl)) (fun _ _ _ _ _ => pts_nil) (fun _ _ _ _ _ => (pe_cmpR (KX.opIn (K := K)) (pv 1) (C8.pe_gc (by rfl) T.g_SIGNS) (by rfl)))) pa_nil))))), ?_⟩
    tm_at "s"
    rcases hc with ⟨z, rfl, hz, fin0⟩ | ⟨⟨ty, h1, h2⟩, k⟩
    · refine s_isiT (.x (.base (.str z))) (b := true) (kit_ty (by decide +kernel)) ?_
      tm_at "s"
      refine s_lenS (Nat.le_of_lt (sz100k hz)) ?_
      tm_at "s"
      have fin : ∀ b : Bool, nameB z = b → ∀ H', Ex H H' → Q (.bl b) H' := fun b e => by rw [← e]; exact fin0
      refine iteB (fun h1 => ?_) (fun h1 => ?_)
      · tm_at "s"
        refine iteB (fun h2 => ?_) (fun h2 => ?_)
        · tm_at "s"
          refine fin false ?_ H (Ex.refl H)
          unfold nameB
          have : decide ((z.length : Int) ≤ 8) = false := by simpa using h2
          rw [this, Bool.and_false, Bool.false_and]
        · tm_at "s"
          refine s_inT (T.words H) rfl (by decide +kernel) ?_
          tm_at "s"
          have h3 : decide ((z.length : Int) ≤ 8) = true := by simpa using h2
          refine iteB (fun h4 => ?_) (fun h4 => ?_)
          · tm_at "s"
            refine fin false ?_ H (Ex.refl H)
            unfold nameB
            rw [h4, Bool.not_true, Bool.false_and, Bool.and_false]
          · tm_at "s"
            refine lcStr (fun _ => true) (fun c => .bl (decide (c ∈ signsT.cps.toList))) (sz100k hz) (fun _ => rfl) (fun c H' R h => h) (fun c H' R _ h => ?_) fun q H2 hq e2 h2 => ?_
            · tm_at "s"
              exact h
            · rw [filt_trueC, map_blC] at h2
              tm_at "s"
              refine s_all h2 ?_
              refine fin _ ?_ H2 e2
              unfold nameB
              rw [h1, h3, h4, all_mapC]
              rfl
      · tm_at "s"
        refine fin false ?_ H (Ex.refl H)
        unfold nameB
        rw [h1]; rfl
    · refine s_isiT h1 h2 ?_
      tm_at "s"
      exact k
theorem ok_is_speed {f : Addr} {fd : FuncData} (F : Fun K "is_speed" "is_speed" s_is_speed f fd) (T : TxtW K mg C CN CS CC CM CO CL aW) (c_is_within : FnO P w K mg base CX0 2 "is_within" ["value", "least", "most"] (spWithin2 K)) : FnOk P w K mg base CX0 3 f fd ["value"] (spIn K 60) := by
  refine funO F sc_is_speed (fun vs H Q E h => ?_) (fun cd A fr s H vs Q E hr h => ?_)
  · obtain ⟨x, rfl, _⟩ := h; rfl
  · obtain ⟨x, rfl, hc⟩ := h
    refine ⟨_, (pss_one (ps_ret (pe_o c_is_within hr pass0 (pa_cons (pv 0) (pa_cons pe_int (pa_cons (C8.pe_gc (by rfl) T.g_MOST_SPEED) pa_nil)))))), ?_⟩
    tm_at "s"
    exact ⟨x, 1, 60, rfl, hc⟩
theorem ok_need_speed {f : Addr} {fd : FuncData} (F : Fun K "need_speed" "need_speed" s_need_speed f fd) (T : TxtW K mg C CN CS CC CM CO CL aW) (c_is_speed : FnO P w K mg base CX0 3 "is_speed" ["value"] (spIn K 60)) (e_BadSpeed : Er1 P w K mg base "BadSpeed" CS "value") : FnOk P w K mg base (L2.CX P w) 4 f fd ["value"] (spNeedSpeed K CS) := by
  refine funO F sc_need_speed (fun vs H Q E h => ?_) (fun cd A fr s H vs Q E hr h => ?_)
  · obtain ⟨x, rfl, _⟩ := h; rfl
  · obtain ⟨x, rfl, hc⟩ := h
    refine ⟨_, (pss_one (ps_if (pt_not (pt_val (pe_o c_is_speed hr pass0 (pa_cons (pv 0) pa_nil)))) (pss_one (ps_raise1 e_BadSpeed hr rfl (takes_of rfl rfl rfl rfl) (pa_cons (pv 0) pa_nil))) pss_nil)), ?_⟩
    tm_at "s"
    rcases hc with ⟨i, rfl, h1, h2, k⟩ | ⟨ho, rz⟩
    · refine ⟨_, rfl, .inl ⟨i, rfl, h1, h2, ?_⟩⟩
      tm_at "s"
      exact k
    · refine ⟨_, rfl, .inr ⟨ho, ?_⟩⟩
      tm_at "s"
      exact s_rz rz
theorem ok_need_speeds {f : Addr} {fd : FuncData} (F : Fun K "need_speeds" "need_speeds" s_need_speeds f fd) (T : TxtW K mg C CN CS CC CM CO CL aW) (c_is_name : FnO P w K mg base CX0 1 "is_name" ["value"] (spIsNm K)) (c_need_speed : FnO P w K mg base (L2.CX P w) 4 "need_speed" ["value"] (spNeedSpeed K CS)) (e_BadName : Er1 P w K mg base "BadName" CN "value") :
    FnOk P w K mg base (L2.CX P w) 5 f fd ["speeds", "names"] (spNeedSps K CN CS) := by
  refine funO F sc_need_speeds (fun vs H Q E h => ?_) (fun cd A fr s H vs Q E hr h => ?_)
  · obtain ⟨d, l, kvs, ns, rfl, _⟩ := h; rfl
  · obtain ⟨d, l, kvs, ns, rfl, hd, hl, hz, hzn, hc⟩ := h
    refine ⟨_, (pss_cons (ps_for (passes_of rfl) rfl (pi_list (pv 1)) (pg_name (i := 2) sc_need_speeds.nd rfl (Or.inl rfl)) (pss_one (ps_if (pt_not (pt_val (pe_o c_is_name hr pass0 (pa_cons (pv 2) pa_nil)))) (pss_one (ps_raise1 e_BadName hr rfl (takes_of rfl rfl rfl rfl) (pa_cons (pv 2) pa_nil))) pss_nil)))
      (pss_one (ps_for (passes_of rfl) rfl (pi_list (pv 1)) (pg_name (i := 2) sc_need_speeds.nd rfl (Or.inl rfl)) (pss_one (ps_expr (pe_o c_need_speed hr (passT (takes_of rfl rfl rfl rfl) (fun _ _ _ _ h => h)) (pa_cons (pe_dget (hu_of hr) (pv 0) (pv 2) (fun _ _ => rfl)) pa_nil))))))), ?_⟩
    tm_at "s"
    -- the first walk: names; as far as they are good
    have nm1 : ∃ (gs rest : List Str), ns = gs ++ rest ∧ (∀ n ∈ gs, nameB n = true) ∧ (rest = [] ∨ ∃ b cs, rest = b :: cs ∧ nameB b = false ∧ Rz CN "value" (.str b) H E) ∧
        (rest = [] → ((∀ n ∈ ns, ∃ i, valV kvs (Sum.inr n) = some (.int i) ∧ 1 ≤ i ∧ i ≤ 60) ∧ ∀ H', Ex H H' → Q .non H') ∨ (∃ as b cs v, ns = as ++ b :: cs ∧ (∀ n ∈ as, ∃ i, valV kvs (Sum.inr n) = some (.int i) ∧ 1 ≤ i ∧ i ≤ 60) ∧ valV kvs (Sum.inr b) = some v ∧ (∀ H', Ex H H' → OutS K H' v 1 60) ∧ Rz CS "value" v H E)) := by
      rcases hc with ⟨a1, a2, a3⟩ | ⟨as, b, cs, e, a1, a2, a3⟩ | ⟨a1, a2⟩
      · exact ⟨ns, [], by simp, a1, .inl rfl, fun _ => .inl ⟨a2, a3⟩⟩
      · exact ⟨as, b :: cs, e, a1, .inr ⟨b, cs, rfl, a2, a3⟩, fun z => by cases z⟩
      · exact ⟨ns, [], by simp, a1, .inl rfl, fun _ => .inr a2⟩
    obtain ⟨gs, rest, e, hg, hr1, h2⟩ := nm1
    refine s_fL hl (fun i σ H' => Ex H H' ∧ i ≤ gs.length ∧ ∃ v, σ = [some (.ref d), some (.ref l), v]) ⟨Ex.refl H, Nat.zero_le _, _, rfl⟩ (fun i σ H' ⟨h, _⟩ => h _ _ hl) ?_ ?_
    · rintro i x _ H' hx ⟨e1, hi, v, rfl⟩
      refine s_gNm ?_
      try dsimp only
      tm_at "s"
      obtain ⟨n, hn, rfl⟩ : ∃ n, ns[i]? = some n ∧ x = V.str n := by
        rw [List.getElem?_map] at hx
        cases h : ns[i]? with
        | none => rw [h] at hx; cases hx
        | some n => rw [h] at hx; exact ⟨n, rfl, (Option.some.inj hx).symm⟩
      refine ⟨_, rfl, .inl ⟨n, rfl, hzn n (List.mem_of_getElem? hn), fun H2 e2 => ?_⟩⟩
      rcases Nat.lt_or_ge i gs.length with c | c
      · have hn' : gs[i]? = some n := by rw [e, List.getElem?_append_left c] at hn; exact hn
        rw [hg n (List.mem_of_getElem? hn')]
        tm_at "s"
        exact ⟨e1.trans e2, c, _, rfl⟩
      · have ei : i = gs.length := by omega
        rw [e, ei, List.getElem?_append_right (Nat.le_refl _), Nat.sub_self] at hn
        rcases hr1 with rfl | ⟨b, cs, rfl, hb, rz⟩
        · cases hn
        · cases hn
          rw [hb]
          tm_at "s"
          exact s_rz (rz.ex (e1.trans e2))
    · rintro _ H' ⟨e1, hi, v, rfl⟩
      have hr0 : rest = [] := by
        rw [e, List.length_map, List.length_append] at hi
        exact List.eq_nil_of_length_eq_zero (by omega)
      subst hr0
      try dsimp only
      tm_at "s"
      have sp1 : ∃ (gs rest : List Str), ns = gs ++ rest ∧ (∀ n ∈ gs, ∃ i, valV kvs (Sum.inr n) = some (.int i) ∧ 1 ≤ i ∧ i ≤ 60) ∧ ((rest = [] ∧ ∀ H', Ex H H' → Q .non H') ∨ ∃ b cs v, rest = b :: cs ∧ valV kvs (Sum.inr b) = some v ∧ (∀ H', Ex H H' → OutS K H' v 1 60) ∧ Rz CS "value" v H E) := by
        rcases h2 rfl with ⟨a2, a3⟩ | ⟨as, b, cs, v, e, a1, a2, a3⟩
        · exact ⟨ns, [], by simp, a2, .inl ⟨rfl, a3⟩⟩
        · exact ⟨as, b :: cs, e, a1, .inr ⟨b, cs, v, rfl, a2, a3⟩⟩
      obtain ⟨gs2, rest, e', hg, hr1⟩ := sp1
      refine s_fL (e1 _ _ hl) (fun i σ H' => Ex H H' ∧ i ≤ gs2.length ∧ ∃ v, σ = [some (.ref d), some (.ref l), v]) ⟨e1, Nat.zero_le _, _, rfl⟩ (fun i σ H' ⟨h, _⟩ => h _ _ hl) ?_ ?_
      · rintro i x _ H' hx ⟨e1, hi, v, rfl⟩
        refine s_gNm ?_
        try dsimp only
        tm_at "s"
        obtain ⟨n, hn, rfl⟩ : ∃ n, ns[i]? = some n ∧ x = V.str n := by
          rw [List.getElem?_map] at hx
          cases h : ns[i]? with
          | none => rw [h] at hx; cases hx
          | some n => rw [h] at hx; exact ⟨n, rfl, (Option.some.inj hx).symm⟩
        rcases Nat.lt_or_ge i gs2.length with c | c
        · have hn' : gs2[i]? = some n := by rw [e', List.getElem?_append_left c] at hn; exact hn
          obtain ⟨j, hj, j1, j2⟩ := hg n (List.mem_of_getElem? hn')
          refine s_dgS (.inl (e1 _ _ hd)) hj ?_
          tm_at "s"
          refine ⟨_, rfl, .inl ⟨j, rfl, j1, j2, ?_⟩⟩
          tm_at "s"
          exact ⟨e1, c, _, rfl⟩
        · have ei : i = gs2.length := by omega
          rw [e', ei, List.getElem?_append_right (Nat.le_refl _), Nat.sub_self] at hn
          rcases hr1 with ⟨rfl, _⟩ | ⟨b, cs, v, rfl, hb, ho, rz⟩
          · cases hn
          · cases hn
            refine s_dgS (.inl (e1 _ _ hd)) hb ?_
            tm_at "s"
            exact ⟨_, rfl, .inr ⟨ho _ e1, rz.ex e1⟩⟩
      · rintro _ H' ⟨e1, hi, v, rfl⟩
        rcases hr1 with ⟨rfl, k⟩ | ⟨b, cs, v, rfl, _⟩
        · try dsimp only
          tm_at "s"
          exact k _ e1
        · rw [e', List.length_map, List.length_append, List.length_cons] at hi
          omega
theorem ok_first_with {f : Addr} {fd : FuncData} (F : Fun K "first_with" "first_with" s_first_with f fd) (T : TxtW K mg C CN CS CC CM CO CL aW) : FnOk P w K mg base CX0 1 f fd ["speeds", "speed"] spFirst := by
  refine funO F sc_first_with (fun vs H Q E h => ?_) (fun cd A fr s H vs Q E hr h => ?_)
  · obtain ⟨d, ws, m, rfl, _⟩ := h; rfl
  · obtain ⟨d, ws, m, rfl, hd, nd, hz, hm, k⟩ := h
    refine ⟨_, (pss_one (ps_ret (pe_ix (KX.ixU (K := K)) (pe_lock (pe_lc (own := [("name", 2)]) (g := gName 2) (by rfl) sc_first_with.nd (pi_keys (pv 0)) (blkOk_by (own := [("name", 2)]) (N := names_first_with) (sc := defScope s_first_with) (by decide +kernel)) (fun _ _ _ _ _ => pg_name (i := 2) sc_first_with.nd rfl (Or.inl rfl)) (fun _ _ _ _ _ => pts_one (pt_cmpR (KX.eqU (K := K) rfl hr.units) (pe_dget (hu_of hr) (pv 0) (pv 2) (fun _ _ => rfl)) (pv 1) (nomark _))) (fun _ _ _ _ _ => (pv 2)))) pe_int (fun _ _ => rfl)))), ?_⟩
    tm_at "s"
    have gv : ∀ {kk : Key} {v : V}, (kk, v) ∈ ws.map wI → ∃ n i, kk = Sum.inr n ∧ v = .int i ∧ (n, i) ∈ ws := by
      intro kk v h
      obtain ⟨p, hp, e⟩ := List.mem_map.mp h
      cases e
      exact ⟨p.1, p.2, rfl, rfl, hp⟩
    refine s_lcK (fun _ v => decide (v = .int m)) (fun kk _ => kV kk) hd (by rw [List.length_map]; exact sz100k (by omega)) (fun _ => rfl) (fun od R h => ?_) (fun kk v H1 R hkv hl e r => ?_) (fun kk v H1 R hkv hb hl e r => ?_) fun D H2 nD e2 h2 => ?_
    · tm_at "s"
      exact h
    · obtain ⟨n, i, rfl, rfl, hp⟩ := gv hkv
      tm_at "s"
      refine s_dgS (.inr hl) (valV_mem nd hp) ?_
      tm_at "s"
      rw [show decide (V.int i = .int m) = decide (i = m) by congr 1; simp] at r
      exact r
    · obtain ⟨n, i, rfl, rfl, hp⟩ := gv hkv
      tm_at "s"
      exact r H1 (Ex.refl H1)
    · have e3 : ((ws.map wI).filter fun p => decide (p.2 = V.int m)).map (fun p => kV p.1) = ((ws.filter fun p => p.2 == m).map (·.1)).map V.str := by
        rw [List.filter_map, List.map_map, List.map_map]
        congr 1
        refine List.filter_congr fun p _ => ?_
        show decide (V.int p.2 = .int m) = (p.2 == m)
        rw [show (p.2 == m) = decide (p.2 = m) from rfl]
        simp
      obtain ⟨r, er⟩ := firstW_filter hm
      rw [e3, er] at h2
      tm_at "s"
      exact s_iL h2 (L3.atI_nat (j := 0) rfl) (k _ e2)
theorem ok_Crew {f : Addr} {fd : FuncData} (F : Fun K "__init__" "Crew.__init__" s_Crew___init__ f fd) (T : TxtW K mg C CN CS CC CM CO CL aW) (c_need_speeds : FnO P w K mg base (L2.CX P w) 5 "need_speeds" ["speeds", "names"] (spNeedSps K CN CS)) (c_first_with : FnO P w K mg base CX0 1 "first_with" ["speeds", "speed"] spFirst) (e_BadCrew : Er1 P w K mg base "BadCrew" CC "part") (e_TooMany : Er2 P w K mg base "TooMany" CM "what" "most") :
    FnKw P w K mg base (L2.CX P w) 7 f "self" (spCrew C CC CM) := by
  refine fnKw (k := 6) F sc_Crew___init__ StX.cxUp rfl rfl rfl (fun cd A fr s H vs Q E hr h => ?_)
  obtain ⟨p, dx, d, ws, rfl, hp, hd, hz, nd, hnm, hsp, hc⟩ := h
  have hpd : d ≠ p := fun z => by rw [z, hp] at hd; cases hd
  refine ⟨_, (pss_cons (ps_set (i := 2) sc_Crew___init__.nd rfl (Or.inl rfl) (pe_callB cr_sortedS (by rfl) T.b_sorted (by decide +kernel) (pa_cons (pe_lock (pe_lc (own := [("name", 3)]) (g := gName 3) (tt := tYes) (by rfl) sc_Crew___init__.nd (pi_keys (pv 1)) (blkOk_by (own := [("name", 3)]) (N := names_Crew___init__) (sc := defScope s_Crew___init__) (by decide +kernel)) (fun _ _ _ _ _ => pg_name (i := 3) sc_Crew___init__.nd rfl (Or.inl rfl)) (fun _ _ _ _ _ => pts_nil) (fun _ _ _ _ _ => (pe_callTy (KX.strV (K := K) rfl rfl) (by rfl) T.b_str (by decide +kernel) (pa_cons (pv 3) pa_nil))))) pa_nil)))
      (pss_cons (ps_expr (pe_o c_need_speeds hr (passT (takes_of rfl rfl rfl rfl) (fun _ _ _ _ h => h)) (pa_cons (pv 1) (pa_cons (pv 2) pa_nil))))
      (pss_cons (ps_if (pt_cmpR (KX.eqU (K := K) rfl hr.units) (pe_callB (KX.callLen (K := K)) (by rfl) T.b_len (by decide +kernel) (pa_cons (pv 2) pa_nil)) pe_int (nomark _)) (pss_one (ps_raise1 e_BadCrew hr rfl (takes_of rfl rfl rfl rfl) (pa_cons pe_str pa_nil))) pss_nil)
      (pss_cons (ps_if (pt_cmpR op_gt (pe_callB (KX.callLen (K := K)) (by rfl) T.b_len (by decide +kernel) (pa_cons (pv 2) pa_nil)) (C8.pe_gc (by rfl) T.g_MOST_WORKERS) (nomark _)) (pss_one (ps_raise2 e_TooMany hr rfl (takes_of rfl rfl rfl rfl) (pa_cons pe_str (pa_cons (C8.pe_gc (by rfl) T.g_MOST_WORKERS) pa_nil)))) pss_nil)
      (pss_cons (ps_fld (pv 0) (pe_dc (own := [("name", 3)]) (g := gName 3) (tt := tYes) (by rfl) sc_Crew___init__.nd (pi_list (pv 2)) (blkOk_by (own := [("name", 3)]) (N := names_Crew___init__) (sc := defScope s_Crew___init__) (by decide +kernel)) (fun _ _ _ _ _ => pg_name (i := 3) sc_Crew___init__.nd rfl (Or.inl rfl)) (fun _ _ _ _ _ => pts_nil) (fun _ _ _ _ _ => (pv 3)) (fun _ _ _ _ _ => (pe_dget (hu_of hr) (pv 1) (pv 3) (fun _ _ => rfl)))) rfl)
      (pss_cons (ps_fld (pv 0) (pe_callTy call_tuple_of (by rfl) T.b_tuple (by decide +kernel) (pa_cons (pv 2) pa_nil)) rfl)
      (pss_cons (ps_fld (pv 0) (pe_callB (cr_sum (by rfl)) (by rfl) T.b_sum (by decide +kernel) (pa_cons (pe_lc (own := [("name", 3)]) (g := gName 3) (tt := tYes) (by rfl) sc_Crew___init__.nd (pi_list (pv 2)) (blkOk_by (own := [("name", 3)]) (N := names_Crew___init__) (sc := defScope s_Crew___init__) (by decide +kernel)) (fun _ _ _ _ _ => pg_name (i := 3) sc_Crew___init__.nd rfl (Or.inl rfl)) (fun _ _ _ _ _ => pts_nil) (fun _ _ _ _ _ => (pe_dget (hu_of hr) (KX.fld (K := K) rfl (pv 0) rfl) (pv 3) (fun _ _ => rfl)))) pa_nil)) rfl)
      (pss_cons (ps_fld (pv 0) (pe_o c_first_with hr pass0 (pa_cons (KX.fld (K := K) rfl (pv 0) rfl) (pa_cons (pe_callB (cr_min (by rfl)) (by rfl) T.b_min (by decide +kernel) (pa_cons (pe_lc (own := [("name", 3)]) (g := gName 3) (tt := tYes) (by rfl) sc_Crew___init__.nd (pi_list (pv 2)) (blkOk_by (own := [("name", 3)]) (N := names_Crew___init__) (sc := defScope s_Crew___init__) (by decide +kernel)) (fun _ _ _ _ _ => pg_name (i := 3) sc_Crew___init__.nd rfl (Or.inl rfl)) (fun _ _ _ _ _ => pts_nil) (fun _ _ _ _ _ => (pe_callTy (KX.callInt (K := K)) (by rfl) T.b_int (by decide +kernel) (pa_cons (pe_dget (hu_of hr) (pv 1) (pv 3) (fun _ _ => rfl)) pa_nil)))) pa_nil)) pa_nil))) rfl)
      (pss_one (ps_fld (pv 0) (pe_o c_first_with hr pass0 (pa_cons (KX.fld (K := K) rfl (pv 0) rfl) (pa_cons (pe_callB (cr_max (by rfl)) (by rfl) T.b_max (by decide +kernel) (pa_cons (pe_lc (own := [("name", 3)]) (g := gName 3) (tt := tYes) (by rfl) sc_Crew___init__.nd (pi_list (pv 2)) (blkOk_by (own := [("name", 3)]) (N := names_Crew___init__) (sc := defScope s_Crew___init__) (by decide +kernel)) (fun _ _ _ _ _ => pg_name (i := 3) sc_Crew___init__.nd rfl (Or.inl rfl)) (fun _ _ _ _ _ => pts_nil) (fun _ _ _ _ _ => (pe_callTy (KX.callInt (K := K)) (by rfl) T.b_int (by decide +kernel) (pa_cons (pe_dget (hu_of hr) (pv 1) (pv 3) (fun _ _ => rfl)) pa_nil)))) pa_nil)) pa_nil))) rfl)))))))))), ?_⟩
  tm_at "s"
  refine s_lcK (fun _ _ => true) (fun kk _ => kV kk) hd (by rw [List.length_map]; exact sz100k (by omega)) (fun _ => rfl) (fun od R h => ?_) (fun kk v H1 R hkv hl e r => r) (fun kk v H1 R hkv hb hl e r => ?_) fun D H2 nD e2 h2 => ?_
  · tm_at "s"
    exact h
  · obtain ⟨q, hq, e⟩ := List.mem_map.mp hkv
    cases e
    tm_at "s"
    refine s_strVT ?_
    exact r H1 (Ex.refl H1)
  · have e3 : ((ws.map wI).filter fun _ => true).map (fun p => kV p.1) = (ws.map (·.1)).map V.str := by
      rw [filt_trueC, List.map_map, List.map_map]; rfl
    rw [e3] at h2
    tm_at "s"
    refine s_sortS h2 hz fun l H3 nl e3 hl => ?_
    try dsimp only
    tm_at "s"
    have hd3 := (e2.trans e3) _ _ hd
    have sm : ∀ n ∈ (srtW ws).map (·.1), ∃ i, (n, i) ∈ ws := fun n hn => by
      obtain ⟨q, hq, e⟩ := List.mem_map.mp hn
      exact ⟨q.2, by rw [← e]; exact srtW_mem.mp hq⟩
    have nds : ((srtW ws).map (·.1)).Nodup := ((srtW_perm ws).map (·.1)).nodup_iff.mpr nd
    refine ⟨d, l, ws.map wI, (srtW ws).map (·.1), rfl, hd3, hl, by rw [List.length_map, srtW_len]; omega, fun n hn => ?_, .inl ⟨fun n hn => ?_, fun n hn => ?_, fun H4 e4 => ?_⟩⟩
    · obtain ⟨i, hi⟩ := sm n hn
      have := nameB_len (hnm _ hi)
      show n.length ≤ 100000
      have : n.length ≤ 8 := this
      omega
    · obtain ⟨i, hi⟩ := sm n hn
      exact hnm _ hi
    · obtain ⟨i, hi⟩ := sm n hn
      exact ⟨i, valV_mem nd hi, hsp _ hi⟩
    · have eA := (e2.trans e3).trans e4
      have hd4 := e4 _ _ hd3
      have hl4 := e4 _ _ hl
      tm_at "s"
      refine s_lenL hl4 ?_
      rw [List.length_map, List.length_map, srtW_len]
      tm_at "s"
      rcases hc with ⟨rfl, rz⟩ | hc
      · refine iteD (fun _ => ?_) (fun z => absurd rfl z)
        tm_at "s"
        exact s_rz (rz.ex eA)
      refine iteD (fun z => ?_) (fun _ => ?_)
      · exfalso
        rcases hc with ⟨h, _⟩ | ⟨ok, _⟩
        · omega
        · have := List.length_pos_iff.mpr ok.ne; omega
      tm_at "s"
      refine s_lenL hl4 ?_
      rw [List.length_map, List.length_map, srtW_len]
      tm_at "s"
      rcases hc with ⟨h8, rz⟩ | ⟨ok, kq⟩
      · refine iteD (fun _ => ?_) (fun z => absurd (by omega) z)
        tm_at "s"
        exact s_rz2 (rz.ex eA)
      have h8 := ok.le
      refine iteD (fun z => absurd z (by omega)) (fun _ => ?_)
      tm_at "s"
      refine ⟨l, rfl, ⟨_, .inl (.inl hl4)⟩, dcN (walkLN (K := K)) (fun H1 e => .inl (.inl (e _ _ hl4))) (fun _ => true) (fun n => (valV (ws.map wI) (Sum.inr n)).getD .non) nds (by rw [List.length_map, srtW_len]; exact sz100k (by omega)) (fun _ => rfl) (fun n H1 R _ _ r => r) (fun n H1 R _ r => by tm_at "s"; exact r) (fun n H1 R hn _ e r => ?_) fun D2 H5 n5 e5 h5 => ?_⟩
      · obtain ⟨i, hi⟩ := sm n hn
        rw [valV_mem nd hi] at r
        tm_at "s"
        exact s_dgS (.inl (e _ _ hd4)) (valV_mem nd hi) (r H1 (Ex.refl H1))
      · tm_at "s"
        have hs5 : H5 D2 = some (.dK ((srtW ws).map wI)) := by
          rw [h5, filt_trueC, List.map_map]
          congr 2
          refine List.map_congr_left fun q hq => ?_
          show ((Sum.inr q.1 : Key), (valV (ws.map wI) (Sum.inr q.1)).getD .non) = wI q
          rw [valV_mem nd (i := q.2) (srtW_mem.mp hq)]; rfl
        have eB := eA.trans e5
        have hp5 := eB _ _ hp
        have hl5 := e5 _ _ hl4
        have hd5 := e5 _ _ hd4
        have lp : l ≠ p := fun z => by rw [z, hp5] at hl5; cases hl5
        have Dp : D2 ≠ p := fun z => by rw [z, hp5] at hs5; cases hs5
        refine ⟨p, C, dx, [], rfl, hp5, T.c.cl, T.nO, by decide, ?_⟩
        generalize hI5 : upd H5 p (HO.ins C dx _) = I5
        have pI5 : I5 p = some (.ins C dx [("own_speeds", .ref D2)]) := by rw [← hI5, upd_same]; rfl
        have kI5 : ∀ c o, c ≠ p → H5 c = some o → I5 c = some o := fun c o hc h => by rw [← hI5, upd_ne hc]; exact h
        try dsimp only
        tm_at "s"
        refine ⟨l, _, rfl, .inl ⟨.inl (.inl (kI5 _ _ lp hl5)), fun u hu => ?_⟩⟩
        have up : u ≠ p := fun z => by rw [z, pI5] at hu; cases hu
        tm_at "s"
        refine ⟨p, C, dx, _, rfl, by rw [upd_ne (Ne.symm up)]; exact pI5, T.c.cl, T.nW, (by show 1 < 1000; decide), ?_⟩
        generalize hI6 : upd (upd I5 u _) p (HO.ins C dx _) = I6
        have pI6 : I6 p = some (.ins C dx [("own_speeds", .ref D2), ("workers", .ref u)]) := by rw [← hI6, upd_same]; rfl
        have kI6 : ∀ c o, c ≠ p → I5 c = some o → I6 c = some o := fun c o hc h => by rw [← hI6, upd_ne hc, upd_ne (ne_of_none h hu)]; exact h
        have uI6 : I6 u = some (.tup (namesV (srtW ws))) := by rw [← hI6, upd_ne up, upd_same]; rfl
        have lI6 := kI6 _ _ lp (kI5 _ _ lp hl5)
        have DI6 := kI6 _ _ Dp (kI5 _ _ Dp hs5)
        try dsimp only
        tm_at "s"
        have lI6' : I6 l = some (.lst (namesV (srtW ws))) := lI6
        have lz : (namesV (srtW ws)).length < sizeLine := by unfold namesV; rw [List.length_map, List.length_map, srtW_len]; exact sz100k (by omega)
        have dp6 : I6 d = some (.dK (ws.map wI)) := kI6 _ _ hpd (kI5 _ _ hpd hd5)
        refine ⟨l, rfl, ⟨_, .inl (.inl lI6')⟩, lcMap (K := K) (spV ws) lI6' lz (fun _ => rfl) (fun x hx H1 R e r => ?_) fun B1 H7 n7 e7 h7 => ?_⟩
        · obtain ⟨n, i, rfl, hi⟩ := namesV_mem hx
          rw [spV_of nd hi] at r
          tm_at "s"
          refine ⟨p, C, dx, _, _, rfl, e _ _ pI6, T.c.cl, T.nO, rfl, ?_⟩
          tm_at "s"
          exact s_dgS (.inl (e _ _ DI6)) (valV_mem nds (srtW_mem.mpr hi)) (r H1 (Ex.refl H1))
        rw [spV_map nd] at h7
        tm_at "s"
        refine ⟨B1, (srtW ws).map (·.2), rfl, .inl (.inl h7), ?_⟩
        tm_at "s"
        refine ⟨p, C, dx, _, rfl, e7 _ _ pI6, T.c.cl, T.nS, (by show 2 < 1000; decide), ?_⟩
        generalize hI8 : upd H7 p (HO.ins C dx _) = I8
        have pI8 : I8 p = some (.ins C dx [("own_speeds", .ref D2), ("workers", .ref u), ("speed", .int (sumW (srtW ws)))]) := by rw [← hI8, upd_same]; rfl
        have kI8 : ∀ c o, c ≠ p → I6 c = some o → I8 c = some o := fun c o hc h => by rw [← hI8, upd_ne hc]; exact e7 _ _ h
        have lI8 := kI8 _ _ lp lI6'
        have DI8 := kI8 _ _ Dp DI6
        have dI8 := kI8 _ _ hpd dp6
        have ne2 : srtW ws ≠ [] := ok.srt.ne
        try dsimp only
        tm_at "s"
        refine ⟨p, C, dx, _, _, rfl, pI8, T.c.cl, T.nO, rfl, ?_⟩
        tm_at "s"
        refine ⟨l, rfl, ⟨_, .inl (.inl lI8)⟩, lcMap (K := K) (spV ws) lI8 lz (fun _ => rfl) (fun x hx H1 R e r => ?_) fun B2 H9 n9 e9 h9 => ?_⟩
        · obtain ⟨n, i, rfl, hi⟩ := namesV_mem hx
          rw [spV_of nd hi] at r
          tm_at "s"
          refine s_dgS (.inl (e _ _ dI8)) (valV_mem nd hi) ?_
          tm_at "s"
          exact r H1 (Ex.refl H1)
        rw [spV_map nd] at h9
        tm_at "s"
        refine ⟨B2, (srtW ws).map (·.2), rfl, .inl (.inl h9), by rw [List.length_map]; exact List.length_pos_iff.mpr ne2, fun m hm hle => ?_⟩
        obtain rfl := minW_is hm hle
        tm_at "s"
        refine ⟨D2, srtW ws, _, rfl, e9 _ _ DI8, nds, by rw [srtW_len]; omega, hm, fun HA eA' => ?_⟩
        have pIA := eA' _ _ (e9 _ _ pI8)
        tm_at "s"
        refine ⟨p, C, dx, _, rfl, pIA, T.c.cl, T.nL, (by show 3 < 1000; decide), ?_⟩
        generalize hIB : upd HA p (HO.ins C dx _) = IB
        have pIB : IB p = some (.ins C dx [("own_speeds", .ref D2), ("workers", .ref u), ("speed", .int (sumW (srtW ws))), ("slowest", .str (slowW (srtW ws)))]) := by rw [← hIB, upd_same]; rfl
        have kIB : ∀ c o, c ≠ p → I8 c = some o → IB c = some o := fun c o hc h => by rw [← hIB, upd_ne hc]; exact eA' _ _ (e9 _ _ h)
        have lIB := kIB _ _ lp lI8
        have DIB := kIB _ _ Dp DI8
        have dIB := kIB _ _ hpd dI8
        try dsimp only
        tm_at "s"
        refine ⟨p, C, dx, _, _, rfl, pIB, T.c.cl, T.nO, rfl, ?_⟩
        tm_at "s"
        refine ⟨l, rfl, ⟨_, .inl (.inl lIB)⟩, lcMap (K := K) (spV ws) lIB lz (fun _ => rfl) (fun x hx H1 R e r => ?_) fun B3 HC nC eC hC => ?_⟩
        · obtain ⟨n, i, rfl, hi⟩ := namesV_mem hx
          rw [spV_of nd hi] at r
          tm_at "s"
          refine s_dgS (.inl (e _ _ dIB)) (valV_mem nd hi) ?_
          tm_at "s"
          exact r H1 (Ex.refl H1)
        rw [spV_map nd] at hC
        tm_at "s"
        refine ⟨B3, (srtW ws).map (·.2), rfl, .inl (.inl hC), by rw [List.length_map]; exact List.length_pos_iff.mpr ne2, fun m hm2 hle2 => ?_⟩
        obtain rfl := maxW_is hm2 hle2
        tm_at "s"
        refine ⟨D2, srtW ws, _, rfl, eC _ _ DIB, nds, by rw [srtW_len]; omega, hm2, fun HD eD => ?_⟩
        have pID := eD _ _ (eC _ _ pIB)
        tm_at "s"
        refine ⟨p, C, dx, _, rfl, pID, T.c.cl, T.nF, (by show 4 < 1000; decide), ?_⟩
        have kF : ∀ c o, c ≠ p → IB c = some o → (upd HD p (HO.ins C dx (cwF D2 u (srtW ws)))) c = some o := fun c o hc h => by rw [upd_ne hc]; exact eD _ _ (eC _ _ h)
        exact kq _ (fun c o hc h => kF _ _ hc (kIB _ _ hc (kI8 _ _ hc (kI6 _ _ hc (kI5 _ _ hc (eB _ _ h)))))) ⟨dx, D2, u, upd_same, kF _ _ Dp DIB, kF _ _ up (kIB _ _ up (kI8 _ _ up uI6))⟩
theorem ok_wcont {f : Addr} {fd : FuncData} (F : Fun K "__contains__" "Crew.__contains__" s_Crew___contains__ f fd) (T : TxtW K mg C CN CS CC CM CO CL aW) : FnOk P w K mg base (L2.CX P w) 1 f fd ["self", "name"] (spContW K C) := by
  refine funO F sc_Crew___contains__ (fun vs H Q E h => ?_) (fun cd A fr s H vs Q E hr h => ?_)
  · obtain ⟨p, y, ws, rfl, _⟩ := h; rfl
  · obtain ⟨p, y, ws, rfl, hc, hy⟩ := h
    refine ⟨_, (pss_one (ps_ret (pe_and (pe_callB (KX.callIsi (K := K)) (by rfl) T.b_isinstance (by decide +kernel) (pa_cons (pv 1) (pa_cons (pe_bltn (v := .ty "str") (u := .type "str") (by rfl) T.b_str (by decide +kernel) rfl) pa_nil))) (pe_one (pe_cmp (pc_din (hu_of hr) (pv 1) (KX.fld (K := K) rfl (pv 0) rfl))))))), ?_⟩
    tm_at "s"
    rcases hy with ⟨n, rfl, k⟩ | ⟨⟨ty, h1, h2⟩, k⟩
    · refine s_isiT (.x (.base (.str n))) (b := true) (kit_ty (by decide +kernel)) ?_
      obtain ⟨dx, d, t, i1, h1, _⟩ := id hc
      tm_at "s"
      refine ⟨p, C, dx, _, _, rfl, i1, T.c.cl, T.nO, rfl, ?_⟩
      tm_at "s"
      exact s_diS (.inl h1) k
    · refine s_isiT h1 h2 ?_
      tm_at "s"
      exact k
theorem ok_wget {f : Addr} {fd : FuncData} (F : Fun K "__getitem__" "Crew.__getitem__" s_Crew___getitem__ f fd) (T : TxtW K mg C CN CS CC CM CO CL aW) (me_cont : Me P w K mg base C "__contains__" 1 ["self", "name"] (spContW K C)) (e_NoWorker : Er1 P w K mg base "NoWorker" CO "name") :
    FnOk P w K mg base (L2.CX P w) 3 f fd ["self", "name"] (spGetW K C CO) := by
  refine funO F sc_Crew___getitem__ (fun vs H Q E h => ?_) (fun cd A fr s H vs Q E hr h => ?_)
  · obtain ⟨p, y, ws, rfl, _⟩ := h; rfl
  · obtain ⟨p, y, ws, rfl, hc, hy⟩ := h
    refine ⟨_, (pss_cons (ps_if (pt_cmpR (opNotInOwnP me_cont rfl hr (passT (takes_of rfl rfl rfl rfl) (fun _ _ _ _ h => h))) (pv 1) (pv 0) (by rfl)) (pss_one (ps_raise1 e_NoWorker hr rfl (takes_of rfl rfl rfl rfl) (pa_cons (pv 1) pa_nil))) pss_nil)
      (pss_one (ps_ret (pe_dget (hu_of hr) (KX.fld (K := K) rfl (pv 0) rfl) (pv 1) (fun _ _ => rfl))))), ?_⟩
    tm_at "s"
    obtain ⟨dx, d, t, i1, h1, _⟩ := id hc
    rcases hy with ⟨n, i, rfl, hv, k⟩ | ⟨hy, rz⟩
    · refine ⟨p, dx, _, rfl, i1, p, .str n, ws, rfl, hc, .inl ⟨n, rfl, _, rfl, ?_⟩⟩
      rw [hv, show ((some (V.int i)).isSome ^^ true) = false from rfl]
      tm_at "s"
      refine ⟨p, C, dx, _, _, rfl, i1, T.c.cl, T.nO, rfl, ?_⟩
      tm_at "s"
      exact s_dgS (.inl h1) hv k
    · rcases hy with hy | ⟨n, rfl, hv⟩
      · refine ⟨p, dx, _, rfl, i1, p, _, ws, rfl, hc, .inr ⟨hy, _, rfl, ?_⟩⟩
        rw [show (false ^^ true) = true from rfl]
        tm_at "s"
        exact s_rz rz
      · refine ⟨p, dx, _, rfl, i1, p, .str n, ws, rfl, hc, .inl ⟨n, rfl, _, rfl, ?_⟩⟩
        rw [hv, show ((none : Option V).isSome ^^ true) = true from rfl]
        tm_at "s"
        exact s_rz rz
end
end K72
end
section
local macro_rules | `(tactic| tm_at "s1") => `(tactic| first
  | with_reducible first
    | refine L3.s_seq ?_ | refine L3.s_asg ?_ | refine L3.s_op ?_ | refine L3.s_c ?_ | refine L3.s_cb ?_ | refine L3.s_cons ?_ | refine L3.s_nil ?_ | refine L3.s_test ?_ | refine L3.s_bl ?_
    | refine L3.s_I0 ?_ | refine L3.s_and ?_ | refine L3.s_or ?_ | refine L3.s_not ?_ | refine L3.s_if ?_ | refine L3.s_next ?_ | refine L3.s_ret ?_ | refine L3.s_retN ?_ | refine L3.s_asgS ?_ | refine L3.s_drop ?_
    | refine L3.s_un ?_ | refine L3.s_U ?_ | refine L3.s_int ?_ | refine L3.s_intB ?_ | refine L3.s_abs ?_ | refine L3.s_andV ?_ | refine L3.s_orV ?_ | refine L3.s_notV ?_ | refine L3.s_ifE ?_ | refine L3.s_call ?_ | refine L3.s_lst ?_ | refine L3.s_tup ?_ | refine L3.s_tB ?_
    | refine L3.s_addI ?_ | refine L3.s_inS ?_ | refine L3.s_ninS ?_ | refine L3.s_slice ?_ | refine L3.s_part ?_ | refine L3.s_partI ?_ | refine L3.s_nopart ?_ | refine L3.s_cI ?_ | refine L3.s_cB ?_ | refine L3.s_chain ?_ | refine L3.s_bm ?_ | refine L3.s_lcS ?_ | refine L3.s_lcR ?_ | refine L3.s_strE ?_
    | refine L2.iteT ?_ | refine L2.iteF ?_ | refine L3.iteNF ?_ | refine L3.iteNT ?_
    | refine L3.s_eqI ?_ | refine L3.s_neI ?_ | refine L3.s_eqS ?_ | refine L3.s_neS ?_
    | refine L3.s_pair ?_ | refine L3.s_pair2 ?_ | refine L3.s_fld ?_ | refine L3.s_make ?_ | refine L3.s_m1 ?_ | refine L3.s_isstr ?_
    | refine L3.s_xfV ?_ | refine L3.s_lcL ?_ | refine L3.s_par3 ?_ | refine L3.s_trip ?_ | refine L3.s_asgT' ?_ | refine L3.s_gC ?_ | refine L3.s_gN ?_ | refine L3.s_fldG ?_ | refine L3.s_raise1 ?_
    | refine L3.s_isN ?_ | refine L3.s_isB ?_ | refine L3.s_nisN ?_ | refine L3.s_nisB ?_
  | ((with_reducible refine' L3.s_var ?e ?_); (case e => rfl))
  | ((with_reducible refine' L3.s_aug ?e ?_); (case e => rfl))
  | ((with_reducible refine' L3.s_pow ?c ?_); (case c => exact ⟨by decide, by decide, by decide⟩)))
local macro_rules | `(tactic| tm_at "s") => `(tactic| repeat tm_at "s1")
namespace K72
open PySem PySem.Spec PyProof.Rows L2 L3 LamX
structure TxtQ (K : PySem.W.Frag) (mg : Str → Option Value) (C CB CL : Addr) : Prop where
  b_isinstance : mg "isinstance" = none
  b_int : mg "int" = none
  b_bool : mg "bool" = none
  b_len : mg "len" = none
  b_abs : mg "abs" = none
  b_list : mg "list" = none
  b_range : mg "range" = none
  b_repr : mg "repr" = none
  g_Ratio : ∃ u, mg "Ratio" = some u ∧ RelV (.ref C) u
  g_BadRatio : ∃ u, mg "BadRatio" = some u ∧ RelV (.ref CB) u
  g_LateError : mg "LateError" = some (.ref CL)
  cl : Cls K C
  nO : NoAttr K C "over"
  nU : NoAttr K C "under"
  od : odTys.all (fun T => decide (PySem.W.kitOne K (.type T) (.ref C) = some false)) = true
  kI : PySem.W.kitOne K (.type "int") (.ref C) = some false
  kC : PySem.W.kitOne K (.ref C) (.ref C) = some true
  ha : PySem.W.findIn K (.ref C) "__class__" = some (some (.builtin "object.__class__"))
  hn : PySem.W.specialIn K (.builtin "object.__class__") "__get__" = some (some (.builtin "getset_descriptor.__get__"))
  htk : PySem.W.takesIn K (.builtin "object.__class__") = some true
  hm : PySem.W.mroIn K C (.type "object") = some true
  exc : ExcC K CB
  xf : XfC K CB
  nV : PySem.W.findIn K (.ref CB) "value" = some none
  kB : PySem.W.kitOne K (.ref CB) (.ref CB) = some true
  em : PySem.W.exmOne K (.ref CB) (.ref CL) = some true
theorem TxtQ.ty {K : PySem.W.Frag} {mg : Str → Option Value} {C CB CL : Addr} (T : TxtQ K mg C CB CL) {H : Hp} {p : Addr} {o u : Int} (r : Rt C H p o u) : TyA K H (.ref p) (.ref C) := by
  obtain ⟨dx, e⟩ := r
  exact .x (.base (.ins e T.cl T.ha T.hn T.htk T.hm))
abbrev s_common : Stmt := topS 50
theorem sc_common : FnScope ["one", "other"] ["one", "other"] (defScope s_common) := ⟨rfl, rfl, rfl, by decide +kernel, rfl, by decide +kernel, by decide +kernel⟩
abbrev s_Ratio___init__ : Stmt := inClass (topS 51) 0
theorem sc_Ratio___init__ : FnScope ["self", "over", "under", "divisor", "sign"] ["self", "over", "under"] (defScope s_Ratio___init__) := ⟨rfl, rfl, rfl, by decide +kernel, rfl, by decide +kernel, by decide +kernel⟩
abbrev s_told_of : Stmt := topS 52
theorem sc_told_of : FnScope ["value"] ["value"] (defScope s_told_of) := ⟨rfl, rfl, rfl, by decide +kernel, rfl, by decide +kernel, by decide +kernel⟩
abbrev s_Ratio___add__ : Stmt := inClass (topS 51) 6
theorem sc_Ratio___add__ : FnScope ["self", "other", "told"] ["self", "other"] (defScope s_Ratio___add__) := ⟨rfl, rfl, rfl, by decide +kernel, rfl, by decide +kernel, by decide +kernel⟩
abbrev s_Ratio___radd__ : Stmt := inClass (topS 51) 7
theorem sc_Ratio___radd__ : FnScope ["self", "other", "told"] ["self", "other"] (defScope s_Ratio___radd__) := ⟨rfl, rfl, rfl, by decide +kernel, rfl, by decide +kernel, by decide +kernel⟩
abbrev s_Ratio___sub__ : Stmt := inClass (topS 51) 8
theorem sc_Ratio___sub__ : FnScope ["self", "other", "told"] ["self", "other"] (defScope s_Ratio___sub__) := ⟨rfl, rfl, rfl, by decide +kernel, rfl, by decide +kernel, by decide +kernel⟩
abbrev s_Ratio___rsub__ : Stmt := inClass (topS 51) 9
theorem sc_Ratio___rsub__ : FnScope ["self", "other", "told"] ["self", "other"] (defScope s_Ratio___rsub__) := ⟨rfl, rfl, rfl, by decide +kernel, rfl, by decide +kernel, by decide +kernel⟩
abbrev s_Ratio___mul__ : Stmt := inClass (topS 51) 10
theorem sc_Ratio___mul__ : FnScope ["self", "other", "told"] ["self", "other"] (defScope s_Ratio___mul__) := ⟨rfl, rfl, rfl, by decide +kernel, rfl, by decide +kernel, by decide +kernel⟩
abbrev s_Ratio___rmul__ : Stmt := inClass (topS 51) 11
theorem sc_Ratio___rmul__ : FnScope ["self", "other", "told"] ["self", "other"] (defScope s_Ratio___rmul__) := ⟨rfl, rfl, rfl, by decide +kernel, rfl, by decide +kernel, by decide +kernel⟩
section
variable {P : Program} {w : World} {K : PySem.W.Frag} {mg : Str → Option Value} {base : Heap} {C CB CL : Addr}
theorem ok_common {f : Addr} {fd : FuncData} (F : Fun K "common" "common" s_common f fd) : FnOk P w K mg base CX0 1 f fd ["one", "other"] spCommon := by
  refine funO F sc_common (fun vs H Q E h => ?_) (fun cd A fr s H vs Q E hr h => ?_)
  · obtain ⟨a, b, rfl, _⟩ := h; rfl
  · obtain ⟨a, b, rfl, k⟩ := h
    refine ⟨_, (pss_cons (ps_while (passes_of rfl) (pt_cmpR (KX.neU (K := K) rfl hr.units) (pv 1) pe_int (nomark _)) (pss_one (ps_par (by rfl) sc_common.nd (i := 0) (j := 1) rfl rfl (by decide) rfl rfl (pa_cons (pv 1) (pa_cons (pe_op op_mod (pv 0) (pv 1)) pa_nil)) (by rfl))))
      (pss_one (ps_ret (pv 0)))), ?_⟩
    tm_at "s"
    refine ⟨fun m σ' H' => ∃ x y : Nat, σ' = [some (.int x), some (.int y)] ∧ y = m ∧ Nat.gcd x y = Nat.gcd a b ∧ H' = H, ⟨b, a, b, rfl, rfl, rfl, rfl⟩, ?_⟩
    rintro m σ' H' ⟨x, y, rfl, rfl, hgcd, rfl⟩
    tm_at "s"
    refine iteB (fun h1 => ?_) (fun h1 => ?_)
    · have hy : (y : Int) ≠ 0 := by simpa using h1
      have hy' : y ≠ 0 := fun z => hy (by rw [z]; rfl)
      refine ⟨fun σ2 H2 => σ2 = [some (.int y), some (.int ((x % y : Nat) : Int))] ∧ H2 = H', ?_, ?_⟩
      · rintro σ2 H2 ⟨rfl, rfl⟩
        refine ⟨x % y, Nat.mod_lt _ (by omega), y, x % y, rfl, rfl, ?_, rfl⟩
        rw [← hgcd, Nat.gcd_comm x y, Nat.gcd_rec y x, Nat.gcd_comm]
      · tm_at "s"
        refine s_I (show (0 : Int) < (y : Int) by omega) ?_
        tm_at "s"
        exact ⟨rfl, rfl⟩
    · have hy : (y : Int) = 0 := by simpa using h1
      have hy' : y = 0 := by omega
      subst hy'
      rw [Nat.gcd_zero_right] at hgcd
      tm_at "s"
      rw [hgcd]
      exact k
theorem ok_ratio {f : Addr} {fd : FuncData} (F : FunD K "__init__" "Ratio.__init__" (defArgs s_Ratio___init__) (defBody s_Ratio___init__) (defScope s_Ratio___init__) [.int 1] [] f fd) (T : TxtQ K mg C CB CL) (c_is_integer : FnO P w K mg base CX0 1 "is_integer" ["value"] spIsI) (c_common : FnO P w K mg base CX0 1 "common" ["one", "other"] spCommon) (e_BadRatio : Er1 P w K mg base "BadRatio" CB "value") :
    FnOk P w K mg base (L2.CX P w) 3 f fd ["self", "over", "under"] (spRatio C CB) := by
  refine funDO F sc_Ratio___init__ (fun vs H Q E h => ?_) (fun cd A fr s H vs Q E hr h => ?_)
  · obtain ⟨p, dx, x, y, rfl, _⟩ := h; rfl
  · obtain ⟨p, dx, x, y, rfl, hp, hc⟩ := h
    refine ⟨_, (pss_cons (ps_if (pt_not (pt_val (pe_o c_is_integer hr pass0 (pa_cons (pv 1) pa_nil)))) (pss_one (ps_raise1 e_BadRatio hr rfl (takes_of rfl rfl rfl rfl) (pa_cons (pv 1) pa_nil))) pss_nil)
      (pss_cons (ps_if (PW.pt (pw_or (pt_not (pt_val (pe_o c_is_integer hr pass0 (pa_cons (pv 2) pa_nil)))) (pw_or1 (pt_cmpR (KX.eqU (K := K) rfl hr.units) (pv 2) pe_int (nomark _))))) (pss_one (ps_raise1 e_BadRatio hr rfl (takes_of rfl rfl rfl rfl) (pa_cons (pv 2) pa_nil))) pss_nil)
      (pss_cons (ps_set (i := 3) sc_Ratio___init__.nd rfl (Or.inl rfl) (pe_o c_common hr pass0 (pa_cons (pe_callB call_abs (by rfl) T.b_abs (by decide +kernel) (pa_cons (pv 1) pa_nil)) (pa_cons (pe_callB call_abs (by rfl) T.b_abs (by decide +kernel) (pa_cons (pv 2) pa_nil)) pa_nil))))
      (Evl.pss_cut (ps_set (i := 4) sc_Ratio___init__.nd rfl (Or.inl rfl) (pe_ifExp (pt_cmpR op_gt (pv 2) pe_int (nomark _)) pe_int (pe_un un_neg pe_int)))
      (pss_cons (ps_fld (pv 0) (pe_op op_fdivW (pe_op opMul (pv 4) (pv 1)) (pv 3)) rfl)
      (pss_one (ps_fld (pv 0) (pe_op op_fdivW (pe_op opMul (pv 4) (pv 2)) (pv 3)) rfl))))))), ?_⟩
    rcases hc with ⟨a, b, rfl, rfl, hb, hb2, k⟩ | ⟨t, hx, k⟩ | ⟨a, rfl, hy, k⟩
    · tm_at "s"
      refine ⟨_, rfl, .inl ⟨a, rfl, ?_⟩⟩
      tm_at "s"
      refine ⟨_, rfl, .inl ⟨b, rfl, ?_⟩⟩
      tm_at "s"
      refine iteD (fun z => absurd z hb) (fun _ => ?_)
      tm_at "s"
      rw [abs_nat, abs_nat]
      refine ⟨a.natAbs, b.natAbs, rfl, ?_⟩
      tm_at "s"
      refine s_cut (M := fun σ' H' => σ' = [some (.ref p), some (.int a), some (.int b), some (.int ((Nat.gcd a.natAbs b.natAbs : Nat) : Int)), some (.int (sgn b))] ∧ H' = H) ?_ ?_
      · tm_at "s"
        refine iteD (fun z => ?_) (fun z => ?_)
        · tm_at "s"
          refine ⟨?_, rfl⟩
          unfold sgn; rw [if_pos z]; rfl
        · tm_at "s"
          refine ⟨?_, rfl⟩
          unfold sgn; rw [if_neg z]; rfl
      · rintro σ' H' ⟨rfl, rfl⟩
        tm_at "s"
        refine s_mulI sgn_mul ?_
        tm_at "s"
        refine s_I (gcd_bits hb hb2 (by decide) (by decide) _) ?_
        tm_at "s"
        refine ⟨p, C, dx, [], rfl, hp, T.cl, T.nO, by decide, ?_⟩
        tm_at "s"
        refine s_mulI sgn_mul ?_
        tm_at "s"
        refine s_I (gcd_bits hb hb2 (by decide) (by decide) _) ?_
        tm_at "s"
        refine ⟨p, C, dx, _, rfl, upd_same, T.cl, T.nU, (by show 1 < 1000; decide), ?_⟩
        exact k _ (fun c hc => by rw [upd_ne hc, upd_ne hc]) upd_same
    · tm_at "s"
      refine ⟨_, rfl, .inr ⟨t, hx, ?_⟩⟩
      tm_at "s"
      exact s_rz k
    · tm_at "s"
      refine ⟨_, rfl, .inl ⟨a, rfl, ?_⟩⟩
      tm_at "s"
      rcases hy with ⟨t, hy⟩ | rfl
      · refine ⟨_, rfl, .inr ⟨t, hy, ?_⟩⟩
        tm_at "s"
        exact s_rz k
      · refine ⟨_, rfl, .inl ⟨0, rfl, ?_⟩⟩
        tm_at "s"
        refine iteD (fun _ => ?_) (fun z => absurd rfl z)
        tm_at "s"
        exact s_rz k
theorem ok_told {f : Addr} {fd : FuncData} (F : Fun K "told_of" "told_of" s_told_of f fd) (T : TxtQ K mg C CB CL) (c_is_integer : FnO P w K mg base CX0 1 "is_integer" ["value"] spIsI) (m_Ratio_1 : McO P w K mg base (L2.CX P w) 3 "Ratio" C ["self", "over", "under"] (spRatio C CB) [.int 1]) (e_BadRatio : Er1 P w K mg base "BadRatio" CB "value") :
    FnOk P w K mg base (L2.CX P w) 5 f fd ["value"] (spTold C CB) := by
  refine funO F sc_told_of (fun vs H Q E h => ?_) (fun cd A fr s H vs Q E hr h => ?_)
  · obtain ⟨x, rfl, _⟩ := h; rfl
  · obtain ⟨x, rfl, hc⟩ := h
    refine ⟨_, (pss_cons (ps_if (pt_val (pe_callB (KX.callIsi (K := K)) (by rfl) T.b_isinstance (by decide +kernel) (pa_cons (pv 0) (pa_cons (C8.pe_gc (by rfl) T.g_Ratio) pa_nil)))) (pss_one (ps_ret (pv 0))) pss_nil)
      (pss_cons (ps_if (pt_not (pt_val (pe_o c_is_integer hr pass0 (pa_cons (pv 0) pa_nil)))) (pss_one (ps_raise1 e_BadRatio hr rfl (takes_of rfl rfl rfl rfl) (pa_cons (pv 0) pa_nil))) pss_nil)
      (pss_one (ps_ret (pe_mko m_Ratio_1 hr (passT (takes_of rfl rfl rfl rfl) (fun _ _ _ _ h => h)) (pa_cons (pv 0) pa_nil)))))), ?_⟩
    rcases hc with ⟨o, u, n, k⟩ | ⟨t, hx, k⟩
    · rcases n with ⟨q, rfl, r⟩ | ⟨rfl, rfl⟩
      · tm_at "s"
        refine s_isiC (T.ty r) T.kC ?_
        tm_at "s"
        exact k q H (Ex.refl H) r
      · tm_at "s"
        refine s_isiC (.x (.base (.int o))) T.kI ?_
        tm_at "s"
        refine ⟨_, rfl, .inl ⟨o, rfl, ?_⟩⟩
        tm_at "s"
        exact s_mkR1 fun q H' _ e r => k q H' e r
    · tm_at "s"
      obtain ⟨ty, t1, t2⟩ := hx.noCls (K := K) T.od
      refine s_isiC t1 t2 ?_
      tm_at "s"
      refine ⟨_, rfl, .inr ⟨t, hx, ?_⟩⟩
      tm_at "s"
      exact s_rz k
theorem m1000 {a b : Int} (ha : a.natAbs < 2 ^ 1000) (hb : b.natAbs < 2 ^ 1000) : IntMulOk a b := (wide_mul ha hb (by decide) (by decide) (by decide)).ok
theorem m8000 {a b : Int} (ha : a.natAbs < 2 ^ 1000) (hb : b.natAbs < 2 ^ 1000) : (a * b).natAbs < 2 ^ 8000 := by
  rw [Int.natAbs_mul]
  have h1 := Nat.mul_lt_mul'' ha hb
  rw [← Nat.pow_add] at h1
  exact Nat.lt_of_lt_of_le h1 (Nat.pow_le_pow_right (by decide) (by decide))
theorem mne {a b : Int} (ha : 0 < a) (hb : 0 < b) : a * b ≠ 0 := by have := Int.mul_pos ha hb; omega
theorem ok_add {f : Addr} {fd : FuncData} (F : Fun K "__add__" "Ratio.__add__" s_Ratio___add__ f fd) (T : TxtQ K mg C CB CL) (c_told_of : FnO P w K mg base (L2.CX P w) 5 "told_of" ["value"] (spTold C CB)) (m_Ratio_2 : McO P w K mg base (L2.CX P w) 3 "Ratio" C ["self", "over", "under"] (spRatio C CB) []) :
    FnOk P w K mg base (L2.CX P w) 6 f fd ["self", "other"] (spBin gAdd C CB) := by
  refine funO F sc_Ratio___add__ (fun vs H Q E h => ?_) (fun cd A fr s H vs Q E hr h => ?_)
  · obtain ⟨p, y, o, u, rfl, _⟩ := h; rfl
  · obtain ⟨p, y, o, u, rfl, r, b, hc⟩ := h
    refine ⟨_, (pss_cons (ps_set (i := 2) sc_Ratio___add__.nd rfl (Or.inl rfl) (pe_o c_told_of hr (passT (takes_of rfl rfl rfl rfl) (fun _ _ _ _ h => h)) (pa_cons (pv 1) pa_nil)))
      (pss_one (ps_ret (pe_mko m_Ratio_2 hr (passT (takes_of rfl rfl rfl rfl) (fun _ _ _ _ h => h)) (pa_cons (pe_op opAdd (pe_op opMul (KX.fld (K := K) rfl (pv 0) rfl) (KX.fld (K := K) rfl (pv 2) rfl)) (pe_op opMul (KX.fld (K := K) rfl (pv 2) rfl) (KX.fld (K := K) rfl (pv 0) rfl))) (pa_cons (pe_op opMul (KX.fld (K := K) rfl (pv 0) rfl) (KX.fld (K := K) rfl (pv 2) rfl)) pa_nil)))))), ?_⟩
    tm_at "s"
    rcases hc with ⟨o', u', n, b', k⟩ | ⟨t, hy, k⟩
    · refine ⟨y, rfl, .inl ⟨o', u', n, fun q H' e r' => ?_⟩⟩
      have rr := r.ex e
      have fin : ∀ q H2, H' q = none → Ex H' H2 → Rt C H2 q (rO (gAdd o u o' u') (u * u')) (rU' (gAdd o u o' u') (u * u')) → Q (.ref q) H2 := fun q H2 hq e2 r2 => k q H2 (e.free hq) (e.trans e2) r2
      tm_at "s"
      obtain ⟨d1, h1⟩ := rr
      obtain ⟨d2, h2⟩ := r'
      refine ⟨p, C, d1, _, _, rfl, h1, T.cl, T.nO, rfl, ?_⟩
      tm_at "s"
      refine ⟨q, C, d2, _, _, rfl, h2, T.cl, T.nU, rfl, ?_⟩
      tm_at "s"
      refine s_mulI (m1000 b.ho b'.hu) ?_
      tm_at "s"
      refine ⟨q, C, d2, _, _, rfl, h2, T.cl, T.nO, rfl, ?_⟩
      tm_at "s"
      refine ⟨p, C, d1, _, _, rfl, h1, T.cl, T.nU, rfl, ?_⟩
      tm_at "s"
      refine s_mulI (m1000 b'.ho b.hu) ?_
      tm_at "s"
      refine ⟨p, C, d1, _, _, rfl, h1, T.cl, T.nU, rfl, ?_⟩
      tm_at "s"
      refine ⟨q, C, d2, _, _, rfl, h2, T.cl, T.nU, rfl, ?_⟩
      tm_at "s"
      refine s_mulI (m1000 b.hu b'.hu) ?_
      tm_at "s"
      exact s_mkR (mne b.pos b'.pos) (m8000 b.hu b'.hu) fin
    · refine ⟨y, rfl, .inr ⟨t, hy, k⟩⟩
theorem ok_radd {f : Addr} {fd : FuncData} (F : Fun K "__radd__" "Ratio.__radd__" s_Ratio___radd__ f fd) (T : TxtQ K mg C CB CL) (c_told_of : FnO P w K mg base (L2.CX P w) 5 "told_of" ["value"] (spTold C CB)) (m_Ratio_2 : McO P w K mg base (L2.CX P w) 3 "Ratio" C ["self", "over", "under"] (spRatio C CB) []) :
    FnOk P w K mg base (L2.CX P w) 6 f fd ["self", "other"] (spBin gAdd C CB) := by
  refine funO F sc_Ratio___radd__ (fun vs H Q E h => ?_) (fun cd A fr s H vs Q E hr h => ?_)
  · obtain ⟨p, y, o, u, rfl, _⟩ := h; rfl
  · obtain ⟨p, y, o, u, rfl, r, b, hc⟩ := h
    refine ⟨_, (pss_cons (ps_set (i := 2) sc_Ratio___radd__.nd rfl (Or.inl rfl) (pe_o c_told_of hr (passT (takes_of rfl rfl rfl rfl) (fun _ _ _ _ h => h)) (pa_cons (pv 1) pa_nil)))
      (pss_one (ps_ret (pe_mko m_Ratio_2 hr (passT (takes_of rfl rfl rfl rfl) (fun _ _ _ _ h => h)) (pa_cons (pe_op opAdd (pe_op opMul (KX.fld (K := K) rfl (pv 0) rfl) (KX.fld (K := K) rfl (pv 2) rfl)) (pe_op opMul (KX.fld (K := K) rfl (pv 2) rfl) (KX.fld (K := K) rfl (pv 0) rfl))) (pa_cons (pe_op opMul (KX.fld (K := K) rfl (pv 0) rfl) (KX.fld (K := K) rfl (pv 2) rfl)) pa_nil)))))), ?_⟩
    tm_at "s"
    rcases hc with ⟨o', u', n, b', k⟩ | ⟨t, hy, k⟩
    · refine ⟨y, rfl, .inl ⟨o', u', n, fun q H' e r' => ?_⟩⟩
      have rr := r.ex e
      have fin : ∀ q H2, H' q = none → Ex H' H2 → Rt C H2 q (rO (gAdd o u o' u') (u * u')) (rU' (gAdd o u o' u') (u * u')) → Q (.ref q) H2 := fun q H2 hq e2 r2 => k q H2 (e.free hq) (e.trans e2) r2
      tm_at "s"
      obtain ⟨d1, h1⟩ := rr
      obtain ⟨d2, h2⟩ := r'
      refine ⟨p, C, d1, _, _, rfl, h1, T.cl, T.nO, rfl, ?_⟩
      tm_at "s"
      refine ⟨q, C, d2, _, _, rfl, h2, T.cl, T.nU, rfl, ?_⟩
      tm_at "s"
      refine s_mulI (m1000 b.ho b'.hu) ?_
      tm_at "s"
      refine ⟨q, C, d2, _, _, rfl, h2, T.cl, T.nO, rfl, ?_⟩
      tm_at "s"
      refine ⟨p, C, d1, _, _, rfl, h1, T.cl, T.nU, rfl, ?_⟩
      tm_at "s"
      refine s_mulI (m1000 b'.ho b.hu) ?_
      tm_at "s"
      refine ⟨p, C, d1, _, _, rfl, h1, T.cl, T.nU, rfl, ?_⟩
      tm_at "s"
      refine ⟨q, C, d2, _, _, rfl, h2, T.cl, T.nU, rfl, ?_⟩
      tm_at "s"
      refine s_mulI (m1000 b.hu b'.hu) ?_
      tm_at "s"
      exact s_mkR (mne b.pos b'.pos) (m8000 b.hu b'.hu) fin
    · refine ⟨y, rfl, .inr ⟨t, hy, k⟩⟩
theorem ok_sub {f : Addr} {fd : FuncData} (F : Fun K "__sub__" "Ratio.__sub__" s_Ratio___sub__ f fd) (T : TxtQ K mg C CB CL) (c_told_of : FnO P w K mg base (L2.CX P w) 5 "told_of" ["value"] (spTold C CB)) (m_Ratio_2 : McO P w K mg base (L2.CX P w) 3 "Ratio" C ["self", "over", "under"] (spRatio C CB) []) :
    FnOk P w K mg base (L2.CX P w) 6 f fd ["self", "other"] (spBin gDif C CB) := by
  refine funO F sc_Ratio___sub__ (fun vs H Q E h => ?_) (fun cd A fr s H vs Q E hr h => ?_)
  · obtain ⟨p, y, o, u, rfl, _⟩ := h; rfl
  · obtain ⟨p, y, o, u, rfl, r, b, hc⟩ := h
    refine ⟨_, (pss_cons (ps_set (i := 2) sc_Ratio___sub__.nd rfl (Or.inl rfl) (pe_o c_told_of hr (passT (takes_of rfl rfl rfl rfl) (fun _ _ _ _ h => h)) (pa_cons (pv 1) pa_nil)))
      (pss_one (ps_ret (pe_mko m_Ratio_2 hr (passT (takes_of rfl rfl rfl rfl) (fun _ _ _ _ h => h)) (pa_cons (pe_op op_sub (pe_op opMul (KX.fld (K := K) rfl (pv 0) rfl) (KX.fld (K := K) rfl (pv 2) rfl)) (pe_op opMul (KX.fld (K := K) rfl (pv 2) rfl) (KX.fld (K := K) rfl (pv 0) rfl))) (pa_cons (pe_op opMul (KX.fld (K := K) rfl (pv 0) rfl) (KX.fld (K := K) rfl (pv 2) rfl)) pa_nil)))))), ?_⟩
    tm_at "s"
    rcases hc with ⟨o', u', n, b', k⟩ | ⟨t, hy, k⟩
    · refine ⟨y, rfl, .inl ⟨o', u', n, fun q H' e r' => ?_⟩⟩
      have rr := r.ex e
      have fin : ∀ q H2, H' q = none → Ex H' H2 → Rt C H2 q (rO (gDif o u o' u') (u * u')) (rU' (gDif o u o' u') (u * u')) → Q (.ref q) H2 := fun q H2 hq e2 r2 => k q H2 (e.free hq) (e.trans e2) r2
      tm_at "s"
      obtain ⟨d1, h1⟩ := rr
      obtain ⟨d2, h2⟩ := r'
      refine ⟨p, C, d1, _, _, rfl, h1, T.cl, T.nO, rfl, ?_⟩
      tm_at "s"
      refine ⟨q, C, d2, _, _, rfl, h2, T.cl, T.nU, rfl, ?_⟩
      tm_at "s"
      refine s_mulI (m1000 b.ho b'.hu) ?_
      tm_at "s"
      refine ⟨q, C, d2, _, _, rfl, h2, T.cl, T.nO, rfl, ?_⟩
      tm_at "s"
      refine ⟨p, C, d1, _, _, rfl, h1, T.cl, T.nU, rfl, ?_⟩
      tm_at "s"
      refine s_mulI (m1000 b'.ho b.hu) ?_
      tm_at "s"
      refine ⟨p, C, d1, _, _, rfl, h1, T.cl, T.nU, rfl, ?_⟩
      tm_at "s"
      refine ⟨q, C, d2, _, _, rfl, h2, T.cl, T.nU, rfl, ?_⟩
      tm_at "s"
      refine s_mulI (m1000 b.hu b'.hu) ?_
      tm_at "s"
      exact s_mkR (mne b.pos b'.pos) (m8000 b.hu b'.hu) fin
    · refine ⟨y, rfl, .inr ⟨t, hy, k⟩⟩
theorem ok_rsub {f : Addr} {fd : FuncData} (F : Fun K "__rsub__" "Ratio.__rsub__" s_Ratio___rsub__ f fd) (T : TxtQ K mg C CB CL) (c_told_of : FnO P w K mg base (L2.CX P w) 5 "told_of" ["value"] (spTold C CB)) (m_Ratio_2 : McO P w K mg base (L2.CX P w) 3 "Ratio" C ["self", "over", "under"] (spRatio C CB) []) :
    FnOk P w K mg base (L2.CX P w) 6 f fd ["self", "other"] (spBin gRdif C CB) := by
  refine funO F sc_Ratio___rsub__ (fun vs H Q E h => ?_) (fun cd A fr s H vs Q E hr h => ?_)
  · obtain ⟨p, y, o, u, rfl, _⟩ := h; rfl
  · obtain ⟨p, y, o, u, rfl, r, b, hc⟩ := h
    refine ⟨_, (pss_cons (ps_set (i := 2) sc_Ratio___rsub__.nd rfl (Or.inl rfl) (pe_o c_told_of hr (passT (takes_of rfl rfl rfl rfl) (fun _ _ _ _ h => h)) (pa_cons (pv 1) pa_nil)))
      (pss_one (ps_ret (pe_mko m_Ratio_2 hr (passT (takes_of rfl rfl rfl rfl) (fun _ _ _ _ h => h)) (pa_cons (pe_op op_sub (pe_op opMul (KX.fld (K := K) rfl (pv 2) rfl) (KX.fld (K := K) rfl (pv 0) rfl)) (pe_op opMul (KX.fld (K := K) rfl (pv 0) rfl) (KX.fld (K := K) rfl (pv 2) rfl))) (pa_cons (pe_op opMul (KX.fld (K := K) rfl (pv 0) rfl) (KX.fld (K := K) rfl (pv 2) rfl)) pa_nil)))))), ?_⟩
    tm_at "s"
    rcases hc with ⟨o', u', n, b', k⟩ | ⟨t, hy, k⟩
    · refine ⟨y, rfl, .inl ⟨o', u', n, fun q H' e r' => ?_⟩⟩
      have rr := r.ex e
      have fin : ∀ q H2, H' q = none → Ex H' H2 → Rt C H2 q (rO (gRdif o u o' u') (u * u')) (rU' (gRdif o u o' u') (u * u')) → Q (.ref q) H2 := fun q H2 hq e2 r2 => k q H2 (e.free hq) (e.trans e2) r2
      tm_at "s"
      obtain ⟨d1, h1⟩ := rr
      obtain ⟨d2, h2⟩ := r'
      refine ⟨q, C, d2, _, _, rfl, h2, T.cl, T.nO, rfl, ?_⟩
      tm_at "s"
      refine ⟨p, C, d1, _, _, rfl, h1, T.cl, T.nU, rfl, ?_⟩
      tm_at "s"
      refine s_mulI (m1000 b'.ho b.hu) ?_
      tm_at "s"
      refine ⟨p, C, d1, _, _, rfl, h1, T.cl, T.nO, rfl, ?_⟩
      tm_at "s"
      refine ⟨q, C, d2, _, _, rfl, h2, T.cl, T.nU, rfl, ?_⟩
      tm_at "s"
      refine s_mulI (m1000 b.ho b'.hu) ?_
      tm_at "s"
      refine ⟨p, C, d1, _, _, rfl, h1, T.cl, T.nU, rfl, ?_⟩
      tm_at "s"
      refine ⟨q, C, d2, _, _, rfl, h2, T.cl, T.nU, rfl, ?_⟩
      tm_at "s"
      refine s_mulI (m1000 b.hu b'.hu) ?_
      tm_at "s"
      exact s_mkR (mne b.pos b'.pos) (m8000 b.hu b'.hu) fin
    · refine ⟨y, rfl, .inr ⟨t, hy, k⟩⟩
theorem ok_mul {f : Addr} {fd : FuncData} (F : Fun K "__mul__" "Ratio.__mul__" s_Ratio___mul__ f fd) (T : TxtQ K mg C CB CL) (c_told_of : FnO P w K mg base (L2.CX P w) 5 "told_of" ["value"] (spTold C CB)) (m_Ratio_2 : McO P w K mg base (L2.CX P w) 3 "Ratio" C ["self", "over", "under"] (spRatio C CB) []) :
    FnOk P w K mg base (L2.CX P w) 6 f fd ["self", "other"] (spBin gMul C CB) := by
  refine funO F sc_Ratio___mul__ (fun vs H Q E h => ?_) (fun cd A fr s H vs Q E hr h => ?_)
  · obtain ⟨p, y, o, u, rfl, _⟩ := h; rfl
  · obtain ⟨p, y, o, u, rfl, r, b, hc⟩ := h
    refine ⟨_, (pss_cons (ps_set (i := 2) sc_Ratio___mul__.nd rfl (Or.inl rfl) (pe_o c_told_of hr (passT (takes_of rfl rfl rfl rfl) (fun _ _ _ _ h => h)) (pa_cons (pv 1) pa_nil)))
      (pss_one (ps_ret (pe_mko m_Ratio_2 hr (passT (takes_of rfl rfl rfl rfl) (fun _ _ _ _ h => h)) (pa_cons (pe_op opMul (KX.fld (K := K) rfl (pv 0) rfl) (KX.fld (K := K) rfl (pv 2) rfl)) (pa_cons (pe_op opMul (KX.fld (K := K) rfl (pv 0) rfl) (KX.fld (K := K) rfl (pv 2) rfl)) pa_nil)))))), ?_⟩
    tm_at "s"
    rcases hc with ⟨o', u', n, b', k⟩ | ⟨t, hy, k⟩
    · refine ⟨y, rfl, .inl ⟨o', u', n, fun q H' e r' => ?_⟩⟩
      have rr := r.ex e
      have fin : ∀ q H2, H' q = none → Ex H' H2 → Rt C H2 q (rO (gMul o u o' u') (u * u')) (rU' (gMul o u o' u') (u * u')) → Q (.ref q) H2 := fun q H2 hq e2 r2 => k q H2 (e.free hq) (e.trans e2) r2
      tm_at "s"
      obtain ⟨d1, h1⟩ := rr
      obtain ⟨d2, h2⟩ := r'
      refine ⟨p, C, d1, _, _, rfl, h1, T.cl, T.nO, rfl, ?_⟩
      tm_at "s"
      refine ⟨q, C, d2, _, _, rfl, h2, T.cl, T.nO, rfl, ?_⟩
      tm_at "s"
      refine s_mulI (m1000 b.ho b'.ho) ?_
      tm_at "s"
      refine ⟨p, C, d1, _, _, rfl, h1, T.cl, T.nU, rfl, ?_⟩
      tm_at "s"
      refine ⟨q, C, d2, _, _, rfl, h2, T.cl, T.nU, rfl, ?_⟩
      tm_at "s"
      refine s_mulI (m1000 b.hu b'.hu) ?_
      tm_at "s"
      exact s_mkR (mne b.pos b'.pos) (m8000 b.hu b'.hu) fin
    · refine ⟨y, rfl, .inr ⟨t, hy, k⟩⟩
theorem ok_rmul {f : Addr} {fd : FuncData} (F : Fun K "__rmul__" "Ratio.__rmul__" s_Ratio___rmul__ f fd) (T : TxtQ K mg C CB CL) (c_told_of : FnO P w K mg base (L2.CX P w) 5 "told_of" ["value"] (spTold C CB)) (m_Ratio_2 : McO P w K mg base (L2.CX P w) 3 "Ratio" C ["self", "over", "under"] (spRatio C CB) []) :
    FnOk P w K mg base (L2.CX P w) 6 f fd ["self", "other"] (spBin gMul C CB) := by
  refine funO F sc_Ratio___rmul__ (fun vs H Q E h => ?_) (fun cd A fr s H vs Q E hr h => ?_)
  · obtain ⟨p, y, o, u, rfl, _⟩ := h; rfl
  · obtain ⟨p, y, o, u, rfl, r, b, hc⟩ := h
    refine ⟨_, (pss_cons (ps_set (i := 2) sc_Ratio___rmul__.nd rfl (Or.inl rfl) (pe_o c_told_of hr (passT (takes_of rfl rfl rfl rfl) (fun _ _ _ _ h => h)) (pa_cons (pv 1) pa_nil)))
      (pss_one (ps_ret (pe_mko m_Ratio_2 hr (passT (takes_of rfl rfl rfl rfl) (fun _ _ _ _ h => h)) (pa_cons (pe_op opMul (KX.fld (K := K) rfl (pv 0) rfl) (KX.fld (K := K) rfl (pv 2) rfl)) (pa_cons (pe_op opMul (KX.fld (K := K) rfl (pv 0) rfl) (KX.fld (K := K) rfl (pv 2) rfl)) pa_nil)))))), ?_⟩
    tm_at "s"
    rcases hc with ⟨o', u', n, b', k⟩ | ⟨t, hy, k⟩
    · refine ⟨y, rfl, .inl ⟨o', u', n, fun q H' e r' => ?_⟩⟩
      have rr := r.ex e
      have fin : ∀ q H2, H' q = none → Ex H' H2 → Rt C H2 q (rO (gMul o u o' u') (u * u')) (rU' (gMul o u o' u') (u * u')) → Q (.ref q) H2 := fun q H2 hq e2 r2 => k q H2 (e.free hq) (e.trans e2) r2
      tm_at "s"
      obtain ⟨d1, h1⟩ := rr
      obtain ⟨d2, h2⟩ := r'
      refine ⟨p, C, d1, _, _, rfl, h1, T.cl, T.nO, rfl, ?_⟩
      tm_at "s"
      refine ⟨q, C, d2, _, _, rfl, h2, T.cl, T.nO, rfl, ?_⟩
      tm_at "s"
      refine s_mulI (m1000 b.ho b'.ho) ?_
      tm_at "s"
      refine ⟨p, C, d1, _, _, rfl, h1, T.cl, T.nU, rfl, ?_⟩
      tm_at "s"
      refine ⟨q, C, d2, _, _, rfl, h2, T.cl, T.nU, rfl, ?_⟩
      tm_at "s"
      refine s_mulI (m1000 b.hu b'.hu) ?_
      tm_at "s"
      exact s_mkR (mne b.pos b'.pos) (m8000 b.hu b'.hu) fin
    · refine ⟨y, rfl, .inr ⟨t, hy, k⟩⟩
end
end K72
end
section
set_option exponentiation.threshold 2000
namespace L3
open PySem PySem.NumText PySem.Spec PyProof.Rows L2 LamX RZ
theorem nb_mul {x y : Int} {A B : Nat} (hx : x.natAbs ≤ A) (hy : y.natAbs ≤ B) : (x * y).natAbs ≤ A * B := by rw [Int.natAbs_mul]; exact Nat.mul_le_mul hx hy
theorem nb_add {x y : Int} {A B : Nat} (hx : x.natAbs ≤ A) (hy : y.natAbs ≤ B) : (x + y).natAbs ≤ A + B := Nat.le_trans (Int.natAbs_add_le x y) (Nat.add_le_add hx hy)
theorem nb_sub {x y : Int} {A B : Nat} (hx : x.natAbs ≤ A) (hy : y.natAbs ≤ B) : (x - y).natAbs ≤ A + B := by omega
theorem rO_nb {a b : Int} (hb : b ≠ 0) : (rO a b).natAbs ≤ a.natAbs := by
  obtain ⟨k, hk, h1, _⟩ := r_scale (a := a) hb
  have e : a.natAbs = (rO a b).natAbs * k.natAbs := by rw [← Int.natAbs_mul, ← h1]
  have := Nat.le_mul_of_pos_right (rO a b).natAbs (Int.natAbs_pos.mpr hk)
  omega
theorem rU_nb {a b : Int} (hb : b ≠ 0) : (rU' a b).natAbs ≤ b.natAbs := by
  obtain ⟨k, hk, _, h2⟩ := r_scale (a := a) hb
  have e : b.natAbs = (rU' a b).natAbs * k.natAbs := by rw [← Int.natAbs_mul, ← h2]
  have := Nat.le_mul_of_pos_right (rU' a b).natAbs (Int.natAbs_pos.mpr hk)
  omega
def LB : Nat := 10 ^ 200
theorem lb_1000 {x : Int} (h : x.natAbs ≤ LB) : x.natAbs < 2 ^ 1000 := Nat.lt_of_le_of_lt h (by decide +kernel)
theorem lb_le {x : Int} {A : Nat} (h : x.natAbs ≤ A) (hA : A ≤ LB := by decide +kernel) : x.natAbs < 2 ^ 1000 := lb_1000 (Nat.le_trans h hA)
section
variable {H : Hp} {Q : VK}
theorem s_mulP {i j : Int} {A B : Nat} (hi : i.natAbs ≤ A) (hj : j.natAbs ≤ B) (h : Q (.int (i * j)) H) (hA : A ≤ LB := by decide +kernel) (hB : B ≤ LB := by decide +kernel) : rMulU (.int i) (.int j) H Q := s_mulW (lb_le hi hA) (lb_le hj hB) (by decide) (by decide) (by decide) h
end
/-- a fraction's parts within bounds -/
structure Bn (A B : Nat) (q : Int × Int) : Prop where
  o : q.1.natAbs ≤ A
  u : q.2.natAbs ≤ B
  pos : 0 < q.2
theorem Bn.bd {A B : Nat} {q : Int × Int} (h : Bn A B q) (hA : A ≤ LB := by decide +kernel) (hB : B ≤ LB := by decide +kernel) : Bd q.1 q.2 := ⟨lb_le h.o hA, lb_le h.u hB, h.pos⟩
/-- Ratio(a, b) -/
def mkR (a b : Int) : Int × Int := (rO a b, rU' a b)
def addR (p q : Int × Int) : Int × Int := mkR (gAdd p.1 p.2 q.1 q.2) (p.2 * q.2)
theorem mkR_bn {a b : Int} {A B : Nat} (ha : a.natAbs ≤ A) (hb : b.natAbs ≤ B) (h0 : b ≠ 0) : Bn A B (mkR a b) := ⟨Nat.le_trans (rO_nb h0) ha, Nat.le_trans (rU_nb h0) hb, rU_pos h0⟩
theorem int_bn {a : Int} {A : Nat} (ha : a.natAbs ≤ A) : Bn A 1 (a, 1) := ⟨ha, by show Int.natAbs 1 ≤ 1; decide, by show (0 : Int) < 1; decide⟩
theorem addR_bn {p q : Int × Int} {A B C D : Nat} (hp : Bn A B p) (hq : Bn C D q) : Bn (A * D + C * B) (B * D) (addR p q) :=
  mkR_bn (nb_add (nb_mul hp.o hq.u) (nb_mul hq.o hp.u)) (nb_mul hp.u hq.u) (fun z => (Int.mul_eq_zero.mp z).elim (fun z => by have := hp.pos; omega) (fun z => by have := hq.pos; omega))
/-- what the costs and the fee of a setting can be -/
structure OkS (a b f : Int) : Prop where
  a1 : 1 ≤ a
  ab : a ≤ b
  b6 : b ≤ 60
  f0 : 0 ≤ f
  f1 : f ≤ 10 ^ 30
def extraS (ws : List (Str × Int)) (a b f rest place size : Int) : Int := place * f * maxW ws - b * size - a * (rest - size)
def lateS (ws : List (Str × Int)) (a b f rest place size : Int) : Int × Int :=
  addR (addR (mkR (b * size) (minW ws)) (mkR (extraS ws a b f rest place size) (if extraS ws a b f rest place size ≤ 0 then sumW ws else maxW ws))) (f, 1)
theorem sumW_bn : ∀ {ws : List (Str × Int)}, (∀ p ∈ ws, 1 ≤ p.2 ∧ p.2 ≤ 60) → 0 ≤ sumW ws ∧ sumW ws ≤ 60 * (ws.length : Int) ∧ (ws ≠ [] → 1 ≤ sumW ws)
  | [], _ => ⟨by decide, by decide, fun z => absurd rfl z⟩
  | p :: r, h => by
    have hp := h p (List.mem_cons_self ..)
    have ih := sumW_bn (ws := r) fun q hq => h q (List.mem_cons_of_mem _ hq)
    have e : sumW (p :: r) = p.2 + sumW r := by unfold sumW; rw [List.map_cons, List.sum_cons]
    rw [e, List.length_cons]
    refine ⟨by omega, by omega, fun _ => by omega⟩
theorem OkW.sum {ws : List (Str × Int)} (h : OkW ws) : 1 ≤ sumW ws ∧ sumW ws ≤ 480 := by
  have := sumW_bn h.sp
  have h8 := h.le
  exact ⟨this.2.2 h.ne, by omega⟩
theorem OkW.min {ws : List (Str × Int)} (h : OkW ws) : 1 ≤ minW ws ∧ minW ws ≤ 60 := by
  obtain ⟨p, hp, e⟩ := List.mem_map.mp (minW_mem h.ne)
  rw [← e]; exact h.sp p hp
theorem OkW.max {ws : List (Str × Int)} (h : OkW ws) : 1 ≤ maxW ws ∧ maxW ws ≤ 60 := by
  obtain ⟨p, hp, e⟩ := List.mem_map.mp (maxW_mem h.ne)
  rw [← e]; exact h.sp p hp
theorem nb_of {x : Int} {A : Nat} (h0 : 0 ≤ x) (h : x ≤ (A : Int)) : x.natAbs ≤ A := by omega
def stF6 (q : Addr) (ws : List (Str × Int)) (a b f : Int) : List (Str × V) := [("crew", .ref q), ("least", .int a), ("most", .int b), ("fee", .int f), ("own_slow", .int (minW ws)), ("own_fast", .int (maxW ws))]
/-- a setting: its crew's pairs, its costs, its fee -/
def St (C CW CQ : Addr) (H : Hp) (p : Addr) (ws : List (Str × Int)) (a b f : Int) : Prop := ∃ dx q l, H p = some (.ins C dx (stF6 q ws a b f ++ ([("lowest", .ref l)] : List (Str × V)))) ∧ Cw CW H q ws ∧ Rt CQ H l (lateS ws a b f 1 0 1).1 (lateS ws a b f 1 0 1).2
theorem St.exN {C CW CQ : Addr} {H H' : Hp} {p : Addr} {ws : List (Str × Int)} {a b f : Int} (h : St C CW CQ H p ws a b f) (e : ExtN H H') : St C CW CQ H' p ws a b f := by
  obtain ⟨dx, q, l, h1, h2, h3⟩ := h
  exact ⟨dx, q, l, e _ _ h1 (fun _ z => nomatch z), h2.exN e, h3.exN e⟩
theorem St.ex {C CW CQ : Addr} {H H' : Hp} {p : Addr} {ws : List (Str × Int)} {a b f : Int} (h : St C CW CQ H p ws a b f) (e : Ex H H') : St C CW CQ H' p ws a b f := h.exN e.n
/-- no rest from 1 on -/
def OutR (K : PySem.W.Frag) (H : Hp) (x : V) (m : Int) : Prop := NI K H x ∨ ∃ i, x = .int i ∧ i < m
def spSpot (K : PySem.W.Frag) (CR CC : Addr) : Sp := fun vs H Q E => ∃ x y, vs = [x, y] ∧ ((OutR K H x 1 ∧ Rz CR "value" x H E) ∨ (∃ i, x = .int i ∧ 1 ≤ i ∧ ((OutR K H y 0 ∧ Rz CC "part" (.str "place") H E) ∨ ∃ j, y = .int j ∧ 0 ≤ j ∧ Q .non H)))
def spLate (K : PySem.W.Frag) (C CW CQ CR CC CB : Addr) : Sp := fun vs H Q E => ∃ p dx q ws a b f more x y z, vs = [.ref p, x, y, z] ∧ H p = some (.ins C dx (stF6 q ws a b f ++ more)) ∧ Cw CW H q ws ∧ OkW ws ∧ OkS a b f ∧
  ((OutR K H x 1 ∧ Rz CR "value" x H E) ∨ (∃ r, x = .int r ∧ 1 ≤ r ∧ r ≤ 10 ^ 40 ∧ ((OutR K H y 0 ∧ Rz CC "part" (.str "place") H E) ∨ ∃ j, y = .int j ∧ 0 ≤ j ∧ j ≤ 10 ^ 40 ∧
    ((OutS K H z 1 r ∧ Rz CB "value" z H E) ∨ ∃ s, z = .int s ∧ 1 ≤ s ∧ s ≤ r ∧ ∀ t H', H t = none → Ex H H' → Rt CQ H' t (lateS ws a b f r j s).1 (lateS ws a b f r j s).2 → Q (.ref t) H'))))
/-- Setting(crew, least, most, fee) -/
def spSet (K : PySem.W.Frag) (C CW CQ CS CA CF : Addr) : Sp := fun vs H Q E => ∃ p dx x y z u, vs = [.ref p, x, y, z, u] ∧ H p = some (.ins C dx []) ∧
  ((NC K H (.ref CW) x ∧ Rz CS "part" (.str "crew") H E) ∨ ∃ q ws, x = .ref q ∧ q ≠ p ∧ Cw CW H q ws ∧ OkW ws ∧ ((OutS K H y 1 60 ∧ Rz CA "value" y H E) ∨ ∃ a, y = .int a ∧ 1 ≤ a ∧ a ≤ 60 ∧ ((OutS K H z a 60 ∧ Rz CA "value" z H E) ∨ ∃ b, z = .int b ∧ a ≤ b ∧ b ≤ 60 ∧
    ((OutS K H u 0 (10 ^ 30) ∧ Rz CF "value" u H E) ∨ ∃ f, u = .int f ∧ OkS a b f ∧ ∀ H', (∀ c o, c ≠ p → H c = some o → H' c = some o) → St C CW CQ H' p ws a b f → Q .non H'))))
section
variable {K : PySem.W.Frag} {H : Hp} {Q : VK} {C CW CQ CS CA CF : Addr} {E : XK}
/-- Setting(crew, a, b, f), all as can be -/
theorem s_mkSt {q : Addr} {ws : List (Str × Int)} {a b f : Int} (cw : Cw CW H q ws) (okw : OkW ws) (oks : OkS a b f) (k : ∀ p H', H p = none → Ex H H' → St C CW CQ H' p ws a b f → Q (.ref p) H') :
    ∀ p dx, H p = none → H dx = none → dx ≠ p → spSet K C CW CQ CS CA CF (.ref p :: ([.ref q, .int a, .int b, .int f] ++ [])) (upd (upd H dx (.own p)) p (.ins C dx [])) (fun v H2 => v = .non ∧ ap Q (.ref p) H2) E := fun p dx hp hd hn => by
  have kk : ∀ c o, H c = some o → (upd (upd H dx (.own p)) p (.ins C dx [])) c = some o := fun c o h => by rw [upd_ne (ne_of_none h hp), upd_ne (ne_of_none h hd)]; exact h
  have a60 : a ≤ 60 := Int.le_trans oks.ab oks.b6
  refine ⟨p, dx, _, _, _, _, rfl, upd_same, .inr ⟨q, ws, rfl, fun z => ?_, cw.ex fun c o h => kk c o h, okw, .inr ⟨a, rfl, oks.a1, a60, .inr ⟨b, rfl, oks.ab, oks.b6, .inr ⟨f, rfl, oks, fun H' k' st => ⟨rfl, k p H' hp (fun c o h => k' c o (ne_of_none h hp) (kk c o h)) st⟩⟩⟩⟩⟩⟩
  obtain ⟨dw, wd, wt, w1, _⟩ := cw
  rw [z, hp] at w1; cases w1
end
end L3
end
section
set_option exponentiation.threshold 9000
local macro_rules | `(tactic| tm_at "s1") => `(tactic| first
  | with_reducible first
    | refine L3.s_seq ?_ | refine L3.s_asg ?_ | refine L3.s_op ?_ | refine L3.s_c ?_ | refine L3.s_cb ?_ | refine L3.s_cons ?_ | refine L3.s_nil ?_ | refine L3.s_test ?_ | refine L3.s_bl ?_
    | refine L3.s_I0 ?_ | refine L3.s_and ?_ | refine L3.s_or ?_ | refine L3.s_not ?_ | refine L3.s_if ?_ | refine L3.s_next ?_ | refine L3.s_ret ?_ | refine L3.s_retN ?_ | refine L3.s_asgS ?_ | refine L3.s_drop ?_
    | refine L3.s_un ?_ | refine L3.s_U ?_ | refine L3.s_int ?_ | refine L3.s_intB ?_ | refine L3.s_abs ?_ | refine L3.s_andV ?_ | refine L3.s_orV ?_ | refine L3.s_notV ?_ | refine L3.s_ifE ?_ | refine L3.s_call ?_ | refine L3.s_lst ?_ | refine L3.s_tup ?_ | refine L3.s_tB ?_
    | refine L3.s_addI ?_ | refine L3.s_inS ?_ | refine L3.s_ninS ?_ | refine L3.s_slice ?_ | refine L3.s_part ?_ | refine L3.s_partI ?_ | refine L3.s_nopart ?_ | refine L3.s_cI ?_ | refine L3.s_cB ?_ | refine L3.s_chain ?_ | refine L3.s_bm ?_ | refine L3.s_lcS ?_ | refine L3.s_lcR ?_ | refine L3.s_strE ?_
    | refine L2.iteT ?_ | refine L2.iteF ?_ | refine L3.iteNF ?_ | refine L3.iteNT ?_
    | refine L3.s_eqI ?_ | refine L3.s_neI ?_ | refine L3.s_eqS ?_ | refine L3.s_neS ?_
    | refine L3.s_pair ?_ | refine L3.s_pair2 ?_ | refine L3.s_fld ?_ | refine L3.s_make ?_ | refine L3.s_m1 ?_ | refine L3.s_isstr ?_
    | refine L3.s_xfV ?_ | refine L3.s_lstN ?_ | refine L3.s_callF ?_ | refine L3.s_lcL ?_ | refine L3.s_par3 ?_ | refine L3.s_trip ?_ | refine L3.s_asgT' ?_ | refine L3.s_gC ?_ | refine L3.s_gN ?_ | refine L3.s_fldG ?_ | refine L3.s_raise1 ?_ | refine L3.s_raise2 ?_ | refine L3.s_star ?_ | refine L3.s_mkCR ?_ | refine L3.s_lcZ ?_ | refine L3.s_forL ?_ | refine L3.s_forT ?_ | refine L3.s_gNm ?_ | refine L3.s_forE ?_ | refine L3.s_stC ?_ | refine L3.s_cmC ?_ | refine L3.s_forR1 ?_ | refine L3.s_lcTp ?_ | refine L3.s_forZ ?_ | refine L3.s_orT ?_ | refine L3.s_mt ?_ | refine L3.s_revT ?_ | refine L3.s_revL ?_ | refine L3.s_slOwn ?_ | refine L3.s_sl3 ?_ | refine L3.s_lcO ?_ | refine L3.s_stR ?_
    | refine L3.s_dcL ?_ | refine L3.s_dcT ?_ | refine L3.s_dget ?_ | refine L3.s_forET ?_ | refine L3.s_din ?_ | refine L3.s_dnin ?_ | refine L3.s_mkKV ?_
    | refine L3.s_isN ?_ | refine L3.s_isB ?_ | refine L3.s_nisN ?_ | refine L3.s_nisB ?_
  | ((with_reducible refine' L3.s_var ?e ?_); (case e => rfl))
  | ((with_reducible refine' L3.s_aug ?e ?_); (case e => rfl))
  | ((with_reducible refine' L3.s_pow ?c ?_); (case c => exact ⟨by decide, by decide, by decide⟩)))
local macro_rules | `(tactic| tm_at "s") => `(tactic| repeat tm_at "s1")
namespace K72
open PySem PySem.Spec PyProof.Rows L2 L3 LamX RZ
structure TxtS (K : PySem.W.Frag) (mg : Str → Option Value) (C CW CQ CR CC CB CS CA CF CL : Addr) : Prop where
  b_isinstance : mg "isinstance" = none
  c : ClT K mg "Setting" C
  g_Crew : ∃ u, mg "Crew" = some u ∧ RelV (.ref CW) u
  g_Ratio : ∃ u, mg "Ratio" = some u ∧ RelV (.ref CQ) u
  r : ErT K mg "BadRest" CR CL ["value"]
  k : ErT K mg "BadChunks" CC CL ["part"]
  z : ErT K mg "BadSize" CB CL ["value"]
  s : ErT K mg "BadSetting" CS CL ["part"]
  a : ErT K mg "BadCost" CA CL ["value"]
  f : ErT K mg "BadFee" CF CL ["value"]
  nC : NoAttr K C "crew"
  nL : NoAttr K C "least"
  nM : NoAttr K C "most"
  nF : NoAttr K C "fee"
  nS : NoAttr K C "own_slow"
  nU : NoAttr K C "own_fast"
  nW : NoAttr K C "lowest"
  wl : Cls K CW
  wt : ClT K mg "Crew" CW
  wS : NoAttr K CW "speed"
  wL : NoAttr K CW "slowest"
  wF : NoAttr K CW "fastest"
  g_MOST_COST : ∃ u, mg "MOST_COST" = some u ∧ RelV (.int 60) u
  g_MOST_FEE : ∃ u, mg "MOST_FEE" = some u ∧ RelV (.int (10 ^ 30)) u
section
variable {K : PySem.W.Frag} {mg : Str → Option Value} {C CW CQ CR CC CB CS CA CF CL : Addr}
theorem TxtS.g_Setting (T : TxtS K mg C CW CQ CR CC CB CS CA CF CL) : ∃ u, mg "Setting" = some u ∧ RelV (.ref C) u := T.c.g
theorem TxtS.g_BadSetting (T : TxtS K mg C CW CQ CR CC CB CS CA CF CL) : ∃ u, mg "BadSetting" = some u ∧ RelV (.ref CS) u := T.s.g
end
abbrev s_need_spot : Stmt := topS 59
theorem sc_need_spot : FnScope ["rest", "place"] ["rest", "place"] (defScope s_need_spot) := ⟨rfl, rfl, rfl, by decide +kernel, rfl, by decide +kernel, by decide +kernel⟩
abbrev s_Setting_late_of : Stmt := inClass (topS 62) 2
theorem sc_Setting_late_of : FnScope ["self", "rest", "place", "size", "extra", "speed"] ["self", "rest", "place", "size"] (defScope s_Setting_late_of) := ⟨rfl, rfl, rfl, by decide +kernel, rfl, by decide +kernel, by decide +kernel⟩
abbrev s_Setting___init__ : Stmt := inClass (topS 62) 0
theorem sc_Setting___init__ : FnScope ["self", "crew", "least", "most", "fee"] ["self", "crew", "least", "most", "fee"] (defScope s_Setting___init__) := ⟨rfl, rfl, rfl, by decide +kernel, rfl, by decide +kernel, by decide +kernel⟩
section
variable {P : Program} {w : World} {K : PySem.W.Frag} {mg : Str → Option Value} {base : Heap} {C CW CQ CR CC CB CS CA CF CL CBR CO : Addr}
theorem ok_need_spot {f : Addr} {fd : FuncData} (F : Fun K "need_spot" "need_spot" s_need_spot f fd) (T : TxtS K mg C CW CQ CR CC CB CS CA CF CL) (c_is_integer : FnO P w K mg base CX0 1 "is_integer" ["value"] (spIsI2 K)) (e_BadRest : Er1 P w K mg base "BadRest" CR "value") (e_BadChunks : Er1 P w K mg base "BadChunks" CC "part") :
    FnOk P w K mg base (L2.CX P w) 3 f fd ["rest", "place"] (spSpot K CR CC) := by
  refine funO F sc_need_spot (fun vs H Q E h => ?_) (fun cd A fr s H vs Q E hr h => ?_)
  · obtain ⟨x, y, rfl, _⟩ := h; rfl
  · obtain ⟨x, y, rfl, hc⟩ := h
    refine ⟨_, (pss_cons (ps_if (PW.pt (pw_or (pt_not (pt_val (pe_o c_is_integer hr pass0 (pa_cons (pv 0) pa_nil)))) (pw_or1 (pt_cmpR op_lt (pv 0) pe_int (nomark _))))) (pss_one (ps_raise1 e_BadRest hr rfl (takes_of rfl rfl rfl rfl) (pa_cons (pv 0) pa_nil))) pss_nil)
      (pss_one (ps_if (PW.pt (pw_or (pt_not (pt_val (pe_o c_is_integer hr pass0 (pa_cons (pv 1) pa_nil)))) (pw_or1 (pt_cmpR op_lt (pv 1) pe_int (nomark _))))) (pss_one (ps_raise1 e_BadChunks hr rfl (takes_of rfl rfl rfl rfl) (pa_cons pe_str pa_nil))) pss_nil))), ?_⟩
    tm_at "s"
    rcases hc with ⟨ni | ⟨i, rfl, hi⟩, rz⟩ | ⟨i, rfl, hi, hc⟩
    · refine ⟨_, rfl, .inr ⟨ni, ?_⟩⟩
      tm_at "s"
      exact s_rz rz
    · refine ⟨_, rfl, .inl ⟨i, rfl, ?_⟩⟩
      tm_at "s"
      refine iteD (fun _ => ?_) (fun z => absurd hi z)
      tm_at "s"
      exact s_rz rz
    · refine ⟨_, rfl, .inl ⟨i, rfl, ?_⟩⟩
      tm_at "s"
      refine iteD (fun z => absurd z (by omega)) (fun _ => ?_)
      tm_at "s"
      rcases hc with ⟨ni | ⟨j, rfl, hj⟩, rz⟩ | ⟨j, rfl, hj, k⟩
      · refine ⟨_, rfl, .inr ⟨ni, ?_⟩⟩
        tm_at "s"
        exact s_rz rz
      · refine ⟨_, rfl, .inl ⟨j, rfl, ?_⟩⟩
        tm_at "s"
        refine iteD (fun _ => ?_) (fun z => absurd hj z)
        tm_at "s"
        exact s_rz rz
      · refine ⟨_, rfl, .inl ⟨j, rfl, ?_⟩⟩
        tm_at "s"
        refine iteD (fun z => absurd z (by omega)) (fun _ => ?_)
        tm_at "s"
        exact k
theorem ok_late_of {f : Addr} {fd : FuncData} (F : Fun K "late_of" "Setting.late_of" s_Setting_late_of f fd) (T : TxtS K mg C CW CQ CR CC CB CS CA CF CL) (c_need_spot : FnO P w K mg base (L2.CX P w) 3 "need_spot" ["rest", "place"] (spSpot K CR CC)) (c_is_within : FnO P w K mg base CX0 2 "is_within" ["value", "least", "most"] (spWithin2 K))
    (m_Ratio_2 : McO P w K mg base (L2.CX P w) 3 "Ratio" CQ ["self", "over", "under"] (spRatio CQ CBR) []) (c_add : BinM P w K mg base CQ .Add 6 (spBin gAdd CQ CBR) (spBin gAdd CQ CBR)) (e_BadSize : Er1 P w K mg base "BadSize" CB "value") :
    FnOk P w K mg base (L2.CX P w) 8 f fd ["self", "rest", "place", "size"] (spLate K C CW CQ CR CC CB) := by
  refine funO F sc_Setting_late_of (fun vs H Q E h => ?_) (fun cd A fr s H vs Q E hr h => ?_)
  · obtain ⟨p, dx, q, ws, a, b, f, more, x, y, z, rfl, _⟩ := h; rfl
  · obtain ⟨p, dx, q, ws, a, b, f, more, x, y, z, rfl, hp, hw, okw, oks, hc⟩ := h
    refine ⟨_, (pss_cons (ps_expr (pe_o c_need_spot hr (passT (takes_of rfl rfl rfl rfl) (fun _ _ _ _ h => h)) (pa_cons (pv 1) (pa_cons (pv 2) pa_nil))))
      (pss_cons (ps_if (pt_not (pt_val (pe_o c_is_within hr pass0 (pa_cons (pv 3) (pa_cons pe_int (pa_cons (pv 1) pa_nil)))))) (pss_one (ps_raise1 e_BadSize hr rfl (takes_of rfl rfl rfl rfl) (pa_cons (pv 3) pa_nil))) pss_nil)
      (pss_cons (ps_set (i := 4) sc_Setting_late_of.nd rfl (Or.inl rfl) (pe_op op_sub (pe_op op_sub (pe_op opMul (pe_op opMul (pv 2) (KX.fld (K := K) rfl (pv 0) rfl)) (KX.fld (K := K) rfl (pv 0) rfl)) (pe_op opMul (KX.fld (K := K) rfl (pv 0) rfl) (pv 3))) (pe_op opMul (KX.fld (K := K) rfl (pv 0) rfl) (pe_op op_sub (pv 1) (pv 3)))))
      (Evl.pss_cut (ps_set (i := 5) sc_Setting_late_of.nd rfl (Or.inl rfl) (pe_ifExp (pt_cmpR op_le (pv 4) pe_int (nomark _)) (KX.fld (K := K) rfl (KX.fld (K := K) rfl (pv 0) rfl) rfl) (KX.fld (K := K) rfl (pv 0) rfl)))
      (pss_one (ps_ret (pe_op (opBin opK_add c_add hr (passT (takes_of rfl rfl rfl rfl) (fun _ _ _ _ h => h))) (pe_op (opBin opK_add c_add hr (passT (takes_of rfl rfl rfl rfl) (fun _ _ _ _ h => h))) (pe_mko m_Ratio_2 hr (passT (takes_of rfl rfl rfl rfl) (fun _ _ _ _ h => h)) (pa_cons (pe_op opMul (KX.fld (K := K) rfl (pv 0) rfl) (pv 3)) (pa_cons (KX.fld (K := K) rfl (pv 0) rfl) pa_nil))) (pe_mko m_Ratio_2 hr (passT (takes_of rfl rfl rfl rfl) (fun _ _ _ _ h => h)) (pa_cons (pv 4) (pa_cons (pv 5) pa_nil)))) (KX.fld (K := K) rfl (pv 0) rfl)))))))), ?_⟩
    tm_at "s"
    rcases hc with ⟨ho, rz⟩ | ⟨r, rfl, r1, r2, hc⟩
    · exact ⟨_, _, rfl, .inl ⟨ho, rz⟩⟩
    rcases hc with ⟨ho, rz⟩ | ⟨j, rfl, j1, j2, hc⟩
    · exact ⟨_, _, rfl, .inr ⟨r, rfl, r1, .inl ⟨ho, rz⟩⟩⟩
    refine ⟨_, _, rfl, .inr ⟨r, rfl, r1, .inr ⟨j, rfl, j1, ?_⟩⟩⟩
    tm_at "s"
    rcases hc with ⟨ho, rz⟩ | ⟨s, rfl, s1, s2, k⟩
    · refine ⟨_, _, _, rfl, .inr ⟨ho, ?_⟩⟩
      tm_at "s"
      exact s_rz rz
    refine ⟨_, _, _, rfl, .inl ⟨s, rfl, s1, s2, ?_⟩⟩
    tm_at "s"
    have mn := okw.min
    have mx := okw.max
    have su := okw.sum
    have bj : j.natAbs ≤ 10 ^ 40 := nb_of j1 (by rw [show (((10 ^ 40 : Nat) : Int)) = 10 ^ 40 by decide +kernel]; exact j2)
    have br : r.natAbs ≤ 10 ^ 40 := nb_of (by omega) (by rw [show (((10 ^ 40 : Nat) : Int)) = 10 ^ 40 by decide +kernel]; exact r2)
    have bs : s.natAbs ≤ 10 ^ 40 := Nat.le_trans (by omega : s.natAbs ≤ r.natAbs) br
    have bf : f.natAbs ≤ 10 ^ 30 := nb_of oks.f0 (by rw [show (((10 ^ 30 : Nat) : Int)) = 10 ^ 30 by decide +kernel]; exact oks.f1)
    have bb : b.natAbs ≤ 60 := by have := oks.a1; have := oks.ab; have := oks.b6; omega
    have ba : a.natAbs ≤ 60 := by have := oks.a1; have := oks.ab; have := oks.b6; omega
    have bm : (maxW ws).natAbs ≤ 60 := by omega
    have bn : (minW ws).natAbs ≤ 60 := by omega
    have bu : (sumW ws).natAbs ≤ 480 := by omega
    refine ⟨p, C, dx, _, _, rfl, hp, T.c.cl, T.nF, rfl, ?_⟩
    tm_at "s"
    refine s_mulP bj bf ?_
    tm_at "s"
    refine ⟨p, C, dx, _, _, rfl, hp, T.c.cl, T.nU, rfl, ?_⟩
    refine s_mulP (nb_mul bj bf) bm ?_
    tm_at "s"
    refine ⟨p, C, dx, _, _, rfl, hp, T.c.cl, T.nM, rfl, ?_⟩
    tm_at "s"
    refine s_mulP bb bs ?_
    tm_at "s"
    refine ⟨p, C, dx, _, _, rfl, hp, T.c.cl, T.nL, rfl, ?_⟩
    tm_at "s"
    refine s_mulP ba (nb_sub br bs) ?_
    tm_at "s"
    have be : (extraS ws a b f r j s).natAbs ≤ 10 ^ 40 * 10 ^ 30 * 60 + 60 * 10 ^ 40 + 60 * (10 ^ 40 + 10 ^ 40) := nb_sub (nb_sub (nb_mul (nb_mul bj bf) bm) (nb_mul bb bs)) (nb_mul ba (nb_sub br bs))
    generalize hx : extraS ws a b f r j s = x at be
    unfold extraS at hx
    rw [hx]
    obtain ⟨dw, wd, wt, w1, w2, w3⟩ := id hw
    refine s_cut (M := fun σ' H' => σ' = [some (.ref p), some (.int r), some (.int j), some (.int s), some (.int x), some (.int (if x ≤ 0 then sumW ws else maxW ws))] ∧ H' = H) ?_ ?_
    · tm_at "s"
      refine iteD (fun z => ?_) (fun z => ?_)
      · tm_at "s"
        refine ⟨p, C, dx, _, _, rfl, hp, T.c.cl, T.nC, rfl, ?_⟩
        refine ⟨q, CW, dw, _, _, rfl, w1, T.wl, T.wS, rfl, ?_⟩
        refine ⟨?_, rfl⟩
        rw [if_pos z]; rfl
      · tm_at "s"
        refine ⟨p, C, dx, _, _, rfl, hp, T.c.cl, T.nU, rfl, ?_⟩
        refine ⟨?_, rfl⟩
        rw [if_neg z]; rfl
    rintro σ' H' ⟨rfl, rfl⟩
    have bv : (if x ≤ 0 then sumW ws else maxW ws).natAbs ≤ 480 ∧ (if x ≤ 0 then sumW ws else maxW ws) ≠ 0 := by
      split
      · exact ⟨bu, by omega⟩
      · exact ⟨by omega, by omega⟩
    tm_at "s"
    refine ⟨p, C, dx, _, _, rfl, hp, T.c.cl, T.nM, rfl, ?_⟩
    tm_at "s"
    refine s_mulP bb bs ?_
    tm_at "s"
    refine ⟨p, C, dx, _, _, rfl, hp, T.c.cl, T.nS, rfl, ?_⟩
    tm_at "s"
    refine s_mkR (by omega) (Nat.lt_trans (lb_le bn) (Nat.pow_lt_pow_right (by decide) (by decide))) fun t1 H1 nt1 e1 rt1 => ?_
    tm_at "s"
    refine s_mkR bv.2 (Nat.lt_trans (lb_le bv.1) (Nat.pow_lt_pow_right (by decide) (by decide))) fun t2 H2 nt2 e2 rt2 => ?_
    have B1 := mkR_bn (nb_mul bb bs) bn (by omega)
    have B2 := mkR_bn be bv.1 bv.2
    tm_at "s"
    refine s_bin (fun o u o' u' => by unfold gAdd; omega) (.inl ⟨t1, rfl, rt1.ex e2⟩) (.inl ⟨t2, rfl, rt2⟩) (.inl ⟨t1, rfl⟩) B1.bd B2.bd fun t3 H3 nt3 e3 rt3 => ?_
    have B3 := addR_bn B1 B2
    have e13 := (e1.trans e2).trans e3
    tm_at "s"
    refine ⟨p, C, dx, _, _, rfl, e13 _ _ hp, T.c.cl, T.nF, rfl, ?_⟩
    refine s_bin (fun o u o' u' => by unfold gAdd; omega) (.inl ⟨t3, rfl, rt3⟩) (.inr ⟨rfl, rfl⟩) (.inl ⟨t3, rfl⟩) B3.bd (int_bn bf).bd fun t4 H4 nt4 e4 rt4 => ?_
    refine k t4 H4 (e13.free nt4) (e13.trans e4) ?_
    have el : lateS ws a b f r j s = addR (addR (mkR (b * s) (minW ws)) (mkR x (if x ≤ 0 then sumW ws else maxW ws))) (f, 1) := by
      unfold lateS extraS
      rw [hx]
    rw [el]
    exact rt4
theorem ok_Setting {f : Addr} {fd : FuncData} (F : FunD K "__init__" "Setting.__init__" (defArgs s_Setting___init__) (defBody s_Setting___init__) (defScope s_Setting___init__) [.int 1, .int 1, .int 0] [] f fd) (T : TxtS K mg C CW CQ CR CC CB CS CA CF CL) (c_is_within : FnO P w K mg base CX0 2 "is_within" ["value", "least", "most"] (spWithin2 K))
    (get_i : GetM P w K mg base CW 3 ["self", "name"] (spGetW K CW CO)) (mt_late_of : Mt P w K mg base (L2.CX P w) 8 C "late_of" "self" ["rest", "place", "size"] (spLate K C CW CQ CR CC CB)) (e_BadSetting : Er1 P w K mg base "BadSetting" CS "part") (e_BadCost : Er1 P w K mg base "BadCost" CA "value") (e_BadFee : Er1 P w K mg base "BadFee" CF "value") :
    FnOk P w K mg base (L2.CX P w) 9 f fd ["self", "crew", "least", "most", "fee"] (spSet K C CW CQ CS CA CF) := by
  refine funDO F sc_Setting___init__ (fun vs H Q E h => ?_) (fun cd A fr s H vs Q E hr h => ?_)
  · obtain ⟨p, dx, x, y, z, u, rfl, _⟩ := h; rfl
  · obtain ⟨p, dx, x, y, z, u, rfl, hp, hc⟩ := h
    refine ⟨_, (pss_cons (ps_if (pt_not (pt_val (pe_callB (KX.callIsi (K := K)) (by rfl) T.b_isinstance (by decide +kernel) (pa_cons (pv 1) (pa_cons (C8.pe_gc (by rfl) T.g_Crew) pa_nil))))) (pss_one (ps_raise1 e_BadSetting hr rfl (takes_of rfl rfl rfl rfl) (pa_cons pe_str pa_nil))) pss_nil)
      (pss_cons (ps_if (pt_not (pt_val (pe_o c_is_within hr pass0 (pa_cons (pv 2) (pa_cons pe_int (pa_cons (C8.pe_gc (by rfl) T.g_MOST_COST) pa_nil)))))) (pss_one (ps_raise1 e_BadCost hr rfl (takes_of rfl rfl rfl rfl) (pa_cons (pv 2) pa_nil))) pss_nil)
      (pss_cons (ps_if (pt_not (pt_val (pe_o c_is_within hr pass0 (pa_cons (pv 3) (pa_cons (pv 2) (pa_cons (C8.pe_gc (by rfl) T.g_MOST_COST) pa_nil)))))) (pss_one (ps_raise1 e_BadCost hr rfl (takes_of rfl rfl rfl rfl) (pa_cons (pv 3) pa_nil))) pss_nil)
      (pss_cons (ps_if (pt_not (pt_val (pe_o c_is_within hr pass0 (pa_cons (pv 4) (pa_cons pe_int (pa_cons (C8.pe_gc (by rfl) T.g_MOST_FEE) pa_nil)))))) (pss_one (ps_raise1 e_BadFee hr rfl (takes_of rfl rfl rfl rfl) (pa_cons (pv 4) pa_nil))) pss_nil)
      (pss_cons (ps_fld (pv 0) (pv 1) rfl)
      (pss_cons (ps_fld (pv 0) (pv 2) rfl)
      (pss_cons (ps_fld (pv 0) (pv 3) rfl)
      (pss_cons (ps_fld (pv 0) (pv 4) rfl)
      (pss_cons (ps_fld (pv 0) (pe_ixOwn get_i hr (passT (takes_of rfl rfl rfl rfl) (fun _ _ _ _ h => h)) (pv 1) (KX.fld (K := K) rfl (pv 1) rfl)) rfl)
      (pss_cons (ps_fld (pv 0) (pe_ixOwn get_i hr (passT (takes_of rfl rfl rfl rfl) (fun _ _ _ _ h => h)) (pv 1) (KX.fld (K := K) rfl (pv 1) rfl)) rfl)
      (pss_one (ps_fld (pv 0) (pe_mt mt_late_of hr (passT (takes_of rfl rfl rfl rfl) (fun _ _ _ _ h => h)) (pv 0) (pa_cons pe_int (pa_cons pe_int (pa_cons pe_int pa_nil)))) rfl)))))))))))), ?_⟩
    tm_at "s"
    rcases hc with ⟨⟨ty, t1, t2⟩, rz⟩ | ⟨q, ws, rfl, qp, hw, okw, hc⟩
    · refine s_isiC t1 t2 ?_
      tm_at "s"
      exact s_rz rz
    obtain ⟨dw, wd, wt, w1, w2, w3⟩ := id hw
    refine s_isiC (T.wt.ty w1) T.wt.kC ?_
    tm_at "s"
    rcases hc with ⟨ho, rz⟩ | ⟨a, rfl, a1, a2, hc⟩
    · refine ⟨_, _, _, rfl, .inr ⟨ho, ?_⟩⟩
      tm_at "s"
      exact s_rz rz
    refine ⟨_, _, _, rfl, .inl ⟨a, rfl, a1, a2, ?_⟩⟩
    tm_at "s"
    rcases hc with ⟨ho, rz⟩ | ⟨b, rfl, b1, b2, hc⟩
    · refine ⟨_, _, _, rfl, .inr ⟨ho, ?_⟩⟩
      tm_at "s"
      exact s_rz rz
    refine ⟨_, _, _, rfl, .inl ⟨b, rfl, b1, b2, ?_⟩⟩
    tm_at "s"
    rcases hc with ⟨ho, rz⟩ | ⟨f, rfl, oks, k⟩
    · refine ⟨_, _, _, rfl, .inr ⟨ho, ?_⟩⟩
      tm_at "s"
      exact s_rz rz
    refine ⟨_, _, _, rfl, .inl ⟨f, rfl, oks.f0, oks.f1, ?_⟩⟩
    tm_at "s"
    have dp : wd ≠ p := fun z => by rw [z, hp] at w2; cases w2
    have tp : wt ≠ p := fun z => by rw [z, hp] at w3; cases w3
    have keepW : ∀ I : Hp, (∀ c o, c ≠ p → H c = some o → I c = some o) → Cw CW I q ws := fun I kI => ⟨dw, wd, wt, kI _ _ qp w1, kI _ _ dp w2, kI _ _ tp w3⟩
    refine ⟨p, C, dx, [], rfl, hp, T.c.cl, T.nC, by decide, ?_⟩
    tm_at "s"
    refine ⟨p, C, dx, _, rfl, upd_same, T.c.cl, T.nL, (by show 1 < 1000; decide), ?_⟩
    tm_at "s"
    refine ⟨p, C, dx, _, rfl, upd_same, T.c.cl, T.nM, (by show 2 < 1000; decide), ?_⟩
    tm_at "s"
    refine ⟨p, C, dx, _, rfl, upd_same, T.c.cl, T.nF, (by show 3 < 1000; decide), ?_⟩
    generalize hI4 : upd _ p (HO.ins C dx (putF "fee" _ _)) = I4
    have pI4 : I4 p = some (.ins C dx [("crew", .ref q), ("least", .int a), ("most", .int b), ("fee", .int f)]) := by rw [← hI4, upd_same]; rfl
    have kI4 : ∀ c o, c ≠ p → H c = some o → I4 c = some o := fun c o hc h => by rw [← hI4, upd_ne hc, upd_ne hc, upd_ne hc, upd_ne hc]; exact h
    have wI4 := keepW I4 kI4
    have vs : valV (ws.map wI) (Sum.inr (slowW ws)) = some (.int (minW ws)) := valV_mem okw.nd (firstW_mem (minW_mem okw.ne))
    have vf : valV (ws.map wI) (Sum.inr (fastW ws)) = some (.int (maxW ws)) := valV_mem okw.nd (firstW_mem (maxW_mem okw.ne))
    try dsimp only
    tm_at "s"
    refine ⟨q, CW, dw, _, _, rfl, kI4 _ _ qp w1, T.wl, T.wL, rfl, ?_⟩
    refine ⟨q, dw, _, rfl, kI4 _ _ qp w1, q, _, ws, rfl, wI4, .inl ⟨_, _, rfl, vs, ?_⟩⟩
    tm_at "s"
    refine ⟨p, C, dx, _, rfl, pI4, T.c.cl, T.nS, (by show 4 < 1000; decide), ?_⟩
    generalize hI5 : upd I4 p (HO.ins C dx _) = I5
    have pI5 : I5 p = some (.ins C dx [("crew", .ref q), ("least", .int a), ("most", .int b), ("fee", .int f), ("own_slow", .int (minW ws))]) := by rw [← hI5, upd_same]; rfl
    have kI5 : ∀ c o, c ≠ p → H c = some o → I5 c = some o := fun c o hc h => by rw [← hI5, upd_ne hc]; exact kI4 _ _ hc h
    have wI5 := keepW I5 kI5
    try dsimp only
    tm_at "s"
    refine ⟨q, CW, dw, _, _, rfl, kI5 _ _ qp w1, T.wl, T.wF, rfl, ?_⟩
    refine ⟨q, dw, _, rfl, kI5 _ _ qp w1, q, _, ws, rfl, wI5, .inl ⟨_, _, rfl, vf, ?_⟩⟩
    tm_at "s"
    refine ⟨p, C, dx, _, rfl, pI5, T.c.cl, T.nU, (by show 5 < 1000; decide), ?_⟩
    generalize hI6 : upd I5 p (HO.ins C dx _) = I6
    have pI6 : I6 p = some (.ins C dx (stF6 q ws a b f ++ [])) := by rw [← hI6, upd_same]; rfl
    have kI6 : ∀ c o, c ≠ p → H c = some o → I6 c = some o := fun c o hc h => by rw [← hI6, upd_ne hc]; exact kI5 _ _ hc h
    have wI6 := keepW I6 kI6
    try dsimp only
    tm_at "s"
    refine ⟨p, dx, _, rfl, pI6, rfl, ?_⟩
    tm_at "s"
    refine ⟨p, dx, q, ws, a, b, f, [], _, _, _, rfl, pI6, wI6, okw, oks, .inr ⟨1, rfl, by decide, by decide +kernel, .inr ⟨0, rfl, by decide, by decide +kernel, .inr ⟨1, rfl, by decide, by decide, fun t H7 nt e7 rt => ?_⟩⟩⟩⟩
    have tp2 : t ≠ p := fun z => by rw [z, pI6] at nt; cases nt
    tm_at "s"
    refine ⟨p, C, dx, _, rfl, e7 _ _ pI6, T.c.cl, T.nW, (by show 6 < 1000; decide), ?_⟩
    have kF : ∀ c o, c ≠ p → H c = some o → (upd H7 p (HO.ins C dx (stF6 q ws a b f ++ ([("lowest", .ref t)] : List (Str × V))))) c = some o := fun c o hc h => by rw [upd_ne hc]; exact e7 _ _ (kI6 _ _ hc h)
    obtain ⟨dr, r1⟩ := rt
    exact k _ kF ⟨dx, q, t, upd_same, keepW _ kF, dr, by rw [upd_ne tp2]; exact r1⟩
end
end K72
end
section
local macro_rules | `(tactic| tm_at "s1") => `(tactic| first
  | with_reducible first
    | refine L3.s_seq ?_ | refine L3.s_asg ?_ | refine L3.s_op ?_ | refine L3.s_c ?_ | refine L3.s_cb ?_ | refine L3.s_cons ?_ | refine L3.s_nil ?_ | refine L3.s_test ?_ | refine L3.s_bl ?_
    | refine L3.s_I0 ?_ | refine L3.s_and ?_ | refine L3.s_or ?_ | refine L3.s_not ?_ | refine L3.s_if ?_ | refine L3.s_next ?_ | refine L3.s_ret ?_ | refine L3.s_retN ?_ | refine L3.s_asgS ?_ | refine L3.s_drop ?_
    | refine L3.s_un ?_ | refine L3.s_U ?_ | refine L3.s_int ?_ | refine L3.s_intB ?_ | refine L3.s_abs ?_ | refine L3.s_andV ?_ | refine L3.s_orV ?_ | refine L3.s_notV ?_ | refine L3.s_ifE ?_ | refine L3.s_call ?_ | refine L3.s_lst ?_ | refine L3.s_tup ?_ | refine L3.s_tB ?_
    | refine L3.s_addI ?_ | refine L3.s_inS ?_ | refine L3.s_ninS ?_ | refine L3.s_slice ?_ | refine L3.s_part ?_ | refine L3.s_partI ?_ | refine L3.s_nopart ?_ | refine L3.s_cI ?_ | refine L3.s_cB ?_ | refine L3.s_chain ?_ | refine L3.s_bm ?_ | refine L3.s_lcS ?_ | refine L3.s_lcR ?_ | refine L3.s_strE ?_
    | refine L2.iteT ?_ | refine L2.iteF ?_ | refine L3.iteNF ?_ | refine L3.iteNT ?_
    | refine L3.s_eqI ?_ | refine L3.s_neI ?_ | refine L3.s_eqS ?_ | refine L3.s_neS ?_
    | refine L3.s_pair ?_ | refine L3.s_pair2 ?_ | refine L3.s_fld ?_ | refine L3.s_make ?_ | refine L3.s_m1 ?_ | refine L3.s_isstr ?_
    | refine L3.s_xfV ?_ | refine L3.s_lstN ?_ | refine L3.s_callF ?_ | refine L3.s_lcL ?_ | refine L3.s_par3 ?_ | refine L3.s_trip ?_ | refine L3.s_asgT' ?_ | refine L3.s_gC ?_ | refine L3.s_gN ?_ | refine L3.s_fldG ?_ | refine L3.s_raise1 ?_ | refine L3.s_raise2 ?_ | refine L3.s_star ?_ | refine L3.s_mkCR ?_ | refine L3.s_lcZ ?_ | refine L3.s_forL ?_ | refine L3.s_forT ?_ | refine L3.s_gNm ?_ | refine L3.s_forE ?_ | refine L3.s_stC ?_ | refine L3.s_cmC ?_ | refine L3.s_forR1 ?_ | refine L3.s_lcTp ?_ | refine L3.s_forZ ?_ | refine L3.s_orT ?_ | refine L3.s_mt ?_ | refine L3.s_revT ?_ | refine L3.s_revL ?_ | refine L3.s_slOwn ?_ | refine L3.s_sl3 ?_ | refine L3.s_lcO ?_ | refine L3.s_stR ?_
    | refine L3.s_dcL ?_ | refine L3.s_dcT ?_ | refine L3.s_dget ?_ | refine L3.s_forET ?_ | refine L3.s_din ?_ | refine L3.s_dnin ?_ | refine L3.s_mkKV ?_
    | refine L3.s_isN ?_ | refine L3.s_isB ?_ | refine L3.s_nisN ?_ | refine L3.s_nisB ?_
  | ((with_reducible refine' L3.s_var ?e ?_); (case e => rfl))
  | ((with_reducible refine' L3.s_aug ?e ?_); (case e => rfl))
  | ((with_reducible refine' L3.s_pow ?c ?_); (case c => exact ⟨by decide, by decide, by decide⟩)))
local macro_rules | `(tactic| tm_at "s") => `(tactic| repeat tm_at "s1")
namespace K72
open PySem PySem.Spec PyProof.Rows L2 L3 LamX
abbrev s_Ratio___lt__ : Stmt := inClass (topS 51) 18
theorem sc_Ratio___lt__ : FnScope ["self", "other", "told"] ["self", "other"] (defScope s_Ratio___lt__) := ⟨rfl, rfl, rfl, by decide +kernel, rfl, by decide +kernel, by decide +kernel⟩
abbrev s_Ratio___gt__ : Stmt := inClass (topS 51) 20
theorem sc_Ratio___gt__ : FnScope ["self", "other", "told"] ["self", "other"] (defScope s_Ratio___gt__) := ⟨rfl, rfl, rfl, by decide +kernel, rfl, by decide +kernel, by decide +kernel⟩
abbrev s_Ratio___eq__ : Stmt := inClass (topS 51) 22
theorem sc_Ratio___eq__ : FnScope ["self", "other"] ["self", "other"] (defScope s_Ratio___eq__) := ⟨rfl, rfl, rfl, by decide +kernel, rfl, by decide +kernel, by decide +kernel⟩
section
variable {P : Program} {w : World} {K : PySem.W.Frag} {mg : Str → Option Value} {base : Heap} {C CB CL : Addr}
theorem ok_lt {f : Addr} {fd : FuncData} (F : Fun K "__lt__" "Ratio.__lt__" s_Ratio___lt__ f fd) (T : TxtQ K mg C CB CL) (c_told_of : FnO P w K mg base (L2.CX P w) 5 "told_of" ["value"] (spTold C CB)) :
    FnOk P w K mg base (L2.CX P w) 6 f fd ["self", "other"] (spCmp gLt C CB) := by
  refine funO F sc_Ratio___lt__ (fun vs H Q E h => ?_) (fun cd A fr s H vs Q E hr h => ?_)
  · obtain ⟨p, y, o, u, rfl, _⟩ := h; rfl
  · obtain ⟨p, y, o, u, rfl, r, b, hc⟩ := h
    refine ⟨_, (pss_cons (ps_set (i := 2) sc_Ratio___lt__.nd rfl (Or.inl rfl) (pe_o c_told_of hr (passT (takes_of rfl rfl rfl rfl) (fun _ _ _ _ h => h)) (pa_cons (pv 1) pa_nil)))
      (pss_one (ps_ret (pe_cmpR op_lt (pe_op opMul (KX.fld (K := K) rfl (pv 0) rfl) (KX.fld (K := K) rfl (pv 2) rfl)) (pe_op opMul (KX.fld (K := K) rfl (pv 2) rfl) (KX.fld (K := K) rfl (pv 0) rfl)) (nomark _))))), ?_⟩
    tm_at "s"
    rcases hc with ⟨o', u', n, b', k⟩ | ⟨t, hy, k⟩
    · refine ⟨y, rfl, .inl ⟨o', u', n, fun q H' e r' => ?_⟩⟩
      obtain ⟨d1, h1⟩ := r.ex e
      obtain ⟨d2, h2⟩ := r'
      tm_at "s"
      refine ⟨p, C, d1, _, _, rfl, h1, T.cl, T.nO, rfl, ?_⟩
      tm_at "s"
      refine ⟨q, C, d2, _, _, rfl, h2, T.cl, T.nU, rfl, ?_⟩
      tm_at "s"
      refine s_mulI (m1000 b.ho b'.hu) ?_
      tm_at "s"
      refine ⟨q, C, d2, _, _, rfl, h2, T.cl, T.nO, rfl, ?_⟩
      tm_at "s"
      refine ⟨p, C, d1, _, _, rfl, h1, T.cl, T.nU, rfl, ?_⟩
      tm_at "s"
      refine s_mulI (m1000 b'.ho b.hu) ?_
      tm_at "s"
      exact k H' e
    · exact ⟨y, rfl, .inr ⟨t, hy, k⟩⟩
theorem ok_gt {f : Addr} {fd : FuncData} (F : Fun K "__gt__" "Ratio.__gt__" s_Ratio___gt__ f fd) (T : TxtQ K mg C CB CL) (c_told_of : FnO P w K mg base (L2.CX P w) 5 "told_of" ["value"] (spTold C CB)) :
    FnOk P w K mg base (L2.CX P w) 6 f fd ["self", "other"] (spCmp gGt C CB) := by
  refine funO F sc_Ratio___gt__ (fun vs H Q E h => ?_) (fun cd A fr s H vs Q E hr h => ?_)
  · obtain ⟨p, y, o, u, rfl, _⟩ := h; rfl
  · obtain ⟨p, y, o, u, rfl, r, b, hc⟩ := h
    refine ⟨_, (pss_cons (ps_set (i := 2) sc_Ratio___gt__.nd rfl (Or.inl rfl) (pe_o c_told_of hr (passT (takes_of rfl rfl rfl rfl) (fun _ _ _ _ h => h)) (pa_cons (pv 1) pa_nil)))
      (pss_one (ps_ret (pe_cmpR op_gt (pe_op opMul (KX.fld (K := K) rfl (pv 0) rfl) (KX.fld (K := K) rfl (pv 2) rfl)) (pe_op opMul (KX.fld (K := K) rfl (pv 2) rfl) (KX.fld (K := K) rfl (pv 0) rfl)) (nomark _))))), ?_⟩
    tm_at "s"
    rcases hc with ⟨o', u', n, b', k⟩ | ⟨t, hy, k⟩
    · refine ⟨y, rfl, .inl ⟨o', u', n, fun q H' e r' => ?_⟩⟩
      obtain ⟨d1, h1⟩ := r.ex e
      obtain ⟨d2, h2⟩ := r'
      tm_at "s"
      refine ⟨p, C, d1, _, _, rfl, h1, T.cl, T.nO, rfl, ?_⟩
      tm_at "s"
      refine ⟨q, C, d2, _, _, rfl, h2, T.cl, T.nU, rfl, ?_⟩
      tm_at "s"
      refine s_mulI (m1000 b.ho b'.hu) ?_
      tm_at "s"
      refine ⟨q, C, d2, _, _, rfl, h2, T.cl, T.nO, rfl, ?_⟩
      tm_at "s"
      refine ⟨p, C, d1, _, _, rfl, h1, T.cl, T.nU, rfl, ?_⟩
      tm_at "s"
      refine s_mulI (m1000 b'.ho b.hu) ?_
      tm_at "s"
      exact k H' e
    · exact ⟨y, rfl, .inr ⟨t, hy, k⟩⟩
theorem ok_eq {f : Addr} {fd : FuncData} (F : Fun K "__eq__" "Ratio.__eq__" s_Ratio___eq__ f fd) (T : TxtQ K mg C CB CL) (c_is_integer : FnO P w K mg base CX0 1 "is_integer" ["value"] spIsI) :
    FnOk P w K mg base (L2.CX P w) 2 f fd ["self", "other"] (spEqR C) := by
  refine funO F sc_Ratio___eq__ (fun vs H Q E h => ?_) (fun cd A fr s H vs Q E hr h => ?_)
  · obtain ⟨p, y, o, u, rfl, _⟩ := h; rfl
  · obtain ⟨p, y, o, u, rfl, ⟨d1, h1⟩, hc⟩ := h
    refine ⟨_, (pss_cons (ps_if (pt_val (pe_callB (KX.callIsi (K := K)) (by rfl) T.b_isinstance (by decide +kernel) (pa_cons (pv 1) (pa_cons (C8.pe_gc (by rfl) T.g_Ratio) pa_nil)))) (pss_one (ps_ret (pe_and (pe_cmpR (KX.eqU (K := K) rfl hr.units) (KX.fld (K := K) rfl (pv 0) rfl) (KX.fld (K := K) rfl (pv 1) rfl) (nomark _)) (pe_one (pe_cmpR (KX.eqU (K := K) rfl hr.units) (KX.fld (K := K) rfl (pv 0) rfl) (KX.fld (K := K) rfl (pv 1) rfl) (nomark _)))))) pss_nil)
      (pss_one (ps_ret (pe_and (pe_o c_is_integer hr pass0 (pa_cons (pv 1) pa_nil)) (pe_and (pe_cmpR (KX.eqU (K := K) rfl hr.units) (KX.fld (K := K) rfl (pv 0) rfl) pe_int (nomark _)) (pe_one (pe_cmpR (KX.eqU (K := K) rfl hr.units) (KX.fld (K := K) rfl (pv 0) rfl) (pv 1) (nomark _)))))))), ?_⟩
    rcases hc with ⟨o', u', n, k⟩ | ⟨t, hy, k⟩
    · rcases n with ⟨q, rfl, r⟩ | ⟨rfl, rfl⟩
      · tm_at "s"
        refine s_isiC (T.ty r) T.kC ?_
        obtain ⟨d2, h2⟩ := r
        tm_at "s"
        refine ⟨p, C, d1, _, _, rfl, h1, T.cl, T.nO, rfl, ?_⟩
        tm_at "s"
        refine ⟨q, C, d2, _, _, rfl, h2, T.cl, T.nO, rfl, ?_⟩
        tm_at "s"
        refine iteB (fun z => ?_) (fun z => ?_)
        · tm_at "s"
          refine ⟨p, C, d1, _, _, rfl, h1, T.cl, T.nU, rfl, ?_⟩
          tm_at "s"
          refine ⟨q, C, d2, _, _, rfl, h2, T.cl, T.nU, rfl, ?_⟩
          tm_at "s"
          rw [z, Bool.true_and] at k
          exact k
        · tm_at "s"
          rw [z, Bool.false_and] at k
          exact k
      · tm_at "s"
        refine s_isiC (.x (.base (.int o'))) T.kI ?_
        tm_at "s"
        refine ⟨_, rfl, .inl ⟨o', rfl, ?_⟩⟩
        tm_at "s"
        refine ⟨p, C, d1, _, _, rfl, h1, T.cl, T.nU, rfl, ?_⟩
        tm_at "s"
        refine iteB (fun z => ?_) (fun z => ?_)
        · tm_at "s"
          refine ⟨p, C, d1, _, _, rfl, h1, T.cl, T.nO, rfl, ?_⟩
          tm_at "s"
          rw [z, Bool.and_true] at k
          exact k
        · tm_at "s"
          rw [z, Bool.and_false] at k
          exact k
    · tm_at "s"
      obtain ⟨ty, t1, t2⟩ := hy.noCls (K := K) T.od
      refine s_isiC t1 t2 ?_
      tm_at "s"
      refine ⟨_, rfl, .inr ⟨t, hy, ?_⟩⟩
      tm_at "s"
      exact k
end
end K72
end
section
namespace PySem
open Sem (wp)
open AutoSeq1 (wpAny_loadPart')
end PySem
namespace L3
open PySem PySem.Spec PyProof.Rows L2
def Itet (K : PySem.W.Frag) (a : Addr) : It :=
  ⟨fun i H => ∃ (xs : List V) (x : V), SqT K H a xs ∧ xs[i]? = some x, fun i H v H' => ∃ T x, v = .ref T ∧ H T = none ∧ H' = upd H T (.tup [.int (i : Nat), x]) ∧ ∀ xs, SqT K H a xs → xs[i]? = some x, fun i H => ∃ xs : List V, SqT K H a xs ∧ xs.length = i⟩
def iEnumT (K : PySem.W.Frag) (ta : TA) : TI := fun σ H R => ta σ H fun vs H1 => ∃ a xs, vs = [.ref a] ∧ SqT K H1 a xs ∧ R (Itet K a) H1
section
variable {K : PySem.W.Frag} {σ : L2.St} {H : Hp} {Q : VK} {g : TG} {tb : TS} {D : Ends} {t : TA}
theorem s_forET (h : t σ H fun ws H1 => ∃ a xs, ws = [.ref a] ∧ SqT K H1 a xs ∧ ForJ (Itet K a) g tb D σ H1) : tFor (iEnumT K t) g tb D σ H := h
end
end L3
end
section
namespace L3
open PySem PySem.NumText PySem.Spec PyProof.Rows L2 LamX RZ
theorem sum_split (ns : List Int) (i : Nat) : ns.sum = (ns.take i).sum + (ns.drop i).sum := by
  rw [← List.sum_append, List.take_append_drop]
theorem restsOf_len (ns : List Int) : (restsOf ns).length = ns.length := by unfold restsOf; rw [List.length_map, List.length_range]
theorem restsOf_get {ns : List Int} {i : Nat} (h : i < ns.length) : (restsOf ns)[i]? = some ((ns.drop i).sum) := by
  unfold restsOf
  rw [List.getElem?_map, List.getElem?_range h]
  show some _ = _
  congr 1
  have e1 : (endsOf ns).getD i 0 = (ns.take (i + 1)).sum := by rw [List.getD_eq_getElem?_getD, endsOf_get h]; rfl
  have e2 : ns.getD i 0 = ns[i] := by rw [List.getD_eq_getElem?_getD, List.getElem?_eq_getElem h]; rfl
  have e3 : (ns.take (i + 1)).sum = (ns.take i).sum + ns[i] := by
    rw [take_snoc (List.getElem?_eq_getElem h), List.sum_append, List.sum_cons, List.sum_nil, Int.add_zero]
  have := sum_split ns i
  show ns.sum - (endsOf ns).getD i 0 + ns.getD i 0 = _
  rw [e1, e2, e3]
  omega
/-- fractions at places -/
def Rts (CQ : Addr) (H : Hp) (xs : List V) (rs : List (Int × Int)) : Prop := xs.length = rs.length ∧ ∀ (i : Nat) r, rs[i]? = some r → ∃ q, xs[i]? = some (.ref q) ∧ Rt CQ H q r.1 r.2
theorem Rt.ex2 {C : Addr} {H H' : Hp} {p : Addr} {o u : Int} (h : Rt C H p o u) (e : Ex H H') : Rt C H' p o u := h.exN e.n
theorem Rts.ex {CQ : Addr} {H H' : Hp} {xs : List V} {rs : List (Int × Int)} (h : Rts CQ H xs rs) (e : Ex H H') : Rts CQ H' xs rs := ⟨h.1, fun i r hr => let ⟨q, h1, h2⟩ := h.2 i r hr; ⟨q, h1, h2.ex2 e⟩⟩
theorem Rts.upd {CQ : Addr} {H : Hp} {l : Addr} {zs zs' : List V} {xs : List V} {rs : List (Int × Int)} (h : Rts CQ H xs rs) (hl : H l = some (.lst zs)) : Rts CQ (upd H l (.lst zs')) xs rs := ⟨h.1, fun i r hr => by
  obtain ⟨q, h1, dx, h2⟩ := h.2 i r hr
  have : q ≠ l := fun z => by rw [z, hl] at h2; cases h2
  exact ⟨q, h1, dx, by rw [upd_ne this]; exact h2⟩⟩
theorem Rts.nil {CQ : Addr} {H : Hp} : Rts CQ H [] [] := ⟨rfl, fun i r h => by cases h⟩
theorem Rts.snoc {CQ : Addr} {H : Hp} {xs : List V} {rs : List (Int × Int)} {q : Addr} {r : Int × Int} (h : Rts CQ H xs rs) (hq : Rt CQ H q r.1 r.2) : Rts CQ H (xs ++ [.ref q]) (rs ++ [r]) := by
  refine ⟨by rw [List.length_append, List.length_append, h.1]; rfl, fun i r' hr => ?_⟩
  rcases Nat.lt_or_ge i rs.length with c | c
  · rw [List.getElem?_append_left c] at hr
    obtain ⟨q', h1, h2⟩ := h.2 i r' hr
    exact ⟨q', by rw [List.getElem?_append_left (by rw [h.1]; exact c)]; exact h1, h2⟩
  · rw [List.getElem?_append_right c] at hr
    have e : i = rs.length := by
      rcases Nat.lt_or_ge 0 (i - rs.length) with d | d
      · rw [List.getElem?_eq_none (by simp; omega)] at hr; cases hr
      · omega
    subst e
    rw [Nat.sub_self] at hr
    cases hr
    exact ⟨q, by rw [List.getElem?_append_right (by rw [h.1]; exact Nat.le_refl _), h.1, Nat.sub_self]; rfl, hq⟩
structure LaA where
  (ck st cw ra : Addr)
  (cc cs cr cb cn : Addr)
end L3
end
section
set_option exponentiation.threshold 2000
namespace L3
open PySem PySem.NumText PySem.Spec PyProof.Rows L2 LamX RZ
theorem lateS_bd {ws : List (Str × Int)} {a b f r j s : Int} (okw : OkW ws) (oks : OkS a b f) (j1 : 0 ≤ j) (j2 : j ≤ 10 ^ 40) (s1 : 1 ≤ s) (s2 : s ≤ r) (r2 : r ≤ 10 ^ 40) : Bd (lateS ws a b f r j s).1 (lateS ws a b f r j s).2 := by
  have mn := okw.min
  have mx := okw.max
  have su := okw.sum
  have bj : j.natAbs ≤ 10 ^ 40 := nb_of j1 (by rw [show (((10 ^ 40 : Nat) : Int)) = 10 ^ 40 by decide +kernel]; exact j2)
  have br : r.natAbs ≤ 10 ^ 40 := nb_of (by omega) (by rw [show (((10 ^ 40 : Nat) : Int)) = 10 ^ 40 by decide +kernel]; exact r2)
  have bs : s.natAbs ≤ 10 ^ 40 := Nat.le_trans (by omega : s.natAbs ≤ r.natAbs) br
  have bf : f.natAbs ≤ 10 ^ 30 := nb_of oks.f0 (by rw [show (((10 ^ 30 : Nat) : Int)) = 10 ^ 30 by decide +kernel]; exact oks.f1)
  have bb : b.natAbs ≤ 60 := by have := oks.a1; have := oks.ab; have := oks.b6; omega
  have ba : a.natAbs ≤ 60 := by have := oks.a1; have := oks.ab; have := oks.b6; omega
  have bm : (maxW ws).natAbs ≤ 60 := by omega
  have bn : (minW ws).natAbs ≤ 60 := by omega
  have bu : (sumW ws).natAbs ≤ 480 := by omega
  have be : (extraS ws a b f r j s).natAbs ≤ 10 ^ 40 * 10 ^ 30 * 60 + 60 * 10 ^ 40 + 60 * (10 ^ 40 + 10 ^ 40) := nb_sub (nb_sub (nb_mul (nb_mul bj bf) bm) (nb_mul bb bs)) (nb_mul ba (nb_sub br bs))
  unfold lateS
  generalize extraS ws a b f r j s = x at be
  have bv : (if x ≤ 0 then sumW ws else maxW ws).natAbs ≤ 480 ∧ (if x ≤ 0 then sumW ws else maxW ws) ≠ 0 := by
    split
    · exact ⟨bu, by omega⟩
    · exact ⟨by omega, by omega⟩
  exact (addR_bn (addR_bn (mkR_bn (nb_mul bb bs) bn (by omega)) (mkR_bn be bv.1 bv.2)) (int_bn bf)).bd
def leR (p q : Int × Int) : Prop := p.1 * q.2 ≤ q.1 * p.2
def ltR (p q : Int × Int) : Prop := p.1 * q.2 < q.1 * p.2
theorem leR_trans_lt {p q r : Int × Int} (hq : 0 < q.2) (hr : 0 < r.2) (hp : 0 < p.2) (h1 : leR p q) (h2 : ltR q r) : ltR p r := by
  unfold leR at h1
  unfold ltR at *
  refine Int.lt_of_mul_lt_mul_right (a := q.2) ?_ (Int.le_of_lt hq)
  have a1 := Int.mul_le_mul_of_nonneg_right h1 (Int.le_of_lt hr)
  have a2 := Int.mul_lt_mul_of_pos_right h2 hp
  have e1 : p.1 * r.2 * q.2 = p.1 * q.2 * r.2 := by grind
  have e2 : q.1 * p.2 * r.2 = q.1 * r.2 * p.2 := by grind
  have e3 : r.1 * p.2 * q.2 = r.1 * q.2 * p.2 := by grind
  omega
instance (p q : Int × Int) : Decidable (ltR p q) := inferInstanceAs (Decidable (p.1 * q.2 < q.1 * p.2))
/-- the first greatest one of the fractions stands at i -/
def Fst (rs : List (Int × Int)) (i : Nat) : Prop := ∃ r : Int × Int, rs[i]? = some r ∧ (∀ (j : Nat) (s : Int × Int), rs[j]? = some s → leR s r) ∧ ∀ (j : Nat) (s : Int × Int), j < i → rs[j]? = some s → ltR s r
theorem Fst.one (r : Int × Int) : Fst [r] 0 := ⟨r, rfl, fun j s h => by
  have : s = r := by cases j with
    | zero => exact (Option.some.inj h).symm
    | succ j => cases h
  rw [this]; exact Int.le_refl _, fun j s h => absurd h (Nat.not_lt_zero j)⟩
theorem Fst.snoc {rs : List (Int × Int)} {i : Nat} {r x : Int × Int} (h : Fst rs i) (hi : rs[i]? = some r) (hp : ∀ s ∈ rs, 0 < s.2) (hx : 0 < x.2) : Fst (rs ++ [x]) (if ltR r x then rs.length else i) := by
  obtain ⟨r', h1, h2, h3⟩ := h
  rw [hi] at h1
  cases h1
  have hil := (List.getElem?_eq_some_iff.mp hi).1
  have hr := hp r (List.mem_of_getElem? hi)
  by_cases c : ltR r x
  · rw [if_pos c]
    have lt : ∀ (j : Nat) s, rs[j]? = some s → ltR s x := fun j s hs => leR_trans_lt hr hx (hp s (List.mem_of_getElem? hs)) (h2 j s hs) c
    refine ⟨x, by simp, fun j s hs => ?_, fun j s hj hs => ?_⟩
    · rcases Nat.lt_or_ge j rs.length with k | k
      · rw [List.getElem?_append_left k] at hs
        exact Int.le_of_lt (lt j s hs)
      · rw [List.getElem?_append_right k] at hs
        cases hj : j - rs.length with
        | zero => rw [hj] at hs; cases hs; exact Int.le_refl _
        | succ n => rw [hj] at hs; cases hs
    · rw [List.getElem?_append_left hj] at hs
      exact lt j s hs
  · rw [if_neg c]
    refine ⟨r, by rw [List.getElem?_append_left hil]; exact hi, fun j s hs => ?_, fun j s hj hs => ?_⟩
    · rcases Nat.lt_or_ge j rs.length with k | k
      · rw [List.getElem?_append_left k] at hs
        exact h2 j s hs
      · rw [List.getElem?_append_right k] at hs
        cases hj : j - rs.length with
        | zero => rw [hj] at hs; cases hs; exact Int.not_lt.mp c
        | succ n => rw [hj] at hs; cases hs
    · rw [List.getElem?_append_left (by omega)] at hs
      exact h3 j s hj hs
end L3
end
section
namespace L3
open PySem PySem.NumText PySem.Spec PyProof.Rows L2 LamX RZ
def rListDK : List V → Hp → VK → Prop := fun xs H Q => ∃ (a : Addr) (kvs : List (Key × V)), xs = [.ref a] ∧ Rd H a (.dK kvs) ∧ ∀ p, H p = none → Q (.ref p) (upd H p (.lst (kvs.map fun kv => kV kv.1)))
theorem callListDK {X : Cx} (hcalm : X.calm = true) : CallR X (.type "list") rListDK := call_listD hcalm
theorem s_listDK {H : Hp} {Q : VK} {a : Addr} {kvs : List (Key × V)} (ha : H a = some (.dK kvs)) (k : ∀ p H2, H p = none → Ex H H2 → H2 p = some (.lst (kvs.map fun kv => kV kv.1)) → Q (.ref p) H2) : rListDK [.ref a] H Q :=
  ⟨a, kvs, rfl, .inl ha, fun p hp => k p _ hp (ex_new hp) upd_same⟩
structure FnR (P : Program) (w : World) (K : PySem.W.Frag) (mg : Str → Option Value) (base : Heap) (CX : CXT) (k : Nat) (x : Str) (ps : List Str) (sp : Sp) : Prop where
  ex : ∃ (f : Addr) (fd : FuncData), FnOk P w K mg base CX k f fd ps sp ∧ mg x = some (.ref f) ∧ PySem.W.keepIn K (.ref f) = true ∧ ∀ (s : Shared) (ws : List Value), K.In s.heap → ws.length = ps.length → BindsTo s fd ⟨[], ps.reverse.zip ws⟩ (ps.zip ws.reverse)
def tCallR (sp : Sp) (E : XK) (t : TA) : TE := fun σ H Q => t σ H fun vs H2 => sp vs.reverse H2 Q E
section
variable {X : Cx} {CX : CXT} {k j : Nat} {x : Str} {sp : Sp} {E : XK} {ps : List Str} {p pos : Pos} {t : TA}
theorem pe_fR {kws : List Keyword} (c : FnR X.prog X.w X.K X.mg X.base CX k x ps sp) (hr : Room j X.A) (hx : Passes CX X E) (ha : PK X kws t) (hk : k ≤ j := by decide) (gl : Gl X x := by rfl)
    (hall : (backToKw pos (keywordEach kws X.env)).all (·.1.isSome) = true := by rfl) (hks : (backToKw pos (keywordEach kws X.env)).filterMap (·.1) = ps.reverse := by rfl) (hpl : ((backTo pos (starEach [] X.env)).any (·.1) || (backToKw pos (keywordEach kws X.env)).any (·.1.isNone)) = false := by rfl)
    (hdb : (x == ("__debug__" : Str)) = false := by decide) : PE X (.Call (.Name x p) [] kws pos) (tCallR sp E t) := by
  obtain ⟨f, fd, F, m, kp, b⟩ := c.ex
  constructor
  intro pins s σ H Q I h
  refine wpAny_Call_Name_kw (ld_glob I gl m (PySem.W.callWith_KW0 (h₀ := X.base) I.ok.mod.kin kp hall (thn (ha.run pos pins s σ H _ I h) fun us s1 q => ?_) hpl) hdb)
  obtain ⟨vs, H1, I1, r, q⟩ := q
  rw [hks]
  refine ⟨I1.kIn, ?_⟩
  have hl : us.length = ps.length := by rw [← r.length, ← List.length_reverse]; exact F.len _ _ _ _ q
  refine wpAny_call (codeAny_mono (F.run X.A X.stack s1 H1 ⟨[], ps.reverse.zip us⟩ us.reverse vs.reverse Q E (hr.mono hk) I1.env0 (b s1 us I1.kIn hl) (vals_rev r) q) fun y s' z => ?_)
  match y, z with
  | .error e, z => exact hx pins σ H1 s1 e s' I1 z
  | .ok (.ret u), z => exact I1.after z
end
/-- Crew.of(speeds), all as can be -/
def spCrewOf (C : Addr) : Sp := fun vs H Q _ => ∃ d ws, vs = [.ref d] ∧ H d = some (.dK (ws.map wI)) ∧ OkW ws ∧ ∀ q H', H q = none → Ex H H' → Cw C H' q (srtW ws) → Q (.ref q) H'
def plF (d : Addr) (a b f : Int) : List (Key × V) := [(Sum.inr "speeds", .ref d), (Sum.inr "least", .int a), (Sum.inr "most", .int b), (Sum.inr "fee", .int f)]
def Plan (H : Hp) (p : Addr) (ws : List (Str × Int)) (a b f : Int) : Prop := ∃ d, H p = some (.dK (plF d a b f)) ∧ H d = some (.dK (ws.map wI))
theorem Plan.exN {H H' : Hp} {p : Addr} {ws : List (Str × Int)} {a b f : Int} (h : Plan H p ws a b f) (e : ExtN H H') : Plan H' p ws a b f := by
  obtain ⟨d, h1, h2⟩ := h
  exact ⟨d, e _ _ h1 (fun _ z => nomatch z), e _ _ h2 (fun _ z => nomatch z)⟩
theorem Plan.ex {H H' : Hp} {p : Addr} {ws : List (Str × Int)} {a b f : Int} (h : Plan H p ws a b f) (e : Ex H H') : Plan H' p ws a b f := h.exN e.n
end L3
end
section
namespace L3
open PySem PySem.NumText PySem.Spec PyProof.Rows L2 LamX RZ
theorem minW_le : ∀ {ws : List (Str × Int)} {y : Int}, y ∈ ws.map (·.2) → minW ws ≤ y
  | [], _, h => by cases h
  | [p], y, h => by
    simp at h
    rw [h]; exact Int.le_refl _
  | p :: q :: r, y, h => by
    show min p.2 (minW (q :: r)) ≤ y
    rcases List.mem_cons.mp h with e | e
    · rw [e]; exact Int.min_le_left _ _
    · exact Int.le_trans (Int.min_le_right _ _) (minW_le e)
theorem le_maxW : ∀ {ws : List (Str × Int)} {y : Int}, y ∈ ws.map (·.2) → y ≤ maxW ws
  | [], _, h => by cases h
  | [p], y, h => by
    simp at h
    rw [h]; exact Int.le_refl _
  | p :: q :: r, y, h => by
    show y ≤ max p.2 (maxW (q :: r))
    rcases List.mem_cons.mp h with e | e
    · rw [e]; exact Int.le_max_left _ _
    · exact Int.le_trans (le_maxW e) (Int.le_max_right _ _)
theorem sum_permI {l r : List Int} (h : l.Perm r) : l.sum = r.sum := by
  induction h with
  | nil => rfl
  | cons x _ ih => rw [List.sum_cons, List.sum_cons, ih]
  | swap x y l => rw [List.sum_cons, List.sum_cons, List.sum_cons, List.sum_cons]; omega
  | trans _ _ a b => exact a.trans b
theorem sumW_perm {ws us : List (Str × Int)} (h : ws.Perm us) : sumW ws = sumW us := sum_permI (h.map (·.2))
end L3
end
section
namespace L3
open PySem PySem.NumText PySem.Spec PyProof.Rows L2 LamX RZ
def valI (ws : List (Str × Int)) (n : Str) : Option Int := (ws.find? fun p => p.1 = n).map (·.2)
end L3
end
section
namespace L3
open PySem PySem.NumText PySem.Spec PyProof.Rows L2 LamX RZ
/-- a pair set into others -/
def setW (ws : List (Str × Int)) (n : Str) (i : Int) : List (Str × Int) := if (valI ws n).isSome then ws.map fun p => if p.1 = n then (n, i) else p else ws ++ [(n, i)]
theorem valI_none {ws : List (Str × Int)} {n : Str} : valI ws n = none ↔ n ∉ ws.map (·.1) := by
  unfold valI
  rw [Option.map_eq_none_iff, List.find?_eq_none]
  constructor
  · intro h z
    obtain ⟨p, hp, e⟩ := List.mem_map.mp z
    have := h p hp
    simp at this
    exact this e
  · intro h p hp
    simp only [decide_eq_true_eq]
    exact fun e => h (e ▸ List.mem_map_of_mem hp)
theorem setW_names {ws : List (Str × Int)} {n : Str} {i : Int} : (setW ws n i).map (·.1) = if (valI ws n).isSome then ws.map (·.1) else ws.map (·.1) ++ [n] := by
  unfold setW
  split
  · rw [List.map_map]
    refine List.map_congr_left fun p hp => ?_
    show (if p.1 = n then (n, i) else p).1 = p.1
    split
    · rename_i c; exact c.symm
    · rfl
  · rw [List.map_append]; rfl
theorem setW_mem {ws : List (Str × Int)} {n : Str} {i : Int} {q : Str × Int} (h : q ∈ setW ws n i) : q = (n, i) ∨ q ∈ ws := by
  unfold setW at h
  split at h
  · obtain ⟨p, hp, e⟩ := List.mem_map.mp h
    by_cases c : p.1 = n
    · rw [if_pos c] at e; exact .inl e.symm
    · rw [if_neg c] at e; exact .inr (e ▸ hp)
  · rcases List.mem_append.mp h with h | h
    · exact .inr h
    · exact .inl (List.mem_singleton.mp h)
theorem setW_nd {ws : List (Str × Int)} {n : Str} {i : Int} (nd : (ws.map (·.1)).Nodup) : ((setW ws n i).map (·.1)).Nodup := by
  rw [setW_names]
  split
  · exact nd
  · rename_i c
    have hn : n ∉ ws.map (·.1) := valI_none.mp (by cases hv : valI ws n with
      | none => rfl
      | some _ => rw [hv] at c; exact absurd rfl c)
    exact List.nodup_append.mpr ⟨nd, by simp, fun a ha b hb e => hn (by rw [← List.mem_singleton.mp hb, ← e]; exact ha)⟩
end L3
end
section
namespace L3
open PySem PySem.NumText PySem.Spec PyProof.Rows L2 LamX RZ
def lastN (acc : List (Str × Int)) : Str := match acc.getLast? with
  | some p => p.1
  | none => ""
/-- what has been read so far -/
structure AccW (acc : List (Str × Int)) : Prop where
  le : acc.length ≤ 8
  nm : ∀ p ∈ acc, nameB p.1 = true
  sp : ∀ p ∈ acc, 1 ≤ p.2 ∧ p.2 ≤ 60
  nd : (acc.map (·.1)).Nodup
  srt : SrtW acc
  top : ∀ a ∈ acc.map (·.1), leS a (lastN acc) = true
theorem lastN_snoc (acc : List (Str × Int)) (p : Str × Int) : lastN (acc ++ [p]) = p.1 := by
  unfold lastN
  simp
theorem leS_refl (a : Str) : leS a a = true := (leS_total a a).elim id id
theorem AccW.nil : AccW [] := ⟨by decide, (fun _ h => nomatch h), (fun _ h => nomatch h), List.nodup_nil, List.Pairwise.nil, (fun _ h => nomatch h)⟩
theorem AccW.new {acc : List (Str × Int)} (h : AccW acc) {z : Str} (hz : leS z (lastN acc) = false) : z ∉ acc.map (·.1) := fun hm => by
  rw [h.top z hm] at hz; cases hz
theorem AccW.snoc {acc : List (Str × Int)} (h : AccW acc) {z : Str} {i : Int} (hl : acc.length < 8) (hn : nameB z = true) (hz : leS z (lastN acc) = false) (hi : 1 ≤ i ∧ i ≤ 60) : AccW (acc ++ [(z, i)]) := by
  have hnew := h.new hz
  have below : ∀ a ∈ acc.map (·.1), leS a z = true := fun a ha => by
    rcases leS_total a z with k | k
    · exact k
    · have := leS_trans k (h.top a ha)
      rw [this] at hz; cases hz
  have em : (acc ++ [(z, i)]).map (·.1) = acc.map (·.1) ++ [z] := by rw [List.map_append]; rfl
  refine ⟨by rw [List.length_append]; exact hl, fun p hp => ?_, fun p hp => ?_, ?_, ?_, fun a ha => ?_⟩
  · rcases List.mem_append.mp hp with hp | hp
    · exact h.nm p hp
    · rw [List.mem_singleton.mp hp]; exact hn
  · rcases List.mem_append.mp hp with hp | hp
    · exact h.sp p hp
    · rw [List.mem_singleton.mp hp]; exact hi
  · rw [em]
    exact List.nodup_append.mpr ⟨h.nd, by simp, fun a ha b hb e => hnew (by rw [← List.mem_singleton.mp hb, ← e]; exact ha)⟩
  · unfold SrtW
    rw [em]
    exact List.pairwise_append.mpr ⟨h.srt, by simp, fun a ha b hb => by rw [List.mem_singleton.mp hb]; exact below a ha⟩
  · rw [lastN_snoc]
    rw [em] at ha
    rcases List.mem_append.mp ha with ha | ha
    · exact below a ha
    · rw [List.mem_singleton.mp ha]; exact leS_refl _
theorem AccW.ok {acc : List (Str × Int)} (h : AccW acc) (ne : acc ≠ []) : OkW acc := ⟨ne, h.le, h.nm, h.sp, h.nd⟩
end L3
end
section
namespace L3
open PySem PySem.Spec PyProof.Rows L2 LamX ItX
def CwL (C : Addr) (H : Hp) (p d : Addr) (od : Obj) (ws : List (Str × Int)) : Prop := ∃ dx t, H p = some (.ins C dx (cwF d t ws)) ∧ H d = some (.frz od (.dK (ws.map wI))) ∧ H t = some (.tup (namesV ws))
theorem CwL.ex {C : Addr} {H H' : Hp} {p d : Addr} {od : Obj} {ws : List (Str × Int)} (h : CwL C H p d od ws) (e : Ex H H') : CwL C H' p d od ws := by
  obtain ⟨dx, t, h1, h2, h3⟩ := h
  exact ⟨dx, t, e _ _ h1, e _ _ h2, e _ _ h3⟩
section
variable {X : Cx} {pins : List (Addr × Obj)} {σ : L2.St} {C f a d S it : Addr} {od : Obj} {kvs : List (Key × V)} {vs : List (Key × Value)} {es : Array DictEntry} {ep : Nat}
/-- what the list holds after i turns -/
def PrW (H : Hp) (ts : List Addr) (kvs : List (Key × V)) : Prop := ts.length = kvs.length ∧ ∀ (i : Nat) t p, ts[i]? = some t → kvs[i]? = some p → H t = some (.tup [kV p.1, p.2])
end
end L3
end
section
namespace L3
open PySem PySem.Spec PyProof.Rows L2 LamX RZ
theorem many_ok {m : Int} (h0 : 0 ≤ m) (h : m ≤ 1000) : m.natAbs < 2 ^ 8000 := Nat.lt_of_le_of_lt (show m.natAbs ≤ 1000 by omega) (Nat.lt_of_lt_of_le (by decide : 1000 < 2 ^ 10) (Nat.pow_le_pow_right (by decide) (by decide)))
def bothW : List (Str × Int) → List (Str × Int) → List (Str × Int)
  | ws, [] => ws
  | ws, p :: us => bothW (setW ws p.1 p.2) us
theorem bothW_nd : ∀ {us ws : List (Str × Int)}, (ws.map (·.1)).Nodup → ((bothW ws us).map (·.1)).Nodup
  | [], _, h => h
  | _ :: us, _, h => bothW_nd (us := us) (setW_nd h)
theorem bothW_mem : ∀ {us ws : List (Str × Int)} {q : Str × Int}, q ∈ bothW ws us → q ∈ ws ∨ q ∈ us
  | [], _, _, h => .inl h
  | p :: us, ws, q, h => by
    rcases bothW_mem (us := us) h with h | h
    · rcases setW_mem h with h | h
      · exact .inr (by rw [h]; exact List.mem_cons_self ..)
      · exact .inl h
    · exact .inr (List.mem_cons_of_mem _ h)
theorem setW_len {ws : List (Str × Int)} {n : Str} {i : Int} : ws.length ≤ (setW ws n i).length ∧ (setW ws n i).length ≤ ws.length + 1 := by
  unfold setW
  split
  · rw [List.length_map]; omega
  · rw [List.length_append]; exact ⟨by simp, Nat.le_refl _⟩
theorem bothW_len : ∀ {us ws : List (Str × Int)}, ws.length ≤ (bothW ws us).length ∧ (bothW ws us).length ≤ ws.length + us.length
  | [], ws => ⟨Nat.le_refl _, Nat.le_refl _⟩
  | p :: us, ws => by
    have ih := bothW_len (us := us) (ws := setW ws p.1 p.2)
    have := @setW_len ws p.1 p.2
    show _ ≤ (bothW (setW ws p.1 p.2) us).length ∧ (bothW (setW ws p.1 p.2) us).length ≤ _
    rw [List.length_cons]
    omega
theorem OkW.both {ws us : List (Str × Int)} (h1 : OkW ws) (h2 : OkW us) (hl : (bothW ws us).length ≤ 8) : OkW (bothW ws us) :=
  ⟨fun z => h1.ne (List.eq_nil_of_length_eq_zero (by have := (@bothW_len us ws).1; rw [z] at this; exact Nat.le_zero.mp this)), hl, fun p hp => (bothW_mem hp).elim (h1.nm p) (h2.nm p), fun p hp => (bothW_mem hp).elim (h1.sp p) (h2.sp p), bothW_nd h1.nd⟩
def spBoth : Sp := fun vs H Q _ => ∃ d1 ws d2 us, vs = [.ref d1, .ref d2] ∧ H d1 = some (.dK ((ws : List (Str × Int)).map wI)) ∧ H d2 = some (.dK ((us : List (Str × Int)).map wI)) ∧ ws.length ≤ 20 ∧ us.length ≤ 20 ∧ (ws.map (·.1)).Nodup ∧ (us.map (·.1)).Nodup ∧
  ∀ d H', H d = none → Ex H H' → H' d = some (.dK ((bothW ws us).map wI)) → Q (.ref d) H'
theorem Cw.ins {C : Addr} {H : Hp} {p : Addr} {ws : List (Str × Int)} (h : Cw C H p ws) : ∃ dx fs, H p = some (.ins C dx fs) := by
  obtain ⟨dx, d, t, h1, _⟩ := h
  exact ⟨dx, _, h1⟩
end L3
end
section
namespace L3
open PySem PySem.Spec PyProof.Rows L2 LamX RZ
section
variable {ws us ws' us' : List (Str × Int)}
theorem nd_perm (h : ws'.Perm ws) (nd : (ws.map (·.1)).Nodup) : (ws'.map (·.1)).Nodup := (h.map (·.1)).nodup_iff.mpr nd
theorem OkW.perm (h : OkW ws) (p : ws'.Perm ws) : OkW ws' :=
  ⟨fun z => h.ne (List.eq_nil_of_length_eq_zero (by rw [← p.length_eq, z]; rfl)), by rw [p.length_eq]; exact h.le, fun q hq => h.nm q (p.mem_iff.mp hq), fun q hq => h.sp q (p.mem_iff.mp hq), nd_perm p h.nd⟩
end
section
variable {ws us : List (Str × Int)} {n : Str} {i : Int}
theorem OkW.set (h : OkW ws) (hn : nameB n = true) (hi : 1 ≤ i ∧ i ≤ 60) (hl : (setW ws n i).length ≤ 8) : OkW (setW ws n i) :=
  have h2 : OkW [(n, i)] := ⟨(fun z => nomatch z), by simp, fun p hp => by rw [List.mem_singleton.mp hp]; exact hn, fun p hp => by rw [List.mem_singleton.mp hp]; exact hi, by simp⟩
  OkW.both h h2 hl
end
def pwD (p : Str × Int) : PyData := .tuple [.str p.1, .int p.2]
theorem dpPw {K : PySem.W.Frag} {H : Hp} {t : Addr} {p : Str × Int} (h : H t = some (.tup [.str p.1, .int p.2])) : Dp K H (.ref t) (pwD p) := .tup (.inl (.inl h)) (.cons (.str _) (.cons (.int _) .nil))
theorem dpPws {K : PySem.W.Frag} {H : Hp} : ∀ {ws : List (Str × Int)} {us : List V}, us.length = ws.length → (∀ (i : Nat) v p, us[i]? = some v → ws[i]? = some p → ∃ t, v = .ref t ∧ H t = some (.tup [.str p.1, .int p.2])) → DpAll K H us (ws.map pwD)
  | [], [], _, _ => .nil
  | [], _ :: _, h, _ => by simp at h
  | _ :: _, [], h, _ => by simp at h
  | p :: ws, v :: us, h, k => by
    obtain ⟨t, rfl, ht⟩ := k 0 v p rfl rfl
    exact .cons (dpPw ht) (dpPws (by simpa using h) fun i v q h1 h2 => k (i + 1) v q (by simpa using h1) (by simpa using h2))
theorem PrW.dp {K : PySem.W.Frag} {H : Hp} {ts : List Addr} {ws : List (Str × Int)} (h : PrW H ts (ws.map wI)) : DpAll K H (ts.map V.ref) (ws.map pwD) := by
  refine dpPws (by rw [List.length_map, h.1, List.length_map]) fun i v p h1 h2 => ?_
  rw [List.getElem?_map] at h1
  cases e : ts[i]? with
  | none => rw [e] at h1; cases h1
  | some t =>
    rw [e] at h1
    cases h1
    exact ⟨t, rfl, h.2 i t (wI p) e (by rw [List.getElem?_map, h2]; rfl)⟩
def wD (ws : List (Str × Int)) : PyData := .dict (ws.map fun p => (.str p.1, .int p.2))
/-- values told with their text, names and numbers too -/
inductive Vw (H : Hp) : V → Str → Prop
  | vl {v : V} {t : Str} : Vl H v t → Vw H v t
  | dw {p : Addr} {ws : List (Str × Int)} : H p = some (.dK (ws.map wI)) → OkW ws → Vw H (.ref p) (wD ws).shown
  | t1 {p : Addr} {z : Str} : H p = some (.tup [.str z]) → (PyData.tuple [.str z]).shown.length ≤ 1000 → Vw H (.ref p) (PyData.tuple [.str z]).shown
theorem Vw.exN {H H' : Hp} {v : V} {t : Str} (h : Vw H v t) (e : ExtN H H') : Vw H' v t := by
  cases h with
  | vl h => exact .vl (h.exN e)
  | dw h o => exact .dw (e _ _ h fun _ z => nomatch z) o
  | t1 h o => exact .t1 (e _ _ h fun _ z => nomatch z) o
def KpN (a : Addr) (H H' : Hp) : Prop := ∀ b o, b ≠ a → H b = some o → (∀ ps, o ≠ .tbl ps) → H' b = some o
section
variable {a : Addr} {H H1 H2 : Hp}
theorem KpN.refl (H : Hp) : KpN a H H := fun _ _ _ h _ => h
theorem KpN.trans (x : KpN a H H1) (y : KpN a H1 H2) : KpN a H H2 := fun b o n h z => y b o n (x b o n h z) z
theorem KpN.of (k : ∀ b o, b ≠ a → H b = some o → H1 b = some o) : KpN a H H1 := fun b o n h _ => k b o n h
theorem KpN.n (e : ExtN H H1) : KpN a H H1 := fun b o _ h z => e b o h z
variable {n : Nat} {p : Addr} {ws : List (Str × Int)} {xs : List V} {kvs : List (Key × V)} {C : Addr}
theorem dk_kp (h : H p = some (.dK kvs)) (pn : Pen H a n) (k : KpN a H H1) : H1 p = some (.dK kvs) := k _ _ (pn.ne h (fun c n z => by unfold PenO at z; cases z)) h (fun _ z => nomatch z)
theorem lst_kp (h : H p = some (.lst xs)) (pn : Pen H a n) (k : KpN a H H1) : H1 p = some (.lst xs) := k _ _ (pn.ne h (fun c n z => by unfold PenO at z; cases z)) h (fun _ z => nomatch z)
theorem tup_kp (h : H p = some (.tup xs)) (pn : Pen H a n) (k : KpN a H H1) : H1 p = some (.tup xs) := k _ _ (pn.ne h (fun c n z => by unfold PenO at z; cases z)) h (fun _ z => nomatch z)
theorem cw_kp (h : Cw C H p ws) (pn : Pen H a n) (k : KpN a H H1) : Cw C H1 p ws := by
  obtain ⟨dw, wd, wt, w1, w2, w3⟩ := h
  exact ⟨dw, wd, wt, k _ _ (pn.ne w1 (fun c n z => by unfold PenO at z; cases z)) w1 (fun _ z => nomatch z), dk_kp w2 pn k, tup_kp w3 pn k⟩
end
end L3
end
section
namespace L3
open PySem PySem.NumText PySem.Spec PyProof.Rows L2 LamX RZ
theorem Pt.mono {m n : Nat} {z : Str} (h : Pt m z) (k : m ≤ n) : Pt n z := ⟨Nat.le_trans h.1 k, h.2⟩
theorem Pt.ok {m : Nat} {z : Str} (h : Pt m z) : PyData.strOk z = true := by
  unfold PyData.strOk
  rw [← Array.all_toList]
  exact List.all_eq_true.mpr fun c hc => decide_eq_true (h.2 c hc)
end L3
end
section
namespace L2
open PySem PySem.Spec PyProof.Rows
/-- what == of two values tells, by the abstract heap -/
abbrev EqvB := V → V → Hp → Bool → Prop
def MonB (D : EqvB) : Prop := ∀ x y H H' b, Ext H H' → D x y H b → D x y H' b
def EqB (X : Cx) (n : Nat) (D : EqvB) : Prop :=
  ∀ (A : Around) (pins : List (Addr × Obj)) (s : Shared) (σ : St) (H : Hp) (x y : V) (u v : Value) (b : Bool), Sub X n A → Inv X pins σ H s → RelV x u → RelV y v → D x y H b →
    wpAny (model X.prog X.w) A (eqBool u v) (fun r s' => r = b ∧ ∃ H', Inv X pins σ H' s' ∧ Ext H H') X.xe s
def RcB (op : CmpOp) (g : Bool → Bool) (X : Cx) (n : Nat) (D : EqvB) : Prop :=
  ∀ (A : Around) (pins : List (Addr × Obj)) (s : Shared) (σ : St) (H : Hp) (x y : V) (u v : Value) (b : Bool), Sub X n A → Inv X pins σ H s → RelV x u → RelV y v → D x y H b →
    wpAny (model X.prog X.w) A (richCompare op u v) (fun r s' => r = .bool (g b) ∧ ∃ H', Inv X pins σ H' s' ∧ Ext H H') X.xe s
section
variable {X : Cx} {n m : Nat} {D D' : EqvB}
theorem EqB.mono (h : EqB X n D) (hn : n ≤ m) : EqB X m D := fun A pins s σ H x y u v b sb => h A pins s σ H x y u v b (sb.mono hn)
theorem RcB.mono {op : CmpOp} {g : Bool → Bool} (h : RcB op g X n D) (hn : n ≤ m) : RcB op g X m D := fun A pins s σ H x y u v b sb => h A pins s σ H x y u v b (sb.mono hn)
theorem EqB.or (h : EqB X n D) (h' : EqB X n D') : EqB X n (fun x y H b => D x y H b ∨ D' x y H b) := fun A pins s σ H x y u v b sb I rx ry d => by
  rcases d with d | d
  · exact h A pins s σ H x y u v b sb I rx ry d
  · exact h' A pins s σ H x y u v b sb I rx ry d
theorem EqB.imp (h : EqB X n D) (hd : ∀ x y H b, D' x y H b → D x y H b) : EqB X n D' := fun A pins s σ H x y u v b sb I rx ry d => h A pins s σ H x y u v b sb I rx ry (hd x y H b d)
theorem MonB.or (h : MonB D) (h' : MonB D') : MonB (fun x y H b => D x y H b ∨ D' x y H b) := fun x y H H' b e d => d.elim (fun d => .inl (h x y H H' b e d)) fun d => .inr (h' x y H H' b e d)
end
end L2
end
section
namespace L3
open PySem PySem.NumText PySem.Spec PyProof.Rows L2 LamX RZ
end L3
end
section
set_option exponentiation.threshold 2000
namespace L3
open PySem PySem.NumText PySem.Spec PyProof.Rows L2 LamX RZ
section
variable {H : Hp} {C CW CQ : Addr} {p : Addr} {ws : List (Str × Int)} {a b f : Int}
theorem St.ins (h : St C CW CQ H p ws a b f) : ∃ dx q l, H p = some (.ins C dx (stF6 q ws a b f ++ ([("lowest", .ref l)] : List (Str × V)))) ∧ Cw CW H q ws := by
  obtain ⟨dx, q, l, h1, h2, _⟩ := h
  exact ⟨dx, q, l, h1, h2⟩
end
def spWithFe (K : PySem.W.Frag) (C CW CQ CF : Addr) : Sp := fun vs H Q E => ∃ p y ws a b f, vs = [.ref p, y] ∧ St C CW CQ H p ws a b f ∧ OkW ws ∧ OkS a b f ∧
  ((OutS K H y 0 (10 ^ 30) ∧ Rz CF "value" y H E) ∨ ∃ f', y = .int f' ∧ 0 ≤ f' ∧ f' ≤ 10 ^ 30 ∧ ∀ t H', H t = none → Ex H H' → St C CW CQ H' t ws a b f' → Q (.ref t) H')
def subR (p q : Int × Int) : Int × Int := mkR (p.1 * q.2 - q.1 * p.2) (p.2 * q.2)
theorem subR_bn {p q : Int × Int} {A B C D : Nat} (hp : Bn A B p) (hq : Bn C D q) : Bn (A * D + C * B) (B * D) (subR p q) :=
  mkR_bn (nb_sub (nb_mul hp.o hq.u) (nb_mul hq.o hp.u)) (nb_mul hp.u hq.u) (fun z => (Int.mul_eq_zero.mp z).elim (fun z => by have := hp.pos; omega) (fun z => by have := hq.pos; omega))
def slopeS (ws : List (Str × Int)) (a b : Int) : Int × Int := subR (mkR b (minW ws)) (mkR (b - a) (sumW ws))
def spStraight (K : PySem.W.Frag) (C CW CQ CS : Addr) : Sp := fun vs H Q E => ∃ p ws a b f, vs = [.ref p] ∧ St C CW CQ H p ws a b f ∧ OkW ws ∧ OkS a b f ∧
  ((0 < f ∧ Rz CS "part" (.str "fee") H E) ∨ (f = 0 ∧ ∀ t u v H', Ex H H' → H' t = some (.tup [.ref u, .ref v]) → Rt CQ H' u (slopeS ws a b).1 (slopeS ws a b).2 → Rt CQ H' v (mkR a (sumW ws)).1 (mkR a (sumW ws)).2 → Q (.ref t) H'))
end L3
namespace L3
open PySem PySem.NumText PySem.Spec PyProof.Rows L2 LamX RZ
end L3
namespace L3
open PySem PySem.NumText PySem.Spec PyProof.Rows L2 LamX RZ
/-- Setting(x, y, z, u), any values -/
def StArgs (K : PySem.W.Frag) (C CW CQ CS CA CF : Addr) (E : XK) (x y z u : V) (H : Hp) (Q : VK) : Prop :=
  (NC K H (.ref CW) x ∧ Rz CS "part" (.str "crew") H E) ∨ ∃ q ws, x = .ref q ∧ Cw CW H q ws ∧ OkW ws ∧ ((OutS K H y 1 60 ∧ Rz CA "value" y H E) ∨ ∃ a, y = .int a ∧ 1 ≤ a ∧ a ≤ 60 ∧ ((OutS K H z a 60 ∧ Rz CA "value" z H E) ∨ ∃ b, z = .int b ∧ a ≤ b ∧ b ≤ 60 ∧
    ((OutS K H u 0 (10 ^ 30) ∧ Rz CF "value" u H E) ∨ ∃ f, u = .int f ∧ OkS a b f ∧ ∀ p H', H p = none → Ex H H' → St C CW CQ H' p ws a b f → Q (.ref p) H')))
theorem s_mkStG {K : PySem.W.Frag} {C CW CQ CS CA CF : Addr} {E : XK} {x y z u : V} {H : Hp} {Q : VK} (h : StArgs K C CW CQ CS CA CF E x y z u H Q) :
    ∀ p dx, H p = none → H dx = none → dx ≠ p → spSet K C CW CQ CS CA CF (.ref p :: ([x, y, z, u] ++ [])) (upd (upd H dx (.own p)) p (.ins C dx [])) (fun v H2 => v = .non ∧ ap Q (.ref p) H2) E := fun p dx hp hd hn => by
  have kk : Ex H (upd (upd H dx (.own p)) p (.ins C dx [])) := fun c o h => by rw [upd_ne (ne_of_none h hp), upd_ne (ne_of_none h hd)]; exact h
  refine ⟨p, dx, _, _, _, _, rfl, upd_same, ?_⟩
  rcases h with ⟨nc, rz⟩ | ⟨q, ws, rfl, cw, okw, h⟩
  · exact .inl ⟨nc.exN kk.n, rz.ex kk⟩
  have qp : q ≠ p := fun z => by
    obtain ⟨dw, wd, wt, w1, _⟩ := cw
    rw [z, hp] at w1; cases w1
  refine .inr ⟨q, ws, rfl, qp, cw.ex kk, okw, ?_⟩
  rcases h with ⟨ho, rz⟩ | ⟨a, rfl, a1, a2, h⟩
  · exact .inl ⟨ho.exN kk.n, rz.ex kk⟩
  refine .inr ⟨a, rfl, a1, a2, ?_⟩
  rcases h with ⟨ho, rz⟩ | ⟨b, rfl, b1, b2, h⟩
  · exact .inl ⟨ho.exN kk.n, rz.ex kk⟩
  refine .inr ⟨b, rfl, b1, b2, ?_⟩
  rcases h with ⟨ho, rz⟩ | ⟨f, rfl, oks, k⟩
  · exact .inl ⟨ho.exN kk.n, rz.ex kk⟩
  exact .inr ⟨f, rfl, oks, fun H' k' st => ⟨rfl, k p H' hp (fun c o h => k' c o (ne_of_none h hp) (kk c o h)) st⟩⟩
end L3
end
section
namespace L3
open PySem PySem.Spec PyProof.Rows L2 LamX
end L3
end
section
set_option exponentiation.threshold 2000
namespace L3
open PySem PySem.NumText PySem.Spec PyProof.Rows L2 LamX RZ
/-- a plan: speeds, costs, a fee -/
def PlanT (H : Hp) (p : Addr) (ws : List (Str × Int)) (a b f : Int) : Prop := ∃ d, H p = some (.tup [.ref d, .int a, .int b, .int f]) ∧ H d = some (.dK (ws.map wI))
theorem PlanT.exN {H H' : Hp} {p : Addr} {ws : List (Str × Int)} {a b f : Int} (h : PlanT H p ws a b f) (e : ExtN H H') : PlanT H' p ws a b f := by
  obtain ⟨d, h1, h2⟩ := h
  exact ⟨d, e _ _ h1 (fun _ z => nomatch z), e _ _ h2 (fun _ z => nomatch z)⟩
theorem PlanT.ex {H H' : Hp} {p : Addr} {ws : List (Str × Int)} {a b f : Int} (h : PlanT H p ws a b f) (e : Ex H H') : PlanT H' p ws a b f := h.exN e.n
theorem PlanT.kp {H H' : Hp} {pa p : Addr} {n : Nat} {ws : List (Str × Int)} {a b f : Int} (h : PlanT H p ws a b f) (pn : Pen H pa n) (k : KpN pa H H') : PlanT H' p ws a b f := by
  obtain ⟨d, h1, h2⟩ := h
  exact ⟨d, tup_kp h1 pn k, dk_kp h2 pn k⟩
theorem PlanT.ne {H : Hp} {p d : Addr} {ws : List (Str × Int)} {a b f : Int} (h1 : H p = some (.tup [.ref d, .int a, .int b, .int f])) (h2 : H d = some (.dK (ws.map wI))) : d ≠ p := fun z => by rw [z, h1] at h2; cases h2
end L3
namespace L3
open PySem PySem.NumText PySem.Spec PyProof.Rows L2 LamX RZ
def mulR (p q : Int × Int) : Int × Int := mkR (p.1 * q.1) (p.2 * q.2)
end L3
namespace L3
open PySem PySem.NumText PySem.Spec PyProof.Rows L2 LamX RZ
section
variable {C CW CQ : Addr} {H H' : Hp} {p pa : Addr} {n : Nat} {ws : List (Str × Int)} {a b f o u : Int}
theorem rt_kp (h : Rt CQ H p o u) (pn : Pen H pa n) (k : KpN pa H H') : Rt CQ H' p o u := by
  obtain ⟨dx, h1⟩ := h
  exact ⟨dx, k _ _ (pn.ne h1 (fun c n z => by unfold PenO at z; cases z)) h1 (fun _ z => nomatch z)⟩
theorem St.kp (h : St C CW CQ H p ws a b f) (pn : Pen H pa n) (k : KpN pa H H') : St C CW CQ H' p ws a b f := by
  obtain ⟨dx, q, l, h1, h2, h3⟩ := h
  exact ⟨dx, q, l, k _ _ (pn.ne h1 (fun c n z => by unfold PenO at z; cases z)) h1 (fun _ z => nomatch z), cw_kp h2 pn k, rt_kp h3 pn k⟩
end
end L3
namespace L3
open PySem PySem.NumText PySem.Spec PyProof.Rows L2 LamX RZ
end L3
namespace L3
open PySem PySem.NumText PySem.Spec PyProof.Rows L2 LamX RZ
end L3
end
section
namespace L3
open PySem PySem.NumText PySem.Spec PyProof.Rows L2 LamX RZ
theorem HdAt.take {H : Hp} {hl : Addr} {qs : List Addr} {ts : List (List V)} (b : Hds H qs ts) : ∀ n, Hds H (qs.take n) (ts.take n) := by
  intro n
  induction n generalizing qs ts with
  | zero => rw [List.take_zero, List.take_zero]; trivial
  | succ n ih =>
    cases qs with
    | nil => cases ts with
      | nil => trivial
      | cons t ts => exact b.elim
    | cons q qs => cases ts with
      | nil => exact b.elim
      | cons t ts => exact ⟨b.1, ih b.2⟩
theorem OutR.exN {K : PySem.W.Frag} {H H' : Hp} {x : V} {m : Int} (h : OutR K H x m) (e : ExtN H H') : OutR K H' x m := h.imp (fun h => h.exN e) id
end L3
namespace L3
open PySem PySem.NumText PySem.Spec PyProof.Rows L2 LamX RZ
section
variable {H G : Hp} {l : Addr} {xs : List V}
variable {C CW CQ p q : Addr} {n : Nat} {ws : List (Str × Int)} {a b f o u : Int}
theorem HdAt.kp {pa hp : Addr} {ts : List (List V)} (h : HdAt H hp ts) (pn : Pen H pa n) (k : KpN pa H G) : HdAt G hp ts := by
  obtain ⟨qs, a, b⟩ := h
  exact ⟨qs, lst_kp a pn k, b.imp fun q t h => tup_kp h pn k⟩
theorem HdAt.lst {hp : Addr} {ts : List (List V)} (h : HdAt H hp ts) : ∃ qs : List Addr, H hp = some (.lst (qs.map V.ref)) ∧ qs.length = ts.length := by
  obtain ⟨qs, a, b⟩ := h
  exact ⟨qs, a, b.len⟩
end
end L3
end
section
set_option exponentiation.threshold 2000
namespace L3
open PySem PySem.NumText PySem.Spec PyProof.Rows L2 LamX RZ
end L3
end
section
set_option exponentiation.threshold 2000
namespace L3
open PySem PySem.NumText PySem.Spec PyProof.Rows L2 LamX RZ
end L3
namespace L3
open PySem PySem.NumText PySem.Spec PyProof.Rows L2 LamX RZ
end L3
namespace L3
open PySem PySem.NumText PySem.Spec PyProof.Rows L2 LamX RZ
/-- a word behind a crew -/
structure TW (u : Str) : Prop where
  pt : Pt 32 u
  no : 32 ∉ u.cps.toList
  nn : nameB u = false
end L3
end
section
namespace L3
open PySem PySem.NumText PySem.Spec PyProof.Rows L2 LamX RZ
end L3
end
section
set_option exponentiation.threshold 9000
namespace L3
open PySem PySem.NumText PySem.Spec PyProof.Rows L2 LamX RZ
end L3
end
section
namespace L3
open PySem PySem.NumText PySem.Spec PyProof.Rows L2 LamX RZ
end L3
end
section
namespace L3
open PySem PySem.NumText PySem.Spec PyProof.Rows L2 LamX RZ
/-- workers of a crew -/
structure SubW (us ws : List (Str × Int)) : Prop where
  ne : us ≠ []
  nd : (us.map (·.1)).Nodup
  mem : ∀ p ∈ us, p ∈ ws
theorem sub_perm : ∀ {us ws : List (Str × Int)}, us.Nodup → (∀ p ∈ us, p ∈ ws) → ∃ rest, ws.Perm (us ++ rest)
  | [], ws, _, _ => ⟨ws, List.Perm.refl _⟩
  | p :: r, ws, nd, h => by
    have hp := h p List.mem_cons_self
    have nd1 := List.nodup_cons.mp nd
    obtain ⟨rest, hr⟩ := sub_perm (us := r) (ws := ws.erase p) nd1.2 fun q hq => (List.mem_erase_of_ne (show q ≠ p from fun z => nd1.1 (by rw [← z]; exact hq))).mpr (h q (List.mem_cons_of_mem _ hq))
    exact ⟨rest, (List.perm_cons_erase hp).trans (List.Perm.cons p hr)⟩
theorem SubW.perm {us ws : List (Str × Int)} (s : SubW us ws) : ∃ rest, ws.Perm (us ++ rest) :=
  sub_perm (List.Pairwise.of_map (·.1) (fun a b hab z => hab (by rw [z])) s.nd) s.mem
theorem SubW.le {us ws : List (Str × Int)} (s : SubW us ws) (h : OkW ws) : us.length ≤ 8 := by
  obtain ⟨rest, hr⟩ := s.perm
  have := hr.length_eq
  rw [List.length_append] at this
  have := h.le
  omega
theorem SubW.ok {us ws : List (Str × Int)} (s : SubW us ws) (h : OkW ws) : OkW us := ⟨s.ne, s.le h, fun p hp => h.nm p (s.mem p hp), fun p hp => h.sp p (s.mem p hp), s.nd⟩
theorem SubW.min {us ws : List (Str × Int)} (s : SubW us ws) : minW ws ≤ minW us := by
  obtain ⟨p, hp, e⟩ := List.mem_map.mp (minW_mem s.ne)
  rw [← e]
  exact minW_le (List.mem_map_of_mem (s.mem p hp))
theorem SubW.max {us ws : List (Str × Int)} (s : SubW us ws) : maxW us ≤ maxW ws := by
  obtain ⟨p, hp, e⟩ := List.mem_map.mp (maxW_mem s.ne)
  rw [← e]
  exact le_maxW (List.mem_map_of_mem (s.mem p hp))
theorem sumW_nonneg {r : List (Str × Int)} (h : ∀ q ∈ r, 0 ≤ q.2) : 0 ≤ sumW r := by
  unfold sumW
  induction r with
  | nil => exact Int.le_refl _
  | cons c d ih =>
    rw [List.map_cons, List.sum_cons]
    have := h c List.mem_cons_self
    have := ih fun q hq => h q (List.mem_cons_of_mem _ hq)
    omega
theorem SubW.sum {us ws : List (Str × Int)} (s : SubW us ws) (h : OkW ws) : sumW us ≤ sumW ws := by
  obtain ⟨rest, hr⟩ := s.perm
  rw [sumW_perm hr]
  have h0 := sumW_nonneg (r := rest) fun q hq => by
    have := h.sp q (hr.mem_iff.mpr (List.mem_append_right _ hq))
    omega
  unfold sumW at *
  rw [List.map_append, List.sum_append]
  omega
end L3
end
section
namespace L3
open PySem PySem.NumText PySem.Spec PyProof.Rows L2 LamX RZ
end L3
end
section
namespace L3
open PySem PySem.NumText PySem.Spec PyProof.Rows L2 LamX RZ
end L3
end
section
namespace L3
open PySem PySem.Spec PyProof.Rows L2 LamX ItX
end L3
namespace L3
open PySem PySem.Spec PyProof.Rows PySem.Calls PyProof.V
end L3
namespace L3
open PySem PySem.Spec PyProof.Rows L2 LamX ItX
end L3
end
section
namespace L3
open PySem PySem.NumText PySem.Spec PyProof.Rows L2 LamX RZ
end L3
namespace L3
open PySem PySem.NumText PySem.Spec PyProof.Rows L2 LamX RZ
end L3
namespace L3
open PySem PySem.NumText PySem.Spec PyProof.Rows L2 LamX RZ
end L3
namespace L3
open PySem PySem.NumText PySem.Spec PyProof.Rows L2 LamX RZ
/-- a setting of these workers and maybe more, its costs wider, its fee as great -/
def GrS (C CW CQ : Addr) (H : Hp) (s : Addr) (U : List (Str × Int)) (a b f : Int) : Prop := ∃ U' a' b' f', St C CW CQ H s U' a' b' f' ∧ OkW U' ∧ OkS a' b' f' ∧ SubW U U' ∧ a' ≤ a ∧ b ≤ b' ∧ f ≤ f'
theorem GrS.ex {C CW CQ : Addr} {H H' : Hp} {s : Addr} {U : List (Str × Int)} {a b f : Int} (h : GrS C CW CQ H s U a b f) (e : Ex H H') : GrS C CW CQ H' s U a b f := by
  obtain ⟨U', a', b', f', h1, h2⟩ := h
  exact ⟨U', a', b', f', h1.ex e, h2⟩
theorem GrS.kp {C CW CQ : Addr} {H H' : Hp} {s pa : Addr} {n : Nat} {U : List (Str × Int)} {a b f : Int} (h : GrS C CW CQ H s U a b f) (pn : Pen H pa n) (k : KpN pa H H') : GrS C CW CQ H' s U a b f := by
  obtain ⟨U', a', b', f', h1, h2⟩ := h
  exact ⟨U', a', b', f', h1.kp pn k, h2⟩
theorem SubW.refl {U : List (Str × Int)} (ok : OkW U) : SubW U U := ⟨ok.ne, ok.nd, fun _ h => h⟩
end L3
namespace L3
open PySem PySem.NumText PySem.Spec PyProof.Rows L2 LamX RZ
end L3
namespace L3
open PySem PySem.NumText PySem.Spec PyProof.Rows L2 LamX RZ
end L3
namespace L3
open PySem PySem.NumText PySem.Spec PyProof.Rows L2 LamX RZ
theorem Rts.drop {CQ : Addr} {H : Hp} {xs : List V} {rs : List (Int × Int)} (h : Rts CQ H xs rs) (k : Nat) : Rts CQ H (xs.drop k) (rs.drop k) :=
  ⟨by rw [List.length_drop, List.length_drop, h.1], fun i r hr => by
    rw [List.getElem?_drop] at hr ⊢
    exact h.2 _ r hr⟩
end L3
namespace L3
open PySem PySem.NumText PySem.Spec PyProof.Rows L2 LamX RZ
end L3
namespace L3
open PySem PySem.NumText PySem.Spec PyProof.Rows L2 LamX RZ
end L3
end
section
namespace L3
open PySem PySem.NumText PySem.Spec PyProof.Rows L2 LamX RZ
/-- what is used of let -/
structure LetOk (ℓ : Int → Int → Int) : Prop where
  lo : ∀ r j, 0 ≤ r → 0 ≤ ℓ r j ∧ ℓ r j ≤ r
  up : ∀ r j, 0 ≤ r → ℓ r j ≤ ℓ (r + 1) j ∧ ℓ (r + 1) j ≤ ℓ r j + 1
  pl : ∀ r j, ℓ r (j + 1) ≤ ℓ r j
theorem LetOk.mono {ℓ : Int → Int → Int} (o : LetOk ℓ) {r : Int} (j : Int) (hr : 0 ≤ r) : ∀ (k : Nat), r - ℓ r j ≤ (r + (k : Int)) - ℓ (r + (k : Int)) j ∧ ℓ r j ≤ ℓ (r + (k : Int)) j
  | 0 => by rw [Int.natCast_zero, Int.add_zero]; exact ⟨Int.le_refl _, Int.le_refl _⟩
  | k + 1 => by
    obtain ⟨h1, h2⟩ := o.mono j hr k
    have h3 := o.up (r + (k : Int)) j (by omega)
    have e : r + ((k + 1 : Nat) : Int) = r + (k : Int) + 1 := by omega
    rw [e]
    omega
/-- a greater rest leaves no less, and lets no less -/
theorem LetOk.left {ℓ : Int → Int → Int} (o : LetOk ℓ) {r r' : Int} (j : Int) (hr : 0 ≤ r) (h : r ≤ r') : r - ℓ r j ≤ r' - ℓ r' j ∧ ℓ r j ≤ ℓ r' j := by
  have := o.mono j hr (r' - r).toNat
  rw [show r + ((r' - r).toNat : Int) = r' by omega] at this
  exact this
theorem LetOk.later {ℓ : Int → Int → Int} (o : LetOk ℓ) (r j : Int) : ∀ k : Nat, ℓ r (j + (k : Int)) ≤ ℓ r j
  | 0 => by rw [Int.natCast_zero, Int.add_zero]; exact Int.le_refl _
  | k + 1 => by
    have := o.later r j k
    have h2 := o.pl r (j + (k : Int))
    rw [show j + ((k + 1 : Nat) : Int) = j + (k : Int) + 1 by omega]
    omega
/-- the greedy list so far: each size is the greatest let one -/
structure GrAt (ℓ : Int → Int → Int) (total : Int) (sizes rests : List Int) : Prop where
  at_ : ∀ (i : Nat) s, sizes[i]? = some s → rests[i]? = some (total - (sizes.take i).sum) ∧ 1 ≤ s ∧ s = ℓ (total - (sizes.take i).sum) (i : Int)
  le : sizes.sum ≤ total
/-- what greedy returns -/
structure GrOut (ℓ : Int → Int → Int) (total : Int) (most : Nat) (sizes rests : List Int) : Prop where
  g : GrAt ℓ total sizes rests
  ms : sizes.length ≤ most
  en : (rests.length = sizes.length ∧ sizes.sum = total) ∨ (rests.length = sizes.length + 1 ∧ sizes.sum < total ∧ rests[sizes.length]? = some (total - sizes.sum) ∧ (sizes.length = most ∨ ℓ (total - sizes.sum) (sizes.length : Int) = 0))
theorem GrAt.nil {ℓ : Int → Int → Int} {total : Int} (h : 0 ≤ total) : GrAt ℓ total [] [] := ⟨(fun i s h => nomatch h), h⟩
theorem GrAt.snoc {ℓ : Int → Int → Int} {total : Int} {sizes rests : List Int} (g : GrAt ℓ total sizes rests) (hl : rests.length = sizes.length) {s : Int} (h1 : 1 ≤ s) (hs : s = ℓ (total - sizes.sum) (sizes.length : Int)) (hle : s ≤ total - sizes.sum) : GrAt ℓ total (sizes ++ [s]) (rests ++ [total - sizes.sum]) := by
  refine ⟨fun i x hx => ?_, by rw [List.sum_append]; simp; omega⟩
  rcases Nat.lt_trichotomy i sizes.length with c | c | c
  · rw [List.getElem?_append_left c] at hx
    rw [List.getElem?_append_left (by omega), List.take_append_of_le_length (by omega)]
    exact g.at_ i x hx
  · subst c
    rw [List.getElem?_append_right (Nat.le_refl _), Nat.sub_self] at hx
    cases hx
    rw [List.getElem?_append_right (by omega), hl, Nat.sub_self, List.take_left]
    exact ⟨rfl, h1, hs⟩
  · rw [List.getElem?_eq_none (by rw [List.length_append, List.length_singleton]; omega)] at hx
    cases hx
theorem GrAt.one {ℓ : Int → Int → Int} {total : Int} {sizes rests : List Int} (g : GrAt ℓ total sizes rests) : ∀ s ∈ sizes, 1 ≤ s := fun s hs => by
  obtain ⟨i, hi⟩ := List.mem_iff_getElem?.mp hs
  exact (g.at_ i s hi).2.1
theorem sum_ge_len : ∀ {ns : List Int}, (∀ n ∈ ns, 1 ≤ n) → (ns.length : Int) ≤ ns.sum
  | [], _ => by simp
  | n :: r, h => by
    have h1 := h n List.mem_cons_self
    have ih := sum_ge_len (ns := r) fun m hm => h m (List.mem_cons_of_mem _ hm)
    rw [List.sum_cons, List.length_cons]
    omega
theorem le_sum : ∀ {ns : List Int}, (∀ n ∈ ns, 1 ≤ n) → ∀ n ∈ ns, n ≤ ns.sum
  | [], _, _, h => nomatch h
  | n :: r, h, m, hm => by
    have h1 := h n List.mem_cons_self
    have hr : ∀ m ∈ r, 1 ≤ m := fun m hm => h m (List.mem_cons_of_mem _ hm)
    have h2 := sum_ge_len hr
    rw [List.sum_cons]
    rcases List.mem_cons.mp hm with rfl | hm
    · omega
    · have := le_sum hr m hm
      omega
theorem GrAt.len {ℓ : Int → Int → Int} {total : Int} {sizes rests : List Int} (g : GrAt ℓ total sizes rests) : (sizes.length : Int) ≤ total := Int.le_trans (sum_ge_len g.one) g.le
/-- the rest at a place -/
def restG (total : Int) (sizes : List Int) (i : Nat) : Int := total - (sizes.take i).sum
theorem restG_succ {total : Int} {sizes : List Int} {i : Nat} (h : i < sizes.length) : restG total sizes (i + 1) = restG total sizes i - sizes[i] := by
  unfold restG
  rw [take_snoc (List.getElem?_eq_getElem h), List.sum_append, List.sum_cons, List.sum_nil]
  omega
theorem restG_all {total : Int} {sizes : List Int} {i : Nat} (h : sizes.length ≤ i) : restG total sizes i = total - sizes.sum := by
  unfold restG
  rw [List.take_of_length_le h]
theorem GrAt.size {ℓ : Int → Int → Int} {total : Int} {sizes rests : List Int} (g : GrAt ℓ total sizes rests) {i : Nat} (h : i < sizes.length) : sizes[i] = ℓ (restG total sizes i) (i : Int) ∧ 1 ≤ sizes[i] ∧ rests[i]? = some (restG total sizes i) := by
  obtain ⟨h1, h2, h3⟩ := g.at_ i _ (List.getElem?_eq_getElem h)
  exact ⟨h3, h2, h1⟩
end L3
end
section
namespace L3
open PySem PySem.NumText PySem.Spec PyProof.Rows L2 LamX RZ
/-- the rests behind one chunk more -/
structure Beh (ℓ : Int → Int → Int) (j : Int) (some_ zs : List Int) : Prop where
  up : zs.Pairwise (· ≤ ·)
  mem : ∀ z, z ∈ zs ↔ ∃ r ∈ some_, ∃ s, 1 ≤ s ∧ s ≤ ℓ r j ∧ z = r - s
/-- all rests left behind so many chunks: none is less than the greedy one, which is there, too -/
structure AllB (total : Int) (sizes : List Int) (k : Nat) (zs : List Int) : Prop where
  up : zs.Pairwise (· ≤ ·)
  ge : ∀ z ∈ zs, restG total sizes k ≤ z ∧ z ≤ total
  has : k ≤ sizes.length → restG total sizes k ∈ zs
theorem GrAt.rest_pos {ℓ : Int → Int → Int} {total : Int} {sizes rests : List Int} (g : GrAt ℓ total sizes rests) (k : Nat) : 0 ≤ restG total sizes k := by
  unfold restG
  have h1 := g.le
  have e := sum_split sizes k
  have h2 : 0 ≤ (sizes.drop k).sum := by
    have := sum_ge_len (ns := sizes.drop k) fun n hn => g.one n (List.mem_of_mem_drop hn)
    omega
  omega
theorem AllB.next {ℓ : Int → Int → Int} (o : LetOk ℓ) {total : Int} {sizes rests : List Int} {most : Nat} (g : GrOut ℓ total most sizes rests) (hm : sizes.length < most) {k : Nat} {zs ys : List Int} (h : AllB total sizes k zs) (hb : Beh ℓ (k : Int) zs ys) : AllB total sizes (k + 1) ys := by
  have hR := g.g.rest_pos k
  refine ⟨hb.up, fun y hy => ?_, fun hk => ?_⟩
  · obtain ⟨r, hr, s, s1, s2, rfl⟩ := (hb.mem y).mp hy
    obtain ⟨h1, h2⟩ := h.ge r hr
    have hl := (o.left (k : Int) hR h1).1
    have r0 : 0 ≤ r := Int.le_trans hR h1
    refine ⟨?_, by omega⟩
    rcases Nat.lt_or_ge k sizes.length with c | c
    · rw [restG_succ c, (g.g.size c).1]
      omega
    · rw [restG_all (by omega)]
      rw [restG_all c] at hl hR
      rcases g.en with ⟨_, e⟩ | ⟨_, _, _, e | e⟩
      · have := (o.lo r (k : Int) r0).2
        omega
      · omega
      · have := o.later (total - sizes.sum) (sizes.length : Int) (k - sizes.length)
        rw [show (sizes.length : Int) + ((k - sizes.length : Nat) : Int) = (k : Int) by omega, e] at this
        omega
  · have hk' : k < sizes.length := by omega
    rw [restG_succ hk']
    obtain ⟨e1, e2, _⟩ := g.g.size hk'
    exact (hb.mem _).mpr ⟨_, h.has (by omega), sizes[k], e2, by rw [← e1]; exact Int.le_refl _, rfl⟩
end L3
end
section
namespace L3
open PySem PySem.NumText PySem.Spec PyProof.Rows L2 LamX RZ
/-- the rests behind one chunk, so far -/
structure BehAt (ℓ : Int → Int → Int) (j : Int) (zs ks : List Int) : Prop where
  nd : ks.Nodup
  mem : ∀ z, z ∈ ks ↔ ∃ r ∈ zs, ∃ s, 1 ≤ s ∧ s ≤ ℓ r j ∧ z = r - s
theorem BehAt.nil {ℓ : Int → Int → Int} {j : Int} : BehAt ℓ j [] [] := ⟨List.nodup_nil, fun z => by simp⟩
/-- so far, and of the last rest sizes up to so many -/
structure BehIn (ℓ : Int → Int → Int) (j : Int) (zs : List Int) (r : Int) (m : Int) (ks : List Int) : Prop where
  nd : ks.Nodup
  mem : ∀ z, z ∈ ks ↔ (∃ r ∈ zs, ∃ s, 1 ≤ s ∧ s ≤ ℓ r j ∧ z = r - s) ∨ ∃ s, 1 ≤ s ∧ s ≤ m ∧ s ≤ ℓ r j ∧ z = r - s
theorem BehAt.go {ℓ : Int → Int → Int} {j : Int} {zs ks : List Int} (h : BehAt ℓ j zs ks) (r : Int) : BehIn ℓ j zs r 0 ks := ⟨h.nd, fun z => by
  rw [h.mem]
  constructor
  · exact .inl
  · rintro (h | ⟨s, h1, h2, _⟩)
    · exact h
    · omega⟩
theorem BehIn.done {ℓ : Int → Int → Int} {j : Int} {zs ks : List Int} {r : Int} (h : BehIn ℓ j zs r r ks) (hl : ℓ r j ≤ r) : BehAt ℓ j (zs ++ [r]) ks := ⟨h.nd, fun z => by
  rw [h.mem]
  constructor
  · rintro (⟨x, h1, h2⟩ | ⟨s, h1, h2, h3, h4⟩)
    · exact ⟨x, List.mem_append_left _ h1, h2⟩
    · exact ⟨r, by simp, s, h1, h3, h4⟩
  · rintro ⟨x, h1, s, h2, h3, h4⟩
    rcases List.mem_append.mp h1 with h1 | h1
    · exact .inl ⟨x, h1, s, h2, h3, h4⟩
    · rw [List.mem_singleton.mp h1] at h3 h4
      exact .inr ⟨s, h2, by omega, h3, h4⟩⟩
end L3
end
section
namespace L3
open PySem PySem.NumText PySem.Spec PyProof.Rows L2 LamX RZ
def restL (total : Int) (sizes : List Int) : List Int := (List.range (sizes.length + 1)).map (restG total sizes)
theorem restL_len (total : Int) (sizes : List Int) : (restL total sizes).length = sizes.length + 1 := by unfold restL; rw [List.length_map, List.length_range]
theorem restL_at {total : Int} {sizes : List Int} {k : Nat} (h : k ≤ sizes.length) : (restL total sizes)[k]? = some (restG total sizes k) := by
  unfold restL; rw [List.getElem?_map, List.getElem?_range (by omega)]; rfl
theorem restG_drop (total : Int) (sizes : List Int) (k : Nat) : restG total sizes k = total - sizes.sum + (sizes.drop k).sum := by
  unfold restG
  have := sum_split sizes k
  omega
theorem GrOut.few {ℓ : Int → Int → Int} {total : Int} {most : Nat} {sizes rests : List Int} (g : GrOut ℓ total most sizes rests) (h : rests.length = sizes.length) : sizes.sum = total ∧ restsOf sizes ++ [0] = restL total sizes := by
  have e : sizes.sum = total := by rcases g.en with ⟨_, e⟩ | ⟨e, _⟩ <;> omega
  refine ⟨e, ?_⟩
  refine List.ext_getElem? fun i => ?_
  rcases Nat.lt_trichotomy i sizes.length with c | c | c
  · rw [List.getElem?_append_left (by rw [restsOf_len]; exact c), restsOf_get c, restL_at (Nat.le_of_lt c), restG_drop, e]
    congr 1
    omega
  · subst c
    rw [List.getElem?_append_right (by rw [restsOf_len]; exact Nat.le_refl _), restsOf_len, Nat.sub_self, restL_at (Nat.le_refl _), restG_all (Nat.le_refl _), e, Int.sub_self]
    rfl
  · rw [List.getElem?_eq_none (by rw [List.length_append, restsOf_len, List.length_singleton]; omega), List.getElem?_eq_none (by rw [restL_len]; omega)]
end L3
end
section
namespace L3
open PySem PySem.NumText PySem.Spec PyProof.Rows L2 LamX RZ
theorem s_fRg2 {σ : L2.St} {H : Hp} {g : TG} {tb : TS} {D : Ends} {tr : TA} (h : tr σ H fun ws H1 => ∃ i j : Int, ws = [.int i, .int j] ∧ (-(2 ^ 62) ≤ i ∧ i < 2 ^ 62 ∧ -(2 ^ 62) ≤ j ∧ j < 2 ^ 62) ∧ ForJ (Itr i (j - i).toNat) g tb D σ H1) : tFor (iRng2 tr) g tb D σ H := h
theorem LsAt.at_ {H : Hp} : ∀ {qs : List Addr} {nss : List (List Int)} {i : Nat} {q : Addr} {ns : List Int}, LsAt H qs nss → qs[i]? = some q → nss[i]? = some ns → H q = some (.lst (ns.map V.int))
  | _ :: _, _ :: _, 0, _, _, ⟨a, _⟩, h1, h2 => by cases h1; cases h2; exact a
  | _ :: _, _ :: _, i + 1, _, _, ⟨_, b⟩, h1, h2 => LsAt.at_ b h1 h2
  | [], [], _, _, _, _, h1, _ => by cases h1
  | [], _ :: _, _, _, _, h, _, _ => h.elim
  | _ :: _, [], _, _, _, h, _, _ => h.elim
theorem LsAt.ex {H H' : Hp} {qs : List Addr} {nss : List (List Int)} (h : LsAt H qs nss) (e : Ex H H') : LsAt H' qs nss := h.imp fun q _ n hn => e _ _ hn
structure AllC (t : Nat) (nss : List (List Int)) : Prop where
  mem : ∀ m, m ∈ nss ↔ (∀ n ∈ m, 1 ≤ n) ∧ m.sum = (t : Int)
  len : nss.length ≤ 2 ^ t
structure PartC (t i : Nat) (nss : List (List Int)) : Prop where
  mem : ∀ m, m ∈ nss ↔ ∃ (s : Int) (r : List Int), m = s :: r ∧ 1 ≤ s ∧ s ≤ (i : Int) ∧ (∀ n ∈ r, 1 ≤ n) ∧ r.sum = (t : Int) - s
  len : nss.length + 2 ^ (t - i) ≤ 2 ^ t
theorem PartC.nil (t : Nat) : PartC t 0 [] := ⟨fun m => by
  constructor
  · intro h; cases h
  · rintro ⟨s, r, _, h1, h2, _⟩; omega, by simp⟩
theorem PartC.next {t i : Nat} {nss mss : List (List Int)} (h : PartC t i nss) (hi : i < t) (ha : AllC (t - (i + 1)) mss) : PartC t (i + 1) (nss ++ mss.map (((i : Int) + 1) :: ·)) := ⟨fun m => by
  rw [List.mem_append, h.mem]
  constructor
  · rintro (⟨s, r, e, h1, h2, h3⟩ | h1)
    · exact ⟨s, r, e, h1, by omega, h3⟩
    · obtain ⟨r, hr, rfl⟩ := List.mem_map.mp h1
      obtain ⟨h2, h3⟩ := (ha.mem r).mp hr
      exact ⟨(i : Int) + 1, r, rfl, by omega, by omega, h2, by rw [h3]; omega⟩
  · rintro ⟨s, r, e, h1, h2, h3, h4⟩
    by_cases c : s ≤ (i : Int)
    · exact .inl ⟨s, r, e, h1, c, h3, h4⟩
    · have : s = (i : Int) + 1 := by omega
      subst this
      exact .inr (List.mem_map.mpr ⟨r, (ha.mem r).mpr ⟨h3, by rw [h4]; omega⟩, e.symm⟩), by
  have h1 := h.len
  have h2 := ha.len
  rw [List.length_append, List.length_map]
  have e : 2 ^ (t - i) = 2 ^ (t - (i + 1)) + 2 ^ (t - (i + 1)) := by
    rw [show t - i = (t - (i + 1)) + 1 by omega, Nat.pow_succ]; omega
  omega⟩
theorem PartC.done {t : Nat} {nss : List (List Int)} (h : PartC t t nss) (ht : 0 < t) : AllC t nss := ⟨fun m => by
  rw [h.mem]
  constructor
  · rintro ⟨s, r, rfl, h1, h2, h3, h4⟩
    refine ⟨fun n hn => ?_, by rw [List.sum_cons, h4]; omega⟩
    rcases List.mem_cons.mp hn with rfl | hn
    · exact h1
    · exact h3 n hn
  · rintro ⟨h1, h2⟩
    cases m with
    | nil => rw [List.sum_nil] at h2; omega
    | cons s r =>
      rw [List.sum_cons] at h2
      have h3 : ∀ n ∈ r, 1 ≤ n := fun n hn => h1 n (List.mem_cons_of_mem _ hn)
      have h4 := sum_ge_len h3
      exact ⟨s, r, rfl, h1 s List.mem_cons_self, by omega, h3, by omega⟩, by have := h.len; rw [Nat.sub_self] at this; omega⟩
def WithinC (ℓ : Int → Int → Int) (t : Int) (m : List Int) : Prop := ∀ (i : Nat) s, m[i]? = some s → s ≤ ℓ (t - (m.take i).sum) (i : Int)
theorem GrOut.step {ℓ : Int → Int → Int} (o : LetOk ℓ) {total : Int} {sizes rests : List Int} {most : Nat} (g : GrOut ℓ total most sizes rests) (hm : sizes.length < most) {k : Nat} {r : Int} (h1 : restG total sizes k ≤ r) : restG total sizes (k + 1) ≤ r - ℓ r (k : Int) := by
  have hR := g.g.rest_pos k
  have hl := (o.left (k : Int) hR h1).1
  rcases Nat.lt_or_ge k sizes.length with c | c
  · rw [restG_succ c, (g.g.size c).1]
    omega
  · rw [restG_all (by omega)]
    rw [restG_all c] at hl hR h1
    rcases g.en with ⟨_, e⟩ | ⟨_, _, _, e | e⟩
    · have := (o.lo r (k : Int) (by omega)).2
      omega
    · omega
    · have := o.later (total - sizes.sum) (sizes.length : Int) (k - sizes.length)
      rw [show (sizes.length : Int) + ((k - sizes.length : Nat) : Int) = (k : Int) by omega, e] at this
      omega
theorem GrAt.within {ℓ : Int → Int → Int} {total : Int} {sizes rests : List Int} (g : GrAt ℓ total sizes rests) : WithinC ℓ total sizes := fun i s h => by
  rw [← (g.at_ i s h).2.2]; exact Int.le_refl _
end L3
end
section
set_option exponentiation.threshold 9000
namespace L3
open PySem PySem.NumText PySem.Spec PyProof.Rows L2 LamX RZ
def bsz (ov rest : Int) : Int := (rest + ov - 1) / ov
def bct (mn ov rest : Int) : Int := min mn ((rest + bsz ov rest - 1) / bsz ov rest)
def bleft (ov rest : Int) (i : Nat) : Int := rest - (i : Int) * bsz ov rest
def blate (ws : List (Str × Int)) (a b ov rest : Int) (i : Nat) : Int × Int := lateS ws a b 0 (bleft ov rest i) 0 (min (bsz ov rest) (bleft ov rest i))
theorem bsz_pos {ov rest : Int} (ho : 1 ≤ ov) (hr : 1 ≤ rest) : 1 ≤ bsz ov rest ∧ bsz ov rest ≤ rest := by
  unfold bsz
  constructor
  · exact (Int.le_ediv_iff_mul_le (by omega)).mpr (by omega)
  · refine Int.ediv_le_of_le_mul (by omega) ?_
    have : rest + ov - 1 ≤ rest * ov := by
      have := Int.mul_nonneg (show 0 ≤ rest - 1 by omega) (show 0 ≤ ov - 1 by omega)
      grind
    exact this
theorem bct_pos {mn ov rest : Int} (hm : 1 ≤ mn) (ho : 1 ≤ ov) (hr : 1 ≤ rest) : 1 ≤ bct mn ov rest ∧ bct mn ov rest ≤ mn := by
  obtain ⟨h1, h2⟩ := bsz_pos ho hr
  unfold bct
  have : 1 ≤ (rest + bsz ov rest - 1) / bsz ov rest := (Int.le_ediv_iff_mul_le (by omega)).mpr (by omega)
  omega
theorem bleft_pos {mn ov rest : Int} (ho : 1 ≤ ov) (hr : 1 ≤ rest) {i : Nat} (hi : (i : Int) < bct mn ov rest) : 1 ≤ bleft ov rest i ∧ bleft ov rest i ≤ rest := by
  obtain ⟨h1, h2⟩ := bsz_pos ho hr
  unfold bct at hi
  have h3 : (i : Int) + 1 ≤ (rest + bsz ov rest - 1) / bsz ov rest := by omega
  have h4 := (Int.le_ediv_iff_mul_le (show 0 < bsz ov rest by omega)).mp h3
  have h5 : 0 ≤ (i : Int) * bsz ov rest := Int.mul_nonneg (by omega) (by omega)
  unfold bleft
  have h6 : ((i : Int) + 1) * bsz ov rest = (i : Int) * bsz ov rest + bsz ov rest := by rw [Int.add_mul, Int.one_mul]
  omega
/-- late, rest, spot -/
abbrev Ent := (Int × Int) × Int × Int
def gtQ (p q : Int × Int) : Bool := gGt p.1 p.2 q.1 q.2
def better (best : Option Ent) (x : Ent) : Option Ent := match best with
  | none => some x
  | some y => if gtQ x.1 y.1 then some x else some y
def entB (ws : List (Str × Int)) (a b ov rest : Int) (i : Nat) : Ent := (blate ws a b ov rest i, rest, (i : Int))
def entsAt (ws : List (Str × Int)) (a b mn ov rest : Int) : List Ent := (List.range (bct mn ov rest).toNat).map (entB ws a b ov rest)
def ents (ws : List (Str × Int)) (a b mn ov : Int) (n : Nat) : List Ent := (List.range n).flatMap fun (i : Nat) => entsAt ws a b mn ov ((i : Int) + 1)
def bestB (ws : List (Str × Int)) (a b mn ov : Int) (n : Nat) : Option Ent := (ents ws a b mn ov n).foldl better none
theorem ents_succ (ws : List (Str × Int)) (a b mn ov : Int) (n : Nat) : ents ws a b mn ov (n + 1) = ents ws a b mn ov n ++ entsAt ws a b mn ov ((n : Int) + 1) := by
  unfold ents
  rw [List.range_succ, List.flatMap_append, List.flatMap_singleton]
theorem bestB_succ (ws : List (Str × Int)) (a b mn ov : Int) (n : Nat) : bestB ws a b mn ov (n + 1) = (entsAt ws a b mn ov ((n : Int) + 1)).foldl better (bestB ws a b mn ov n) := by
  unfold bestB
  rw [ents_succ, List.foldl_append]
theorem range_fold (f : Nat → Ent) (o : Option Ent) (k : Nat) : ((List.range (k + 1)).map f).foldl better o = better (((List.range k).map f).foldl better o) (f k) := by
  rw [List.range_succ, List.map_append, List.foldl_append]
  rfl
def BdO (o : Option Ent) : Prop := ∀ y, o = some y → Bd y.1.1 y.1.2
theorem BdO.step {o : Option Ent} {x : Ent} (h : BdO o) (hx : Bd x.1.1 x.1.2) : BdO (better o x) := fun y hy => by
  cases o with
  | none => cases hy; exact hx
  | some z =>
    unfold better at hy
    by_cases g : gtQ x.1 z.1
    · rw [show (match some z with | none => some x | some y => if gtQ x.1 y.1 then some x else some y) = some x from if_pos g] at hy
      cases hy; exact hx
    · rw [show (match some z with | none => some x | some y => if gtQ x.1 y.1 then some x else some y) = some z from if_neg g] at hy
      exact h y hy
/-- Batched -/
def btF (mn ov : Int) : List (Str × V) := [("many", .int mn), ("over", .int ov)]
def Bt (C : Addr) (H : Hp) (p : Addr) (mn ov : Int) : Prop := ∃ dx, H p = some (.ins C dx (btF mn ov))
theorem Bt.ex {C : Addr} {H H' : Hp} {p : Addr} {mn ov : Int} (h : Bt C H p mn ov) (e : Ex H H') : Bt C H' p mn ov := let ⟨d, h⟩ := h; ⟨d, e _ _ h⟩
theorem Bt.exN {C : Addr} {H H' : Hp} {p : Addr} {mn ov : Int} (h : Bt C H p mn ov) (e : ExtN H H') : Bt C H' p mn ov := let ⟨d, h⟩ := h; ⟨d, e _ _ h (fun _ z => nomatch z)⟩
structure OkB (mn ov : Int) : Prop where
  m1 : 1 ≤ mn
  mo : mn ≤ ov
  o24 : ov ≤ 24
def riseB (ws : List (Str × Int)) (a b mn ov : Int) : Int × Int := subR (slopeS ws a b) (mulR (mkR a (sumW ws)) (ov - mn + 1, 1))
theorem riseB_bn {U : List (Str × Int)} {a b mn ov : Int} (okU : OkW U) (oks : OkS a b 0) (ob : OkB mn ov) : Bn (10 ^ 10) (10 ^ 10) (riseB U a b mn ov) := by
  have mn0 := okU.min; have su := okU.sum
  have a1 := oks.a1; have ab := oks.ab; have b6 := oks.b6
  have m1 := ob.m1; have mo := ob.mo; have o24 := ob.o24
  have B1 : Bn 60 480 (mkR a (sumW U)) := mkR_bn (by omega) (by omega) (by omega)
  have B0 : Bn (60 * 480 + 60 * 60) (60 * 480) (slopeS U a b) := subR_bn (mkR_bn (by omega) (by omega) (by omega)) (mkR_bn (by omega) (by omega) (by omega))
  have B2 : Bn (60 * 24) (480 * 1) (mulR (mkR a (sumW U)) (ov - mn + 1, 1)) := mkR_bn (nb_mul B1.o (show (ov - mn + 1).natAbs ≤ 24 by omega)) (nb_mul B1.u (show (1 : Int).natAbs ≤ 1 by decide)) (by have := B1.pos; omega)
  have B3 := subR_bn B0 B2
  exact ⟨Nat.le_trans B3.o (by decide), Nat.le_trans B3.u (by decide), B3.pos⟩
theorem blate_bn {U : List (Str × Int)} {a b ov rest : Int} (okU : OkW U) (oks : OkS a b 0) (ho : 1 ≤ ov) (h1 : 1 ≤ rest) (h2 : rest ≤ 10 ^ 30) {mn : Int} {i : Nat} (hi : (i : Int) < bct mn ov rest) : Bd (blate U a b ov rest i).1 (blate U a b ov rest i).2 := by
  obtain ⟨g1, g2⟩ := bleft_pos (mn := mn) ho h1 hi
  obtain ⟨z1, z2⟩ := bsz_pos ho h1
  have P40 : (10 ^ 30 : Int) ≤ 10 ^ 40 := by decide +kernel
  exact lateS_bd okU oks (by decide) (by decide +kernel) (by omega) (by omega) (by omega)
def spBtI (C : Addr) : Sp := fun vs H Q _ => ∃ p dx mn ov, vs = [.ref p, .int mn, .int ov] ∧ OkB mn ov ∧ H p = some (.ins C dx []) ∧ ∀ H', (∀ c o, c ≠ p → H c = some o → H' c = some o) → H' p = some (.ins C dx (btF mn ov)) → Q .non H'
def spBFrom (C : Addr) : Sp := fun vs H Q _ => ∃ p mn ov rest, vs = [.ref p, .int rest] ∧ Bt C H p mn ov ∧ OkB mn ov ∧ 1 ≤ rest ∧ rest ≤ 10 ^ 30 ∧ ∀ t H', Ex H H' → H' t = some (.tup [.int (bsz ov rest), .int (bct mn ov rest)]) → Q (.ref t) H'
def spNeedB (K : PySem.W.Frag) (A : LaA) (C CR : Addr) : Sp := fun vs H Q E => ∃ x y, vs = [x, y] ∧ ((NC K H (.ref C) x ∧ Rz CR "part" (.str "batched") H E) ∨ ∃ p mn ov, x = .ref p ∧ Bt C H p mn ov ∧
  ((NC K H (.ref A.st) y ∧ Rz A.cs "part" (.str "setting") H E) ∨ ∃ so U a b f, y = .ref so ∧ St A.st A.cw A.ra H so U a b f ∧ ((0 < f ∧ Rz A.cs "part" (.str "fee") H E) ∨ (f = 0 ∧ Q .non H))))
def spRiseB (A : LaA) (C : Addr) : Sp := fun vs H Q _ => ∃ p mn ov so U a b, vs = [.ref p, .ref so] ∧ Bt C H p mn ov ∧ OkB mn ov ∧ St A.st A.cw A.ra H so U a b 0 ∧ OkW U ∧ OkS a b 0 ∧ ∀ t H', Ex H H' → Rt A.ra H' t (riseB U a b mn ov).1 (riseB U a b mn ov).2 → Q (.ref t) H'
def spLatB (A : LaA) (C : Addr) : Sp := fun vs H Q _ => ∃ p mn ov so U a b rest, vs = [.ref p, .ref so, .int rest] ∧ Bt C H p mn ov ∧ OkB mn ov ∧ St A.st A.cw A.ra H so U a b 0 ∧ OkW U ∧ OkS a b 0 ∧ 1 ≤ rest ∧ rest ≤ 10 ^ 30 ∧
  ∀ l xs H', Ex H H' → H' l = some (.lst xs) → Rts A.ra H' xs ((List.range (bct mn ov rest).toNat).map (blate U a b ov rest)) → Q (.ref l) H'
/-- the best one so far -/
def BestAt (C CQ : Addr) (H : Hp) (v : V) : Option Ent → Prop
  | none => v = .non
  | some e => ∃ p t, v = .ref p ∧ PaAt H p C [("late", .ref t), ("rest", .int e.2.1), ("spot", .int e.2.2)] ∧ Rt CQ H t e.1.1 e.1.2
theorem BestAt.ex {C CQ : Addr} {H H' : Hp} {v : V} {o : Option Ent} (h : BestAt C CQ H v o) (e : Ex H H') : BestAt C CQ H' v o := by
  cases o with
  | none => exact h
  | some x =>
    obtain ⟨p, t, h1, ⟨d, h2⟩, h3⟩ := h
    exact ⟨p, t, h1, ⟨d, e _ _ h2⟩, h3.ex2 e⟩
def spGreatB (K : PySem.W.Frag) (A : LaA) (C CR CB CE : Addr) : Sp := fun vs H Q E => ∃ x y, vs = [x, y] ∧ ((NC K H (.ref C) x ∧ Rz CR "part" (.str "batched") H E) ∨ ∃ p mn ov, x = .ref p ∧ Bt C H p mn ov ∧
  ((NC K H (.ref A.st) y ∧ Rz A.cs "part" (.str "setting") H E) ∨ ∃ so U a b f, y = .ref so ∧ St A.st A.cw A.ra H so U a b f ∧ ((0 < f ∧ Rz A.cs "part" (.str "fee") H E) ∨ (f = 0 ∧ OkB mn ov ∧ OkW U ∧ OkS a b 0 ∧
   (∀ t u H', Ex H H' → 0 < (riseB U a b mn ov).1 → PaAt H' t CE [("spot", .int (mn - 1)), ("rise", .ref u)] → Rt A.ra H' u (riseB U a b mn ov).1 (riseB U a b mn ov).2 → Q (.ref t) H') ∧
   (∀ v H', Ex H H' → ¬ 0 < (riseB U a b mn ov).1 → BestAt CB A.ra H' v (bestB U a b mn ov (ov * ov).toNat) → Q v H')))))
end L3
end
section
set_option exponentiation.threshold 9000
local macro_rules | `(tactic| tm_at "s1") => `(tactic| first
  | with_reducible first
    | refine L3.s_seq ?_ | refine L3.s_asg ?_ | refine L3.s_op ?_ | refine L3.s_c ?_ | refine L3.s_cb ?_ | refine L3.s_cons ?_ | refine L3.s_nil ?_ | refine L3.s_test ?_ | refine L3.s_bl ?_
    | refine L3.s_I0 ?_ | refine L3.s_and ?_ | refine L3.s_or ?_ | refine L3.s_not ?_ | refine L3.s_if ?_ | refine L3.s_next ?_ | refine L3.s_ret ?_ | refine L3.s_retN ?_ | refine L3.s_asgS ?_ | refine L3.s_drop ?_
    | refine L3.s_un ?_ | refine L3.s_U ?_ | refine L3.s_int ?_ | refine L3.s_intB ?_ | refine L3.s_abs ?_ | refine L3.s_andV ?_ | refine L3.s_orV ?_ | refine L3.s_notV ?_ | refine L3.s_ifE ?_ | refine L3.s_call ?_ | refine L3.s_lst ?_ | refine L3.s_tup ?_ | refine L3.s_tB ?_
    | refine L3.s_addI ?_ | refine L3.s_inS ?_ | refine L3.s_ninS ?_ | refine L3.s_slice ?_ | refine L3.s_part ?_ | refine L3.s_partI ?_ | refine L3.s_nopart ?_ | refine L3.s_cI ?_ | refine L3.s_cB ?_ | refine L3.s_chain ?_ | refine L3.s_bm ?_ | refine L3.s_lcS ?_ | refine L3.s_lcR ?_ | refine L3.s_strE ?_
    | refine L2.iteT ?_ | refine L2.iteF ?_ | refine L3.iteNF ?_ | refine L3.iteNT ?_
    | refine L3.s_eqI ?_ | refine L3.s_neI ?_ | refine L3.s_eqS ?_ | refine L3.s_neS ?_
    | refine L3.s_pair ?_ | refine L3.s_pair2 ?_ | refine L3.s_fld ?_ | refine L3.s_make ?_ | refine L3.s_m1 ?_ | refine L3.s_isstr ?_
    | refine L3.s_xfV ?_ | refine L3.s_lstN ?_ | refine L3.s_callF ?_ | refine L3.s_lcL ?_ | refine L3.s_par3 ?_ | refine L3.s_trip ?_ | refine L3.s_asgT' ?_ | refine L3.s_gC ?_ | refine L3.s_gN ?_ | refine L3.s_fldG ?_ | refine L3.s_raise1 ?_ | refine L3.s_raise2 ?_ | refine L3.s_star ?_ | refine L3.s_mkCR ?_ | refine L3.s_lcZ ?_ | refine L3.s_forL ?_ | refine L3.s_forT ?_ | refine L3.s_gNm ?_ | refine L3.s_forE ?_ | refine L3.s_stC ?_ | refine L3.s_cmC ?_ | refine L3.s_forR1 ?_ | refine L3.s_lcTp ?_ | refine L3.s_forZ ?_ | refine L3.s_orT ?_ | refine L3.s_mt ?_ | refine L3.s_revT ?_ | refine L3.s_revL ?_ | refine L3.s_slOwn ?_ | refine L3.s_sl3 ?_ | refine L3.s_lcO ?_ | refine L3.s_stR ?_
    | refine L3.s_dcL ?_ | refine L3.s_dcT ?_ | refine L3.s_dget ?_ | refine L3.s_forET ?_ | refine L3.s_din ?_ | refine L3.s_dnin ?_ | refine L3.s_mkKV ?_
    | refine L3.s_isN ?_ | refine L3.s_isB ?_ | refine L3.s_nisN ?_ | refine L3.s_nisB ?_
  | ((with_reducible refine' L3.s_var ?e ?_); (case e => rfl))
  | ((with_reducible refine' L3.s_aug ?e ?_); (case e => rfl))
  | ((with_reducible refine' L3.s_pow ?c ?_); (case c => exact ⟨by decide, by decide, by decide⟩)))
local macro_rules | `(tactic| tm_at "s") => `(tactic| repeat tm_at "s1")
namespace K72
open PySem PySem.NumText PySem.Spec PyProof.Rows L2 L3 LamX RZ ClX
abbrev s_Setting_straight : Stmt := inClass (topS 62) 5
theorem sc_Setting_straight : FnScope ["self", "total"] ["self"] (defScope s_Setting_straight) := ⟨rfl, rfl, rfl, by decide +kernel, rfl, by decide +kernel, by decide +kernel⟩
abbrev s_rounded_up : Stmt := topS 34
theorem sc_rounded_up : FnScope ["number", "by"] ["number", "by"] (defScope s_rounded_up) := ⟨rfl, rfl, rfl, by decide +kernel, rfl, by decide +kernel, by decide +kernel⟩
abbrev s_BatchBound___init__ : Stmt := inClass (topS 67) 0
theorem sc_BatchBound___init__ : FnScope ["self", "late", "rest", "spot"] ["self", "late", "rest", "spot"] (defScope s_BatchBound___init__) := ⟨rfl, rfl, rfl, by decide +kernel, rfl, by decide +kernel, by decide +kernel⟩
abbrev s_BatchEndless___init__ : Stmt := inClass (topS 68) 0
theorem sc_BatchEndless___init__ : FnScope ["self", "spot", "rise"] ["self", "spot", "rise"] (defScope s_BatchEndless___init__) := ⟨rfl, rfl, rfl, by decide +kernel, rfl, by decide +kernel, by decide +kernel⟩
abbrev s_Batched___init__ : Stmt := inClass (topS 69) 0
theorem sc_Batched___init__ : FnScope ["self", "many", "over"] ["self", "many", "over"] (defScope s_Batched___init__) := ⟨rfl, rfl, rfl, by decide +kernel, rfl, by decide +kernel, by decide +kernel⟩
abbrev s_Batched_batch_from : Stmt := inClass (topS 69) 2
theorem sc_Batched_batch_from : FnScope ["self", "rest", "size"] ["self", "rest"] (defScope s_Batched_batch_from) := ⟨rfl, rfl, rfl, by decide +kernel, rfl, by decide +kernel, by decide +kernel⟩
abbrev s_need_batched : Stmt := topS 70
theorem sc_need_batched : FnScope ["batched", "setting"] ["batched", "setting"] (defScope s_need_batched) := ⟨rfl, rfl, rfl, by decide +kernel, rfl, by decide +kernel, by decide +kernel⟩
abbrev s_rise_of : Stmt := topS 71
theorem sc_rise_of : FnScope ["batched", "setting", "by_size", "by_rest"] ["batched", "setting"] (defScope s_rise_of) := ⟨rfl, rfl, rfl, by decide +kernel, rfl, by decide +kernel, by decide +kernel⟩
abbrev s_lates_from : Stmt := topS 72
theorem sc_lates_from : FnScope ["batched", "setting", "rest", "size", "count", "found", "spot", "left"] ["batched", "setting", "rest"] (defScope s_lates_from) := ⟨rfl, rfl, rfl, by decide +kernel, rfl, by decide +kernel, by decide +kernel⟩
abbrev s_greatest_batched : Stmt := topS 73
theorem sc_greatest_batched : FnScope ["batched", "setting", "rise", "best", "rest", "spot", "late"] ["batched", "setting"] (defScope s_greatest_batched) := ⟨rfl, rfl, rfl, by decide +kernel, rfl, by decide +kernel, by decide +kernel⟩
theorem s_mkP {C : Addr} {ns : List Str} {xs : List V} {H : Hp} {R : VK} {E : XK} (hl : xs.length = ns.length) (h : ∀ q H', H q = none → Ex H H' → PaAt H' q C (flF ns xs) → R (.ref q) H') : ∀ p dx, H p = none → H dx = none → dx ≠ p → spInit C ns (.ref p :: (xs ++ [])) (upd (upd H dx (.own p)) p (.ins C dx [])) (fun v H2 => v = .non ∧ ap R (.ref p) H2) E :=
  fun p dx hp hd hn => ⟨p, dx, xs, by rw [List.append_nil], hl, upd_same, fun H' hk h1 => ⟨rfl, h p H' hp (fun c o e => hk c o (ne_of_none e hp) (by rw [upd_ne (ne_of_none e hp), upd_ne (ne_of_none e hd)]; exact e)) ⟨dx, h1⟩⟩⟩
structure TxtB1 (K : PySem.W.Frag) (mg : Str → Option Value) (A : LaA) (C CR CB CE CL : Addr) : Prop where
  b_isinstance : mg "isinstance" = none
  b_min : mg "min" = none
  b_int : mg "int" = none
  b_range : mg "range" = none
  b_enumerate : mg "enumerate" = none
  g_MOST_OVER : ∃ u, mg "MOST_OVER" = some u ∧ RelV (.int 24) u
  c : ClT K mg "Batched" C
  b : ClT K mg "BatchBound" CB
  e : ClT K mg "BatchEndless" CE
  s : ClT K mg "Setting" A.st
  r : ErT K mg "BadRule" CR CL ["part"]
  st : ErT K mg "BadSetting" A.cs CL ["part"]
  nM : NoAttr K C "many"
  nO : NoAttr K C "over"
  nF : NoAttr K A.st "fee"
  nBl : NoAttr K CB "late"
  nBr : NoAttr K CB "rest"
  nBs : NoAttr K CB "spot"
  nEs : NoAttr K CE "spot"
  nEr : NoAttr K CE "rise"
section
variable {K : PySem.W.Frag} {mg : Str → Option Value} {A : LaA} {C CR CB CE CL : Addr}
theorem TxtB1.g_Batched (T : TxtB1 K mg A C CR CB CE CL) : ∃ u, mg "Batched" = some u ∧ RelV (.ref C) u := T.c.g
theorem TxtB1.g_BatchBound (T : TxtB1 K mg A C CR CB CE CL) : ∃ u, mg "BatchBound" = some u ∧ RelV (.ref CB) u := T.b.g
theorem TxtB1.g_BatchEndless (T : TxtB1 K mg A C CR CB CE CL) : ∃ u, mg "BatchEndless" = some u ∧ RelV (.ref CE) u := T.e.g
theorem TxtB1.g_Setting (T : TxtB1 K mg A C CR CB CE CL) : ∃ u, mg "Setting" = some u ∧ RelV (.ref A.st) u := T.s.g
theorem TxtB1.g_BadRule (T : TxtB1 K mg A C CR CB CE CL) : ∃ u, mg "BadRule" = some u ∧ RelV (.ref CR) u := T.r.g
theorem TxtB1.g_BadSetting (T : TxtB1 K mg A C CR CB CE CL) : ∃ u, mg "BadSetting" = some u ∧ RelV (.ref A.cs) u := T.st.g
end
section
variable {P : Program} {w : World} {K : PySem.W.Frag} {mg : Str → Option Value} {base : Heap} {C CW CQ CR CC CB CS CA CF CL CBR CT : Addr}
theorem ok_straight {f : Addr} {fd : FuncData} (F : Fun K "straight" "Setting.straight" s_Setting_straight f fd) (T : TxtS K mg C CW CQ CR CC CB CS CA CF CL) (m_Ratio_2 : McO P w K mg base (L2.CX P w) 3 "Ratio" CQ ["self", "over", "under"] (spRatio CQ CBR) []) (c_sub : BinM P w K mg base CQ .Sub 6 (spBin gDif CQ CBR) (spBin gRdif CQ CBR)) (e_BadSetting : Er1 P w K mg base "BadSetting" CS "part") :
    FnOk P w K mg base (L2.CX P w) 8 f fd ["self"] (spStraight K C CW CQ CS) := by
  refine funO F sc_Setting_straight (fun vs H Q E h => ?_) (fun cd A' fr s H vs Q E hr h => ?_)
  · obtain ⟨p, ws, a, b, f, rfl, _⟩ := h; rfl
  · obtain ⟨p, ws, a, b, f, rfl, st, okw, oks, hc⟩ := h
    obtain ⟨dx, q, l, hp, cw⟩ := st.ins
    obtain ⟨dw, wd, wt, w1, w2, w3⟩ := id cw
    refine ⟨_, (pss_cons (ps_if (pt_cmpR op_gt (KX.fld (K := K) rfl (pv 0) rfl) pe_int (nomark _)) (pss_one (ps_raise1 e_BadSetting hr rfl (takes_of rfl rfl rfl rfl) (pa_cons pe_str pa_nil))) pss_nil)
      (pss_cons (ps_set (i := 1) sc_Setting_straight.nd rfl (Or.inl rfl) (KX.fld (K := K) rfl (KX.fld (K := K) rfl (pv 0) rfl) rfl))
      (pss_one (ps_ret (pe_tup (pa_cons (pe_op (opBin opK_sub c_sub hr (passT (takes_of rfl rfl rfl rfl) (fun _ _ _ _ h => h))) (pe_mko m_Ratio_2 hr (passT (takes_of rfl rfl rfl rfl) (fun _ _ _ _ h => h)) (pa_cons (KX.fld (K := K) rfl (pv 0) rfl) (pa_cons (KX.fld (K := K) rfl (pv 0) rfl) pa_nil))) (pe_mko m_Ratio_2 hr (passT (takes_of rfl rfl rfl rfl) (fun _ _ _ _ h => h)) (pa_cons (pe_op op_sub (KX.fld (K := K) rfl (pv 0) rfl) (KX.fld (K := K) rfl (pv 0) rfl)) (pa_cons (pv 1) pa_nil)))) (pa_cons (pe_mko m_Ratio_2 hr (passT (takes_of rfl rfl rfl rfl) (fun _ _ _ _ h => h)) (pa_cons (KX.fld (K := K) rfl (pv 0) rfl) (pa_cons (pv 1) pa_nil))) pa_nil))))))), ?_⟩
    tm_at "s"
    refine ⟨p, C, dx, _, _, rfl, hp, T.c.cl, T.nF, rfl, ?_⟩
    tm_at "s"
    rcases hc with ⟨hf, rz⟩ | ⟨rfl, k⟩
    · refine iteD (fun _ => ?_) (fun z => absurd hf z)
      tm_at "s"
      exact s_rz rz
    refine iteD (fun z => absurd z (by decide)) (fun _ => ?_)
    tm_at "s"
    refine ⟨p, C, dx, _, _, rfl, hp, T.c.cl, T.nC, rfl, ?_⟩
    refine ⟨q, CW, dw, _, _, rfl, w1, T.wl, T.wS, rfl, ?_⟩
    have mn := okw.min
    have su := okw.sum
    have a1 := oks.a1; have ab := oks.ab; have b6 := oks.b6
    have bb : b.natAbs ≤ 60 := by omega
    have ba : a.natAbs ≤ 60 := by omega
    have bd : (b - a).natAbs ≤ 60 := by omega
    have bn : (minW ws).natAbs ≤ 60 := by omega
    have bu : (sumW ws).natAbs ≤ 480 := by omega
    try dsimp only
    tm_at "s"
    refine ⟨p, C, dx, _, _, rfl, hp, T.c.cl, T.nM, rfl, ?_⟩
    tm_at "s"
    refine ⟨p, C, dx, _, _, rfl, hp, T.c.cl, T.nS, rfl, ?_⟩
    tm_at "s"
    refine s_mkR (by omega) (Nat.lt_trans (lb_le bn) (Nat.pow_lt_pow_right (by decide) (by decide))) fun t1 H1 nt1 e1 rt1 => ?_
    tm_at "s"
    refine ⟨p, C, dx, _, _, rfl, e1 _ _ hp, T.c.cl, T.nM, rfl, ?_⟩
    tm_at "s"
    refine ⟨p, C, dx, _, _, rfl, e1 _ _ hp, T.c.cl, T.nL, rfl, ?_⟩
    tm_at "s"
    refine s_mkR (by omega) (Nat.lt_trans (lb_le bu) (Nat.pow_lt_pow_right (by decide) (by decide))) fun t2 H2 nt2 e2 rt2 => ?_
    have B1 := mkR_bn bb bn (by omega)
    have B2 := mkR_bn bd bu (by omega)
    tm_at "s"
    refine s_bin (fun o u o' u' => cSub o u o' u') (.inl ⟨t1, rfl, rt1.ex e2⟩) (.inl ⟨t2, rfl, rt2⟩) (.inl ⟨t1, rfl⟩) B1.bd B2.bd fun t3 H3 nt3 e3 rt3 => ?_
    have e13 := (e1.trans e2).trans e3
    tm_at "s"
    refine ⟨p, C, dx, _, _, rfl, e13 _ _ hp, T.c.cl, T.nL, rfl, ?_⟩
    tm_at "s"
    refine s_mkR (by omega) (Nat.lt_trans (lb_le bu) (Nat.pow_lt_pow_right (by decide) (by decide))) fun t4 H4 nt4 e4 rt4 => ?_
    tm_at "s"
    refine s_new (Nat.le_of_lt (small1000 (by simp))) fun t H5 nt e5 ht => ?_
    exact k t t3 t4 H5 (e13.trans (e4.trans e5)) ht (rt3.ex (e4.trans e5)) (rt4.ex e5)
end
section
variable {P : Program} {w : World} {K : PySem.W.Frag} {mg : Str → Option Value} {base : Heap} {A : LaA} {C CR CB CE CL CBR : Addr}
theorem ok_rup {f : Addr} {fd : FuncData} (F : Fun K "rounded_up" "rounded_up" s_rounded_up f fd) : FnOk P w K mg base CX0 1 f fd ["number", "by"] spUpDiv := by
  refine funO F sc_rounded_up (fun vs H Q E h => ?_) (fun cd A fr s H vs Q E hr h => ?_)
  · obtain ⟨a, b, rfl, _⟩ := h; rfl
  · obtain ⟨a, b, rfl, h0, h1, k⟩ := h
    refine ⟨_, (pss_one (ps_ret (pe_op op_fdivW (pe_op op_sub (pe_op opAdd (pv 0) (pv 1)) pe_int) (pv 1)))), ?_⟩
    tm_at "s"
    exact s_divP h0 h1 k
theorem ok_init_BB {f : Addr} {fd : FuncData} (F : Fun K "__init__" "BatchBound.__init__" s_BatchBound___init__ f fd) (T : TxtB1 K mg A C CR CB CE CL) : FnOk P w K mg base (L2.CX P w) 1 f fd ["self", "late", "rest", "spot"] (spInit CB ["late", "rest", "spot"]) := by
  refine funO F sc_BatchBound___init__ (fun vs H Q E h => ?_) (fun cd A' fr s H vs Q E hr h => ?_)
  · obtain ⟨p, dx, xs, rfl, hl, _⟩ := h; rw [List.length_cons, hl]; rfl
  · obtain ⟨p, dx, xs, rfl, hl, hp, m⟩ := h
    match xs, hl, m with
    | [x0, x1, x2], _, m =>
      refine ⟨_, (pss_cons (ps_fld (pv 0) (pv 1) rfl)
      (pss_cons (ps_fld (pv 0) (pv 2) rfl)
      (pss_one (ps_fld (pv 0) (pv 3) rfl)))), ?_⟩
      tm_at "s"
      refine ⟨p, _, dx, _, rfl, hp, T.b.cl, T.nBl, (by show 0 < 1000; decide), ?_⟩
      try dsimp only
      tm_at "s"
      refine ⟨p, _, dx, _, rfl, upd_same, T.b.cl, T.nBr, (by show 1 < 1000; decide), ?_⟩
      try dsimp only
      tm_at "s"
      refine ⟨p, _, dx, _, rfl, upd_same, T.b.cl, T.nBs, (by show 2 < 1000; decide), ?_⟩
      exact m _ (fun c o h1 e => by rw [upd_ne h1, upd_ne h1, upd_ne h1]; exact e) upd_same
theorem ok_init_BE {f : Addr} {fd : FuncData} (F : Fun K "__init__" "BatchEndless.__init__" s_BatchEndless___init__ f fd) (T : TxtB1 K mg A C CR CB CE CL) : FnOk P w K mg base (L2.CX P w) 1 f fd ["self", "spot", "rise"] (spInit CE ["spot", "rise"]) := by
  refine funO F sc_BatchEndless___init__ (fun vs H Q E h => ?_) (fun cd A' fr s H vs Q E hr h => ?_)
  · obtain ⟨p, dx, xs, rfl, hl, _⟩ := h; rw [List.length_cons, hl]; rfl
  · obtain ⟨p, dx, xs, rfl, hl, hp, m⟩ := h
    match xs, hl, m with
    | [x0, x1], _, m =>
      refine ⟨_, (pss_cons (ps_fld (pv 0) (pv 1) rfl)
      (pss_one (ps_fld (pv 0) (pv 2) rfl))), ?_⟩
      tm_at "s"
      refine ⟨p, _, dx, _, rfl, hp, T.e.cl, T.nEs, (by show 0 < 1000; decide), ?_⟩
      try dsimp only
      tm_at "s"
      refine ⟨p, _, dx, _, rfl, upd_same, T.e.cl, T.nEr, (by show 1 < 1000; decide), ?_⟩
      exact m _ (fun c o h1 e => by rw [upd_ne h1, upd_ne h1]; exact e) upd_same
theorem ok_init_Bt {f : Addr} {fd : FuncData} (F : Fun K "__init__" "Batched.__init__" s_Batched___init__ f fd) (T : TxtB1 K mg A C CR CB CE CL) (c_is_within : FnO P w K mg base CX0 2 "is_within" ["value", "least", "most"] (spWithin2 K)) (e_BadRule : Er1 P w K mg base "BadRule" CR "part") : FnOk P w K mg base (L2.CX P w) 3 f fd ["self", "many", "over"] (spBtI C) := by
  refine funO F sc_Batched___init__ (fun vs H Q E h => ?_) (fun cd A' fr s H vs Q E hr h => ?_)
  · obtain ⟨p, dx, mn, ov, rfl, _⟩ := h; rfl
  · obtain ⟨p, dx, mn, ov, rfl, ⟨m1, mo, o24⟩, hp, m⟩ := h
    refine ⟨_, (pss_cons (ps_if (pt_not (pt_val (pe_o c_is_within hr pass0 (pa_cons (pv 2) (pa_cons pe_int (pa_cons (C8.pe_gc (by rfl) T.g_MOST_OVER) pa_nil)))))) (pss_one (ps_raise1 e_BadRule hr rfl (takes_of rfl rfl rfl rfl) (pa_cons pe_str pa_nil))) pss_nil)
      (pss_cons (ps_if (pt_not (pt_val (pe_o c_is_within hr pass0 (pa_cons (pv 1) (pa_cons pe_int (pa_cons (pv 2) pa_nil)))))) (pss_one (ps_raise1 e_BadRule hr rfl (takes_of rfl rfl rfl rfl) (pa_cons pe_str pa_nil))) pss_nil)
      (pss_cons (ps_fld (pv 0) (pv 1) rfl)
      (pss_one (ps_fld (pv 0) (pv 2) rfl))))), ?_⟩
    tm_at "s"
    refine ⟨_, _, _, rfl, .inl ⟨ov, rfl, by omega, o24, ?_⟩⟩
    tm_at "s"
    refine ⟨_, _, _, rfl, .inl ⟨mn, rfl, m1, mo, ?_⟩⟩
    try dsimp only
    tm_at "s"
    refine ⟨p, _, dx, _, rfl, hp, T.c.cl, T.nM, (by show 0 < 1000; decide), ?_⟩
    try dsimp only
    tm_at "s"
    refine ⟨p, _, dx, _, rfl, upd_same, T.c.cl, T.nO, (by show 1 < 1000; decide), ?_⟩
    exact m _ (fun c o h1 e => by rw [upd_ne h1, upd_ne h1]; exact e) upd_same
theorem ok_bfrom {f : Addr} {fd : FuncData} (F : Fun K "batch_from" "Batched.batch_from" s_Batched_batch_from f fd) (T : TxtB1 K mg A C CR CB CE CL) (c_rounded_up : FnO P w K mg base CX0 1 "rounded_up" ["number", "by"] spUpDiv) : FnOk P w K mg base (L2.CX P w) 2 f fd ["self", "rest"] (spBFrom C) := by
  refine funO F sc_Batched_batch_from (fun vs H Q E h => ?_) (fun cd A' fr s H vs Q E hr h => ?_)
  · obtain ⟨p, mn, ov, rest, rfl, _⟩ := h; rfl
  · obtain ⟨p, mn, ov, rest, rfl, bt, ob, r1, r2, k⟩ := h
    refine ⟨_, (pss_cons (ps_set (i := 2) sc_Batched_batch_from.nd rfl (Or.inl rfl) (pe_o c_rounded_up hr pass0 (pa_cons (pv 1) (pa_cons (KX.fld (K := K) rfl (pv 0) rfl) pa_nil))))
      (pss_one (ps_ret (pe_tup (pa_cons (pv 2) (pa_cons (pe_callB (call_min2 (by rfl)) (by rfl) T.b_min (by decide +kernel) (pa_cons (pe_callTy (KX.callInt (K := K)) (by rfl) T.b_int (by decide +kernel) (pa_cons (KX.fld (K := K) rfl (pv 0) rfl) pa_nil)) (pa_cons (pe_callTy (KX.callInt (K := K)) (by rfl) T.b_int (by decide +kernel) (pa_cons (pe_o c_rounded_up hr pass0 (pa_cons (pv 1) (pa_cons (pv 2) pa_nil))) pa_nil)) pa_nil))) pa_nil)))))), ?_⟩
    obtain ⟨dx, i1⟩ := id bt
    obtain ⟨z1, z2⟩ := bsz_pos (ov := ov) (by have := ob.m1; have := ob.mo; omega) r1
    have P40 : (10 ^ 30 : Int) ≤ 10 ^ 40 := by decide +kernel
    have P24 : (24 : Int) ≤ 10 ^ 40 := by decide +kernel
    tm_at "s"
    refine ⟨p, C, dx, _, _, rfl, i1, T.c.cl, T.nO, rfl, ?_⟩
    try dsimp only
    tm_at "s"
    refine ⟨rest, ov, rfl, by have := ob.m1; have := ob.mo; omega, by have := ob.o24; omega, ?_⟩
    try dsimp only
    tm_at "s"
    refine ⟨p, C, dx, _, _, rfl, i1, T.c.cl, T.nM, rfl, ?_⟩
    try dsimp only
    tm_at "s"
    have z3 : 1 ≤ (rest + ov - 1) / ov := z1
    have z4 : (rest + ov - 1) / ov ≤ rest := z2
    refine ⟨rest, (rest + ov - 1) / ov, rfl, by omega, by omega, ?_⟩
    try dsimp only
    tm_at "s"
    refine ⟨_, _, rfl, ?_⟩
    try dsimp only
    tm_at "s"
    refine s_new (Nat.le_of_lt (small1000 (by simp))) fun t H2 n2 e2 h2 => ?_
    refine k t H2 e2 ?_
    rw [h2]
    have e : bct mn ov rest = if (rest + (rest + ov - 1) / ov - 1) / ((rest + ov - 1) / ov) < mn then (rest + (rest + ov - 1) / ov - 1) / ((rest + ov - 1) / ov) else mn := by
      unfold bct bsz
      split <;> omega
    rw [e]
    rfl
theorem ok_needB {f : Addr} {fd : FuncData} (F : Fun K "need_batched" "need_batched" s_need_batched f fd) (T : TxtB1 K mg A C CR CB CE CL) (e_BadRule : Er1 P w K mg base "BadRule" CR "part") (e_BadSetting : Er1 P w K mg base "BadSetting" A.cs "part") : FnOk P w K mg base (L2.CX P w) 3 f fd ["batched", "setting"] (spNeedB K A C CR) := by
  refine funO F sc_need_batched (fun vs H Q E h => ?_) (fun cd A' fr s H vs Q E hr h => ?_)
  · obtain ⟨x, y, rfl, _⟩ := h; rfl
  · obtain ⟨x, y, rfl, hc⟩ := h
    refine ⟨_, (pss_cons (ps_if (pt_not (pt_val (pe_callB (KX.callIsi (K := K)) (by rfl) T.b_isinstance (by decide +kernel) (pa_cons (pv 0) (pa_cons (C8.pe_gc (by rfl) T.g_Batched) pa_nil))))) (pss_one (ps_raise1 e_BadRule hr rfl (takes_of rfl rfl rfl rfl) (pa_cons pe_str pa_nil))) pss_nil)
      (pss_cons (ps_if (pt_not (pt_val (pe_callB (KX.callIsi (K := K)) (by rfl) T.b_isinstance (by decide +kernel) (pa_cons (pv 1) (pa_cons (C8.pe_gc (by rfl) T.g_Setting) pa_nil))))) (pss_one (ps_raise1 e_BadSetting hr rfl (takes_of rfl rfl rfl rfl) (pa_cons pe_str pa_nil))) pss_nil)
      (pss_one (ps_if (pt_cmpR op_gt (KX.fld (K := K) rfl (pv 1) rfl) pe_int (nomark _)) (pss_one (ps_raise1 e_BadSetting hr rfl (takes_of rfl rfl rfl rfl) (pa_cons pe_str pa_nil))) pss_nil)))), ?_⟩
    tm_at "s"
    rcases hc with ⟨⟨ty, g1, g2⟩, rz⟩ | ⟨p, mn, ov, rfl, ⟨dx, i1⟩, hc⟩
    · refine s_isiC g1 g2 ?_
      tm_at "s"
      exact s_rz rz
    refine s_isiC (T.c.ty i1) T.c.kC ?_
    tm_at "s"
    rcases hc with ⟨⟨ty, g1, g2⟩, rz⟩ | ⟨so, U, a, b, f, rfl, st, hc⟩
    · refine s_isiC g1 g2 ?_
      tm_at "s"
      exact s_rz rz
    obtain ⟨d2, q2, l2, i2, _, _⟩ := id st
    refine s_isiC (T.s.ty i2) T.s.kC ?_
    tm_at "s"
    refine ⟨so, A.st, d2, _, _, rfl, i2, T.s.cl, T.nF, rfl, ?_⟩
    try dsimp only
    tm_at "s"
    rcases hc with ⟨hf, rz⟩ | ⟨hf, k⟩
    · refine iteD (fun _ => ?_) (fun z => absurd hf z)
      tm_at "s"
      exact s_rz rz
    · refine iteD (fun z => absurd z (by omega)) (fun _ => ?_)
      tm_at "s"
      exact k
theorem ok_riseB {f : Addr} {fd : FuncData} (F : Fun K "rise_of" "rise_of" s_rise_of f fd) (T : TxtB1 K mg A C CR CB CE CL) (c_straight : MeK P w K mg base A.st "straight" 8 (spStraight K A.st A.cw A.ra A.cs)) (c_sub : BinM P w K mg base A.ra .Sub 6 (spBin gDif A.ra CBR) (spBin gRdif A.ra CBR)) (c_mul : BinM P w K mg base A.ra .Mult 6 (spBin gMul A.ra CBR) (spBin gMul A.ra CBR)) :
    FnOk P w K mg base (L2.CX P w) 9 f fd ["batched", "setting"] (spRiseB A C) := by
  refine funO F sc_rise_of (fun vs H Q E h => ?_) (fun cd A' fr s H vs Q E hr h => ?_)
  · obtain ⟨p, mn, ov, so, U, a, b, rfl, _⟩ := h; rfl
  · obtain ⟨p, mn, ov, so, U, a, b, rfl, bt, ob, st, okU, oks, k⟩ := h
    refine ⟨_, (pss_cons (ps_asg (pe_m0 c_straight T.s.cl hr (passT (takes_of rfl rfl rfl rfl) (fun _ _ _ _ h => h)) (pv 1)) (KX.tup (K := K) rfl rfl (pgs_cons (pg_name (i := 2) sc_rise_of.nd rfl (Or.inl rfl)) (pgs_cons (pg_name (i := 3) sc_rise_of.nd rfl (Or.inl rfl)) pgs_nil))))
      (pss_one (ps_ret (pe_op (opBin opK_sub c_sub hr (passT (takes_of rfl rfl rfl rfl) (fun _ _ _ _ h => h))) (pv 2) (pe_op (opBin opK_mul c_mul hr (passT (takes_of rfl rfl rfl rfl) (fun _ _ _ _ h => h))) (pv 3) (pe_op opAdd (pe_op op_sub (KX.fld (K := K) rfl (pv 0) rfl) (KX.fld (K := K) rfl (pv 0) rfl)) pe_int)))))), ?_⟩
    obtain ⟨dx, i1⟩ := id bt
    obtain ⟨d2, q2, l2, i2, _, _⟩ := id st
    tm_at "s"
    refine ⟨so, d2, _, rfl, i2, rfl, so, U, a, b, 0, rfl, st, okU, oks, .inr ⟨rfl, fun t u v H1 e1 ht ru rv => ?_⟩⟩
    refine s_gT ht rfl ?_
    try dsimp only
    tm_at "s"
    refine ⟨p, C, dx, _, _, rfl, e1 _ _ i1, T.c.cl, T.nO, rfl, ?_⟩
    try dsimp only
    tm_at "s"
    refine ⟨p, C, dx, _, _, rfl, e1 _ _ i1, T.c.cl, T.nM, rfl, ?_⟩
    try dsimp only
    tm_at "s"
    have mn0 := okU.min; have su := okU.sum
    have a1 := oks.a1; have ab := oks.ab; have b6 := oks.b6
    have m1 := ob.m1; have mo := ob.mo; have o24 := ob.o24
    have B1 : Bn 60 480 (mkR a (sumW U)) := mkR_bn (by omega) (by omega) (by omega)
    have B0 : Bn (60 * 480 + 60 * 60) (60 * 480) (slopeS U a b) := subR_bn (mkR_bn (by omega) (by omega) (by omega)) (mkR_bn (by omega) (by omega) (by omega))
    have hc0 : ∀ o u o' u' : Int, gMul o' u' o u = gMul o u o' u' := fun o u o' u' => by unfold gMul; exact Int.mul_comm ..
    refine s_bin hc0 (.inl ⟨v, rfl, rv⟩) (.inr ⟨rfl, rfl⟩) (.inl ⟨v, rfl⟩) B1.bd (int_bn (show (ov - mn + 1).natAbs ≤ 24 by omega)).bd fun t2 H2 n2 e2 rt2 => ?_
    have rt2 : Rt A.ra H2 t2 (mulR (mkR a (sumW U)) (ov - mn + 1, 1)).1 (mulR (mkR a (sumW U)) (ov - mn + 1, 1)).2 := rt2
    have B2 : Bn (60 * 24) (480 * 1) (mulR (mkR a (sumW U)) (ov - mn + 1, 1)) := mkR_bn (nb_mul B1.o (show (ov - mn + 1).natAbs ≤ 24 by omega)) (nb_mul B1.u (show (1 : Int).natAbs ≤ 1 by decide)) (by have := B1.pos; omega)
    try dsimp only
    tm_at "s"
    refine s_bin cSub (.inl ⟨u, rfl, ru.ex2 e2⟩) (.inl ⟨t2, rfl, rt2⟩) (.inl ⟨u, rfl⟩) B0.bd B2.bd fun t3 H3 n3 e3 rt3 => ?_
    exact k t3 H3 (e1.trans (e2.trans e3)) rt3
theorem ok_lats {f : Addr} {fd : FuncData} (F : Fun K "lates_from" "lates_from" s_lates_from f fd) (T : TxtB1 K mg A C CR CB CE CL) (mt_batch_from : Mt P w K mg base (L2.CX P w) 2 C "batch_from" "self" ["rest"] (spBFrom C)) (mt_late_of : Mt P w K mg base (L2.CX P w) 8 A.st "late_of" "self" ["rest", "place", "size"] (spLate K A.st A.cw A.ra A.cr A.cc A.cb)) :
    FnOk P w K mg base (L2.CX P w) 9 f fd ["batched", "setting", "rest"] (spLatB A C) := by
  refine funO F sc_lates_from (fun vs H Q E h => ?_) (fun cd A' fr s H vs Q E hr h => ?_)
  · obtain ⟨p, mn, ov, so, U, a, b, rest, rfl, _⟩ := h; rfl
  · obtain ⟨p, mn, ov, so, U, a, b, rest, rfl, bt, ob, st, okU, oks, r1, r2, k⟩ := h
    refine ⟨_, (pss_cons (ps_asg (pe_mt mt_batch_from hr (passT (takes_of rfl rfl rfl rfl) (fun _ _ _ _ h => h)) (pv 0) (pa_cons (pv 2) pa_nil)) (KX.tup (K := K) rfl rfl (pgs_cons (pg_name (i := 3) sc_lates_from.nd rfl (Or.inl rfl)) (pgs_cons (pg_name (i := 4) sc_lates_from.nd rfl (Or.inl rfl)) pgs_nil))))
      (pss_cons (ps_set (i := 5) sc_lates_from.nd rfl (Or.inl rfl) (pe_lst pa_nil))
      (pss_cons (ps_for (passes_of rfl) rfl (pi_range1 (by rfl) T.b_range (pa_cons (pv 4) pa_nil)) (pg_name (i := 6) sc_lates_from.nd rfl (Or.inl rfl)) (pss_cons (ps_set (i := 7) sc_lates_from.nd rfl (Or.inl rfl) (pe_op op_sub (pv 2) (pe_op opMul (pv 6) (pv 3))))
      (pss_one (ps_expr (pe_bm PySem.F.plainAttrs_list PySem.F.slot_list_append PySem.F.type_list_append mt_append (pv 5) (pa_cons (pe_mt mt_late_of hr (passT (takes_of rfl rfl rfl rfl) (fun _ _ _ _ h => h)) (pv 1) (pa_cons (pv 7) (pa_cons pe_int (pa_cons (pe_callB (call_min2 (by rfl)) (by rfl) T.b_min (by decide +kernel) (pa_cons (pe_callTy (KX.callInt (K := K)) (by rfl) T.b_int (by decide +kernel) (pa_cons (pv 3) pa_nil)) (pa_cons (pe_callTy (KX.callInt (K := K)) (by rfl) T.b_int (by decide +kernel) (pa_cons (pv 7) pa_nil)) pa_nil))) pa_nil)))) pa_nil))))))
      (pss_one (ps_ret (pv 5)))))), ?_⟩
    obtain ⟨dx, i1⟩ := id bt
    have m1 := ob.m1; have mo := ob.mo; have o24 := ob.o24
    obtain ⟨c1, c2⟩ := bct_pos (mn := mn) (ov := ov) m1 (by omega) r1
    tm_at "s"
    refine ⟨p, dx, _, rfl, i1, rfl, ?_⟩
    try dsimp only
    tm_at "s"
    refine ⟨p, mn, ov, rest, rfl, bt, ob, r1, r2, fun t H1 e1 ht => ?_⟩
    refine s_gT ht rfl ?_
    try dsimp only
    tm_at "s"
    refine s_new (Nat.le_of_lt (small1000 (by simp))) fun l H2 nl e2 hl => ?_
    try dsimp only
    tm_at "s"
    obtain ⟨z1, z2⟩ := bsz_pos (ov := ov) (by omega) r1
    have bt2 := bt.ex (e1.trans e2)
    have st2 := st.ex (e1.trans e2)
    have e12 := e1.trans e2
    obtain ⟨d2, q2, l2, i2, cw2, rl2⟩ := id st2
    have sol : so ≠ l := fun z => by rw [z, hl] at i2; cases i2
    have P40 : (10 ^ 30 : Int) ≤ 10 ^ 40 := by decide +kernel
    have P0 : ((10 ^ 30 : Nat) : Int) = 10 ^ 30 := by decide +kernel
    refine ⟨by omega, Int.lt_of_le_of_lt (show bct mn ov rest ≤ 24 by omega) (by decide), ?_⟩
    refine forRg (n := (bct mn ov rest).toNat) (fun i σ H' => ∃ v6 v7 xs, σ = [some (.ref p), some (.ref so), some (.int rest), some (.int (bsz ov rest)), some (.int (bct mn ov rest)), some (.ref l), v6, v7] ∧ H' l = some (.lst xs) ∧ Rts A.ra H' xs ((List.range i).map (blate U a b ov rest)) ∧ ∀ c o, c ≠ l → H2 c = some o → H' c = some o) ⟨_, _, [], rfl, hl, Rts.nil, fun _ _ _ h => h⟩ ?_ ?_
    · rintro i _ H3 hi ⟨v6, v7, xs, rfl, h3, rts, kk⟩
      obtain ⟨g1, g2⟩ := bleft_pos (mn := mn) (ov := ov) (rest := rest) (by omega) r1 (i := i) (by omega)
      refine s_gNm ?_
      rw [Int.zero_add]
      try dsimp only
      tm_at "s"
      refine s_mulP (show (i : Int).natAbs ≤ 24 by omega) (show (bsz ov rest).natAbs ≤ 10 ^ 30 by omega) ?_
      try dsimp only
      tm_at "s"
      refine ⟨.inl ⟨rfl, _, .inl (.inl h3)⟩, ?_⟩
      try dsimp only
      tm_at "s"
      refine ⟨so, d2, _, rfl, kk _ _ sol i2, rfl, ?_⟩
      try dsimp only
      tm_at "s"
      refine ⟨_, _, rfl, ?_⟩
      try dsimp only
      tm_at "s"
      have cw3 : Cw A.cw H3 q2 U := by
        obtain ⟨dw, wd, wt, w1, w2, w3⟩ := cw2
        exact ⟨dw, wd, wt, kk _ _ (fun z => by rw [z, hl] at w1; cases w1) w1, kk _ _ (fun z => by rw [z, hl] at w2; cases w2) w2, kk _ _ (fun z => by rw [z, hl] at w3; cases w3) w3⟩
      have em : (if rest - (i : Int) * bsz ov rest < bsz ov rest then rest - (i : Int) * bsz ov rest else bsz ov rest) = min (bsz ov rest) (bleft ov rest i) := by
        unfold bleft
        split <;> omega
      have el : rest - (i : Int) * bsz ov rest = bleft ov rest i := rfl
      rw [em, el]
      refine ⟨so, d2, q2, U, a, b, 0, _, _, _, _, rfl, kk _ _ sol i2, cw3, okU, oks, .inr ⟨_, rfl, g1, by omega, .inr ⟨0, rfl, by decide, by decide +kernel, .inr ⟨_, rfl, by omega, by omega, fun t3 H4 n4 e4 rt4 => ?_⟩⟩⟩⟩
      try dsimp only
      tm_at "s"
      have h4 := e4 _ _ h3
      refine s_app h4 (by rw [rts.1, List.length_map, List.length_range]; exact sz100k (by omega)) ?_
      refine ⟨_, _, _, rfl, upd_same, ?_, fun c o hc h => by rw [upd_ne hc]; exact e4 _ _ (kk c o hc h)⟩
      rw [List.range_succ, List.map_append]
      exact Rts.upd ((rts.ex e4).snoc (r := blate U a b ov rest i) rt4) h4
    · rintro _ H3 ⟨v6, v7, xs, rfl, h3, rts, kk⟩
      try dsimp only
      tm_at "s"
      have nl1 : H l = none := by
        cases hz : H l with
        | none => rfl
        | some o => have := e1 _ _ hz; rw [nl] at this; cases this
      exact k l xs H3 (fun c o hc => kk c o (ne_of_none hc nl1) (e12 _ _ hc)) h3 rts
theorem ok_great {f : Addr} {fd : FuncData} (F : Fun K "greatest_batched" "greatest_batched" s_greatest_batched f fd) (T : TxtB1 K mg A C CR CB CE CL) (CFQ : CmpF K A.ra) (m_qgt : Me P w K mg base A.ra "__gt__" 6 ["self", "other"] (spCmp gGt A.ra CBR)) (m_qlt : Me P w K mg base A.ra "__lt__" 6 ["self", "other"] (spCmp gLt A.ra CBR))
    (c_need_batched : FnO P w K mg base (L2.CX P w) 3 "need_batched" ["batched", "setting"] (spNeedB K A C CR)) (c_rise_of : FnO P w K mg base (L2.CX P w) 9 "rise_of" ["batched", "setting"] (spRiseB A C)) (c_lates_from : FnO P w K mg base (L2.CX P w) 9 "lates_from" ["batched", "setting", "rest"] (spLatB A C)) (m_BatchBound_3 : McO P w K mg base (L2.CX P w) 1 "BatchBound" CB ["self", "late", "rest", "spot"] (spInit CB ["late", "rest", "spot"]) []) (m_BatchEndless_2 : McO P w K mg base (L2.CX P w) 1 "BatchEndless" CE ["self", "spot", "rise"] (spInit CE ["spot", "rise"]) []) :
    FnOk P w K mg base (L2.CX P w) 10 f fd ["batched", "setting"] (spGreatB K A C CR CB CE) := by
  refine funO F sc_greatest_batched (fun vs H Q E h => ?_) (fun cd A' fr s H vs Q E hr h => ?_)
  · obtain ⟨x, y, rfl, _⟩ := h; rfl
  · obtain ⟨x, y, rfl, hc⟩ := h
    refine ⟨_, (pss_cons (ps_expr (pe_o c_need_batched hr (passT (takes_of rfl rfl rfl rfl) (fun _ _ _ _ h => h)) (pa_cons (pv 0) (pa_cons (pv 1) pa_nil))))
      (pss_cons (ps_set (i := 2) sc_greatest_batched.nd rfl (Or.inl rfl) (pe_o c_rise_of hr (passT (takes_of rfl rfl rfl rfl) (fun _ _ _ _ h => h)) (pa_cons (pv 0) (pa_cons (pv 1) pa_nil))))
      (pss_cons (ps_if (pt_cmpR (cmpBin (fun _ _ => rfl) decN_gt CFQ rfl rfl m_qgt m_qlt hr (passT (takes_of rfl rfl rfl rfl) (fun _ _ _ _ h => h))) (pv 2) pe_int (nomark _)) (pss_one (ps_ret (pe_mko m_BatchEndless_2 hr (passT (takes_of rfl rfl rfl rfl) (fun _ _ _ _ h => h)) (pa_cons (pe_op op_sub (KX.fld (K := K) rfl (pv 0) rfl) pe_int) (pa_cons (pv 2) pa_nil))))) pss_nil)
      (pss_cons (ps_set (i := 3) sc_greatest_batched.nd rfl (Or.inl rfl) pe_non)
      (pss_cons (ps_for (passes_of rfl) rfl (pi_range2 (by rfl) T.b_range (pa_cons pe_int (pa_cons (pe_op opAdd (pe_op opMul (KX.fld (K := K) rfl (pv 0) rfl) (KX.fld (K := K) rfl (pv 0) rfl)) pe_int) pa_nil))) (pg_name (i := 4) sc_greatest_batched.nd rfl (Or.inl rfl)) (pss_one (ps_for (passes_of rfl) rfl (pi_enum (by rfl) T.b_enumerate (pa_cons (pe_o c_lates_from hr (passT (takes_of rfl rfl rfl rfl) (fun _ _ _ _ h => h)) (pa_cons (pv 0) (pa_cons (pv 1) (pa_cons (pv 4) pa_nil)))) pa_nil)) (KX.tup (K := K) rfl rfl (pgs_cons (pg_name (i := 5) sc_greatest_batched.nd rfl (Or.inl rfl)) (pgs_cons (pg_name (i := 6) sc_greatest_batched.nd rfl (Or.inl rfl)) pgs_nil))) (pss_one (ps_if (PW.pt (pw_or (pt_cmpR opIs (pv 3) pe_non (nomark _)) (pw_or1 (pt_cmpR (cmpBin (fun _ _ => rfl) decN_gt CFQ rfl rfl m_qgt m_qlt hr (passT (takes_of rfl rfl rfl rfl) (fun _ _ _ _ h => h))) (pv 6) (KX.fld (K := K) rfl (pv 3) rfl) (nomark _))))) (pss_one (ps_set (i := 3) sc_greatest_batched.nd rfl (Or.inl rfl) (pe_mko m_BatchBound_3 hr (passT (takes_of rfl rfl rfl rfl) (fun _ _ _ _ h => h)) (pa_cons (pv 6) (pa_cons (pv 4) (pa_cons (pv 5) pa_nil)))))) pss_nil)))))
      (pss_one (ps_ret (pv 3)))))))), ?_⟩
    tm_at "s"
    refine ⟨x, y, rfl, ?_⟩
    rcases hc with ⟨nc, rz⟩ | ⟨p, mn, ov, rfl, bt, hc⟩
    · exact .inl ⟨nc, rz⟩
    refine .inr ⟨p, mn, ov, rfl, bt, ?_⟩
    rcases hc with ⟨nc, rz⟩ | ⟨so, U, a, b, f, rfl, st, hc⟩
    · exact .inl ⟨nc, rz⟩
    refine .inr ⟨so, U, a, b, f, rfl, st, ?_⟩
    rcases hc with ⟨hf, rz⟩ | ⟨rfl, ob, okU, oks, kE, kB⟩
    · exact .inl ⟨hf, rz⟩
    refine .inr ⟨rfl, ?_⟩
    try dsimp only
    tm_at "s"
    refine ⟨p, mn, ov, so, U, a, b, rfl, bt, ob, st, okU, oks, fun t1 H1 e1 rt1 => ?_⟩
    try dsimp only
    tm_at "s"
    obtain ⟨dx, i1⟩ := id bt
    have B3 := riseB_bn okU oks ob
    have m1 := ob.m1; have mo := ob.mo; have o24 := ob.o24
    have P30 : (600 : Int) ≤ 10 ^ 30 := by decide +kernel
    have hov : ov * ov ≤ 24 * 24 := Int.mul_le_mul o24 o24 (by omega) (by decide)
    have hov1 : 1 ≤ ov * ov := Int.mul_pos (by omega) (by omega)
    refine s_cmp cGt (.inl ⟨t1, rfl, rt1⟩) (.inr ⟨rfl, rfl⟩) (.inl ⟨t1, rfl⟩) B3.bd (int_bn (show (0 : Int).natAbs ≤ 0 by decide)).bd fun H2 e2 => ?_
    have e12 := e1.trans e2
    have eg : gGt (riseB U a b mn ov).1 (riseB U a b mn ov).2 0 1 = decide (0 < (riseB U a b mn ov).1) := by
      unfold gGt
      rw [decide_eq_decide]
      omega
    rw [eg]
    refine ⟨_, rfl, ?_⟩
    by_cases hp : 0 < (riseB U a b mn ov).1
    · rw [decide_eq_true hp]
      refine iteT ?_
      try dsimp only
      tm_at "s"
      refine ⟨p, C, dx, _, _, rfl, e12 _ _ i1, T.c.cl, T.nM, rfl, ?_⟩
      try dsimp only
      tm_at "s"
      refine s_mkP (xs := [.int (mn - 1), .ref t1]) rfl fun p3 H3 n3 e3 pa3 => ?_
      exact kE p3 t1 H3 (e12.trans e3) hp pa3 (rt1.ex2 (e2.trans e3))
    rw [decide_eq_false hp]
    refine iteF ?_
    try dsimp only
    tm_at "s"
    refine s_fRg2 ?_
    try dsimp only
    tm_at "s"
    refine ⟨p, C, dx, _, _, rfl, e12 _ _ i1, T.c.cl, T.nO, rfl, ?_⟩
    try dsimp only
    tm_at "s"
    refine ⟨p, C, dx, _, _, rfl, e12 _ _ i1, T.c.cl, T.nO, rfl, ?_⟩
    refine s_mulP (show ov.natAbs ≤ 24 by omega) (show ov.natAbs ≤ 24 by omega) ?_
    try dsimp only
    tm_at "s"
    refine ⟨1, ov * ov + 1, rfl, ⟨by decide, by decide, Int.le_trans (by decide) (show (0 : Int) ≤ ov * ov + 1 by omega), Int.lt_of_le_of_lt (show ov * ov + 1 ≤ 577 by omega) (by decide)⟩, ?_⟩
    rw [show ((ov * ov + 1 - 1).toNat : Nat) = (ov * ov).toNat by omega]
    refine forRg (n := (ov * ov).toNat) (fun i σ H' => ∃ vb v4 v5 v6, σ = [some (.ref p), some (.ref so), some (.ref t1), some vb, v4, v5, v6] ∧ Ex H2 H' ∧ BestAt CB A.ra H' vb (bestB U a b mn ov i) ∧ BdO (bestB U a b mn ov i)) ⟨.non, _, _, _, rfl, Ex.refl H2, rfl, fun y z => by cases z⟩ ?_ ?_
    · rintro i _ H3 hi ⟨vb, v4, v5, v6, rfl, e3, hb, hbd⟩
      refine s_gNm ?_
      rw [show (1 : Int) + (i : Int) = (i : Int) + 1 by omega]
      try dsimp only
      tm_at "s"
      have e13 := e12.trans e3
      refine ⟨p, mn, ov, so, U, a, b, (i : Int) + 1, rfl, bt.ex e13, ob, st.ex e13, okU, oks, by omega, by omega, fun l xs H4 e4 h4 rts => ?_⟩
      refine ⟨l, xs, rfl, .inl (.inl h4), forEn (fun k σ H' => ∃ vb v5 v6, σ = [some (.ref p), some (.ref so), some (.ref t1), some vb, some (.int ((i : Int) + 1)), v5, v6] ∧ Ex H4 H' ∧ BestAt CB A.ra H' vb (((List.range k).map (entB U a b ov ((i : Int) + 1))).foldl better (bestB U a b mn ov i)) ∧ BdO (((List.range k).map (entB U a b ov ((i : Int) + 1))).foldl better (bestB U a b mn ov i))) ⟨vb, _, _, rfl, Ex.refl H4, hb.ex e4, hbd⟩ (fun k σ H' ⟨_, _, _, _, e, _⟩ => e _ _ h4) ?_ ?_⟩
      · rintro k x TT _ H5 hx ⟨vb, v5, v6, rfl, e5, hb, hbd⟩ nT H6 e6 k6 h6
        have hk : k < (bct mn ov ((i : Int) + 1)).toNat := by
          have := (List.getElem?_eq_some_iff.mp hx).1
          rw [rts.1, List.length_map, List.length_range] at this
          exact this
        obtain ⟨q7, hq7, rt7⟩ := rts.2 k (blate U a b ov ((i : Int) + 1) k) (by rw [List.getElem?_map, List.getElem?_range hk]; rfl)
        rw [hx] at hq7
        cases hq7
        have bd7 := blate_bn okU oks (ov := ov) (rest := (i : Int) + 1) (by omega) (by omega) (by omega) (mn := mn) (i := k) (by omega)
        refine s_gT (xs := [.int (k : Int), .ref q7]) h6 rfl ?_
        try dsimp only
        tm_at "s"
        simp only [range_fold]
        have hx7 : (entB U a b ov ((i : Int) + 1) k) = (blate U a b ov ((i : Int) + 1) k, (i : Int) + 1, (k : Int)) := rfl
        have hbd' := hbd.step (x := entB U a b ov ((i : Int) + 1) k) bd7
        generalize hfo : ((List.range k).map (entB U a b ov ((i : Int) + 1))).foldl better (bestB U a b mn ov i) = o at hb hbd hbd' ⊢
        have rt6 := rt7.ex2 (e5.trans e6)
        cases o with
        | none =>
          obtain rfl : vb = .non := hb
          rw [decide_eq_true (rfl : V.non = V.non)]
          refine iteT ?_
          rw [if_pos trivial]
          try dsimp only
          tm_at "s"
          refine s_mkP (xs := [.ref q7, .int ((i : Int) + 1), .int (k : Int)]) rfl fun p8 H8 n8 e8 pa8 => ?_
          exact ⟨.ref p8, _, _, rfl, e5.trans (e6.trans e8), ⟨p8, q7, rfl, pa8, rt6.ex2 e8⟩, hbd'⟩
        | some y =>
          obtain ⟨pb, tb, rfl, ⟨db, hpb⟩, rtb⟩ := hb
          refine iteF ?_
          try dsimp only
          tm_at "s"
          refine ⟨pb, CB, db, _, _, rfl, e6 _ _ hpb, T.b.cl, T.nBl, rfl, ?_⟩
          try dsimp only
          tm_at "s"
          refine s_cmp cGt (.inl ⟨q7, rfl, rt6⟩) (.inl ⟨tb, rfl, rtb.ex2 e6⟩) (.inl ⟨q7, rfl⟩) bd7 (hbd y rfl) fun H8 e8 => ?_
          refine ⟨_, rfl, ?_⟩
          by_cases hg : gGt (blate U a b ov ((i : Int) + 1) k).1 (blate U a b ov ((i : Int) + 1) k).2 y.1.1 y.1.2 = true
          · rw [hg]
            refine iteT ?_
            try dsimp only
            tm_at "s"
            refine s_mkP (xs := [.ref q7, .int ((i : Int) + 1), .int (k : Int)]) rfl fun p9 H9 n9 e9 pa9 => ?_
            refine ⟨.ref p9, _, _, rfl, e5.trans (e6.trans (e8.trans e9)), ?_, hbd'⟩
            rw [show better (some y) (entB U a b ov ((i : Int) + 1) k) = some (entB U a b ov ((i : Int) + 1) k) from if_pos hg]
            exact ⟨p9, q7, rfl, pa9, rt6.ex2 (e8.trans e9)⟩
          · rw [Bool.not_eq_true] at hg
            rw [hg]
            refine iteF ?_
            try dsimp only
            tm_at "s"
            refine ⟨.ref pb, _, _, rfl, e5.trans (e6.trans e8), ?_, hbd'⟩
            rw [show better (some y) (entB U a b ov ((i : Int) + 1) k) = some y from if_neg (by rw [show gtQ (entB U a b ov ((i : Int) + 1) k).1 y.1 = false from hg]; decide)]
            exact ⟨pb, tb, rfl, ⟨db, (e6.trans e8) _ _ hpb⟩, rtb.ex2 (e6.trans e8)⟩
      · rintro _ H5 ⟨vb, v5, v6, rfl, e5, hb, hbd⟩
        rw [rts.1, List.length_map, List.length_range] at hb hbd
        refine ⟨vb, _, _, _, rfl, e3.trans (e4.trans e5), ?_⟩
        rw [bestB_succ]
        exact ⟨hb, hbd⟩
    · rintro _ H3 ⟨vb, v4, v5, v6, rfl, e3, hb, hbd⟩
      try dsimp only
      tm_at "s"
      exact kB vb H3 (e12.trans e3) hp hb
end
end K72
end
section
local macro_rules | `(tactic| tm_at "s1") => `(tactic| first
  | with_reducible first
    | refine L3.s_seq ?_ | refine L3.s_asg ?_ | refine L3.s_op ?_ | refine L3.s_c ?_ | refine L3.s_cb ?_ | refine L3.s_cons ?_ | refine L3.s_nil ?_ | refine L3.s_test ?_ | refine L3.s_bl ?_
    | refine L3.s_I0 ?_ | refine L3.s_and ?_ | refine L3.s_or ?_ | refine L3.s_not ?_ | refine L3.s_if ?_ | refine L3.s_next ?_ | refine L3.s_ret ?_ | refine L3.s_retN ?_ | refine L3.s_asgS ?_ | refine L3.s_drop ?_
    | refine L3.s_un ?_ | refine L3.s_U ?_ | refine L3.s_int ?_ | refine L3.s_intB ?_ | refine L3.s_abs ?_ | refine L3.s_andV ?_ | refine L3.s_orV ?_ | refine L3.s_notV ?_ | refine L3.s_ifE ?_ | refine L3.s_call ?_ | refine L3.s_lst ?_ | refine L3.s_tup ?_ | refine L3.s_tB ?_
    | refine L3.s_addI ?_ | refine L3.s_inS ?_ | refine L3.s_ninS ?_ | refine L3.s_slice ?_ | refine L3.s_part ?_ | refine L3.s_partI ?_ | refine L3.s_nopart ?_ | refine L3.s_cI ?_ | refine L3.s_cB ?_ | refine L3.s_chain ?_ | refine L3.s_bm ?_ | refine L3.s_lcS ?_ | refine L3.s_lcR ?_ | refine L3.s_strE ?_
    | refine L2.iteT ?_ | refine L2.iteF ?_ | refine L3.iteNF ?_ | refine L3.iteNT ?_
    | refine L3.s_eqI ?_ | refine L3.s_neI ?_ | refine L3.s_eqS ?_ | refine L3.s_neS ?_
    | refine L3.s_pair ?_ | refine L3.s_pair2 ?_ | refine L3.s_fld ?_ | refine L3.s_make ?_ | refine L3.s_m1 ?_ | refine L3.s_isstr ?_
    | refine L3.s_xfV ?_ | refine L3.s_lstN ?_ | refine L3.s_callF ?_ | refine L3.s_lcL ?_ | refine L3.s_par3 ?_ | refine L3.s_trip ?_ | refine L3.s_asgT' ?_ | refine L3.s_gC ?_ | refine L3.s_gN ?_ | refine L3.s_fldG ?_ | refine L3.s_raise1 ?_ | refine L3.s_raise2 ?_ | refine L3.s_star ?_ | refine L3.s_mkCR ?_ | refine L3.s_lcZ ?_ | refine L3.s_forL ?_ | refine L3.s_forT ?_ | refine L3.s_gNm ?_ | refine L3.s_forE ?_ | refine L3.s_stC ?_ | refine L3.s_cmC ?_ | refine L3.s_forR1 ?_ | refine L3.s_lcTp ?_ | refine L3.s_forZ ?_ | refine L3.s_orT ?_ | refine L3.s_mt ?_ | refine L3.s_revT ?_ | refine L3.s_revL ?_ | refine L3.s_slOwn ?_ | refine L3.s_sl3 ?_ | refine L3.s_lcO ?_ | refine L3.s_stR ?_
    | refine L3.s_dcL ?_ | refine L3.s_dcT ?_ | refine L3.s_dget ?_ | refine L3.s_forET ?_ | refine L3.s_din ?_ | refine L3.s_dnin ?_ | refine L3.s_mkKV ?_
    | refine L3.s_isN ?_ | refine L3.s_isB ?_ | refine L3.s_nisN ?_ | refine L3.s_nisB ?_
  | ((with_reducible refine' L3.s_var ?e ?_); (case e => rfl))
  | ((with_reducible refine' L3.s_aug ?e ?_); (case e => rfl))
  | ((with_reducible refine' L3.s_pow ?c ?_); (case c => exact ⟨by decide, by decide, by decide⟩)))
local macro_rules | `(tactic| tm_at "s") => `(tactic| repeat tm_at "s1")
namespace K72
open PySem PySem.NumText PySem.Spec PyProof.Rows L2 L3 LamX RZ ClX
abbrev s__law_heard : Stmt := topS 101
abbrev names__law_heard : List Str := ["_law_ask", "_law_caught", "error", "_law_some"]
theorem sc__law_heard : FnScope ["_law_ask", "_law_caught", "error", "_law_some"] ["_law_ask"] (defScope s__law_heard) := ⟨rfl, rfl, rfl, by decide +kernel, rfl, by decide +kernel, by decide +kernel⟩
structure TxtH (K : PySem.W.Frag) (mg : Str → Option Value) (CL CR CS : Addr) : Prop where
  b_isinstance : mg "isinstance" = none
  b_len : mg "len" = none
  b_ValueError : mg "ValueError" = none
  g_LateError : mg "LateError" = some (.ref CL)
  r : ErT K mg "BadRule" CR CL ["part"]
  s : ErT K mg "BadSetting" CS CL ["part"]
  sr : PySem.W.kitOne K (.ref CS) (.ref CR) = some false
  rs : PySem.W.kitOne K (.ref CR) (.ref CS) = some false
section
variable {K : PySem.W.Frag} {mg : Str → Option Value} {CL CR CS : Addr}
theorem TxtH.g_BadRule (T : TxtH K mg CL CR CS) : ∃ u, mg "BadRule" = some u ∧ RelV (.ref CR) u := T.r.g
theorem TxtH.g_BadSetting (T : TxtH K mg CL CR CS) : ∃ u, mg "BadSetting" = some u ∧ RelV (.ref CS) u := T.s.g
end
def ErB (CR CS : Addr) (cls : Value) (d : Option Addr) (H' : Hp) (Q : VK) : Prop := ErP "part" "rule" CR cls d H' Q ∨ ErP "part" "setting" CS cls d H' Q
def TTb (CR CS : Addr) : (XK → Hp → VK → Prop) → Hp → VK → Prop := fun tl H Q => ∀ H0, Ex H H0 → ∀ (W : XK) (S : VK),
  (∀ cls d H', ErB CR CS cls d H' Q → W cls d H') → (∀ v H', Q (.str "told") H' → S v H') → tl W H0 S
theorem heard_gives {X : Cx} {CL CR CS g : Addr} {cdg : Value} {k : Nat} {q : Str} (T : TxtH X.K X.mg CL CR CS) (hg : X.A.guards = some []) (hr : Room (k + 1) X.A) :
    GivesTo X names__law_heard "_law_heard" (defScope s__law_heard) g cdg (defBody s__law_heard) "_law_ask" q (TTb CR CS) := by
  intro f c' s H Q tl act hc h
  obtain ⟨K, hK⟩ : ∃ K, X.K = K := ⟨_, rfl⟩
  rw [hK] at T
  refine ⟨_, pss_cons (ps_set (i := 1) sc__law_heard.nd rfl (Or.inl rfl) pe_non) (pss_cons (ps_try_note (i := 2) (m := 1) (c := .ref CL) (Wout := fun _ _ _ _ => False)
      (tb := fun W D σ H => ∃ Ech : XK, (∀ cls d σ' H', Ech cls d H' → W cls d σ' H') ∧ σ[0]? = some (some (.ref f)) ∧ H c' = some (CodeO c' q) ∧ tl Ech H fun v H' => D.nx σ H')
      rfl rfl rfl sc__law_heard.nd rfl rfl rfl rfl ⟨rfl, by decide, .inl T.g_LateError⟩ takes0 rfl rfl rfl (fun W pn xe tk _ => ?_)) (pss_cons (ps_if (pt_cmpR opIs (pv 1) pe_non (nomark _)) (pss_one (ps_ret pe_str)) pss_nil)
      (pss_cons (ps_set (i := 3) sc__law_heard.nd rfl (Or.inl rfl) (pe_lst pa_nil))
      (pss_cons (ps_if (pt_val (pe_callB (KX.isiX (K := K) (by exact hK)) (by rfl) T.b_isinstance (by decide +kernel) (pa_cons (pv 1) (pa_cons (C8.pe_gc (by rfl) T.g_BadRule) pa_nil)))) (pss_one (ps_expr (pe_bm PySem.F.plainAttrs_list PySem.F.slot_list_append PySem.F.type_list_append mt_append (pv 3) (pa_cons (pe_tup (pa_cons pe_str (pa_cons (KX.xfV (K := K) (by exact hK) (pv 1) (by rfl)) pa_nil))) pa_nil)))) pss_nil)
      (pss_cons (ps_if (pt_val (pe_callB (KX.isiX (K := K) (by exact hK)) (by rfl) T.b_isinstance (by decide +kernel) (pa_cons (pv 1) (pa_cons (C8.pe_gc (by rfl) T.g_BadSetting) pa_nil)))) (pss_one (ps_expr (pe_bm PySem.F.plainAttrs_list PySem.F.slot_list_append PySem.F.type_list_append mt_append (pv 3) (pa_cons (pe_tup (pa_cons pe_str (pa_cons (KX.xfV (K := K) (by exact hK) (pv 1) (by rfl)) pa_nil))) pa_nil)))) pss_nil)
      (pss_one (ps_ret (pe_ifExp (PW.pt (pw_and (pt_cmpR (KX.eqU (K := K) (by exact hK) (hr.deeper _).units) (pe_callB (KX.callLen (K := K) (by exact hK)) (by rfl) T.b_len (by decide +kernel) (pa_cons (pv 3) pa_nil)) pe_int (nomark _)) (pw_and1 (pt_val (pe_callB (KX.isiX (K := K) (by exact hK)) (by rfl) T.b_isinstance (by decide +kernel) (pa_cons (pv 1) (pa_cons (pe_bltn (v := .ty "ValueError") (u := .type "ValueError") (by rfl) T.b_ValueError (by decide +kernel) rfl) pa_nil))))))) (pe_ix (KX.ixU (K := K) (by exact hK)) (pv 3) pe_int (fun _ _ => rfl)) pe_str)))))))), ?_⟩
  · refine ⟨fun pins s' σ H' D I h' => ?_⟩
    obtain ⟨Ech, hW, h1, h2, h3⟩ := h'
    have hp := fun p1 p2 => act W pn xe Ech p1 p2 tk hW
    exact (pss_one (ps_expr (hp _ _))).run pins s' σ H' D I ⟨h1, h2, h3⟩
  · tm_at "s"
    refine ⟨fun cls d H' => ErB CR CS cls d H' Q, ?_, rfl, hc, h H (Ex.refl H) _ _ (fun cls d H' z => z) (fun v H1 kq => ?_)⟩
    · rintro cls d σ' H1 (⟨dd, v, rfl, rfl, hdd, k1⟩ | ⟨dd, v, rfl, rfl, hdd, k1⟩)
      · refine ⟨true, by have e := T.r.em; rw [← hK] at e; exact e, fun _ hl a ha => ?_, fun z => nomatch z⟩
        obtain ⟨x, y, z, u, rfl⟩ : ∃ x y z u, σ' = [x, y, z, u] := by
          match σ', hl with
          | [x, y, z, u], _ => exact ⟨x, y, z, u, rfl⟩
        have hx : Ex H1 (upd H1 a (ExV a (.ref CR) (some dd))) := ex_new ha
        have hd2 := hx _ _ hdd
        have ha2 : (upd H1 a (ExV a (.ref CR) (some dd))) a = some (ExV a (.ref CR) (some dd)) := upd_same
        generalize upd H1 a (ExV a (.ref CR) (some dd)) = H2 at hx hd2 ha2 ⊢
        try dsimp only
        tm_at "s"
        refine iteD (fun z => nomatch z) (fun _ => ?_)
        tm_at "s"
        refine s_new (Nat.le_of_lt (small1000 (by simp))) fun ls H3 nls e3 hls => ?_
        have ha3 := e3 _ _ ha2
        have hd3 := e3 _ _ hd2
        have nal : a ≠ ls := ne_of_none ha2 nls
        have ndl : dd ≠ ls := ne_of_none hd2 nls
        try dsimp only
        tm_at "s"
        refine .inr ⟨a, CR, dd, _, _, _, true, rfl, .own CR, ha3, hd3, T.r.exc, T.r.kB, ?_⟩
        tm_at "s"
        refine s_tyL hls ?_
        tm_at "s"
        refine ⟨a, CR, dd, _, v, rfl, ha3, hd3, T.r.xf, T.r.nV _ (by simp), rfl, ?_⟩
        tm_at "s"
        refine s_new (Nat.le_of_lt (small1000 (by simp))) fun p H4 hp e4 h4 => ?_
        have npl : p ≠ ls := fun z => by rw [z, hls] at hp; cases hp
        tm_at "s"
        refine s_app (e4 _ _ hls) (small1000 (by simp)) ?_
        have ha5 : (upd H4 ls (HO.lst ([] ++ [V.ref p]))) a = some (ExV a (.ref CR) (some dd)) := by rw [upd_ne nal]; exact e4 _ _ ha3
        have hd5 : (upd H4 ls (HO.lst ([] ++ [V.ref p]))) dd = some (.xd [("part", v)]) := by rw [upd_ne ndl]; exact e4 _ _ hd3
        have hl5 : (upd H4 ls (HO.lst ([] ++ [V.ref p]))) ls = some (.lst [.ref p]) := upd_same
        have hp5 : (upd H4 ls (HO.lst ([] ++ [V.ref p]))) p = some (.tup [.str "rule", v]) := by rw [upd_ne npl]; exact h4
        have ex5 : Ex H1 (upd H4 ls (HO.lst ([] ++ [V.ref p]))) := fun b o hb => by rw [upd_ne (ne_of_none (hx _ _ hb) nls)]; exact e4 _ _ (e3 _ _ (hx _ _ hb))
        generalize upd H4 ls (HO.lst ([] ++ [V.ref p])) = H5 at ha5 hd5 hl5 hp5 ex5 ⊢
        try dsimp only
        tm_at "s"
        refine .inr ⟨a, CR, dd, _, _, _, false, rfl, .own CS, ha5, hd5, T.r.exc, T.rs, ?_⟩
        tm_at "s"
        refine s_lenL hl5 ?_
        tm_at "s"
        refine iteD (fun _ => ?_) (fun z => absurd rfl z)
        tm_at "s"
        refine .inr ⟨a, CR, dd, _, _, _, true, rfl, .ty "ValueError", ha5, hd5, T.r.exc, T.r.kV, ?_⟩
        tm_at "s"
        refine s_iL (v := .ref p) hl5 rfl ?_
        tm_at "s"
        exact k1 p H5 ((hx.trans e3).free hp) ex5 hp5
      · refine ⟨true, by have e := T.s.em; rw [← hK] at e; exact e, fun _ hl a ha => ?_, fun z => nomatch z⟩
        obtain ⟨x, y, z, u, rfl⟩ : ∃ x y z u, σ' = [x, y, z, u] := by
          match σ', hl with
          | [x, y, z, u], _ => exact ⟨x, y, z, u, rfl⟩
        have hx : Ex H1 (upd H1 a (ExV a (.ref CS) (some dd))) := ex_new ha
        have hd2 := hx _ _ hdd
        have ha2 : (upd H1 a (ExV a (.ref CS) (some dd))) a = some (ExV a (.ref CS) (some dd)) := upd_same
        generalize upd H1 a (ExV a (.ref CS) (some dd)) = H2 at hx hd2 ha2 ⊢
        try dsimp only
        tm_at "s"
        refine iteD (fun z => nomatch z) (fun _ => ?_)
        tm_at "s"
        refine s_new (Nat.le_of_lt (small1000 (by simp))) fun ls H3 nls e3 hls => ?_
        have ha3 := e3 _ _ ha2
        have hd3 := e3 _ _ hd2
        have nal : a ≠ ls := ne_of_none ha2 nls
        have ndl : dd ≠ ls := ne_of_none hd2 nls
        try dsimp only
        tm_at "s"
        refine .inr ⟨a, CS, dd, _, _, _, false, rfl, .own CR, ha3, hd3, T.s.exc, T.sr, ?_⟩
        tm_at "s"
        refine .inr ⟨a, CS, dd, _, _, _, true, rfl, .own CS, ha3, hd3, T.s.exc, T.s.kB, ?_⟩
        tm_at "s"
        refine s_tyL hls ?_
        tm_at "s"
        refine ⟨a, CS, dd, _, v, rfl, ha3, hd3, T.s.xf, T.s.nV _ (by simp), rfl, ?_⟩
        tm_at "s"
        refine s_new (Nat.le_of_lt (small1000 (by simp))) fun p H4 hp e4 h4 => ?_
        have npl : p ≠ ls := fun z => by rw [z, hls] at hp; cases hp
        tm_at "s"
        refine s_app (e4 _ _ hls) (small1000 (by simp)) ?_
        have ha5 : (upd H4 ls (HO.lst ([] ++ [V.ref p]))) a = some (ExV a (.ref CS) (some dd)) := by rw [upd_ne nal]; exact e4 _ _ ha3
        have hd5 : (upd H4 ls (HO.lst ([] ++ [V.ref p]))) dd = some (.xd [("part", v)]) := by rw [upd_ne ndl]; exact e4 _ _ hd3
        have hl5 : (upd H4 ls (HO.lst ([] ++ [V.ref p]))) ls = some (.lst [.ref p]) := upd_same
        have hp5 : (upd H4 ls (HO.lst ([] ++ [V.ref p]))) p = some (.tup [.str "setting", v]) := by rw [upd_ne npl]; exact h4
        have ex5 : Ex H1 (upd H4 ls (HO.lst ([] ++ [V.ref p]))) := fun b o hb => by rw [upd_ne (ne_of_none (hx _ _ hb) nls)]; exact e4 _ _ (e3 _ _ (hx _ _ hb))
        generalize upd H4 ls (HO.lst ([] ++ [V.ref p])) = H5 at ha5 hd5 hl5 hp5 ex5 ⊢
        try dsimp only
        tm_at "s"
        refine s_lenL hl5 ?_
        tm_at "s"
        refine iteD (fun _ => ?_) (fun z => absurd rfl z)
        tm_at "s"
        refine .inr ⟨a, CS, dd, _, _, _, true, rfl, .ty "ValueError", ha5, hd5, T.s.exc, T.s.kV, ?_⟩
        tm_at "s"
        refine s_iL (v := .ref p) hl5 rfl ?_
        tm_at "s"
        exact k1 p H5 ((hx.trans e3).free hp) ex5 hp5
    · try dsimp only
      tm_at "s"
      refine iteD (fun _ => ?_) (fun z => absurd rfl z)
      tm_at "s"
      exact kq
/-- the def that hears, as the text has it -/
structure HeF (K : PySem.W.Frag) (mg : Str → Option Value) : Prop where
  ex : ∃ (g : Addr) (gd : FuncData), L2.Fun K "_law_heard" "_law_heard" s__law_heard g gd ∧ mg "_law_heard" = some (.ref g) ∧ L2.Binds K gd ["_law_ask"] []
theorem pe__law_heard {X : Cx} {TT : List (Addr × Str)} {CL CR CS c Pt : Addr} {k : Nat} {params : Arguments} {body : Expr} {scope : Scope} {t : XK → TE} {p lpos pos : Pos} (FH : HeF X.K X.mg) (T : TxtH X.K X.mg CL CR CS) (TB : TabB X.base X.mg c Pt) (hg : X.A.guards = some []) (hr : Room (k + 2) X.A)
    (hmT : (Pt, X.env.qual ++ "<lambda>") ∈ TT) (huT : ∀ p ∈ TT, p.1 = Pt → p.2 = X.env.qual ++ "<lambda>") (L : LamS X.env.scope scope)
    (hbody : ∀ (A : Around) (outer : List Env) (s : Shared) (H : Hp) (E : XK) (f c' : Addr), Room k (A.deeper (lamEnv X scope s.heap.objs.size f c')) → PE (lamCx X A outer s H E scope f c') body (t E))
    (gl : Gl X "_law_heard" := by rfl) (hcode : X.env.code = .ref c := by rfl) (hdef : defaultsOf params X.env = ([], []) := by rfl)
    (hbind : ∀ (q : Str) (cl : List (Str × Addr)) (pm cv ctv : Value), bindArgs (PySem.W.kla_fn "<lambda>" q params body scope cl pm cv ctv) ⟨[], []⟩ = pure [] := by intros; rfl) :
    PE X (.Call (.Name "_law_heard" p) [.Lambda params body scope lpos] [] pos) (tLam TT (TTb CR CS) t) := by
  obtain ⟨g, gd, F, m, b⟩ := FH.ex
  obtain ⟨oc, od, kV, doc, pm, an, cd, ct, sl, rfl, lk, hcd⟩ := F.ex
  exact pe_lamcall gl m F.kp lk hcd b sc__law_heard rfl (.inl rfl) (heard_gives T hg (hr.mono (by omega : k + 1 ≤ k + 2))) TB hcode hmT huT hr L hdef hbind hbody
section
variable {CR CS : Addr} {σ : L2.St} {H : Hp} {Q : VK}
theorem s_hb {Tt : List (Addr × Str)} {t : XK → TE} {cls : Addr} {tag pt : Str} (hc : (cls = CR ∧ tag = ("rule" : Str)) ∨ (cls = CS ∧ tag = ("setting" : Str))) (ht : Tabs Tt H) (ask : ∀ (E : XK) (H1 : Hp) (Q' : VK), ExtN H H1 → Tabs Tt H1 → Rz cls "part" (.str pt) H1 E → t E σ H1 Q')
    (k : ∀ p H', ExtN H H' → Tabs Tt H' → H' p = some (.tup [.str tag, .str pt]) → Q (.ref p) H') : tLam Tt (TTb CR CS) t σ H Q := by
  refine ⟨ht, fun H1 e1 t1 H0 e0 W S hW hS => ?_⟩
  show t _ σ H0 _
  refine ask _ H0 _ (e1.trans e0.n) (t1.ext e0) fun d H' nd e' hd => ?_
  rcases hc with ⟨rfl, rfl⟩ | ⟨rfl, rfl⟩
  · exact hW _ _ _ (.inl ⟨d, _, rfl, rfl, hd, fun p H2 np e2 h2 => k p H2 (e1.trans (e0.trans (e'.trans e2)).n) (t1.ext (e0.trans (e'.trans e2))) h2⟩)
  · exact hW _ _ _ (.inr ⟨d, _, rfl, rfl, hd, fun p H2 np e2 h2 => k p H2 (e1.trans (e0.trans (e'.trans e2)).n) (t1.ext (e0.trans (e'.trans e2))) h2⟩)
theorem s_hbT {Tt : List (Addr × Str)} {t : XK → TE} (ht : Tabs Tt H) (ask : ∀ (E : XK) (H1 : Hp) (Q' : VK), ExtN H H1 → Tabs Tt H1 → (∀ v H2, Ex H1 H2 → Q' v H2) → t E σ H1 Q')
    (k : ∀ H', ExtN H H' → Tabs Tt H' → Q (.str "told") H') : tLam Tt (TTb CR CS) t σ H Q := by
  refine ⟨ht, fun H1 e1 t1 H0 e0 W S hW hS => ?_⟩
  show t _ σ H0 _
  exact ask _ H0 _ (e1.trans e0.n) (t1.ext e0) fun v H2 e2 => hS v H2 (k H2 (e1.trans (e0.trans e2).n) (t1.ext (e0.trans e2)))
end
end K72
end
section
set_option exponentiation.threshold 9000
local macro_rules | `(tactic| tm_at "s1") => `(tactic| first
  | with_reducible first
    | refine L3.s_seq ?_ | refine L3.s_asg ?_ | refine L3.s_op ?_ | refine L3.s_c ?_ | refine L3.s_cb ?_ | refine L3.s_cons ?_ | refine L3.s_nil ?_ | refine L3.s_test ?_ | refine L3.s_bl ?_
    | refine L3.s_I0 ?_ | refine L3.s_and ?_ | refine L3.s_or ?_ | refine L3.s_not ?_ | refine L3.s_if ?_ | refine L3.s_next ?_ | refine L3.s_ret ?_ | refine L3.s_retN ?_ | refine L3.s_asgS ?_ | refine L3.s_drop ?_
    | refine L3.s_un ?_ | refine L3.s_U ?_ | refine L3.s_int ?_ | refine L3.s_intB ?_ | refine L3.s_abs ?_ | refine L3.s_andV ?_ | refine L3.s_orV ?_ | refine L3.s_notV ?_ | refine L3.s_ifE ?_ | refine L3.s_call ?_ | refine L3.s_lst ?_ | refine L3.s_tup ?_ | refine L3.s_tB ?_
    | refine L3.s_addI ?_ | refine L3.s_inS ?_ | refine L3.s_ninS ?_ | refine L3.s_slice ?_ | refine L3.s_part ?_ | refine L3.s_partI ?_ | refine L3.s_nopart ?_ | refine L3.s_cI ?_ | refine L3.s_cB ?_ | refine L3.s_chain ?_ | refine L3.s_bm ?_ | refine L3.s_lcS ?_ | refine L3.s_lcR ?_ | refine L3.s_strE ?_
    | refine L2.iteT ?_ | refine L2.iteF ?_ | refine L3.iteNF ?_ | refine L3.iteNT ?_
    | refine L3.s_eqI ?_ | refine L3.s_neI ?_ | refine L3.s_eqS ?_ | refine L3.s_neS ?_
    | refine L3.s_pair ?_ | refine L3.s_pair2 ?_ | refine L3.s_fld ?_ | refine L3.s_make ?_ | refine L3.s_m1 ?_ | refine L3.s_isstr ?_
    | refine L3.s_xfV ?_ | refine L3.s_lstN ?_ | refine L3.s_callF ?_ | refine L3.s_lcL ?_ | refine L3.s_par3 ?_ | refine L3.s_trip ?_ | refine L3.s_asgT' ?_ | refine L3.s_gC ?_ | refine L3.s_gN ?_ | refine L3.s_fldG ?_ | refine L3.s_raise1 ?_ | refine L3.s_raise2 ?_ | refine L3.s_star ?_ | refine L3.s_mkCR ?_ | refine L3.s_lcZ ?_ | refine L3.s_forL ?_ | refine L3.s_forT ?_ | refine L3.s_gNm ?_ | refine L3.s_forE ?_ | refine L3.s_stC ?_ | refine L3.s_cmC ?_ | refine L3.s_forR1 ?_ | refine L3.s_lcTp ?_ | refine L3.s_forZ ?_ | refine L3.s_orT ?_ | refine L3.s_mt ?_ | refine L3.s_revT ?_ | refine L3.s_revL ?_ | refine L3.s_slOwn ?_ | refine L3.s_sl3 ?_ | refine L3.s_lcO ?_ | refine L3.s_stR ?_
    | refine L3.s_dcL ?_ | refine L3.s_dcT ?_ | refine L3.s_dget ?_ | refine L3.s_forET ?_ | refine L3.s_din ?_ | refine L3.s_dnin ?_ | refine L3.s_mkKV ?_
    | refine L3.s_isN ?_ | refine L3.s_isB ?_ | refine L3.s_nisN ?_ | refine L3.s_nisB ?_
  | ((with_reducible refine' L3.s_var ?e ?_); (case e => rfl))
  | ((with_reducible refine' L3.s_aug ?e ?_); (case e => rfl))
  | ((with_reducible refine' L3.s_pow ?c ?_); (case c => exact ⟨by decide, by decide, by decide⟩)))
local macro_rules | `(tactic| tm_at "s") => `(tactic| repeat tm_at "s1")
namespace K72
open PySem PySem.NumText PySem.Spec PyProof.Rows L2 L3 LamX RZ ClX
abbrev s_shows_batched : Stmt := topS 75
theorem sc_shows_batched : FnScope ["batched", "setting", "value", "rise"] ["batched", "setting", "value"] (defScope s_shows_batched) := ⟨rfl, rfl, rfl, by decide +kernel, rfl, by decide +kernel, by decide +kernel⟩
abbrev s_is_bound : Stmt := topS 76
def spVoid : Sp := fun vs _ _ _ => vs.length = 3 ∧ False
/-- shows_batched of what is no paper -/
def spShB0 (K : PySem.W.Frag) (A : LaA) (C CR CB CE : Addr) : Sp := fun vs H Q E => ∃ x y z, vs = [x, y, z] ∧ ((NC K H (.ref C) x ∧ Rz CR "part" (.str "batched") H E) ∨ ∃ p mn ov, x = .ref p ∧ Bt C H p mn ov ∧
  ((NC K H (.ref A.st) y ∧ Rz A.cs "part" (.str "setting") H E) ∨ ∃ so U a b f, y = .ref so ∧ St A.st A.cw A.ra H so U a b f ∧ ((0 < f ∧ Rz A.cs "part" (.str "fee") H E) ∨ (f = 0 ∧ OkB mn ov ∧ OkW U ∧ OkS a b 0 ∧ NC K H (.ref CB) z ∧ NC K H (.ref CE) z ∧ ∀ H', Ex H H' → Q (.bl false) H'))))
section
variable {P : Program} {w : World} {K : PySem.W.Frag} {mg : Str → Option Value} {base : Heap} {A : LaA} {C CR CB CE CL CBR : Addr}
theorem ok_showsB0 {f : Addr} {fd : FuncData} (F : Fun K "shows_batched" "shows_batched" s_shows_batched f fd) (T : TxtB1 K mg A C CR CB CE CL) (g_Ratio : ∃ u, mg "Ratio" = some u ∧ RelV (.ref A.ra) u) (CFQ : CmpF K A.ra) (m_qgt : Me P w K mg base A.ra "__gt__" 6 ["self", "other"] (spCmp gGt A.ra CBR)) (m_qlt : Me P w K mg base A.ra "__lt__" 6 ["self", "other"] (spCmp gLt A.ra CBR)) (m_qeq : Me P w K mg base A.ra "__eq__" 2 ["self", "other"] (spEqR A.ra))
    (c_is_integer : FnO P w K mg base CX0 1 "is_integer" ["value"] (spIsI2 K)) (c_need_batched : FnO P w K mg base (L2.CX P w) 3 "need_batched" ["batched", "setting"] (spNeedB K A C CR)) (c_rise_of : FnO P w K mg base (L2.CX P w) 9 "rise_of" ["batched", "setting"] (spRiseB A C)) (c_is_bound : FnO P w K mg base (L2.CX P w) 9 "is_bound" ["batched", "setting", "paper"] spVoid) :
    FnOk P w K mg base (L2.CX P w) 10 f fd ["batched", "setting", "value"] (spShB0 K A C CR CB CE) := by
  refine funO F sc_shows_batched (fun vs H Q E h => ?_) (fun cd A' fr s H vs Q E hr h => ?_)
  · obtain ⟨x, y, z, rfl, _⟩ := h; rfl
  · obtain ⟨x, y, z, rfl, hc⟩ := h
    refine ⟨_, (pss_cons (ps_expr (pe_o c_need_batched hr (passT (takes_of rfl rfl rfl rfl) (fun _ _ _ _ h => h)) (pa_cons (pv 0) (pa_cons (pv 1) pa_nil))))
      (pss_cons (ps_set (i := 3) sc_shows_batched.nd rfl (Or.inl rfl) (pe_o c_rise_of hr (passT (takes_of rfl rfl rfl rfl) (fun _ _ _ _ h => h)) (pa_cons (pv 0) (pa_cons (pv 1) pa_nil))))
      (pss_cons (ps_if (pt_val (pe_callB (KX.callIsi (K := K)) (by rfl) T.b_isinstance (by decide +kernel) (pa_cons (pv 2) (pa_cons (C8.pe_gc (by rfl) T.g_BatchEndless) pa_nil)))) (pss_cons (ps_if (PW.pt (pw_or (pt_not (pt_val (pe_o c_is_integer hr pass0 (pa_cons (KX.fld (K := K) rfl (pv 2) rfl) pa_nil)))) (pw_or1 (pt_not (pt_val (pe_callB (KX.callIsi (K := K)) (by rfl) T.b_isinstance (by decide +kernel) (pa_cons (KX.fld (K := K) rfl (pv 2) rfl) (pa_cons (C8.pe_gc (by rfl) g_Ratio) pa_nil)))))))) (pss_one (ps_ret pe_bl)) pss_nil)
      (pss_one (ps_ret (pe_and (pe_cmpR (cmpBin (fun _ _ => rfl) decN_gt CFQ rfl rfl m_qgt m_qlt hr (passT (takes_of rfl rfl rfl rfl) (fun _ _ _ _ h => h))) (pv 3) pe_int (nomark _)) (pe_and (pe_cmpR (cmpBin (fun _ _ => rfl) decN_eq CFQ rfl rfl m_qeq m_qeq hr (passT (takes_of rfl rfl rfl rfl) (fun _ _ _ _ h => h))) (KX.fld (K := K) rfl (pv 2) rfl) (pe_op op_sub (KX.fld (K := K) rfl (pv 0) rfl) pe_int) (nomark _)) (pe_one (pe_cmpR (cmpBin (fun _ _ => rfl) decN_eq CFQ rfl rfl m_qeq m_qeq hr (passT (takes_of rfl rfl rfl rfl) (fun _ _ _ _ h => h))) (KX.fld (K := K) rfl (pv 2) rfl) (pv 3) (nomark _)))))))) pss_nil)
      (pss_one (ps_ret (pe_and (pe_callB (KX.callIsi (K := K)) (by rfl) T.b_isinstance (by decide +kernel) (pa_cons (pv 2) (pa_cons (C8.pe_gc (by rfl) T.g_BatchBound) pa_nil))) (pe_and (pe_not (pe_cmpR (cmpBin (fun _ _ => rfl) decN_gt CFQ rfl rfl m_qgt m_qlt hr (passT (takes_of rfl rfl rfl rfl) (fun _ _ _ _ h => h))) (pv 3) pe_int (nomark _))) (pe_one (pe_o c_is_bound hr (passT (takes_of rfl rfl rfl rfl) (fun _ _ _ _ h => h)) (pa_cons (pv 0) (pa_cons (pv 1) (pa_cons (pv 2) pa_nil)))))))))))), ?_⟩
    tm_at "s"
    refine ⟨x, y, rfl, ?_⟩
    rcases hc with ⟨nc, rz⟩ | ⟨p, mn, ov, rfl, bt, hc⟩
    · exact .inl ⟨nc, rz⟩
    refine .inr ⟨p, mn, ov, rfl, bt, ?_⟩
    rcases hc with ⟨nc, rz⟩ | ⟨so, U, a, b, f, rfl, st, hc⟩
    · exact .inl ⟨nc, rz⟩
    refine .inr ⟨so, U, a, b, f, rfl, st, ?_⟩
    rcases hc with ⟨hf, rz⟩ | ⟨rfl, ob, okU, oks, ⟨y1, g1, g2⟩, ⟨y2, g3, g4⟩, k⟩
    · exact .inl ⟨hf, rz⟩
    refine .inr ⟨rfl, ?_⟩
    try dsimp only
    tm_at "s"
    refine ⟨p, mn, ov, so, U, a, b, rfl, bt, ob, st, okU, oks, fun t1 H1 e1 rt1 => ?_⟩
    try dsimp only
    tm_at "s"
    refine s_isiC (g3.exN e1.n) g4 ?_
    try dsimp only
    tm_at "s"
    refine s_isiC (g1.exN e1.n) g2 ?_
    try dsimp only
    tm_at "s"
    exact k H1 e1
end
end K72
end
section
local macro_rules | `(tactic| tm_at "s1") => `(tactic| first
  | with_reducible first
    | refine L3.s_seq ?_ | refine L3.s_asg ?_ | refine L3.s_op ?_ | refine L3.s_c ?_ | refine L3.s_cb ?_ | refine L3.s_cons ?_ | refine L3.s_nil ?_ | refine L3.s_test ?_ | refine L3.s_bl ?_
    | refine L3.s_I0 ?_ | refine L3.s_and ?_ | refine L3.s_or ?_ | refine L3.s_not ?_ | refine L3.s_if ?_ | refine L3.s_next ?_ | refine L3.s_ret ?_ | refine L3.s_retN ?_ | refine L3.s_asgS ?_ | refine L3.s_drop ?_
    | refine L3.s_un ?_ | refine L3.s_U ?_ | refine L3.s_int ?_ | refine L3.s_intB ?_ | refine L3.s_abs ?_ | refine L3.s_andV ?_ | refine L3.s_orV ?_ | refine L3.s_notV ?_ | refine L3.s_ifE ?_ | refine L3.s_call ?_ | refine L3.s_lst ?_ | refine L3.s_tup ?_ | refine L3.s_tB ?_
    | refine L3.s_addI ?_ | refine L3.s_inS ?_ | refine L3.s_ninS ?_ | refine L3.s_slice ?_ | refine L3.s_part ?_ | refine L3.s_partI ?_ | refine L3.s_nopart ?_ | refine L3.s_cI ?_ | refine L3.s_cB ?_ | refine L3.s_chain ?_ | refine L3.s_bm ?_ | refine L3.s_lcS ?_ | refine L3.s_lcR ?_ | refine L3.s_strE ?_
    | refine L2.iteT ?_ | refine L2.iteF ?_ | refine L3.iteNF ?_ | refine L3.iteNT ?_
    | refine L3.s_eqI ?_ | refine L3.s_neI ?_ | refine L3.s_eqS ?_ | refine L3.s_neS ?_
    | refine L3.s_pair ?_ | refine L3.s_pair2 ?_ | refine L3.s_fld ?_ | refine L3.s_make ?_ | refine L3.s_m1 ?_ | refine L3.s_isstr ?_
    | refine L3.s_xfV ?_ | refine L3.s_lstN ?_ | refine L3.s_callF ?_ | refine L3.s_lcL ?_ | refine L3.s_par3 ?_ | refine L3.s_trip ?_ | refine L3.s_asgT' ?_ | refine L3.s_gC ?_ | refine L3.s_gN ?_ | refine L3.s_fldG ?_ | refine L3.s_raise1 ?_ | refine L3.s_raise2 ?_ | refine L3.s_star ?_ | refine L3.s_mkCR ?_ | refine L3.s_lcZ ?_ | refine L3.s_forL ?_ | refine L3.s_forT ?_ | refine L3.s_gNm ?_ | refine L3.s_forE ?_ | refine L3.s_stC ?_ | refine L3.s_cmC ?_ | refine L3.s_forR1 ?_ | refine L3.s_lcTp ?_ | refine L3.s_forZ ?_ | refine L3.s_orT ?_ | refine L3.s_mt ?_ | refine L3.s_revT ?_ | refine L3.s_revL ?_ | refine L3.s_slOwn ?_ | refine L3.s_sl3 ?_ | refine L3.s_lcO ?_ | refine L3.s_stR ?_
    | refine L3.s_dcL ?_ | refine L3.s_dcT ?_ | refine L3.s_dget ?_ | refine L3.s_forET ?_ | refine L3.s_din ?_ | refine L3.s_dnin ?_ | refine L3.s_mkKV ?_
    | refine L3.s_isN ?_ | refine L3.s_isB ?_ | refine L3.s_nisN ?_ | refine L3.s_nisB ?_
  | ((with_reducible refine' L3.s_var ?e ?_); (case e => rfl))
  | ((with_reducible refine' L3.s_aug ?e ?_); (case e => rfl))
  | ((with_reducible refine' L3.s_pow ?c ?_); (case c => exact ⟨by decide, by decide, by decide⟩)))
local macro_rules | `(tactic| tm_at "s") => `(tactic| repeat tm_at "s1")
namespace K72
open PySem PySem.NumText PySem.Spec PyProof.Rows L2 L3 LamX RZ ClX
abbrev s__law_both : Stmt := topS 102
theorem sc__law_both : FnScope ["_law_batched", "_law_setting", "_law_heard_here"] ["_law_batched", "_law_setting"] (defScope s__law_both) := ⟨rfl, rfl, rfl, by decide +kernel, rfl, by decide +kernel, by decide +kernel⟩
abbrev lamQb : Str := (("_law_both" : Str) ++ ".<locals>.") ++ "<lambda>"
/-- what is refused, and how -/
def Err3 (K : PySem.W.Frag) (A : LaA) (C CR : Addr) (H : Hp) (x y : V) (cls : Addr) (tag pt : Str) : Prop :=
  (NC K H (.ref C) x ∧ cls = CR ∧ tag = ("rule" : Str) ∧ pt = ("batched" : Str)) ∨
  ∃ p mn ov, x = .ref p ∧ Bt C H p mn ov ∧ ((NC K H (.ref A.st) y ∧ cls = A.cs ∧ tag = ("setting" : Str) ∧ pt = ("setting" : Str)) ∨
    ∃ so U a b f, y = .ref so ∧ St A.st A.cw A.ra H so U a b f ∧ 0 < f ∧ cls = A.cs ∧ tag = ("setting" : Str) ∧ pt = ("fee" : Str))
theorem Err3.exN {K : PySem.W.Frag} {A : LaA} {C CR : Addr} {H H' : Hp} {x y : V} {cls : Addr} {tag pt : Str} (h : Err3 K A C CR H x y cls tag pt) (e : ExtN H H') : Err3 K A C CR H' x y cls tag pt := by
  rcases h with ⟨h, r⟩ | ⟨p, mn, ov, r, bt, h⟩
  · exact .inl ⟨h.exN e, r⟩
  refine .inr ⟨p, mn, ov, r, bt.exN e, ?_⟩
  rcases h with ⟨h, r⟩ | ⟨so, U, a, b, f, r, st, h⟩
  · exact .inl ⟨h.exN e, r⟩
  · exact .inr ⟨so, U, a, b, f, r, st.exN e, h⟩
theorem Err3.cls {K : PySem.W.Frag} {A : LaA} {C CR : Addr} {H : Hp} {x y : V} {cls : Addr} {tag pt : Str} (h : Err3 K A C CR H x y cls tag pt) : (cls = CR ∧ tag = ("rule" : Str)) ∨ (cls = A.cs ∧ tag = ("setting" : Str)) := by
  rcases h with ⟨_, h1, h2, _⟩ | ⟨_, _, _, _, _, ⟨_, h1, h2, _⟩ | ⟨_, _, _, _, _, _, _, _, h1, h2, _⟩⟩
  · exact .inl ⟨h1, h2⟩
  · exact .inr ⟨h1, h2⟩
  · exact .inr ⟨h1, h2⟩
theorem Err3.great {K : PySem.W.Frag} {A : LaA} {C CR CB CE : Addr} {H : Hp} {x y : V} {cls : Addr} {tag pt : Str} {Q : VK} {E : XK} (h : Err3 K A C CR H x y cls tag pt) (rz : Rz cls "part" (.str pt) H E) : spGreatB K A C CR CB CE [x, y] H Q E := by
  refine ⟨x, y, rfl, ?_⟩
  rcases h with ⟨h, rfl, rfl, rfl⟩ | ⟨p, mn, ov, r, bt, ⟨h, rfl, rfl, rfl⟩ | ⟨so, U, a, b, f, r2, st, hf, rfl, rfl, rfl⟩⟩
  · exact .inl ⟨h, rz⟩
  · exact .inr ⟨p, mn, ov, r, bt, .inl ⟨h, rz⟩⟩
  · exact .inr ⟨p, mn, ov, r, bt, .inr ⟨so, U, a, b, f, r2, st, .inl ⟨hf, rz⟩⟩⟩
theorem Err3.shows {K : PySem.W.Frag} {A : LaA} {C CR CB CE : Addr} {H : Hp} {x y z : V} {cls : Addr} {tag pt : Str} {Q : VK} {E : XK} (h : Err3 K A C CR H x y cls tag pt) (rz : Rz cls "part" (.str pt) H E) : spShB0 K A C CR CB CE [x, y, z] H Q E := by
  refine ⟨x, y, z, rfl, ?_⟩
  rcases h with ⟨h, rfl, rfl, rfl⟩ | ⟨p, mn, ov, r, bt, ⟨h, rfl, rfl, rfl⟩ | ⟨so, U, a, b, f, r2, st, hf, rfl, rfl, rfl⟩⟩
  · exact .inl ⟨h, rz⟩
  · exact .inr ⟨p, mn, ov, r, bt, .inl ⟨h, rz⟩⟩
  · exact .inr ⟨p, mn, ov, r, bt, .inr ⟨so, U, a, b, f, r2, st, .inl ⟨hf, rz⟩⟩⟩
/-- a list of data -/
def LD (K : PySem.W.Frag) (H : Hp) (l : Addr) (ds : List PyData) : Prop := ∃ xs, H l = some (.lst xs) ∧ DpAll K H xs ds
theorem tabs_upL {Tt : List (Addr × Str)} {H : Hp} {l : Addr} {xs zs : List V} (t : Tabs Tt H) (hl : H l = some (.lst xs)) : Tabs Tt (upd H l (.lst zs)) := fun e he => by
  obtain ⟨ps, g1, g2, g3⟩ := t e he
  refine ⟨ps, by rw [upd_ne (ne_of g1 hl (by intro z; cases z))]; exact g1, g2, fun pos cv hc => ?_⟩
  obtain ⟨c, e1, e2⟩ := g3 pos cv hc
  exact ⟨c, e1, by rw [upd_ne (ne_of e2 hl (by intro z; unfold CodeO at z; cases z))]; exact e2⟩
/-- a list of heard tuples, the tables beside it -/
theorem hdPut {Tt : List (Addr × Str)} {H : Hp} {hl q : Addr} {ts : List (List V)} {u : List V} {Q : VK} (h : HdAt H hl ts) (t : Tabs Tt H) (hn : ts.length < 900) (hq : H q = some (.tup u)) (k : ∀ H', (∀ b o, b ≠ hl → H b = some o → H' b = some o) → Tabs Tt H' → HdAt H' hl (ts ++ [u]) → Q .non H') : rAppend (.ref hl) [.ref q] H Q := by
  obtain ⟨qs, a, b⟩ := h
  have hl' := b.len
  refine s_app a (small1000 (by rw [List.length_map]; omega)) (k _ (fun c o hc e => by rw [upd_ne hc]; exact e) (tabs_upL t a) ⟨qs ++ [q], by rw [upd_same, List.map_append]; rfl, ?_⟩)
  refine (b.app hq).imp fun c u hc => ?_
  rw [upd_ne (fun z => by rw [z, a] at hc; cases hc)]
  exact hc
theorem ld_of {K : PySem.W.Frag} {H : Hp} {hl : Addr} {ts : List (List V)} {ds : List (List PyData)} (h : HdAt H hl ts) (f : List V → List PyData) (k : ∀ u ∈ ts, DpAll K H u (f u)) (e : ts.map f = ds) : LD K H hl (ds.map PyData.tuple) := by
  obtain ⟨qs, a, b⟩ := h
  refine ⟨_, a, ?_⟩
  rw [← e, List.map_map]
  exact b.dp k
def strD : List V → List PyData := fun vs => vs.map fun v => match v with | .str z => .str z | _ => .none
theorem strD_dp {K : PySem.W.Frag} {H : Hp} : ∀ {zs : List Str}, DpAll K H (zs.map V.str) (strD (zs.map V.str))
  | [] => .nil
  | z :: r => .cons (.str z) strD_dp
def spBoth (K : PySem.W.Frag) (A : LaA) (C CR CB CE : Addr) (Tt : List (Addr × Str)) : Sp := fun vs H Q _ => ∃ x y, vs = [x, y] ∧ Tabs Tt H ∧
  ((∃ cls tag pt, Err3 K A C CR H x y cls tag pt ∧ ∀ l H', ExtN H H' → Tabs Tt H' → LD K H' l (List.replicate 4 (.tuple [.str tag, .str pt])) → Q (.ref l) H') ∨
   (∃ p mn ov so U a b, x = .ref p ∧ Bt C H p mn ov ∧ OkB mn ov ∧ y = .ref so ∧ St A.st A.cw A.ra H so U a b 0 ∧ OkW U ∧ OkS a b 0 ∧ ∀ l H', ExtN H H' → Tabs Tt H' → LD K H' l (List.replicate 4 (.str "told")) → Q (.ref l) H'))
section
variable {P : Program} {w : World} {K : PySem.W.Frag} {mg : Str → Option Value} {base : Heap} {A : LaA} {C CR CB CE CL : Addr}
theorem ok_both {f c Pt : Addr} {fd : FuncData} (F : FunC K "_law_both" "_law_both" s__law_both c f fd) (TB : TabB base mg c Pt) {Tt : List (Addr × Str)} (hmT : (Pt, lamQb) ∈ Tt) (huT : ∀ p ∈ Tt, p.1 = Pt → p.2 = lamQb) (TH : TxtH K mg CL CR A.cs) (FH : HeF K mg) (kn : PySem.W.kitOne K (.type "NoneType") (.ref CB) = some false ∧ PySem.W.kitOne K (.type "NoneType") (.ref CE) = some false ∧ PySem.W.kitOne K (.type "int") (.ref CB) = some false ∧ PySem.W.kitOne K (.type "int") (.ref CE) = some false)
    (c_greatest_batched : FnO P w K mg base (L2.CX P w) 10 "greatest_batched" ["batched", "setting"] (spGreatB K A C CR CB CE)) (r_greatest_batched : FnR P w K mg base (L2.CX P w) 10 "greatest_batched" ["batched", "setting"] (spGreatB K A C CR CB CE)) (c_shows_batched : FnO P w K mg base (L2.CX P w) 10 "shows_batched" ["batched", "setting", "value"] (spShB0 K A C CR CB CE)) (r_shows_batched : FnR P w K mg base (L2.CX P w) 10 "shows_batched" ["batched", "setting", "value"] (spShB0 K A C CR CB CE)) :
    FnG P w K mg base CX0 14 f fd ["_law_batched", "_law_setting"] (spBoth K A C CR CB CE Tt) := by
  refine funGC F sc__law_both (fun vs H Q E h => ?_) (fun A' fr s H vs Q E hr hg h => ?_)
  · obtain ⟨x, y, rfl, _⟩ := h; rfl
  · obtain ⟨x, y, rfl, ht, hc⟩ := h
    refine ⟨_, (pss_cons (ps_set (i := 2) sc__law_both.nd rfl (Or.inl rfl) (pe_lst (pa_cons (pe__law_heard FH TH TB hg hr hmT huT (lamS_by (sc := defScope s__law_both) (by decide +kernel)) (fun A outer s H E f c' hr' => (pe_o c_greatest_batched hr' (passT (takes_of rfl rfl rfl rfl) (fun _ _ _ _ h => h)) (pa_cons (pv 0) (pa_cons (pv 1) pa_nil))))) pa_nil)))
      (pss_cons (ps_expr (pe_bm PySem.F.plainAttrs_list PySem.F.slot_list_append PySem.F.type_list_append mt_append (pv 2) (pa_cons (pe__law_heard FH TH TB hg hr hmT huT (lamS_by (sc := defScope s__law_both) (by decide +kernel)) (fun A outer s H E f c' hr' => (pe_fR r_greatest_batched hr' (passT (takes_of rfl rfl rfl rfl) (fun _ _ _ _ h => h)) (pk_cons (pv 1) (pk_cons (pv 0) pk_nil))))) pa_nil)))
      (pss_cons (ps_expr (pe_bm PySem.F.plainAttrs_list PySem.F.slot_list_append PySem.F.type_list_append mt_append (pv 2) (pa_cons (pe__law_heard FH TH TB hg hr hmT huT (lamS_by (sc := defScope s__law_both) (by decide +kernel)) (fun A outer s H E f c' hr' => (pe_o c_shows_batched hr' (passT (takes_of rfl rfl rfl rfl) (fun _ _ _ _ h => h)) (pa_cons (pv 0) (pa_cons (pv 1) (pa_cons pe_non pa_nil)))))) pa_nil)))
      (pss_cons (ps_expr (pe_bm PySem.F.plainAttrs_list PySem.F.slot_list_append PySem.F.type_list_append mt_append (pv 2) (pa_cons (pe__law_heard FH TH TB hg hr hmT huT (lamS_by (sc := defScope s__law_both) (by decide +kernel)) (fun A outer s H E f c' hr' => (pe_fR r_shows_batched hr' (passT (takes_of rfl rfl rfl rfl) (fun _ _ _ _ h => h)) (pk_cons pe_int (pk_cons (pv 1) (pk_cons (pv 0) pk_nil)))))) pa_nil)))
      (pss_one (ps_ret (pv 2))))))), ?_⟩
    tm_at "s"
    rcases hc with ⟨cls, tag, pt, er, k⟩ | ⟨p, mn, ov, so, U, a, b, rfl, bt, ob, rfl, st, okU, oks, k⟩
    · refine s_hb (pt := pt) er.cls ht (fun E1 H1 Q' e1 t1 rz => ?_) (fun p1 H1 e1 t1 h1 => ?_)
      · tm_at "s"
        exact (er.exN e1).great rz
      tm_at "s"
      refine s_new (Nat.le_of_lt (small1000 (by simp))) fun l H2 nl e2 hl => ?_
      have A1 : HdAt H2 l [[.str tag, .str pt]] := .one hl (e2 _ _ h1)
      have E1 : ExtN H H2 := e1.trans e2.n
      have nh := fun b o (h : H b = some o) hc => ne_of_none (e1 b o h hc) nl
      have T1 := t1.ext e2
      try dsimp only
      tm_at "s"
      refine A1.sq ?_
      tm_at "s"
      refine s_hb (pt := pt) er.cls T1 (fun EW Ha Q' ea ta rz => ?_) (fun r2 Ha ea ta g2 => ?_)
      · have eb := E1.trans ea
        tm_at "s"
        unfold tCallR
        try dsimp only
        tm_at "s"
        exact (er.exN eb).great rz
      tm_at "s"
      refine hdPut (A1.exN ea) ta (by simp) g2 fun H22 k2 T2 A2 => ?_
      have E2 : ExtN H H22 := fun b o h hc => k2 b o (nh b o h hc) ((E1.trans ea) b o h hc)
      try dsimp only
      tm_at "s"
      refine A2.sq ?_
      tm_at "s"
      refine s_hb (pt := pt) er.cls T2 (fun EW Ha Q' ea ta rz => ?_) (fun r3 Ha ea ta g3 => ?_)
      · have eb := E2.trans ea
        tm_at "s"
        exact (er.exN eb).shows rz
      tm_at "s"
      refine hdPut (A2.exN ea) ta (by simp) g3 fun H32 k3 T3 A3 => ?_
      have E3 : ExtN H H32 := fun b o h hc => k3 b o (nh b o h hc) ((E2.trans ea) b o h hc)
      try dsimp only
      tm_at "s"
      refine A3.sq ?_
      tm_at "s"
      refine s_hb (pt := pt) er.cls T3 (fun EW Ha Q' ea ta rz => ?_) (fun r4 Ha ea ta g4 => ?_)
      · have eb := E3.trans ea
        tm_at "s"
        unfold tCallR
        try dsimp only
        tm_at "s"
        exact (er.exN eb).shows rz
      tm_at "s"
      refine hdPut (A3.exN ea) ta (by simp) g4 fun H42 k4 T4 A4 => ?_
      have E4 : ExtN H H42 := fun b o h hc => k4 b o (nh b o h hc) ((E3.trans ea) b o h hc)
      try dsimp only
      tm_at "s"
      refine k l _ E4 T4 (ld_of A4 strD (fun u hu => ?_) rfl)
      simp only [List.cons_append, List.nil_append, List.mem_cons, List.not_mem_nil, or_false] at hu
      rcases hu with rfl | rfl | rfl | rfl <;> exact strD_dp (zs := [tag, pt])
    · have hA : ∀ {H' : Hp} {Q' : VK} {E1 : XK}, ExtN H H' → (∀ v H2, Ex H' H2 → Q' v H2) → spGreatB K A C CR CB CE [.ref p, .ref so] H' Q' E1 := fun {H' Q' E1} e k => ⟨_, _, rfl, .inr ⟨p, mn, ov, rfl, bt.exN e, .inr ⟨so, U, a, b, 0, rfl, st.exN e, .inr ⟨rfl, ob, okU, oks, fun t u H2 e2 _ _ _ => k _ _ e2, fun v H2 e2 _ _ => k _ _ e2⟩⟩⟩⟩
      have hB : ∀ {H' : Hp} {Q' : VK} {E1 : XK} {z : V}, ExtN H H' → (z = .non ∨ z = .int 0) → (∀ v H2, Ex H' H2 → Q' v H2) → spShB0 K A C CR CB CE [.ref p, .ref so, z] H' Q' E1 := fun {H' Q' E1 z} e hz k => ⟨_, _, _, rfl, .inr ⟨p, mn, ov, rfl, bt.exN e, .inr ⟨so, U, a, b, 0, rfl, st.exN e, .inr ⟨rfl, ob, okU, oks, by
        rcases hz with rfl | rfl
        · exact ⟨_, .x (.base .non), kn.1⟩
        · exact ⟨_, .x (.base (.int 0)), kn.2.2.1⟩, by
        rcases hz with rfl | rfl
        · exact ⟨_, .x (.base .non), kn.2.1⟩
        · exact ⟨_, .x (.base (.int 0)), kn.2.2.2⟩, fun H2 e2 => k _ _ e2⟩⟩⟩⟩
      refine s_hbT ht (fun E1 H1 Q' e1 t1 kk => ?_) (fun H1 e1 t1 => ?_)
      · tm_at "s"
        exact hA e1 kk
      tm_at "s"
      refine s_new (Nat.le_of_lt (small1000 (by simp))) fun l H2 nl e2 hl => ?_
      have E1 : ExtN H H2 := e1.trans e2.n
      have nh := fun b o (h : H b = some o) hc => ne_of_none (e1 b o h hc) nl
      have T1 := t1.ext e2
      try dsimp only
      tm_at "s"
      refine s_tyL hl ?_
      tm_at "s"
      refine s_hbT T1 (fun EW Ha Q' ea ta kk => ?_) (fun Ha ea ta => ?_)
      · have eb := E1.trans ea
        tm_at "s"
        unfold tCallR
        try dsimp only
        tm_at "s"
        exact hA eb kk
      try dsimp only
      tm_at "s"
      refine s_app (ea _ _ hl (fun _ z => nomatch z)) (small1000 (by simp)) ?_
      have T2 := tabs_upL (zs := [.str "told"] ++ [.str "told"]) ta (ea _ _ hl (fun _ z => nomatch z))
      have hl2 : (upd Ha l (HO.lst ([.str "told"] ++ [.str "told"]))) l = some (.lst [.str "told", .str "told"]) := upd_same
      have E2 : ExtN H (upd Ha l (HO.lst ([.str "told"] ++ [.str "told"]))) := fun b o h hc => by rw [upd_ne (nh b o h hc)]; exact (E1.trans ea) b o h hc
      generalize upd Ha l (HO.lst ([.str "told"] ++ [.str "told"])) = H22 at T2 hl2 E2 ⊢
      try dsimp only
      tm_at "s"
      refine s_tyL hl2 ?_
      tm_at "s"
      refine s_hbT T2 (fun EW Ha Q' ea ta kk => ?_) (fun Ha ea ta => ?_)
      · have eb := E2.trans ea
        tm_at "s"
        exact hB eb (.inl rfl) kk
      try dsimp only
      tm_at "s"
      refine s_app (ea _ _ hl2 (fun _ z => nomatch z)) (small1000 (by simp)) ?_
      have T3 := tabs_upL (zs := [.str "told", .str "told"] ++ [.str "told"]) ta (ea _ _ hl2 (fun _ z => nomatch z))
      have hl3 : (upd Ha l (HO.lst ([.str "told", .str "told"] ++ [.str "told"]))) l = some (.lst [.str "told", .str "told", .str "told"]) := upd_same
      have E3 : ExtN H (upd Ha l (HO.lst ([.str "told", .str "told"] ++ [.str "told"]))) := fun b o h hc => by rw [upd_ne (nh b o h hc)]; exact (E2.trans ea) b o h hc
      generalize upd Ha l (HO.lst ([.str "told", .str "told"] ++ [.str "told"])) = H32 at T3 hl3 E3 ⊢
      try dsimp only
      tm_at "s"
      refine s_tyL hl3 ?_
      tm_at "s"
      refine s_hbT T3 (fun EW Ha Q' ea ta kk => ?_) (fun Ha ea ta => ?_)
      · have eb := E3.trans ea
        tm_at "s"
        unfold tCallR
        try dsimp only
        tm_at "s"
        exact hB eb (.inr rfl) kk
      try dsimp only
      tm_at "s"
      refine s_app (ea _ _ hl3 (fun _ z => nomatch z)) (small1000 (by simp)) ?_
      have T4 := tabs_upL (zs := [.str "told", .str "told", .str "told"] ++ [.str "told"]) ta (ea _ _ hl3 (fun _ z => nomatch z))
      have hl4 : (upd Ha l (HO.lst ([.str "told", .str "told", .str "told"] ++ [.str "told"]))) l = some (.lst [.str "told", .str "told", .str "told", .str "told"]) := upd_same
      have E4 : ExtN H (upd Ha l (HO.lst ([.str "told", .str "told", .str "told"] ++ [.str "told"]))) := fun b o h hc => by rw [upd_ne (nh b o h hc)]; exact (E3.trans ea) b o h hc
      generalize upd Ha l (HO.lst ([.str "told", .str "told", .str "told"] ++ [.str "told"])) = H42 at T4 hl4 E4 ⊢
      try dsimp only
      tm_at "s"
      exact k l _ E4 T4 ⟨_, hl4, .cons (.str _) (.cons (.str _) (.cons (.str _) (.cons (.str _) .nil)))⟩
end
end K72
end
section
set_option exponentiation.threshold 9000
local macro_rules | `(tactic| tm_at "s1") => `(tactic| first
  | with_reducible first
    | refine L3.s_seq ?_ | refine L3.s_asg ?_ | refine L3.s_op ?_ | refine L3.s_c ?_ | refine L3.s_cb ?_ | refine L3.s_cons ?_ | refine L3.s_nil ?_ | refine L3.s_test ?_ | refine L3.s_bl ?_
    | refine L3.s_I0 ?_ | refine L3.s_and ?_ | refine L3.s_or ?_ | refine L3.s_not ?_ | refine L3.s_if ?_ | refine L3.s_next ?_ | refine L3.s_ret ?_ | refine L3.s_retN ?_ | refine L3.s_asgS ?_ | refine L3.s_drop ?_
    | refine L3.s_un ?_ | refine L3.s_U ?_ | refine L3.s_int ?_ | refine L3.s_intB ?_ | refine L3.s_abs ?_ | refine L3.s_andV ?_ | refine L3.s_orV ?_ | refine L3.s_notV ?_ | refine L3.s_ifE ?_ | refine L3.s_call ?_ | refine L3.s_lst ?_ | refine L3.s_tup ?_ | refine L3.s_tB ?_
    | refine L3.s_addI ?_ | refine L3.s_inS ?_ | refine L3.s_ninS ?_ | refine L3.s_slice ?_ | refine L3.s_part ?_ | refine L3.s_partI ?_ | refine L3.s_nopart ?_ | refine L3.s_cI ?_ | refine L3.s_cB ?_ | refine L3.s_chain ?_ | refine L3.s_bm ?_ | refine L3.s_lcS ?_ | refine L3.s_lcR ?_ | refine L3.s_strE ?_
    | refine L2.iteT ?_ | refine L2.iteF ?_ | refine L3.iteNF ?_ | refine L3.iteNT ?_
    | refine L3.s_eqI ?_ | refine L3.s_neI ?_ | refine L3.s_eqS ?_ | refine L3.s_neS ?_
    | refine L3.s_pair ?_ | refine L3.s_pair2 ?_ | refine L3.s_fld ?_ | refine L3.s_make ?_ | refine L3.s_m1 ?_ | refine L3.s_isstr ?_
    | refine L3.s_xfV ?_ | refine L3.s_lstN ?_ | refine L3.s_callF ?_ | refine L3.s_lcL ?_ | refine L3.s_par3 ?_ | refine L3.s_trip ?_ | refine L3.s_asgT' ?_ | refine L3.s_gC ?_ | refine L3.s_gN ?_ | refine L3.s_fldG ?_ | refine L3.s_raise1 ?_ | refine L3.s_raise2 ?_ | refine L3.s_star ?_ | refine L3.s_mkCR ?_ | refine L3.s_lcZ ?_ | refine L3.s_forL ?_ | refine L3.s_forT ?_ | refine L3.s_gNm ?_ | refine L3.s_forE ?_ | refine L3.s_stC ?_ | refine L3.s_cmC ?_ | refine L3.s_forR1 ?_ | refine L3.s_lcTp ?_ | refine L3.s_forZ ?_ | refine L3.s_orT ?_ | refine L3.s_mt ?_ | refine L3.s_revT ?_ | refine L3.s_revL ?_ | refine L3.s_slOwn ?_ | refine L3.s_sl3 ?_ | refine L3.s_lcO ?_ | refine L3.s_stR ?_
    | refine L3.s_dcL ?_ | refine L3.s_dcT ?_ | refine L3.s_dget ?_ | refine L3.s_forET ?_ | refine L3.s_din ?_ | refine L3.s_dnin ?_ | refine L3.s_mkKV ?_
    | refine L3.s_isN ?_ | refine L3.s_isB ?_ | refine L3.s_nisN ?_ | refine L3.s_nisB ?_
  | ((with_reducible refine' L3.s_var ?e ?_); (case e => rfl))
  | ((with_reducible refine' L3.s_aug ?e ?_); (case e => rfl))
  | ((with_reducible refine' L3.s_pow ?c ?_); (case c => exact ⟨by decide, by decide, by decide⟩)))
local macro_rules | `(tactic| tm_at "s") => `(tactic| repeat tm_at "s1")
namespace K72
open PySem PySem.NumText PySem.Spec PyProof.Rows L2 L3 LamX RZ
abbrev s_Setting_with_fee : Stmt := inClass (topS 62) 8
theorem sc_Setting_with_fee : FnScope ["self", "fee"] ["self", "fee"] (defScope s_Setting_with_fee) := ⟨rfl, rfl, rfl, by decide +kernel, rfl, by decide +kernel, by decide +kernel⟩
section
variable {P : Program} {w : World} {K : PySem.W.Frag} {mg : Str → Option Value} {base : Heap} {C CW CQ CR CC CB CS CA CF CL CBR CT : Addr}
theorem TxtS.cl (T : TxtS K mg C CW CQ CR CC CB CS CA CF CL) : Cls K C := T.c.cl
theorem ok_with_fee {f : Addr} {fd : FuncData} (F : Fun K "with_fee" "Setting.with_fee" s_Setting_with_fee f fd) (T : TxtS K mg C CW CQ CR CC CB CS CA CF CL) (m_Setting_4 : McO P w K mg base (L2.CX P w) 9 "Setting" C ["self", "crew", "least", "most", "fee"] (spSet K C CW CQ CS CA CF) []) :
    FnOk P w K mg base (L2.CX P w) 11 f fd ["self", "fee"] (spWithFe K C CW CQ CF) := by
  refine funO F sc_Setting_with_fee (fun vs H Q E h => ?_) (fun cd A' fr s H vs Q E hr h => ?_)
  · obtain ⟨p, y, ws, a, b, f, rfl, _⟩ := h; rfl
  · obtain ⟨p, y, ws, a, b, f, rfl, st, okw, oks, hc⟩ := h
    obtain ⟨dx, q, l, hp, cw⟩ := st.ins
    refine ⟨_, (pss_one (ps_ret (pe_mko m_Setting_4 hr (passT (takes_of rfl rfl rfl rfl) (fun _ _ _ _ h => h)) (pa_cons (KX.fld (K := K) rfl (pv 0) rfl) (pa_cons (KX.fld (K := K) rfl (pv 0) rfl) (pa_cons (KX.fld (K := K) rfl (pv 0) rfl) (pa_cons (pv 1) pa_nil))))))), ?_⟩
    tm_at "s"
    refine ⟨p, C, dx, _, _, rfl, hp, T.c.cl, T.nC, rfl, ?_⟩
    tm_at "s"
    refine ⟨p, C, dx, _, _, rfl, hp, T.c.cl, T.nL, rfl, ?_⟩
    tm_at "s"
    refine ⟨p, C, dx, _, _, rfl, hp, T.c.cl, T.nM, rfl, ?_⟩
    tm_at "s"
    have a60 := Int.le_trans oks.ab oks.b6
    refine s_mkStG (.inr ⟨q, ws, rfl, cw, okw, .inr ⟨a, rfl, oks.a1, a60, .inr ⟨b, rfl, oks.ab, oks.b6, ?_⟩⟩⟩)
    rcases hc with ⟨ho, rz⟩ | ⟨f', rfl, f1, f2, k⟩
    · exact .inl ⟨ho, rz⟩
    exact .inr ⟨f', rfl, ⟨oks.a1, oks.ab, oks.b6, f1, f2⟩, k⟩
end
end K72
end
section
local macro_rules | `(tactic| tm_at "s1") => `(tactic| first
  | with_reducible first
    | refine L3.s_seq ?_ | refine L3.s_asg ?_ | refine L3.s_op ?_ | refine L3.s_c ?_ | refine L3.s_cb ?_ | refine L3.s_cons ?_ | refine L3.s_nil ?_ | refine L3.s_test ?_ | refine L3.s_bl ?_
    | refine L3.s_I0 ?_ | refine L3.s_and ?_ | refine L3.s_or ?_ | refine L3.s_not ?_ | refine L3.s_if ?_ | refine L3.s_next ?_ | refine L3.s_ret ?_ | refine L3.s_retN ?_ | refine L3.s_asgS ?_ | refine L3.s_drop ?_
    | refine L3.s_un ?_ | refine L3.s_U ?_ | refine L3.s_int ?_ | refine L3.s_intB ?_ | refine L3.s_abs ?_ | refine L3.s_andV ?_ | refine L3.s_orV ?_ | refine L3.s_notV ?_ | refine L3.s_ifE ?_ | refine L3.s_call ?_ | refine L3.s_lst ?_ | refine L3.s_tup ?_ | refine L3.s_tB ?_
    | refine L3.s_addI ?_ | refine L3.s_inS ?_ | refine L3.s_ninS ?_ | refine L3.s_slice ?_ | refine L3.s_part ?_ | refine L3.s_partI ?_ | refine L3.s_nopart ?_ | refine L3.s_cI ?_ | refine L3.s_cB ?_ | refine L3.s_chain ?_ | refine L3.s_bm ?_ | refine L3.s_lcS ?_ | refine L3.s_lcR ?_ | refine L3.s_strE ?_
    | refine L2.iteT ?_ | refine L2.iteF ?_ | refine L3.iteNF ?_ | refine L3.iteNT ?_
    | refine L3.s_eqI ?_ | refine L3.s_neI ?_ | refine L3.s_eqS ?_ | refine L3.s_neS ?_
    | refine L3.s_pair ?_ | refine L3.s_pair2 ?_ | refine L3.s_fld ?_ | refine L3.s_make ?_ | refine L3.s_m1 ?_ | refine L3.s_isstr ?_
    | refine L3.s_xfV ?_ | refine L3.s_lstN ?_ | refine L3.s_callF ?_ | refine L3.s_lcL ?_ | refine L3.s_par3 ?_ | refine L3.s_trip ?_ | refine L3.s_asgT' ?_ | refine L3.s_gC ?_ | refine L3.s_gN ?_ | refine L3.s_fldG ?_ | refine L3.s_raise1 ?_ | refine L3.s_raise2 ?_ | refine L3.s_star ?_ | refine L3.s_mkCR ?_ | refine L3.s_lcZ ?_ | refine L3.s_forL ?_ | refine L3.s_forT ?_ | refine L3.s_gNm ?_ | refine L3.s_forE ?_ | refine L3.s_stC ?_ | refine L3.s_cmC ?_ | refine L3.s_forR1 ?_ | refine L3.s_lcTp ?_ | refine L3.s_forZ ?_ | refine L3.s_orT ?_ | refine L3.s_mt ?_ | refine L3.s_revT ?_ | refine L3.s_revL ?_ | refine L3.s_slOwn ?_ | refine L3.s_sl3 ?_ | refine L3.s_lcO ?_ | refine L3.s_stR ?_
    | refine L3.s_dcL ?_ | refine L3.s_dcT ?_ | refine L3.s_dget ?_ | refine L3.s_forET ?_ | refine L3.s_din ?_ | refine L3.s_dnin ?_ | refine L3.s_mkKV ?_
    | refine L3.s_isN ?_ | refine L3.s_isB ?_ | refine L3.s_nisN ?_ | refine L3.s_nisB ?_
  | ((with_reducible refine' L3.s_var ?e ?_); (case e => rfl))
  | ((with_reducible refine' L3.s_aug ?e ?_); (case e => rfl))
  | ((with_reducible refine' L3.s_pow ?c ?_); (case c => exact ⟨by decide, by decide, by decide⟩)))
local macro_rules | `(tactic| tm_at "s") => `(tactic| repeat tm_at "s1")
namespace K72
open PySem PySem.Spec PyProof.Rows L2 L3 LamX RZ
abbrev s_Crew_of : Stmt := inClass (topS 47) 1
theorem sc_Crew_of : FnScope ["speeds"] ["speeds"] (defScope s_Crew_of) := ⟨rfl, rfl, rfl, by decide +kernel, rfl, by decide +kernel, by decide +kernel⟩
section
variable {P : Program} {w : World} {K : PySem.W.Frag} {mg : Str → Option Value} {base : Heap} {C CN CS CC CM CO CL aW : Addr}
theorem ok_crew_of {f : Addr} {fd : FuncData} (F : Fun K "of" "Crew.of" s_Crew_of f fd) (T : TxtW K mg C CN CS CC CM CO CL aW) (c_need_speeds : FnO P w K mg base (L2.CX P w) 5 "need_speeds" ["speeds", "names"] (spNeedSps K CN CS)) (m_Crew_kv : McKw P w K mg base (L2.CX P w) 7 "Crew" C "self" (spCrew C CC CM)) (e_BadCrew : Er1 P w K mg base "BadCrew" CC "part") :
    FnOk P w K mg base (L2.CX P w) 9 f fd ["speeds"] (spCrewOf C) := by
  refine funO F sc_Crew_of (fun vs H Q E h => ?_) (fun cd A' fr s H vs Q E hr h => ?_)
  · obtain ⟨d, ws, rfl, _⟩ := h; rfl
  · obtain ⟨d, ws, rfl, hd, ok, k⟩ := h
    refine ⟨_, (pss_cons (ps_if (pt_not (pt_val (pe_callB (KX.callIsi (K := K)) (by rfl) T.b_isinstance (by decide +kernel) (pa_cons (pv 0) (pa_cons (pe_bltn (v := .ty "dict") (u := .type "dict") (by rfl) T.b_dict (by decide +kernel) rfl) pa_nil))))) (pss_one (ps_raise1 e_BadCrew hr rfl (takes_of rfl rfl rfl rfl) (pa_cons pe_str pa_nil))) pss_nil)
      (pss_cons (ps_expr (pe_o c_need_speeds hr (passT (takes_of rfl rfl rfl rfl) (fun _ _ _ _ h => h)) (pa_cons (pv 0) (pa_cons (pe_callTy (callListDK rfl) (by rfl) T.b_list (by decide +kernel) (pa_cons (pv 0) pa_nil)) pa_nil))))
      (pss_one (ps_ret (pe_mkDS (i := 0) m_Crew_kv hr (passT (takes_of rfl rfl rfl rfl) (fun _ _ _ _ h => h)) rfl (Or.inl rfl)))))), ?_⟩
    tm_at "s"
    refine s_isiT (.x (.base (.dK hd))) (b := true) (kit_ty (by decide +kernel)) ?_
    tm_at "s"
    refine s_listDK hd fun l H1 nl e1 h1 => ?_
    have hk : (ws.map wI).map (fun kv => kV kv.1) = (ws.map (·.1)).map V.str := by rw [List.map_map, List.map_map]; rfl
    rw [hk] at h1
    try dsimp only
    tm_at "s"
    have hle := ok.le
    have sm : ∀ n ∈ ws.map (·.1), ∃ i, (n, i) ∈ ws := fun n hn => by
      obtain ⟨q, hq, e⟩ := List.mem_map.mp hn
      exact ⟨q.2, by rw [← e]; exact hq⟩
    refine ⟨d, l, ws.map wI, ws.map (·.1), rfl, e1 _ _ hd, h1, by rw [List.length_map]; omega, fun n hn => ?_, .inl ⟨fun n hn => ?_, fun n hn => ?_, fun H2 e2 => ?_⟩⟩
    · obtain ⟨i, hi⟩ := sm n hn
      have : n.length ≤ 8 := nameB_len (ok.nm _ hi)
      show n.length ≤ 100000
      omega
    · obtain ⟨i, hi⟩ := sm n hn
      exact ok.nm _ hi
    · obtain ⟨i, hi⟩ := sm n hn
      exact ⟨i, valV_mem ok.nd hi, ok.sp _ hi⟩
    tm_at "s"
    have ek : (ws.map fun p => (p.1, V.int p.2)).map kI = ws.map wI := by rw [List.map_map]; rfl
    refine ⟨d, ws.map fun p => (p.1, V.int p.2), rfl, by rw [ek]; exact e2 _ _ (e1 _ _ hd), fun p hp z => ?_, fun H3 e3 => s_mkCw ok fun q H' hq e4 cw => ?_⟩
    · obtain ⟨q, hq, e⟩ := List.mem_map.mp hp
      have hn := ok.nm q hq
      rw [show q.1 = "self" by rw [← z, ← e]] at hn
      exact absurd hn (by decide +kernel)
    · have e14 := (e1.trans e2).trans e3
      exact k q H' (e14.free hq) (e14.trans e4) cw
end
end K72
end
section
namespace L3
open PySem PySem.NumText PySem.Spec PyProof.Rows L2 LamX RZ ItX
theorem sp_void {P : Program} {w : World} {K : PySem.W.Frag} {mg : Str → Option Value} {base : Heap} {CX : CXT} {f : Addr} {fd : FuncData} {ps : List Str} {sp : Sp} (h : ∀ vs H Q E, ¬ sp vs H Q E) (k : Nat) : FnOk P w K mg base CX k f fd ps sp :=
  ⟨fun vs H Q E z => (h vs H Q E z).elim, fun A fr s H as us vs Q E hr e0 hb r z => (h _ _ _ _ z).elim⟩
end L3
end
section
set_option exponentiation.threshold 9000
namespace L3
open PySem PySem.NumText PySem.Spec PyProof.Rows L2 LamX RZ
/-- what is used of the greatest size ahead -/
structure AheadOk (ℓ α : Int → Int → Int) : Prop where
  nn : ∀ j B, 0 ≤ α j B
  iff : ∀ j B s, 0 ≤ B → 1 ≤ s → s ≤ 10 ^ 30 + 1 → (s ≤ α j B ↔ s ≤ ℓ (s + B) j)
/-- the sizes so far, the last chunk's first -/
structure GtAt (α : Int → Int → Int) (count : Nat) (sizes : List Int) : Prop where
  at_ : ∀ (i : Nat) s, sizes[i]? = some s → 1 ≤ s ∧ s = α ((count : Int) - 1 - (i : Int)) (sizes.take i).sum
  len : sizes.length ≤ count
  tot : sizes.sum ≤ 10 ^ 30
theorem GtAt.nil {α : Int → Int → Int} (count : Nat) : GtAt α count [] := ⟨(fun i s h => by cases h), Nat.zero_le _, by decide +kernel⟩
theorem GtAt.snoc {α : Int → Int → Int} {count : Nat} {sizes : List Int} (g : GtAt α count sizes) (hc : sizes.length < count) {s : Int} (h1 : 1 ≤ s) (hs : s = α ((count : Int) - 1 - (sizes.length : Int)) sizes.sum) (ht : sizes.sum + s ≤ 10 ^ 30) : GtAt α count (sizes ++ [s]) := by
  refine ⟨fun i x hx => ?_, by rw [List.length_append, List.length_singleton]; omega, by rw [List.sum_append, List.sum_singleton]; exact ht⟩
  rcases Nat.lt_trichotomy i sizes.length with c | c | c
  · rw [List.getElem?_append_left c] at hx
    rw [List.take_append_of_le_length (by omega)]
    exact g.at_ i x hx
  · subst c
    rw [List.getElem?_append_right (Nat.le_refl _), Nat.sub_self] at hx
    cases hx
    rw [List.take_left]
    exact ⟨h1, hs⟩
  · rw [List.getElem?_eq_none (by rw [List.length_append, List.length_singleton]; omega)] at hx
    cases hx
theorem GtAt.one {α : Int → Int → Int} {count : Nat} {sizes : List Int} (g : GtAt α count sizes) : ∀ s ∈ sizes, 1 ≤ s := fun s hs => by
  obtain ⟨i, hi⟩ := List.mem_iff_getElem?.mp hs
  exact (g.at_ i s hi).1
section
variable {ℓ α : Int → Int → Int}
/-- one chunk more: with no less behind it, it is let, too, and no less is there -/
theorem AheadOk.step (o : LetOk ℓ) (A : AheadOk ℓ α) {j B B' s : Int} (hB : 0 ≤ B) (hBB : B ≤ B') (s1 : 1 ≤ s) (hs : s ≤ ℓ (s + B) j) : 1 ≤ α j B' ∧ (s + B ≤ α j B' + B' ∨ 10 ^ 30 < α j B' + B') := by
  have P : (1 : Int) ≤ 10 ^ 30 + 1 := by decide +kernel
  have one : 1 ≤ α j B' := by
    rw [A.iff j B' 1 (by omega) (by omega) P]
    rcases Int.le_total (s + B) (1 + B') with c | c
    · have := (o.left j (show 0 ≤ s + B by omega) c).2
      omega
    · have := (o.left j (show 0 ≤ 1 + B' by omega) c).1
      omega
  refine ⟨one, ?_⟩
  by_cases c : s + B ≤ B'
  · exact .inl (by omega)
  · by_cases d : s + B - B' ≤ 10 ^ 30 + 1
    · refine .inl ?_
      have : s + B - B' ≤ α j B' := by
        rw [A.iff j B' _ (by omega) (by omega) d, show s + B - B' + B' = s + B by omega]
        omega
      omega
    · refine .inr ?_
      have : 10 ^ 30 + 1 ≤ α j B' := by
        rw [A.iff j B' _ (by omega) P (Int.le_refl _)]
        have := (o.left j (show 0 ≤ 10 ^ 30 + 1 + B' by omega) (show 10 ^ 30 + 1 + B' ≤ s + B by omega)).1
        omega
      omega
/-- no list of so many chunks has more behind a place -/
theorem GtAt.above (o : LetOk ℓ) (A : AheadOk ℓ α) {count : Nat} {sizes : List Int} (g : GtAt α count sizes) {m : List Int} (hm : m.length = count) (h1 : ∀ n ∈ m, 1 ≤ n) (w : WithinC ℓ m.sum m) : ∀ i, i ≤ sizes.length → (m.drop (count - i)).sum ≤ (sizes.take i).sum
  | 0, _ => by rw [List.drop_of_length_le (by omega)]; simp
  | i + 1, hi => by
    have ih := g.above o A hm h1 w i (by omega)
    have hc : count - (i + 1) < m.length := by have := g.len; omega
    have e1 : count - i = count - (i + 1) + 1 := by have := g.len; omega
    rw [e1] at ih
    have hx := List.getElem?_eq_getElem hc
    have hw := w _ _ hx
    have hs := sum_split m (count - (i + 1))
    have hd : (m.drop (count - (i + 1))).sum = m[count - (i + 1)] + (m.drop (count - (i + 1) + 1)).sum := by rw [List.drop_eq_getElem_cons hc, List.sum_cons]
    have hnn : 0 ≤ (m.drop (count - (i + 1) + 1)).sum := by
      have := sum_ge_len (ns := m.drop (count - (i + 1) + 1)) fun n hn => h1 n (List.mem_of_mem_drop hn)
      omega
    have hg := List.getElem?_eq_getElem (show i < sizes.length by omega)
    obtain ⟨g1, g2⟩ := g.at_ i _ hg
    rw [take_snoc hg, List.sum_append, List.sum_singleton, hd]
    have hj : ((count - (i + 1) : Nat) : Int) = (count : Int) - 1 - (i : Int) := by have := g.len; omega
    rw [hj, show m.sum - (m.take (count - (i + 1))).sum = m[count - (i + 1)] + (m.drop (count - (i + 1) + 1)).sum by omega] at hw
    obtain ⟨_, h2⟩ := A.step o hnn ih (h1 _ (List.getElem_mem hc)) hw
    rw [← g2] at h2
    rcases h2 with h2 | h2
    · omega
    · have h3 : (sizes.take (i + 1)).sum ≤ sizes.sum := by
        have := sum_split sizes (i + 1)
        have := sum_ge_len (ns := sizes.drop (i + 1)) fun n hn => g.one n (List.mem_of_mem_drop hn)
        omega
      rw [take_snoc hg, List.sum_append, List.sum_singleton] at h3
      have := g.tot
      omega
/-- the list itself is within the limit -/
theorem GtAt.within (A : AheadOk ℓ α) {count : Nat} {sizes : List Int} (g : GtAt α count sizes) (hl : sizes.length = count) : WithinC ℓ sizes.reverse.sum sizes.reverse := fun i s hs => by
  have hi : i < sizes.length := by have := (List.getElem?_eq_some_iff.mp hs).1; rw [List.length_reverse] at this; exact this
  rw [List.getElem?_reverse hi] at hs
  obtain ⟨g1, g2⟩ := g.at_ _ _ hs
  have hsp := sum_split sizes.reverse i
  have e : (sizes.reverse.drop i).sum = (sizes.take (sizes.length - i)).sum := by
    rw [List.drop_reverse, List.sum_reverse]
  rw [show sizes.reverse.sum - (sizes.reverse.take i).sum = (sizes.take (sizes.length - i)).sum by omega]
  have e2 : sizes.length - i = sizes.length - 1 - i + 1 := by omega
  rw [e2, take_snoc hs, List.sum_append, List.sum_singleton]
  have hB : 0 ≤ (sizes.take (sizes.length - 1 - i)).sum := by
    have := sum_ge_len (ns := sizes.take (sizes.length - 1 - i)) fun n hn => g.one n (List.mem_of_mem_take hn)
    omega
  have s2 : s ≤ 10 ^ 30 + 1 := by
    have := le_sum g.one s (List.mem_of_getElem? hs)
    have := g.tot
    omega
  have hj : (count : Int) - 1 - ((sizes.length - 1 - i : Nat) : Int) = (i : Int) := by omega
  rw [hj] at g2
  rw [Int.add_comm, ← A.iff _ _ _ hB g1 s2, ← g2]
  exact Int.le_refl _
end
end L3
end
section
namespace L3
open PySem PySem.NumText PySem.Spec PyProof.Rows L2 LamX RZ
section
variable {ℓ ℓ' α α' : Int → Int → Int}
/-- a list of the last chunks, from a place on -/
def WithinAt (ℓ : Int → Int → Int) (j0 : Int) (m : List Int) : Prop := ∀ (i : Nat) s, m[i]? = some s → s ≤ ℓ (m.drop i).sum (j0 + (i : Int))
theorem WithinAt.mono (hl : ∀ r j, ℓ r j ≤ ℓ' r j) {j0 : Int} {m : List Int} (w : WithinAt ℓ j0 m) : WithinAt ℓ' j0 m := fun i s h => Int.le_trans (w i s h) (hl _ _)
/-- no list of last chunks has more -/
theorem GtAt.aboveAt (o : LetOk ℓ) (A : AheadOk ℓ α) {count : Nat} {sizes : List Int} (g : GtAt α count sizes) {m : List Int} (hm : m.length ≤ count) (h1 : ∀ n ∈ m, 1 ≤ n) (w : WithinAt ℓ ((count - m.length : Nat) : Int) m) : ∀ i, i ≤ sizes.length → i ≤ m.length → (m.drop (m.length - i)).sum ≤ (sizes.take i).sum
  | 0, _, _ => by rw [List.drop_of_length_le (by omega)]; simp
  | i + 1, hi, hi2 => by
    have ih := g.aboveAt o A hm h1 w i (by omega) (by omega)
    have hc : m.length - (i + 1) < m.length := by omega
    have e1 : m.length - i = m.length - (i + 1) + 1 := by omega
    rw [e1] at ih
    have hx := List.getElem?_eq_getElem hc
    have hw := w _ _ hx
    have hd : (m.drop (m.length - (i + 1))).sum = m[m.length - (i + 1)] + (m.drop (m.length - (i + 1) + 1)).sum := by rw [List.drop_eq_getElem_cons hc, List.sum_cons]
    have hnn : 0 ≤ (m.drop (m.length - (i + 1) + 1)).sum := by
      have := sum_ge_len (ns := m.drop (m.length - (i + 1) + 1)) fun n hn => h1 n (List.mem_of_mem_drop hn)
      omega
    have hg := List.getElem?_eq_getElem (show i < sizes.length by omega)
    obtain ⟨g1, g2⟩ := g.at_ i _ hg
    rw [take_snoc hg, List.sum_append, List.sum_singleton, hd]
    have hj : ((count - m.length : Nat) : Int) + ((m.length - (i + 1) : Nat) : Int) = (count : Int) - 1 - (i : Int) := by omega
    rw [hj, hd] at hw
    obtain ⟨_, h2⟩ := A.step o hnn ih (h1 _ (List.getElem_mem hc)) hw
    rw [← g2] at h2
    rcases h2 with h2 | h2
    · omega
    · have h3 : (sizes.take (i + 1)).sum ≤ sizes.sum := by
        have := sum_split sizes (i + 1)
        have := sum_ge_len (ns := sizes.drop (i + 1)) fun n hn => g.one n (List.mem_of_mem_drop hn)
        omega
      rw [take_snoc hg, List.sum_append, List.sum_singleton] at h3
      have := g.tot
      omega
/-- where it ends without a list, no list of last chunks goes further -/
theorem GtAt.stop (o : LetOk ℓ) (A : AheadOk ℓ α) {count : Nat} {sizes : List Int} (g : GtAt α count sizes) (h0 : α ((count : Int) - 1 - (sizes.length : Int)) sizes.sum = 0) {m : List Int} (hm : m.length ≤ count) (h1 : ∀ n ∈ m, 1 ≤ n) (w : WithinAt ℓ ((count - m.length : Nat) : Int) m) : m.length ≤ sizes.length := by
  by_cases hc : m.length ≤ sizes.length
  · exact hc
  · exfalso
    have ih := g.aboveAt o A hm h1 w sizes.length (Nat.le_refl _) (by omega)
    rw [List.take_length] at ih
    have hlt : m.length - (sizes.length + 1) < m.length := by omega
    have e1 : m.length - sizes.length = m.length - (sizes.length + 1) + 1 := by omega
    rw [e1] at ih
    have hx := List.getElem?_eq_getElem hlt
    have hw := w _ _ hx
    have hd : (m.drop (m.length - (sizes.length + 1))).sum = m[m.length - (sizes.length + 1)] + (m.drop (m.length - (sizes.length + 1) + 1)).sum := by rw [List.drop_eq_getElem_cons hlt, List.sum_cons]
    have hnn : 0 ≤ (m.drop (m.length - (sizes.length + 1) + 1)).sum := by
      have := sum_ge_len (ns := m.drop (m.length - (sizes.length + 1) + 1)) fun n hn => h1 n (List.mem_of_mem_drop hn)
      omega
    have hj : ((count - m.length : Nat) : Int) + ((m.length - (sizes.length + 1) : Nat) : Int) = (count : Int) - 1 - (sizes.length : Int) := by omega
    rw [hj, hd] at hw
    have := (A.step o hnn ih (h1 _ (List.getElem_mem hlt)) hw).1
    omega
/-- a list of all its chunks is no more than the greatest total -/
theorem GtAt.top (o : LetOk ℓ) (A : AheadOk ℓ α) {count : Nat} {sizes : List Int} (g : GtAt α count sizes) (hl : sizes.length = count) {m : List Int} (hm : m.length = count) (h1 : ∀ n ∈ m, 1 ≤ n) (w : WithinC ℓ m.sum m) : m.sum ≤ sizes.sum := by
  have := g.above o A hm h1 w sizes.length (Nat.le_refl _)
  rw [hl, Nat.sub_self, List.drop_zero, ← hl, List.take_length] at this
  exact this
end
end L3
end
section
namespace L3
open PySem PySem.NumText PySem.Spec PyProof.Rows L2 LamX RZ ClX
structure StD (P : Program) (w : World) (K : PySem.W.Frag) (mg : Str → Option Value) (base : Heap) (CX : CXT) (k : Nat) (C : Addr) (m : Str) (ps : List Str) (sp : Sp) (dvs : List V) : Prop where
  ex : ∃ (mc : Value) (p g : Addr) (gd : FuncData) (rest : List Value) (ds : List Value), CRead K C mc ∧ PySem.W.findCls K (.ref C) mc m = some (.get (.builtin "staticmethod.__get__") (.ref p) .none (.ref C)) ∧ PySem.W.recIn K p "staticmethod" = some (.ref g :: rest) ∧ PySem.W.handedIn (.ref g) = true ∧
    PySem.W.keepIn K (.ref g) = true ∧ FnOk P w K mg base CX k g gd ps sp ∧ L2.Binds K gd ps ds ∧ Vals dvs ds
def tStD (C : Addr) (sp : Sp) (dvs : List V) (E : XK) (ta : TE) (t : TA) : TE := fun σ H Q => ta σ H fun x H1 => x = .ref C ∧ t σ H1 fun vs H2 => sp (vs ++ dvs) H2 Q E
section
variable {X : Cx} {CX : CXT} {k j : Nat} {C : Addr} {sp : Sp} {E : XK} {o e : Expr} {es : List Expr} {m : Str} {ps : List Str} {dvs : List V} {pos apos : Pos} {ta : TE} {t : TA} {pl : Sem Bool}
theorem pe_std (c : StD X.prog X.w X.K X.mg X.base CX k C m ps sp dvs) (hr : Room j X.A) (hx : Passes CX X E) (he : PE X o ta) (ha : PA X (e :: es) t) (hk : k ≤ j := by decide)
    (hst : starEach (e :: es) X.env = (false, eval e X.env) :: starEach es X.env := by rfl) (hpl : (backTo pos (starEach es X.env)).any (·.1) = false := by rfl)
    (ht : eval (.Call (.Attribute o m apos) (e :: es) [] pos) X.env = (do
      let ov ← eval o X.env
      standAt apos.atName
      let (f, first) ← holding [ov] (getMethod ov m pl)
      callWith pos f first (backTo pos (starEach (e :: es) X.env)) (backToKw pos (keywordEach [] X.env))) := by rfl) :
    PE X (.Call (.Attribute o m apos) (e :: es) [] pos) (tStD C sp dvs E ta t) := by
  obtain ⟨mc, p, g, gd, rest, ds, r, h1, h2, h3, kp, F, b, hd⟩ := c.ex
  refine ⟨fun pins s σ H Q I h => ?_⟩
  refine PySem.W.methodCall_KW (pl := pl) (thn (he.run pins s σ H _ I h) fun u s1 hh => ?_) ht
  obtain ⟨x, H1, I1, rx, ex, q⟩ := hh
  subst ex
  obtain rfl : u = Value.ref C := rx
  refine getst I1 r h1 h2 h3 fun s2 I2 => ?_
  refine PySem.W.callWith_K (h₀ := X.base) (first := []) I2.ok.mod.kin kp (thn (ha.run pos pins s2 σ H1 _ I2 q) fun us s3 hh => ?_) hst hpl
  obtain ⟨vs, H2, I3, rv, q2⟩ := hh
  exact ⟨I3.kIn, run_fn F (hr.mono hk) b hd hx I3 rv q2⟩
end
def sgnsL (z : Str) : List Str := z.cps.toList.map fun c => (⟨#[c]⟩ : Str)
theorem sgnsL_len (z : Str) : (sgnsL z).length = z.cps.size := by unfold sgnsL; rw [List.length_map, Array.length_toList]
section
variable {σ : L2.St} {H : Hp} {Q : VK}
theorem walkSg {z : Str} : Walk (Its z) (sgnsL z).length (fun _ => True) (YAt ((sgnsL z).map V.str)) := by
  have h := walk_str (z := z)
  rw [sgnsL_len]
  have e : (YAt ((sgnsL z).map V.str)) = (fun i H v H' => H' = H ∧ ∃ c, z.cps[i]? = some c ∧ v = .str ⟨#[c]⟩) := by
    funext i H1 v H2
    refine propext ⟨fun ⟨a, b⟩ => ⟨a, ?_⟩, fun ⟨a, c, b, d⟩ => ⟨a, ?_⟩⟩
    · unfold sgnsL at b
      rw [List.map_map, List.getElem?_map, Array.getElem?_toList] at b
      cases hc : z.cps[i]? with
      | none => rw [hc] at b; cases b
      | some c => rw [hc] at b; exact ⟨c, rfl, (Option.some.inj b).symm⟩
    · unfold sgnsL
      rw [List.map_map, List.getElem?_map, Array.getElem?_toList, b, d]
      rfl
  rw [e]
  exact h
theorem s_dcS {ta tk tv : TE} {g : TG} {tt : TT} {vs : List Nat} (h : ta σ H fun v H1 => ∃ z, v = .str z ∧ DC (Its z) g tt tk tv vs σ H1 Q) : tDc (iStr ta) g tt tk tv vs σ H Q := h
end
def abc : List Str := ["a", "b", "c", "d", "e", "f", "g", "h"]
def evW (k : Nat) (s : Int) : List (Str × Int) := (abc.take k).map fun n => (n, s)
theorem evW_ok {k : Nat} {s : Int} (h1 : 1 ≤ k) (h8 : k ≤ 8) (s1 : 1 ≤ s) (s2 : s ≤ 60) : OkW (evW k s) where
  ne := by
    intro z
    have := congrArg List.length z
    unfold evW at this
    rw [List.length_map, List.length_take, show abc.length = 8 from rfl, List.length_nil] at this
    omega
  le := by unfold evW; rw [List.length_map, List.length_take]; exact Nat.le_trans (Nat.min_le_right _ _) (by decide)
  nm := fun p hp => by
    obtain ⟨n, hn, rfl⟩ := List.mem_map.mp hp
    have : ∀ n ∈ abc, nameB n = true := by decide +kernel
    exact this n (List.mem_of_mem_take hn)
  sp := fun p hp => by
    obtain ⟨n, hn, rfl⟩ := List.mem_map.mp hp
    exact ⟨s1, s2⟩
  nd := by
    have e : (evW k s).map (·.1) = abc.take k := by unfold evW; rw [List.map_map]; exact List.map_id _
    rw [e]
    exact (by decide : abc.Nodup).sublist (List.take_sublist _ _)
def spEvenW (C : Addr) : Sp := fun vs H Q _ => ∃ k : Nat, ∃ s, vs = [.int (k : Int), .int s] ∧ 1 ≤ k ∧ k ≤ 8 ∧ 1 ≤ s ∧ s ≤ 60 ∧ ∀ q H', Ex H H' → Cw C H' q (srtW (evW k s)) → Q (.ref q) H'
end L3
end
section
local macro_rules | `(tactic| tm_at "s1") => `(tactic| first
  | with_reducible first
    | refine L3.s_seq ?_ | refine L3.s_asg ?_ | refine L3.s_op ?_ | refine L3.s_c ?_ | refine L3.s_cb ?_ | refine L3.s_cons ?_ | refine L3.s_nil ?_ | refine L3.s_test ?_ | refine L3.s_bl ?_
    | refine L3.s_I0 ?_ | refine L3.s_and ?_ | refine L3.s_or ?_ | refine L3.s_not ?_ | refine L3.s_if ?_ | refine L3.s_next ?_ | refine L3.s_ret ?_ | refine L3.s_retN ?_ | refine L3.s_asgS ?_ | refine L3.s_drop ?_
    | refine L3.s_un ?_ | refine L3.s_U ?_ | refine L3.s_int ?_ | refine L3.s_intB ?_ | refine L3.s_abs ?_ | refine L3.s_andV ?_ | refine L3.s_orV ?_ | refine L3.s_notV ?_ | refine L3.s_ifE ?_ | refine L3.s_call ?_ | refine L3.s_lst ?_ | refine L3.s_tup ?_ | refine L3.s_tB ?_
    | refine L3.s_addI ?_ | refine L3.s_inS ?_ | refine L3.s_ninS ?_ | refine L3.s_slice ?_ | refine L3.s_part ?_ | refine L3.s_partI ?_ | refine L3.s_nopart ?_ | refine L3.s_cI ?_ | refine L3.s_cB ?_ | refine L3.s_chain ?_ | refine L3.s_bm ?_ | refine L3.s_lcS ?_ | refine L3.s_lcR ?_ | refine L3.s_strE ?_
    | refine L2.iteT ?_ | refine L2.iteF ?_ | refine L3.iteNF ?_ | refine L3.iteNT ?_
    | refine L3.s_eqI ?_ | refine L3.s_neI ?_ | refine L3.s_eqS ?_ | refine L3.s_neS ?_
    | refine L3.s_pair ?_ | refine L3.s_pair2 ?_ | refine L3.s_fld ?_ | refine L3.s_make ?_ | refine L3.s_m1 ?_ | refine L3.s_isstr ?_
    | refine L3.s_xfV ?_ | refine L3.s_lstN ?_ | refine L3.s_callF ?_ | refine L3.s_lcL ?_ | refine L3.s_par3 ?_ | refine L3.s_trip ?_ | refine L3.s_asgT' ?_ | refine L3.s_gC ?_ | refine L3.s_gN ?_ | refine L3.s_fldG ?_ | refine L3.s_raise1 ?_ | refine L3.s_raise2 ?_ | refine L3.s_star ?_ | refine L3.s_mkCR ?_ | refine L3.s_lcZ ?_ | refine L3.s_forL ?_ | refine L3.s_forT ?_ | refine L3.s_gNm ?_ | refine L3.s_forE ?_ | refine L3.s_stC ?_ | refine L3.s_cmC ?_ | refine L3.s_forR1 ?_ | refine L3.s_lcTp ?_ | refine L3.s_forZ ?_ | refine L3.s_orT ?_ | refine L3.s_mt ?_ | refine L3.s_revT ?_ | refine L3.s_revL ?_ | refine L3.s_slOwn ?_ | refine L3.s_sl3 ?_ | refine L3.s_lcO ?_ | refine L3.s_stR ?_
    | refine L3.s_dcL ?_ | refine L3.s_dcT ?_ | refine L3.s_dget ?_ | refine L3.s_forET ?_ | refine L3.s_din ?_ | refine L3.s_dnin ?_ | refine L3.s_mkKV ?_
    | refine L3.s_isN ?_ | refine L3.s_isB ?_ | refine L3.s_nisN ?_ | refine L3.s_nisB ?_
  | ((with_reducible refine' L3.s_var ?e ?_); (case e => rfl))
  | ((with_reducible refine' L3.s_aug ?e ?_); (case e => rfl))
  | ((with_reducible refine' L3.s_pow ?c ?_); (case c => exact ⟨by decide, by decide, by decide⟩)))
local macro_rules | `(tactic| tm_at "s") => `(tactic| repeat tm_at "s1")
namespace K72
open PySem PySem.NumText PySem.Spec PyProof.Rows L2 L3 LamX RZ ClX
abbrev s_Crew_even : Stmt := inClass (topS 47) 2
abbrev names_Crew_even : List Str := ["many", "speed", "name"]
theorem sc_Crew_even : FnScope ["many", "speed", "name"] ["many", "speed"] (defScope s_Crew_even) := ⟨rfl, rfl, rfl, by decide +kernel, rfl, by decide +kernel, by decide +kernel⟩
section
variable {P : Program} {w : World} {K : PySem.W.Frag} {mg : Str → Option Value} {base : Heap} {C CN CS CC CM CO CT CL aW : Addr}
theorem ok_weven {f : Addr} {fd : FuncData} (F : FunD K "even" "Crew.even" (defArgs s_Crew_even) (defBody s_Crew_even) (defScope s_Crew_even) [.int 1] [] f fd) (T : TxtW K mg C CN CS CC CM CO CL aW) (c_is_within : FnO P w K mg base CX0 2 "is_within" ["value", "least", "most"] (spWithin2 K)) (c_need_speed : FnO P w K mg base (L2.CX P w) 4 "need_speed" ["value"] (spNeedSpeed K CS)) (st_of : StM P w K mg base (L2.CX P w) 9 C "of" ["speeds"] (spCrewOf C)) (e_BadCrew : Er1 P w K mg base "BadCrew" CC "part") :
    FnOk P w K mg base (L2.CX P w) 10 f fd ["many", "speed"] (spEvenW C) := by
  refine funDO F sc_Crew_even (fun vs H Q E h => ?_) (fun cd A' fr s H vs Q E hr h => ?_)
  · obtain ⟨k, s, rfl, _⟩ := h; rfl
  · obtain ⟨m, sp, rfl, m1, m8, s1, s2, k⟩ := h
    refine ⟨_, (pss_cons (ps_if (pt_not (pt_val (pe_o c_is_within hr pass0 (pa_cons (pv 0) (pa_cons pe_int (pa_cons (C8.pe_gc (by rfl) T.g_MOST_WORKERS) pa_nil)))))) (pss_one (ps_raise1 e_BadCrew hr rfl (takes_of rfl rfl rfl rfl) (pa_cons pe_str pa_nil))) pss_nil)
      (pss_cons (ps_expr (pe_o c_need_speed hr (passT (takes_of rfl rfl rfl rfl) (fun _ _ _ _ h => h)) (pa_cons (pv 1) pa_nil)))
      (pss_one (ps_ret (pe_st st_of hr (passT (takes_of rfl rfl rfl rfl) (fun _ _ _ _ h => h)) (C8.pe_gc (by rfl) T.g_Crew) (pa_cons (pe_dc (own := [("name", 2)]) (g := gName 2) (tt := tYes) (by rfl) sc_Crew_even.nd (pi_str (pe_slice (KX.slU (K := K)) pe_str po_none (po_some (pv 0)))) (blkOk_by (own := [("name", 2)]) (N := names_Crew_even) (sc := defScope s_Crew_even) (by decide +kernel)) (fun _ _ _ _ _ => pg_name (i := 2) sc_Crew_even.nd rfl (Or.inl rfl)) (fun _ _ _ _ _ => pts_nil) (fun _ _ _ _ _ => (pv 2)) (fun _ _ _ _ _ => (pv 1))) pa_nil)))))), ?_⟩
    tm_at "s"
    refine ⟨_, _, _, rfl, .inl ⟨(m : Int), rfl, by omega, by omega, ?_⟩⟩
    tm_at "s"
    refine ⟨_, rfl, .inl ⟨sp, rfl, s1, s2, ?_⟩⟩
    tm_at "s"
    refine s_dcS ?_
    tm_at "s"
    refine s_slS (by rw [sizeLine_eq]; decide +kernel) ?_
    refine ⟨_, rfl, ?_⟩
    have eS : sgnsL (cutS "abcdefgh" none (some (m : Int))) = abc.take m := by
      have : ∀ i : Fin 9, sgnsL (cutS "abcdefgh" none (some (i.val : Int))) = abc.take i.val := by decide +kernel
      exact this ⟨m, by omega⟩
    refine dcN walkSg (fun _ _ => trivial) (fun _ => true) (fun _ => V.int sp) (by rw [eS]; exact (by decide : abc.Nodup).sublist (List.take_sublist _ _)) (by rw [eS, List.length_take]; exact Nat.lt_of_le_of_lt (Nat.min_le_right _ _) (by rw [show abc.length = 8 from rfl, sizeLine_eq]; decide)) (fun _ => rfl) (fun n H1 R hn e r => r) (fun n H1 R hn r => ?_) (fun n H1 R hn hb e r => ?_) fun D H2 nD e2 hD => ?_
    · tm_at "s"
      exact r
    · tm_at "s"
      exact r H1 (Ex.refl _)
    have h2 : H2 D = some (.dK ((evW m sp).map wI)) := by
      rw [hD, eS]
      unfold evW
      rw [List.map_map]
      congr 1
      congr 1
      rw [List.filter_eq_self.mpr (fun _ _ => rfl)]
      rfl
    try dsimp only
    tm_at "s"
    refine ⟨D, _, rfl, h2, evW_ok m1 m8 s1 s2, fun q H3 nq e3 cw => ?_⟩
    try dsimp only
    exact k q H3 (e2.trans e3) cw
end
end K72
end
section
set_option exponentiation.threshold 9000
local macro_rules | `(tactic| tm_at "s1") => `(tactic| first
  | with_reducible first
    | refine L3.s_seq ?_ | refine L3.s_asg ?_ | refine L3.s_op ?_ | refine L3.s_c ?_ | refine L3.s_cb ?_ | refine L3.s_cons ?_ | refine L3.s_nil ?_ | refine L3.s_test ?_ | refine L3.s_bl ?_
    | refine L3.s_I0 ?_ | refine L3.s_and ?_ | refine L3.s_or ?_ | refine L3.s_not ?_ | refine L3.s_if ?_ | refine L3.s_next ?_ | refine L3.s_ret ?_ | refine L3.s_retN ?_ | refine L3.s_asgS ?_ | refine L3.s_drop ?_
    | refine L3.s_un ?_ | refine L3.s_U ?_ | refine L3.s_int ?_ | refine L3.s_intB ?_ | refine L3.s_abs ?_ | refine L3.s_andV ?_ | refine L3.s_orV ?_ | refine L3.s_notV ?_ | refine L3.s_ifE ?_ | refine L3.s_call ?_ | refine L3.s_lst ?_ | refine L3.s_tup ?_ | refine L3.s_tB ?_
    | refine L3.s_addI ?_ | refine L3.s_inS ?_ | refine L3.s_ninS ?_ | refine L3.s_slice ?_ | refine L3.s_part ?_ | refine L3.s_partI ?_ | refine L3.s_nopart ?_ | refine L3.s_cI ?_ | refine L3.s_cB ?_ | refine L3.s_chain ?_ | refine L3.s_bm ?_ | refine L3.s_lcS ?_ | refine L3.s_lcR ?_ | refine L3.s_strE ?_
    | refine L2.iteT ?_ | refine L2.iteF ?_ | refine L3.iteNF ?_ | refine L3.iteNT ?_
    | refine L3.s_eqI ?_ | refine L3.s_neI ?_ | refine L3.s_eqS ?_ | refine L3.s_neS ?_
    | refine L3.s_pair ?_ | refine L3.s_pair2 ?_ | refine L3.s_fld ?_ | refine L3.s_make ?_ | refine L3.s_m1 ?_ | refine L3.s_isstr ?_
    | refine L3.s_xfV ?_ | refine L3.s_lstN ?_ | refine L3.s_callF ?_ | refine L3.s_lcL ?_ | refine L3.s_par3 ?_ | refine L3.s_trip ?_ | refine L3.s_asgT' ?_ | refine L3.s_gC ?_ | refine L3.s_gN ?_ | refine L3.s_fldG ?_ | refine L3.s_raise1 ?_ | refine L3.s_raise2 ?_ | refine L3.s_star ?_ | refine L3.s_mkCR ?_ | refine L3.s_lcZ ?_ | refine L3.s_forL ?_ | refine L3.s_forT ?_ | refine L3.s_gNm ?_ | refine L3.s_forE ?_ | refine L3.s_stC ?_ | refine L3.s_cmC ?_ | refine L3.s_forR1 ?_ | refine L3.s_lcTp ?_ | refine L3.s_forZ ?_ | refine L3.s_orT ?_ | refine L3.s_mt ?_ | refine L3.s_revT ?_ | refine L3.s_revL ?_ | refine L3.s_slOwn ?_ | refine L3.s_sl3 ?_ | refine L3.s_lcO ?_ | refine L3.s_stR ?_
    | refine L3.s_dcL ?_ | refine L3.s_dcT ?_ | refine L3.s_dget ?_ | refine L3.s_forET ?_ | refine L3.s_din ?_ | refine L3.s_dnin ?_ | refine L3.s_mkKV ?_
    | refine L3.s_isN ?_ | refine L3.s_isB ?_ | refine L3.s_nisN ?_ | refine L3.s_nisB ?_
  | ((with_reducible refine' L3.s_var ?e ?_); (case e => rfl))
  | ((with_reducible refine' L3.s_aug ?e ?_); (case e => rfl))
  | ((with_reducible refine' L3.s_pow ?c ?_); (case c => exact ⟨by decide, by decide, by decide⟩)))
local macro_rules | `(tactic| tm_at "s") => `(tactic| repeat tm_at "s1")
namespace K72
open PySem PySem.NumText PySem.Spec PyProof.Rows L2 L3 LamX RZ ClX
abbrev s_Divided___init__ : Stmt := inClass (topS 86) 0
theorem sc_Divided___init__ : FnScope ["self", "x", "y", "w"] ["self", "x", "y", "w"] (defScope s_Divided___init__) := ⟨rfl, rfl, rfl, by decide +kernel, rfl, by decide +kernel, by decide +kernel⟩
abbrev s_law : Stmt := topS 103
theorem sc_law : FnScope ["_law_script", "_law_pen_here", "_law_turn", "_law_over", "_law_batched", "_law_crew", "_law_odd", "_law_bad", "_law_paid"] ["_law_script"] (defScope s_law) := ⟨rfl, rfl, rfl, by decide +kernel, rfl, by decide +kernel, by decide +kernel⟩
def spDv (C : Addr) : Sp := fun vs H Q _ => ∃ p dx, vs = [.ref p, .int 1, .int 1, .int 2] ∧ H p = some (.ins C dx []) ∧ ∀ H' fs, (∀ c o, c ≠ p → H c = some o → H' c = some o) → H' p = some (.ins C dx fs) → Q .non H'
theorem dpAll_exN {K : PySem.W.Frag} {H H' : Hp} (e : ExtN H H') : ∀ {xs : List V} {ds : List PyData}, DpAll K H xs ds → DpAll K H' xs ds
  | [], _, .nil => .nil
  | _ :: _, _, .cons a b => .cons (L3.Dp.exN e _ _ (fun _ _ z => sqL_exN z e) (fun _ _ z => sqT_exN z e) a) (dpAll_exN e b)
theorem LD.exN {K : PySem.W.Frag} {H H' : Hp} {l : Addr} {ds : List PyData} (h : LD K H l ds) (e : ExtN H H') : LD K H' l ds := by
  obtain ⟨xs, a, b⟩ := h
  exact ⟨xs, e _ _ a (fun _ z => nomatch z), dpAll_exN e b⟩
theorem LD.ex {K : PySem.W.Frag} {H H' : Hp} {l : Addr} {ds : List PyData} (h : LD K H l ds) (e : Ex H H') : LD K H' l ds := h.exN e.n
structure Ap72 (K : PySem.W.Frag) (C CD CW CS : Addr) : Prop where
  tc : (["int", "NoneType", "bool", "str", "tuple", "list", "dict"].all fun T => decide (PySem.W.kitOne K (.type T) (.ref C) = some false)) = true
  ts : (["int", "NoneType", "bool", "str", "tuple", "list", "dict"].all fun T => decide (PySem.W.kitOne K (.type T) (.ref CS) = some false)) = true
  dc : PySem.W.kitOne K (.ref CD) (.ref C) = some false
  wc : PySem.W.kitOne K (.ref CW) (.ref C) = some false
  ws : PySem.W.kitOne K (.ref CW) (.ref CS) = some false
  bs : PySem.W.kitOne K (.ref C) (.ref CS) = some false
theorem Ap72.c {K : PySem.W.Frag} {C CD CW CS : Addr} (h : Ap72 K C CD CW CS) {T : String} (hT : T ∈ ["int", "NoneType", "bool", "str", "tuple", "list", "dict"]) : PySem.W.kitOne K (.type T) (.ref C) = some false := of_decide_eq_true (List.all_eq_true.mp h.tc T hT)
theorem Ap72.s {K : PySem.W.Frag} {C CD CW CS : Addr} (h : Ap72 K C CD CW CS) {T : String} (hT : T ∈ ["int", "NoneType", "bool", "str", "tuple", "list", "dict"]) : PySem.W.kitOne K (.type T) (.ref CS) = some false := of_decide_eq_true (List.all_eq_true.mp h.ts T hT)
def spLaw (K : PySem.W.Frag) (TT : List (Addr × Str)) : Sp := fun vs H Q _ => ∃ a ns, vs = [.ref a] ∧ SqL K H a (ns.map V.int) ∧ (ns : List Int).length ≤ 63 ∧ Tabs TT H ∧ ∀ H', Q (.bl true) H'
theorem tabs_kp {Tt : List (Addr × Str)} {H H' : Hp} {a : Addr} {n m : Nat} (t : Tabs Tt H) (pn : Pen H a n) (p : Pen H' a m) (k : ∀ b o, b ≠ a → H b = some o → H' b = some o) : Tabs Tt H' := (Wo.keep ⟨pn, t⟩ p k).tabs
theorem s_neH {K : PySem.W.Frag} {H : Hp} {Q : VK} {l l2 t : Addr} {tag pt : Str} (sh : SeqAt.shaped (.list (List.replicate 4 (.tuple [.str tag, .str pt]))) = true) (ev : PyData.eqv (.list (List.replicate 4 (.tuple [.str tag, .str pt]))) (.list (List.replicate 4 (.tuple [.str tag, .str pt]))) = true)
    (h : LD K H l (List.replicate 4 (.tuple [.str tag, .str pt]))) (h2 : H l2 = some (.lst [.ref t, .ref t, .ref t, .ref t])) (ht : H t = some (.tup [.str tag, .str pt])) (k : Q (.bl false) H) : rNeU K (.ref l) (.ref l2) H Q := by
  obtain ⟨xs, hx, dp⟩ := h
  have d1 : Dp K H (.ref t) (.tuple [.str tag, .str pt]) := .tup (.inl (.inl ht)) (.cons (.str _) (.cons (.str _) .nil))
  refine s_neD' (d := .list (List.replicate 4 (.tuple [.str tag, .str pt]))) (e := .list (List.replicate 4 (.tuple [.str tag, .str pt]))) (.lst (.inl (.inl hx)) dp) (.lst (.inl (.inl h2)) (.cons d1 (.cons d1 (.cons d1 (.cons d1 .nil))))) sh sh ?_
  rw [ev]
  exact k
theorem s_mkBt {C : Addr} {mn ov : Int} {H : Hp} {R : VK} {E : XK} (ob : OkB mn ov) (h : ∀ q H', H q = none → Ex H H' → Bt C H' q mn ov → R (.ref q) H') : ∀ p dx, H p = none → H dx = none → dx ≠ p → spBtI C (.ref p :: ([.int mn, .int ov] ++ [])) (upd (upd H dx (.own p)) p (.ins C dx [])) (fun v H2 => v = .non ∧ ap R (.ref p) H2) E :=
  fun p dx hp hd hn => ⟨p, dx, mn, ov, rfl, ob, upd_same, fun H' hk h1 => ⟨rfl, h p H' hp (fun c o e => hk c o (ne_of_none e hp) (by rw [upd_ne (ne_of_none e hp), upd_ne (ne_of_none e hd)]; exact e)) ⟨dx, h1⟩⟩⟩
theorem s_mkDv {C : Addr} {H : Hp} {R : VK} {E : XK} (h : ∀ q dx fs H', H q = none → Ex H H' → H' q = some (.ins C dx fs) → R (.ref q) H') : ∀ p dx, H p = none → H dx = none → dx ≠ p → spDv C (.ref p :: ([.int 1, .int 1, .int 2] ++ [])) (upd (upd H dx (.own p)) p (.ins C dx [])) (fun v H2 => v = .non ∧ ap R (.ref p) H2) E :=
  fun p dx hp hd hn => ⟨p, dx, rfl, upd_same, fun H' fs hk h1 => ⟨rfl, h p dx fs H' hp (fun c o e => hk c o (ne_of_none e hp) (by rw [upd_ne (ne_of_none e hp), upd_ne (ne_of_none e hd)]; exact e)) h1⟩⟩
section
variable {P : Program} {w : World} {K : PySem.W.Frag} {mg : Str → Option Value} {base : Heap} {A : LaA} {C CR CB CE CL CA CFe CD CRl : Addr}
theorem ok_initDv {f : Addr} {fd : FuncData} (F : Fun K "__init__" "Divided.__init__" s_Divided___init__ f fd) (T : TxtB1 K mg A C CR CB CE CL) (cl : Cls K CD) (g_MOST_DIVISOR : ∃ u, mg "MOST_DIVISOR" = some u ∧ RelV (.int 24) u) (g_MOST_ADDED : ∃ u, mg "MOST_ADDED" = some u ∧ RelV (.int 1000) u) (nx : NoAttr K CD "x") (ny : NoAttr K CD "y") (nw : NoAttr K CD "w") (np : NoAttr K CD "parts") (nm : NoAttr K CD "modulus") (c_is_within : FnO P w K mg base CX0 2 "is_within" ["value", "least", "most"] (spWithin2 K)) (e_BadRule : Er1 P w K mg base "BadRule" CR "part") : FnOk P w K mg base (L2.CX P w) 3 f fd ["self", "x", "y", "w"] (spDv CD) := by
  refine funO F sc_Divided___init__ (fun vs H Q E h => ?_) (fun cd A' fr s H vs Q E hr h => ?_)
  · obtain ⟨p, dx, rfl, _⟩ := h; rfl
  · obtain ⟨p, dx, rfl, hp, m⟩ := h
    refine ⟨_, (pss_cons (ps_if (pt_not (pt_val (pe_o c_is_within hr pass0 (pa_cons (pv 1) (pa_cons pe_int (pa_cons (C8.pe_gc (by rfl) g_MOST_DIVISOR) pa_nil)))))) (pss_one (ps_raise1 e_BadRule hr rfl (takes_of rfl rfl rfl rfl) (pa_cons pe_str pa_nil))) pss_nil)
      (pss_cons (ps_if (pt_not (pt_val (pe_o c_is_within hr pass0 (pa_cons (pv 2) (pa_cons (pe_un un_neg (C8.pe_gc (by rfl) g_MOST_ADDED)) (pa_cons (C8.pe_gc (by rfl) g_MOST_ADDED) pa_nil)))))) (pss_one (ps_raise1 e_BadRule hr rfl (takes_of rfl rfl rfl rfl) (pa_cons pe_str pa_nil))) pss_nil)
      (pss_cons (ps_if (pt_not (pt_val (pe_o c_is_within hr pass0 (pa_cons (pv 3) (pa_cons pe_int (pa_cons (C8.pe_gc (by rfl) g_MOST_DIVISOR) pa_nil)))))) (pss_one (ps_raise1 e_BadRule hr rfl (takes_of rfl rfl rfl rfl) (pa_cons pe_str pa_nil))) pss_nil)
      (pss_cons (ps_fld (pv 0) (pv 1) rfl)
      (pss_cons (ps_fld (pv 0) (pv 2) rfl)
      (pss_cons (ps_fld (pv 0) (pv 3) rfl)
      (pss_cons (ps_fld (pv 0) (pe_tup (pa_cons (pv 0) pa_nil)) rfl)
      (pss_one (ps_fld (pv 0) (pv 3) rfl))))))))), ?_⟩
    tm_at "s"
    refine ⟨_, _, _, rfl, .inl ⟨1, rfl, by decide, by decide, ?_⟩⟩
    try dsimp only
    tm_at "s"
    refine ⟨_, _, _, rfl, .inl ⟨1, rfl, by decide, by decide, ?_⟩⟩
    try dsimp only
    tm_at "s"
    refine ⟨_, _, _, rfl, .inl ⟨2, rfl, by decide, by decide, ?_⟩⟩
    try dsimp only
    tm_at "s"
    refine ⟨p, _, dx, _, rfl, hp, cl, nx, (by show 0 < 1000; decide), ?_⟩
    try dsimp only
    tm_at "s"
    refine ⟨p, _, dx, _, rfl, upd_same, cl, ny, (by show 1 < 1000; decide), ?_⟩
    try dsimp only
    tm_at "s"
    refine ⟨p, _, dx, _, rfl, upd_same, cl, nw, (by show 2 < 1000; decide), ?_⟩
    try dsimp only
    tm_at "s"
    refine s_new (Nat.le_of_lt (small1000 (by simp))) fun t H2 nt e2 h2 => ?_
    have h3 := e2 _ _ (upd_same (H := (upd (upd H p _) p _)) (a := p))
    try dsimp only
    tm_at "s"
    refine ⟨p, _, dx, _, rfl, h3, cl, np, (by show 3 < 1000; decide), ?_⟩
    try dsimp only
    tm_at "s"
    refine ⟨p, _, dx, _, rfl, upd_same, cl, nm, (by show 4 < 1000; decide), ?_⟩
    exact m _ _ (fun c o h1 e => by
      rw [upd_ne h1, upd_ne h1]
      exact e2 _ _ (by rw [upd_ne h1, upd_ne h1, upd_ne h1]; exact e)) upd_same
theorem ok_law {f : Addr} {fd : FuncData} (F : Fun K "law" "law" s_law f fd) {Tt : List (Addr × Str)} (TH : TxtH K mg CL CR A.cs) (TB1 : TxtB1 K mg A C CR CB CE CL) (AP : Ap72 K C CD A.cw A.st) (TD : ClT K mg "Divided" CD) (TW : ClT K mg "Crew" A.cw) (kBR : PySem.W.kitOne K (.ref C) (.ref CRl) = some false) (g_Rule : ∃ u, mg "Rule" = some u ∧ RelV (.ref CRl) u) (g_Crew : ∃ u, mg "Crew" = some u ∧ RelV (.ref A.cw) u)
    (m_Batched_2 : McO P w K mg base (L2.CX P w) 3 "Batched" C ["self", "many", "over"] (spBtI C) []) (m_Divided_3 : McO P w K mg base (L2.CX P w) 3 "Divided" CD ["self", "x", "y", "w"] (spDv CD) []) (m_Setting_4 : McO P w K mg base (L2.CX P w) 9 "Setting" A.st ["self", "crew", "least", "most", "fee"] (spSet K A.st A.cw A.ra A.cs CA CFe) [])
    (std_even2 : StD P w K mg base (L2.CX P w) 10 A.cw "even" ["many", "speed"] (spEvenW A.cw) []) (mt_with_fee : Mt P w K mg base (L2.CX P w) 11 A.st "with_fee" "self" ["fee"] (spWithFe K A.st A.cw A.ra CFe))
    (c__law_pen : Fn P w K mg base CX0 1 "_law_pen" ["_law_script"] (spPen K)) (c__law_draw : Fn P w K mg base CX0 1 "_law_draw" ["_law_pen_here", "_law_many"] spDraw) (c__law_pick : Fn P w K mg base CX0 2 "_law_pick" ["_law_pen_here", "_law_some"] spPick) (c__law_both : Fn P w K mg base CX0 14 "_law_both" ["_law_batched", "_law_setting"] (spBoth K A C CR CB CE Tt)) :
    FnG P w K mg base CX0 15 f fd ["_law_script"] (spLaw K Tt) := by
  refine funG F sc_law (fun vs H Q E h => ?_) (fun cd A' fr s H vs Q E hr hg h => ?_)
  · obtain ⟨a, ns, rfl, _⟩ := h; rfl
  · obtain ⟨a, ns, rfl, hs, hl, ht, k⟩ := h
    refine ⟨_, (pss_cons (ps_set (i := 1) sc_law.nd rfl (Or.inl rfl) (pe_f c__law_pen hr hg pass0 (pa_cons (pv 0) pa_nil)))
      (pss_cons (ps_for (passes_of rfl) rfl (pi_range1 (by rfl) TB1.b_range (pa_cons pe_int pa_nil)) (pg_name (i := 2) sc_law.nd rfl (Or.inl rfl)) (pss_cons (ps_set (i := 3) sc_law.nd rfl (Or.inl rfl) (pe_f c__law_pick hr hg pass0 (pa_cons (pv 1) (pa_cons (pe_lst (pa_cons pe_int (pa_cons pe_int (pa_cons pe_int (pa_cons pe_int (pa_cons pe_int (pa_cons pe_int pa_nil))))))) pa_nil))))
      (pss_cons (ps_set (i := 4) sc_law.nd rfl (Or.inl rfl) (pe_mko m_Batched_2 hr passF (pa_cons (pe_op opAdd pe_int (pe_f c__law_draw hr hg pass0 (pa_cons (pv 1) (pa_cons (pv 3) pa_nil)))) (pa_cons (pv 3) pa_nil))))
      (pss_cons (ps_set (i := 5) sc_law.nd rfl (Or.inl rfl) (pe_std std_even2 hr passF (C8.pe_gc (by rfl) g_Crew) (pa_cons (pe_op opAdd pe_int (pe_f c__law_draw hr hg pass0 (pa_cons (pv 1) (pa_cons pe_int pa_nil)))) (pa_cons (pe_op opAdd pe_int (pe_f c__law_draw hr hg pass0 (pa_cons (pv 1) (pa_cons pe_int pa_nil)))) pa_nil))))
      (pss_cons (ps_set (i := 6) sc_law.nd rfl (Or.inl rfl) (pe_f c__law_pick hr hg pass0 (pa_cons (pv 1) (pa_cons (pe_lst (pa_cons pe_non (pa_cons pe_int (pa_cons pe_str (pa_cons (pe_tup (pa_cons pe_int (pa_cons pe_int pa_nil))) (pa_cons (pe_mko m_Divided_3 hr passF (pa_cons pe_int (pa_cons pe_int (pa_cons pe_int pa_nil)))) (pa_cons pe_dnewK (pa_cons pe_bl (pa_cons (pv 5) pa_nil))))))))) pa_nil))))
      (pss_cons (ps_set (i := 7) sc_law.nd rfl (Or.inl rfl) (pe_f c__law_pick hr hg pass0 (pa_cons (pv 1) (pa_cons (pe_lst (pa_cons pe_non (pa_cons pe_int (pa_cons (pv 5) (pa_cons pe_str (pa_cons (pe_lst pa_nil) (pa_cons pe_dnewK (pa_cons pe_bl (pa_cons (pv 4) pa_nil))))))))) pa_nil))))
      (pss_cons (ps_set (i := 8) sc_law.nd rfl (Or.inl rfl) (pe_mko m_Setting_4 hr passF (pa_cons (pv 5) (pa_cons pe_int (pa_cons (pe_op opAdd pe_int (pe_f c__law_draw hr hg pass0 (pa_cons (pv 1) (pa_cons pe_int pa_nil)))) (pa_cons (pe_f c__law_pick hr hg pass0 (pa_cons (pv 1) (pa_cons (pe_lst (pa_cons pe_int (pa_cons pe_int (pa_cons (pe_op op_pow pe_int pe_int) pa_nil)))) pa_nil))) pa_nil))))))
      (pss_cons (ps_if (PW.pt (pw_or (pt_cmpR (KX.neU (K := K) rfl hr.units) (pe_f c__law_both hr hg pass0 (pa_cons (pv 6) (pa_cons (pv 7) pa_nil))) (pe_op opMul (pe_lst (pa_cons (pe_tup (pa_cons pe_str (pa_cons pe_str pa_nil))) pa_nil)) pe_int) (nomark _)) (pw_or1 (pt_cmpR (KX.neU (K := K) rfl hr.units) (pe_f c__law_both hr hg pass0 (pa_cons (pv 6) (pa_cons (pv 8) pa_nil))) (pe_op opMul (pe_lst (pa_cons (pe_tup (pa_cons pe_str (pa_cons pe_str pa_nil))) pa_nil)) pe_int) (nomark _))))) (pss_one (ps_ret pe_bl)) pss_nil)
      (pss_cons (ps_if (PW.pt (pw_or (pt_cmpR (KX.neU (K := K) rfl hr.units) (pe_f c__law_both hr hg pass0 (pa_cons (pv 4) (pa_cons (pv 7) pa_nil))) (pe_op opMul (pe_lst (pa_cons (pe_tup (pa_cons pe_str (pa_cons pe_str pa_nil))) pa_nil)) pe_int) (nomark _)) (pw_or1 (pt_cmpR (KX.neU (K := K) rfl hr.units) (pe_f c__law_both hr hg pass0 (pa_cons (pv 4) (pa_cons (pv 8) pa_nil))) (pe_op opMul (pe_lst (pa_cons (pe_tup (pa_cons pe_str (pa_cons pe_str pa_nil))) pa_nil)) pe_int) (nomark _))))) (pss_one (ps_ret pe_bl)) pss_nil)
      (pss_one (ps_if (PW.pt (pw_or (pt_cmpR (KX.neU (K := K) rfl hr.units) (pe_f c__law_both hr hg pass0 (pa_cons (pv 4) (pa_cons (pe_mt mt_with_fee hr passF (pv 8) (pa_cons pe_int pa_nil)) pa_nil))) (pe_op opMul (pe_lst (pa_cons pe_str pa_nil)) pe_int) (nomark _)) (pw_or1 (pt_val (pe_callB (KX.callIsi (K := K)) (by rfl) TH.b_isinstance (by decide +kernel) (pa_cons (pv 4) (pa_cons (C8.pe_gc (by rfl) g_Rule) pa_nil))))))) (pss_one (ps_ret pe_bl)) pss_nil)))))))))))
      (pss_one (ps_ret pe_bl)))), ?_⟩
    tm_at "s"
    refine ⟨a, ns, rfl, hs, hl, fun p H1 hp e1 p1 => ?_⟩
    try dsimp only
    tm_at "s"
    refine ⟨by decide, by decide, ?_⟩
    refine forRg (n := 8) (fun i σ H' => (∃ v2 v3 v4 v5 v6 v7 v8, σ = [some (.ref a), some (.ref p), v2, v3, v4, v5, v6, v7, v8]) ∧ ∃ m', m' ≤ 20 * i ∧ Pen H' p m' ∧ Tabs Tt H') ⟨⟨_, _, _, _, _, _, _, rfl⟩, 0, by omega, p1, ht.ext e1⟩ ?_ ?_
    · rintro i _ H2 hi ⟨⟨v2, v3, v4, v5, v6, v7, v8, rfl⟩, m', hm', p2, t2⟩
      refine s_gNm ?_
      try dsimp only
      tm_at "s"
      refine s_new (Nat.le_of_lt (small1000 (by simp))) fun l3 H3 n3 e3 h3 => ?_
      try dsimp only
      tm_at "s"
      refine ⟨p, l3, m', _, rfl, h3, (fun z => by cases z), (show 6 ≤ 100000 by decide), p2.ex e3, by unfold lim; omega, fun v H4 hv p4 k4 => ?_⟩
      obtain ⟨ov, rfl, o1, o12⟩ : ∃ ov, v = V.int ov ∧ 1 ≤ ov ∧ ov ≤ 12 := by
        simp only [List.mem_cons, List.not_mem_nil, or_false] at hv
        rcases hv with rfl | rfl | rfl | rfl | rfl | rfl
        · exact ⟨1, rfl, by decide, by decide⟩
        · exact ⟨2, rfl, by decide, by decide⟩
        · exact ⟨3, rfl, by decide, by decide⟩
        · exact ⟨5, rfl, by decide, by decide⟩
        · exact ⟨8, rfl, by decide, by decide⟩
        · exact ⟨12, rfl, by decide, by decide⟩
      have t4 := tabs_kp (t2.ext e3) (p2.ex e3) p4 k4
      clear k4 t2 p2 h3 e3 hv
      try dsimp only
      tm_at "s"
      refine ⟨p, m' + 1, ov, rfl, by omega, many_ok (by omega) (by omega), p4, by unfold lim; omega, fun d H5 d0 d1 p5 k5 => ?_⟩
      have t5 := tabs_kp t4 p4 p5 k5
      try dsimp only
      tm_at "s"
      refine s_mkBt (mn := 1 + d) (ov := ov) ⟨by omega, by omega, by omega⟩ fun pb H6 n6 e6 bt => ?_
      try dsimp only
      tm_at "s"
      unfold tStD
      tm_at "s"
      refine ⟨rfl, ?_⟩
      tm_at "s"
      refine ⟨p, m' + 1 + 1, 8, rfl, by decide, by decide, p5.ex e6, by unfold lim; omega, fun d' H7 d0' d1' p7 k7 => ?_⟩
      have t7 := tabs_kp (t5.ext e6) (p5.ex e6) p7 k7
      have noI : ∀ {C dx : Addr} {fs : List (Str × V)} c n, HO.ins C dx fs ≠ PenO p c n := fun c n z => by unfold PenO at z; cases z
      have bt7 : Bt C H7 pb (1 + d) ov := let ⟨dx, h⟩ := bt; ⟨dx, k7 _ _ ((p5.ex e6).ne h noI) h⟩
      clear bt k7 k5 t4 t5 p5 p4 e6
      try dsimp only
      tm_at "s"
      refine ⟨p, m' + 1 + 1 + 1, 60, rfl, by decide, many_ok (by decide) (by decide), p7, by unfold lim; omega, fun d2 H8 d20 d21 p8 k8 => ?_⟩
      have t8 := tabs_kp t7 p7 p8 k8
      have bt8 : Bt C H8 pb (1 + d) ov := let ⟨dx, h⟩ := bt7; ⟨dx, k8 _ _ (p7.ne h noI) h⟩
      clear bt7 k8 t7 p7
      obtain ⟨kk, hkk⟩ : ∃ kk : Nat, 1 + d' = (kk : Int) := ⟨(1 + d').toNat, by omega⟩
      rw [hkk]
      try dsimp only
      tm_at "s"
      refine ⟨kk, 1 + d2, rfl, by omega, by omega, by omega, by omega, fun pc H9 e9 cw => ?_⟩
      have okU : OkW (srtW (evW kk (1 + d2))) := (evW_ok (by omega) (by omega) (by omega) (by omega)).srt
      generalize srtW (evW kk (1 + d2)) = U at cw okU
      try dsimp only
      tm_at "s"
      refine s_new (Nat.le_of_lt (small1000 (by simp))) fun t10 H10 n10 e10 h10 => ?_
      try dsimp only
      tm_at "s"
      refine s_mkDv fun qd dd fd H11 n11 e11 hd11 => ?_
      try dsimp only
      tm_at "s"
      refine s_dnew fun dd0 H12 n12 e12 h12 => ?_
      try dsimp only
      tm_at "s"
      refine s_new (by rw [sizeLine_eq]; show 8 ≤ _; decide) fun l13 H13 n13 e13 h13 => ?_
      try dsimp only
      tm_at "s"
      have e813 := e9.trans (e10.trans (e11.trans (e12.trans e13)))
      have p13 := p8.ex e813
      refine ⟨p, l13, m' + 1 + 1 + 1 + 1, _, rfl, h13, (fun z => by cases z), (show 8 ≤ 100000 by decide), p13, by unfold lim; omega, fun odd H14 hod p14 k14 => ?_⟩
      have kx : ∀ {c : Addr} {o : HO}, H13 c = some o → (∀ c' n, o ≠ PenO p c' n) → H14 c = some o := fun h d => k14 _ _ (p13.ne h d) h
      have noT : ∀ {xs : List V} c n, HO.tup xs ≠ PenO p c n := fun c n z => by unfold PenO at z; cases z
      have noD : ∀ {xs : List (Key × V)} c n, HO.dK xs ≠ PenO p c n := fun c n z => by unfold PenO at z; cases z
      have t14 := tabs_kp (t8.ext e813) p13 p14 k14
      have bt14 : Bt C H14 pb (1 + d) ov := let ⟨dx, h⟩ := bt8; ⟨dx, kx (e813 _ _ h) noI⟩
      have cw14 : Cw A.cw H14 pc U := cw_kp (cw.ex (e10.trans (e11.trans (e12.trans e13)))) p13 (KpN.of k14)
      have nc1 : ∀ {H' : Hp}, (∀ c o, c ≠ p → H14 c = some o → H' c = some o) → NC K H' (.ref C) odd := fun {H'} hk => by
        have kl : ∀ {c : Addr} {o : HO}, H14 c = some o → (∀ c' n, o ≠ PenO p c' n) → H' c = some o := fun h d => hk _ _ (p14.ne h d) h
        simp only [List.mem_cons, List.not_mem_nil, or_false] at hod
        rcases hod with rfl | rfl | rfl | rfl | rfl | rfl | rfl | rfl
        · exact ⟨_, .x (.base .non), AP.c (by decide)⟩
        · exact ⟨_, .x (.base (.int 0)), AP.c (by decide)⟩
        · exact ⟨_, .x (.base (.str _)), AP.c (by decide)⟩
        · exact ⟨_, .x (.base (.tup (kl (kx ((e11.trans (e12.trans e13)) _ _ h10) noT) noT))), AP.c (by decide)⟩
        · exact ⟨_, TD.ty (kl (kx ((e12.trans e13) _ _ hd11) noI) noI), AP.dc⟩
        · exact ⟨_, .x (.base (.dK (kl (kx (e13 _ _ h12) noD) noD))), AP.c (by decide)⟩
        · exact ⟨_, .x (.base (.bl true)), AP.c (by decide)⟩
        · obtain ⟨dw, _, _, w1, _, _⟩ := id cw14
          exact ⟨_, TW.ty (kl w1 noI), AP.wc⟩
      clear e813 e9 e10 e11 e12 e13 p13 t8 kx k14 bt8 cw h10 hd11 h12 h13 hod n10 n11 n12 n13 p8
      try dsimp only
      tm_at "s"
      refine s_new (Nat.le_of_lt (small1000 (by simp))) fun l15 H15 n15 e15 h15 => ?_
      try dsimp only
      tm_at "s"
      refine s_dnew fun d16 H16 n16 e16 h16 => ?_
      try dsimp only
      tm_at "s"
      refine s_new (by rw [sizeLine_eq]; show 8 ≤ _; decide) fun l17 H17 n17 e17 h17 => ?_
      try dsimp only
      tm_at "s"
      have e1417 := e15.trans (e16.trans e17)
      have p17 := p14.ex e1417
      refine ⟨p, l17, m' + 1 + 1 + 1 + 1 + 1, _, rfl, h17, (fun z => by cases z), (show 8 ≤ 100000 by decide), p17, by unfold lim; omega, fun bad H18 hbd p18 k18 => ?_⟩
      have kx : ∀ {c : Addr} {o : HO}, H17 c = some o → (∀ c' n, o ≠ PenO p c' n) → H18 c = some o := fun h d => k18 _ _ (p17.ne h d) h
      have t18 := tabs_kp (t14.ext e1417) p17 p18 k18
      have bt18 : Bt C H18 pb (1 + d) ov := let ⟨dx, h⟩ := bt14; ⟨dx, kx (e1417 _ _ h) noI⟩
      have cw18 : Cw A.cw H18 pc U := cw_kp (cw14.ex e1417) p17 (KpN.of k18)
      have h15' := (e16.trans e17) _ _ h15
      have nl15 : H18 l15 = some (.lst []) := lst_kp h15' p17 (KpN.of k18)
      have k1418 : ∀ c o, c ≠ p → H14 c = some o → H18 c = some o := fun c o hc h => k18 c o hc (e1417 _ _ h)
      have nc2 : ∀ {H' : Hp}, (∀ c o, c ≠ p → H18 c = some o → H' c = some o) → NC K H' (.ref A.st) bad := fun {H'} hk => by
        have kl : ∀ {c : Addr} {o : HO}, H18 c = some o → (∀ c' n, o ≠ PenO p c' n) → H' c = some o := fun h d => hk _ _ (p18.ne h d) h
        simp only [List.mem_cons, List.not_mem_nil, or_false] at hbd
        rcases hbd with rfl | rfl | rfl | rfl | rfl | rfl | rfl | rfl
        · exact ⟨_, .x (.base .non), AP.s (by decide)⟩
        · exact ⟨_, .x (.base (.int 0)), AP.s (by decide)⟩
        · obtain ⟨dw, _, _, w1, _, _⟩ := id cw18
          exact ⟨_, TW.ty (kl w1 noI), AP.ws⟩
        · exact ⟨_, .x (.base (.str _)), AP.s (by decide)⟩
        · exact ⟨_, .x (.base (.lst (lst_kp nl15 p18 (KpN.of hk)))), AP.s (by decide)⟩
        · exact ⟨_, .x (.base (.dK (kl (kx (e17 _ _ h16) noD) noD))), AP.s (by decide)⟩
        · exact ⟨_, .x (.base (.bl true)), AP.s (by decide)⟩
        · obtain ⟨dx, hb⟩ := id bt18
          exact ⟨_, TB1.c.ty (kl hb noI), AP.bs⟩
      try dsimp only
      tm_at "s"
      refine ⟨p, m' + 1 + 1 + 1 + 1 + 1 + 1, 60, rfl, by decide, many_ok (by decide) (by decide), p18, by unfold lim; omega, fun d3 H19 d30 d31 p19 k19 => ?_⟩
      try dsimp only
      tm_at "s"
      refine s_new (Nat.le_of_lt (small1000 (by simp))) fun l20 H20 n20 e20 h20 => ?_
      try dsimp only
      tm_at "s"
      refine ⟨p, l20, m' + 1 + 1 + 1 + 1 + 1 + 1 + 1, _, rfl, h20, (fun z => by cases z), (show 3 ≤ 100000 by decide), p19.ex e20, by unfold lim; omega, fun v H21 hv p21 k21 => ?_⟩
      obtain ⟨fe, rfl, f1, f30⟩ : ∃ fe, v = V.int fe ∧ 1 ≤ fe ∧ fe ≤ 10 ^ 30 := by
        simp only [List.mem_cons, List.not_mem_nil, or_false] at hv
        rcases hv with rfl | rfl | rfl
        · exact ⟨1, rfl, by decide, by decide +kernel⟩
        · exact ⟨2, rfl, by decide, by decide +kernel⟩
        · exact ⟨_, rfl, by decide +kernel, Int.le_refl _⟩
      have k1821 : ∀ c o, c ≠ p → H18 c = some o → H21 c = some o := fun c o hc h => k21 c o hc (e20 _ _ (k19 c o hc h))
      have t21 := tabs_kp t18 p18 p21 k1821
      have bt21 : Bt C H21 pb (1 + d) ov := let ⟨dx, h⟩ := bt18; ⟨dx, k1821 _ _ (p18.ne h noI) h⟩
      have cw21 : Cw A.cw H21 pc U := cw_kp cw18 p18 (KpN.of k1821)
      have q1 : NC K H21 (.ref C) odd := nc1 fun c o hc h => k1821 c o hc (k1418 c o hc h)
      have q2 : NC K H21 (.ref A.st) bad := nc2 k1821
      have ob : OkB (1 + d) ov := ⟨by omega, by omega, by omega⟩
      clear nc1 nc2 k1821 k1418 t18 bt18 cw18 hv k21 k19 e20 h20 kx nl15 h15' e1417 p17 e15 e16 e17 h15 h16 h17 hbd k18 p18 p19 t14 bt14 cw14 p14
      try dsimp only
      tm_at "s"
      refine s_mkSt cw21 okU (a := 1) (b := 1 + d3) (f := fe) ⟨by decide, by omega, by omega, by omega, f30⟩ fun so H22 n22 e22 st => ?_
      try dsimp only
      tm_at "s"
      have okS : OkS 1 (1 + d3) 0 := ⟨by decide, by omega, by omega, by decide, by decide +kernel⟩
      have q1 := q1.exN e22.n
      have q2 := q2.exN e22.n
      have bt := bt21.ex e22
      have t22 := t21.ext e22
      have p22 := p21.ex e22
      refine ⟨odd, bad, rfl, t22, .inl ⟨CR, "rule", "batched", .inl ⟨q1, rfl, rfl, rfl⟩, fun lA HA eA tbA ldA => ?_⟩⟩
      try dsimp only
      tm_at "s"
      refine s_new (Nat.le_of_lt (small1000 (by simp))) fun uA UA nuA euA huA => ?_
      try dsimp only
      tm_at "s"
      refine s_new (Nat.le_of_lt (small1000 (by simp))) fun lA LA nlA elA hlA => ?_
      try dsimp only
      tm_at "s"
      refine s_rep hlA (by decide) (by decide) (show 1 ≤ 1000 by decide) fun mA MA nmA emA hmA => ?_
      have hmA : MA mA = some (.lst [.ref uA, .ref uA, .ref uA, .ref uA]) := hmA
      try dsimp only
      tm_at "s"
      refine s_neH (tag := "rule") (pt := "batched") (by decide +kernel) (by decide +kernel) (ldA.ex (euA.trans (elA.trans emA))) hmA ((elA.trans emA) _ _ huA) ?_
      have xA : ExtN H22 MA := eA.trans (euA.trans (elA.trans emA)).n
      have tA := tbA.ext (euA.trans (elA.trans emA))
      refine ⟨_, rfl, ?_⟩
      refine iteF ?_
      try dsimp only
      tm_at "s"
      refine ⟨odd, .ref so, rfl, tA, .inl ⟨CR, "rule", "batched", .inl ⟨q1.exN xA, rfl, rfl, rfl⟩, fun lB HB eB tbB ldB => ?_⟩⟩
      try dsimp only
      tm_at "s"
      refine s_new (Nat.le_of_lt (small1000 (by simp))) fun uB UB nuB euB huB => ?_
      try dsimp only
      tm_at "s"
      refine s_new (Nat.le_of_lt (small1000 (by simp))) fun lB LB nlB elB hlB => ?_
      try dsimp only
      tm_at "s"
      refine s_rep hlB (by decide) (by decide) (show 1 ≤ 1000 by decide) fun mB MB nmB emB hmB => ?_
      have hmB : MB mB = some (.lst [.ref uB, .ref uB, .ref uB, .ref uB]) := hmB
      try dsimp only
      tm_at "s"
      refine s_neH (tag := "rule") (pt := "batched") (by decide +kernel) (by decide +kernel) (ldB.ex (euB.trans (elB.trans emB))) hmB ((elB.trans emB) _ _ huB) ?_
      have xB : ExtN H22 MB := xA.trans (eB.trans (euB.trans (elB.trans emB)).n)
      have tB := tbB.ext (euB.trans (elB.trans emB))
      refine ⟨_, rfl, ?_⟩
      refine iteF ?_
      try dsimp only
      tm_at "s"
      refine ⟨.ref pb, bad, rfl, tB, .inl ⟨A.cs, "setting", "setting", .inr ⟨pb, 1 + d, ov, rfl, bt.exN xB, .inl ⟨q2.exN xB, rfl, rfl, rfl⟩⟩, fun lC HC eC tbC ldC => ?_⟩⟩
      try dsimp only
      tm_at "s"
      refine s_new (Nat.le_of_lt (small1000 (by simp))) fun uC UC nuC euC huC => ?_
      try dsimp only
      tm_at "s"
      refine s_new (Nat.le_of_lt (small1000 (by simp))) fun lC LC nlC elC hlC => ?_
      try dsimp only
      tm_at "s"
      refine s_rep hlC (by decide) (by decide) (show 1 ≤ 1000 by decide) fun mC MC nmC emC hmC => ?_
      have hmC : MC mC = some (.lst [.ref uC, .ref uC, .ref uC, .ref uC]) := hmC
      try dsimp only
      tm_at "s"
      refine s_neH (tag := "setting") (pt := "setting") (by decide +kernel) (by decide +kernel) (ldC.ex (euC.trans (elC.trans emC))) hmC ((elC.trans emC) _ _ huC) ?_
      have xC : ExtN H22 MC := xB.trans (eC.trans (euC.trans (elC.trans emC)).n)
      have tC := tbC.ext (euC.trans (elC.trans emC))
      refine ⟨_, rfl, ?_⟩
      refine iteF ?_
      try dsimp only
      tm_at "s"
      refine ⟨.ref pb, .ref so, rfl, tC, .inl ⟨A.cs, "setting", "fee", .inr ⟨pb, 1 + d, ov, rfl, bt.exN xC, .inr ⟨so, U, 1, 1 + d3, fe, rfl, st.exN xC, by omega, rfl, rfl, rfl⟩⟩, fun lD HD eD tbD ldD => ?_⟩⟩
      try dsimp only
      tm_at "s"
      refine s_new (Nat.le_of_lt (small1000 (by simp))) fun uD UD nuD euD huD => ?_
      try dsimp only
      tm_at "s"
      refine s_new (Nat.le_of_lt (small1000 (by simp))) fun lD LD nlD elD hlD => ?_
      try dsimp only
      tm_at "s"
      refine s_rep hlD (by decide) (by decide) (show 1 ≤ 1000 by decide) fun mD MD nmD emD hmD => ?_
      have hmD : MD mD = some (.lst [.ref uD, .ref uD, .ref uD, .ref uD]) := hmD
      try dsimp only
      tm_at "s"
      refine s_neH (tag := "setting") (pt := "fee") (by decide +kernel) (by decide +kernel) (ldD.ex (euD.trans (elD.trans emD))) hmD ((elD.trans emD) _ _ huD) ?_
      have xD : ExtN H22 MD := xC.trans (eD.trans (euD.trans (elD.trans emD)).n)
      have tD := tbD.ext (euD.trans (elD.trans emD))
      refine ⟨_, rfl, ?_⟩
      refine iteF ?_
      try dsimp only
      tm_at "s"
      have stD := st.exN xD
      obtain ⟨dS, _, _, iS, _, _⟩ := id stD
      refine ⟨so, dS, _, rfl, iS, rfl, ?_⟩
      try dsimp only
      tm_at "s"
      refine ⟨so, .int 0, U, 1, 1 + d3, fe, rfl, stD, okU, ⟨by decide, by omega, by omega, by omega, f30⟩, .inr ⟨0, rfl, by decide, by decide +kernel, fun s2 HE nE eE st2 => ?_⟩⟩
      try dsimp only
      tm_at "s"
      refine ⟨.ref pb, .ref s2, rfl, tD.ext eE, .inr ⟨pb, 1 + d, ov, s2, U, 1, 1 + d3, rfl, bt.exN (xD.trans eE.n), ob, rfl, st2, okU, okS, fun lF HF eF tbF ldF => ?_⟩⟩
      try dsimp only
      tm_at "s"
      refine s_new (Nat.le_of_lt (small1000 (by simp))) fun lG LG nlG elG hlG => ?_
      try dsimp only
      tm_at "s"
      refine s_rep hlG (by decide) (by decide) (show 1 ≤ 1000 by decide) fun mG MG nmG emG hmG => ?_
      have hmG : MG mG = some (.lst [.str "told", .str "told", .str "told", .str "told"]) := hmG
      try dsimp only
      tm_at "s"
      refine s_neD' (d := .list (List.replicate 4 (.str "told"))) (e := .list (List.replicate 4 (.str "told"))) (let ⟨xs, h1, h2⟩ := ldF.ex (elG.trans emG); .lst (.inl (.inl h1)) h2) (.lst (.inl (.inl hmG)) (.cons (.str _) (.cons (.str _) (.cons (.str _) (.cons (.str _) .nil))))) (by decide +kernel) (by decide +kernel) ?_
      rw [show PyData.eqv (.list (List.replicate 4 (.str "told"))) (.list (List.replicate 4 (.str "told"))) = true by decide +kernel]
      have xG : ExtN H22 MG := xD.trans (eE.n.trans (eF.trans (elG.trans emG).n))
      have tG := tbF.ext (elG.trans emG)
      refine ⟨_, rfl, ?_⟩
      refine iteF ?_
      try dsimp only
      tm_at "s"
      obtain ⟨dB, iB⟩ := bt.exN xG
      refine s_isiC (TB1.c.ty iB) kBR ?_
      try dsimp only
      tm_at "s"
      exact ⟨⟨_, _, _, _, _, _, _, rfl⟩, m' + 1 + 1 + 1 + 1 + 1 + 1 + 1 + 1, by omega, p22.exN xG, tG⟩
    · rintro _ H2 ⟨⟨v2, v3, v4, v5, v6, v7, v8, rfl⟩, m', hm', p2, t2⟩
      try dsimp only
      tm_at "s"
      exact k H2
end
end K72
end
section
namespace K72
open PySem PySem.Spec PyProof.Rows L2 L3 LamX
abbrev s_BadSize___init__ : Stmt := inClass (topS 13) 0
theorem ns_BadSize : NdefX.NScope ["self", "value", "__class__"] ["self", "value"] ["__class__"] (defScope s_BadSize___init__) := NdefX.nscope_by (by decide +kernel)
theorem ok_BadSize {P : Program} {w : World} {K : PySem.W.Frag} {mg : Str → Option Value} {base : Heap} {C f cda cc : Addr} {kV doc pm ct oc : Value} {an od : Option Addr} {osl : Array (Option Value)}
    (lk : K.lookup f = some ⟨oc, od, .func (PySem.W.fnX "__init__" "BadSize.__init__" (defArgs s_BadSize___init__) (defBody s_BadSize___init__) (defScope s_BadSize___init__) [("__class__", cc)] .none kV doc pm an (.ref cda) ct), osl⟩) (hcd : PySem.W.codeIn K (.ref cda) "BadSize.__init__" = true)
    (T : SupF P K mg C f cda cc (defScope s_BadSize___init__)) (n1 : PySem.W.findIn K (.ref C) "value" = some none) :
    FnOk P w K mg base CX0 1 f (PySem.W.fnX "__init__" "BadSize.__init__" (defArgs s_BadSize___init__) (defBody s_BadSize___init__) (defScope s_BadSize___init__) [("__class__", cc)] .none kV doc pm an (.ref cda) ct) ["self", "value"] (spErr1 C "value") :=
  okErr1 (g1 := "value") (x := "value") rfl lk hcd T ns_BadSize rfl rfl (fun env _ => ⟨_, rfl⟩) (by decide) (by decide) n1 (fun env _ => rfl)
abbrev s_BadChunks___init__ : Stmt := inClass (topS 20) 0
theorem ns_BadChunks : NdefX.NScope ["self", "part", "__class__"] ["self", "part"] ["__class__"] (defScope s_BadChunks___init__) := NdefX.nscope_by (by decide +kernel)
theorem ok_BadChunks {P : Program} {w : World} {K : PySem.W.Frag} {mg : Str → Option Value} {base : Heap} {C f cda cc : Addr} {kV doc pm ct oc : Value} {an od : Option Addr} {osl : Array (Option Value)}
    (lk : K.lookup f = some ⟨oc, od, .func (PySem.W.fnX "__init__" "BadChunks.__init__" (defArgs s_BadChunks___init__) (defBody s_BadChunks___init__) (defScope s_BadChunks___init__) [("__class__", cc)] .none kV doc pm an (.ref cda) ct), osl⟩) (hcd : PySem.W.codeIn K (.ref cda) "BadChunks.__init__" = true)
    (T : SupF P K mg C f cda cc (defScope s_BadChunks___init__)) (n1 : PySem.W.findIn K (.ref C) "part" = some none) :
    FnOk P w K mg base CX0 1 f (PySem.W.fnX "__init__" "BadChunks.__init__" (defArgs s_BadChunks___init__) (defBody s_BadChunks___init__) (defScope s_BadChunks___init__) [("__class__", cc)] .none kV doc pm an (.ref cda) ct) ["self", "part"] (spErr1 C "part") :=
  okErr1 (g1 := "part") (x := "part") rfl lk hcd T ns_BadChunks rfl rfl (fun env _ => ⟨_, rfl⟩) (by decide) (by decide) n1 (fun env _ => rfl)
abbrev s_TooMany___init__ : Stmt := inClass (topS 26) 0
theorem ns_TooMany : NdefX.NScope ["self", "what", "most", "__class__"] ["self", "what", "most"] ["__class__"] (defScope s_TooMany___init__) := NdefX.nscope_by (by decide +kernel)
theorem ok_TooMany {P : Program} {w : World} {K : PySem.W.Frag} {mg : Str → Option Value} {base : Heap} {C f cda cc : Addr} {kV doc pm ct oc : Value} {an od : Option Addr} {osl : Array (Option Value)}
    (lk : K.lookup f = some ⟨oc, od, .func (PySem.W.fnX "__init__" "TooMany.__init__" (defArgs s_TooMany___init__) (defBody s_TooMany___init__) (defScope s_TooMany___init__) [("__class__", cc)] .none kV doc pm an (.ref cda) ct), osl⟩) (hcd : PySem.W.codeIn K (.ref cda) "TooMany.__init__" = true)
    (T : SupF P K mg C f cda cc (defScope s_TooMany___init__)) (n1 : PySem.W.findIn K (.ref C) "what" = some none) (n2 : PySem.W.findIn K (.ref C) "most" = some none) :
    FnOk P w K mg base CX0 1 f (PySem.W.fnX "__init__" "TooMany.__init__" (defArgs s_TooMany___init__) (defBody s_TooMany___init__) (defScope s_TooMany___init__) [("__class__", cc)] .none kV doc pm an (.ref cda) ct) ["self", "what", "most"] (spErr2 C "what" "most") :=
  okErr2 (g1 := "what") (g2 := "most") (x := "what") (y := "most") rfl lk hcd T ns_TooMany rfl rfl (fun env _ => ⟨_, rfl⟩) (by decide) (by decide) (by decide) (by decide) n1 n2 (fun env _ => rfl) (fun env _ => rfl)
abbrev s_BadName___init__ : Stmt := inClass (topS 12) 0
theorem ns_BadName : NdefX.NScope ["self", "value", "__class__"] ["self", "value"] ["__class__"] (defScope s_BadName___init__) := NdefX.nscope_by (by decide +kernel)
theorem ok_BadName {P : Program} {w : World} {K : PySem.W.Frag} {mg : Str → Option Value} {base : Heap} {C f cda cc : Addr} {kV doc pm ct oc : Value} {an od : Option Addr} {osl : Array (Option Value)}
    (lk : K.lookup f = some ⟨oc, od, .func (PySem.W.fnX "__init__" "BadName.__init__" (defArgs s_BadName___init__) (defBody s_BadName___init__) (defScope s_BadName___init__) [("__class__", cc)] .none kV doc pm an (.ref cda) ct), osl⟩) (hcd : PySem.W.codeIn K (.ref cda) "BadName.__init__" = true)
    (T : SupF P K mg C f cda cc (defScope s_BadName___init__)) (n1 : PySem.W.findIn K (.ref C) "value" = some none) :
    FnOk P w K mg base CX0 1 f (PySem.W.fnX "__init__" "BadName.__init__" (defArgs s_BadName___init__) (defBody s_BadName___init__) (defScope s_BadName___init__) [("__class__", cc)] .none kV doc pm an (.ref cda) ct) ["self", "value"] (spErr1 C "value") :=
  okErr1 (g1 := "value") (x := "value") rfl lk hcd T ns_BadName rfl rfl (fun env _ => ⟨_, rfl⟩) (by decide) (by decide) n1 (fun env _ => rfl)
abbrev s_BadSpeed___init__ : Stmt := inClass (topS 14) 0
theorem ns_BadSpeed : NdefX.NScope ["self", "value", "__class__"] ["self", "value"] ["__class__"] (defScope s_BadSpeed___init__) := NdefX.nscope_by (by decide +kernel)
theorem ok_BadSpeed {P : Program} {w : World} {K : PySem.W.Frag} {mg : Str → Option Value} {base : Heap} {C f cda cc : Addr} {kV doc pm ct oc : Value} {an od : Option Addr} {osl : Array (Option Value)}
    (lk : K.lookup f = some ⟨oc, od, .func (PySem.W.fnX "__init__" "BadSpeed.__init__" (defArgs s_BadSpeed___init__) (defBody s_BadSpeed___init__) (defScope s_BadSpeed___init__) [("__class__", cc)] .none kV doc pm an (.ref cda) ct), osl⟩) (hcd : PySem.W.codeIn K (.ref cda) "BadSpeed.__init__" = true)
    (T : SupF P K mg C f cda cc (defScope s_BadSpeed___init__)) (n1 : PySem.W.findIn K (.ref C) "value" = some none) :
    FnOk P w K mg base CX0 1 f (PySem.W.fnX "__init__" "BadSpeed.__init__" (defArgs s_BadSpeed___init__) (defBody s_BadSpeed___init__) (defScope s_BadSpeed___init__) [("__class__", cc)] .none kV doc pm an (.ref cda) ct) ["self", "value"] (spErr1 C "value") :=
  okErr1 (g1 := "value") (x := "value") rfl lk hcd T ns_BadSpeed rfl rfl (fun env _ => ⟨_, rfl⟩) (by decide) (by decide) n1 (fun env _ => rfl)
abbrev s_BadCrew___init__ : Stmt := inClass (topS 21) 0
theorem ns_BadCrew : NdefX.NScope ["self", "part", "__class__"] ["self", "part"] ["__class__"] (defScope s_BadCrew___init__) := NdefX.nscope_by (by decide +kernel)
theorem ok_BadCrew {P : Program} {w : World} {K : PySem.W.Frag} {mg : Str → Option Value} {base : Heap} {C f cda cc : Addr} {kV doc pm ct oc : Value} {an od : Option Addr} {osl : Array (Option Value)}
    (lk : K.lookup f = some ⟨oc, od, .func (PySem.W.fnX "__init__" "BadCrew.__init__" (defArgs s_BadCrew___init__) (defBody s_BadCrew___init__) (defScope s_BadCrew___init__) [("__class__", cc)] .none kV doc pm an (.ref cda) ct), osl⟩) (hcd : PySem.W.codeIn K (.ref cda) "BadCrew.__init__" = true)
    (T : SupF P K mg C f cda cc (defScope s_BadCrew___init__)) (n1 : PySem.W.findIn K (.ref C) "part" = some none) :
    FnOk P w K mg base CX0 1 f (PySem.W.fnX "__init__" "BadCrew.__init__" (defArgs s_BadCrew___init__) (defBody s_BadCrew___init__) (defScope s_BadCrew___init__) [("__class__", cc)] .none kV doc pm an (.ref cda) ct) ["self", "part"] (spErr1 C "part") :=
  okErr1 (g1 := "part") (x := "part") rfl lk hcd T ns_BadCrew rfl rfl (fun env _ => ⟨_, rfl⟩) (by decide) (by decide) n1 (fun env _ => rfl)
abbrev s_NoWorker___init__ : Stmt := inClass (topS 25) 0
theorem ns_NoWorker : NdefX.NScope ["self", "name", "__class__"] ["self", "name"] ["__class__"] (defScope s_NoWorker___init__) := NdefX.nscope_by (by decide +kernel)
theorem ok_NoWorker {P : Program} {w : World} {K : PySem.W.Frag} {mg : Str → Option Value} {base : Heap} {C f cda cc : Addr} {kV doc pm ct oc : Value} {an od : Option Addr} {osl : Array (Option Value)}
    (lk : K.lookup f = some ⟨oc, od, .func (PySem.W.fnX "__init__" "NoWorker.__init__" (defArgs s_NoWorker___init__) (defBody s_NoWorker___init__) (defScope s_NoWorker___init__) [("__class__", cc)] .none kV doc pm an (.ref cda) ct), osl⟩) (hcd : PySem.W.codeIn K (.ref cda) "NoWorker.__init__" = true)
    (T : SupF P K mg C f cda cc (defScope s_NoWorker___init__)) (n1 : PySem.W.findIn K (.ref C) "name" = some none) :
    FnOk P w K mg base CX0 1 f (PySem.W.fnX "__init__" "NoWorker.__init__" (defArgs s_NoWorker___init__) (defBody s_NoWorker___init__) (defScope s_NoWorker___init__) [("__class__", cc)] .none kV doc pm an (.ref cda) ct) ["self", "name"] (spErr1 C "name") :=
  okErr1 (g1 := "name") (x := "name") rfl lk hcd T ns_NoWorker rfl rfl (fun env _ => ⟨_, rfl⟩) (by decide) (by decide) n1 (fun env _ => rfl)
abbrev s_BadRatio___init__ : Stmt := inClass (topS 18) 0
theorem ns_BadRatio : NdefX.NScope ["self", "value", "__class__"] ["self", "value"] ["__class__"] (defScope s_BadRatio___init__) := NdefX.nscope_by (by decide +kernel)
theorem ok_BadRatio {P : Program} {w : World} {K : PySem.W.Frag} {mg : Str → Option Value} {base : Heap} {C f cda cc : Addr} {kV doc pm ct oc : Value} {an od : Option Addr} {osl : Array (Option Value)}
    (lk : K.lookup f = some ⟨oc, od, .func (PySem.W.fnX "__init__" "BadRatio.__init__" (defArgs s_BadRatio___init__) (defBody s_BadRatio___init__) (defScope s_BadRatio___init__) [("__class__", cc)] .none kV doc pm an (.ref cda) ct), osl⟩) (hcd : PySem.W.codeIn K (.ref cda) "BadRatio.__init__" = true)
    (T : SupF P K mg C f cda cc (defScope s_BadRatio___init__)) (n1 : PySem.W.findIn K (.ref C) "value" = some none) :
    FnOk P w K mg base CX0 1 f (PySem.W.fnX "__init__" "BadRatio.__init__" (defArgs s_BadRatio___init__) (defBody s_BadRatio___init__) (defScope s_BadRatio___init__) [("__class__", cc)] .none kV doc pm an (.ref cda) ct) ["self", "value"] (spErr1 C "value") :=
  okErr1 (g1 := "value") (x := "value") rfl lk hcd T ns_BadRatio rfl rfl (fun env _ => ⟨_, rfl⟩) (by decide) (by decide) n1 (fun env _ => rfl)
abbrev s_BadRest___init__ : Stmt := inClass (topS 19) 0
theorem ns_BadRest : NdefX.NScope ["self", "value", "__class__"] ["self", "value"] ["__class__"] (defScope s_BadRest___init__) := NdefX.nscope_by (by decide +kernel)
theorem ok_BadRest {P : Program} {w : World} {K : PySem.W.Frag} {mg : Str → Option Value} {base : Heap} {C f cda cc : Addr} {kV doc pm ct oc : Value} {an od : Option Addr} {osl : Array (Option Value)}
    (lk : K.lookup f = some ⟨oc, od, .func (PySem.W.fnX "__init__" "BadRest.__init__" (defArgs s_BadRest___init__) (defBody s_BadRest___init__) (defScope s_BadRest___init__) [("__class__", cc)] .none kV doc pm an (.ref cda) ct), osl⟩) (hcd : PySem.W.codeIn K (.ref cda) "BadRest.__init__" = true)
    (T : SupF P K mg C f cda cc (defScope s_BadRest___init__)) (n1 : PySem.W.findIn K (.ref C) "value" = some none) :
    FnOk P w K mg base CX0 1 f (PySem.W.fnX "__init__" "BadRest.__init__" (defArgs s_BadRest___init__) (defBody s_BadRest___init__) (defScope s_BadRest___init__) [("__class__", cc)] .none kV doc pm an (.ref cda) ct) ["self", "value"] (spErr1 C "value") :=
  okErr1 (g1 := "value") (x := "value") rfl lk hcd T ns_BadRest rfl rfl (fun env _ => ⟨_, rfl⟩) (by decide) (by decide) n1 (fun env _ => rfl)
abbrev s_BadSetting___init__ : Stmt := inClass (topS 22) 0
theorem ns_BadSetting : NdefX.NScope ["self", "part", "__class__"] ["self", "part"] ["__class__"] (defScope s_BadSetting___init__) := NdefX.nscope_by (by decide +kernel)
theorem ok_BadSetting {P : Program} {w : World} {K : PySem.W.Frag} {mg : Str → Option Value} {base : Heap} {C f cda cc : Addr} {kV doc pm ct oc : Value} {an od : Option Addr} {osl : Array (Option Value)}
    (lk : K.lookup f = some ⟨oc, od, .func (PySem.W.fnX "__init__" "BadSetting.__init__" (defArgs s_BadSetting___init__) (defBody s_BadSetting___init__) (defScope s_BadSetting___init__) [("__class__", cc)] .none kV doc pm an (.ref cda) ct), osl⟩) (hcd : PySem.W.codeIn K (.ref cda) "BadSetting.__init__" = true)
    (T : SupF P K mg C f cda cc (defScope s_BadSetting___init__)) (n1 : PySem.W.findIn K (.ref C) "part" = some none) :
    FnOk P w K mg base CX0 1 f (PySem.W.fnX "__init__" "BadSetting.__init__" (defArgs s_BadSetting___init__) (defBody s_BadSetting___init__) (defScope s_BadSetting___init__) [("__class__", cc)] .none kV doc pm an (.ref cda) ct) ["self", "part"] (spErr1 C "part") :=
  okErr1 (g1 := "part") (x := "part") rfl lk hcd T ns_BadSetting rfl rfl (fun env _ => ⟨_, rfl⟩) (by decide) (by decide) n1 (fun env _ => rfl)
abbrev s_BadCost___init__ : Stmt := inClass (topS 15) 0
theorem ns_BadCost : NdefX.NScope ["self", "value", "__class__"] ["self", "value"] ["__class__"] (defScope s_BadCost___init__) := NdefX.nscope_by (by decide +kernel)
theorem ok_BadCost {P : Program} {w : World} {K : PySem.W.Frag} {mg : Str → Option Value} {base : Heap} {C f cda cc : Addr} {kV doc pm ct oc : Value} {an od : Option Addr} {osl : Array (Option Value)}
    (lk : K.lookup f = some ⟨oc, od, .func (PySem.W.fnX "__init__" "BadCost.__init__" (defArgs s_BadCost___init__) (defBody s_BadCost___init__) (defScope s_BadCost___init__) [("__class__", cc)] .none kV doc pm an (.ref cda) ct), osl⟩) (hcd : PySem.W.codeIn K (.ref cda) "BadCost.__init__" = true)
    (T : SupF P K mg C f cda cc (defScope s_BadCost___init__)) (n1 : PySem.W.findIn K (.ref C) "value" = some none) :
    FnOk P w K mg base CX0 1 f (PySem.W.fnX "__init__" "BadCost.__init__" (defArgs s_BadCost___init__) (defBody s_BadCost___init__) (defScope s_BadCost___init__) [("__class__", cc)] .none kV doc pm an (.ref cda) ct) ["self", "value"] (spErr1 C "value") :=
  okErr1 (g1 := "value") (x := "value") rfl lk hcd T ns_BadCost rfl rfl (fun env _ => ⟨_, rfl⟩) (by decide) (by decide) n1 (fun env _ => rfl)
abbrev s_BadFee___init__ : Stmt := inClass (topS 16) 0
theorem ns_BadFee : NdefX.NScope ["self", "value", "__class__"] ["self", "value"] ["__class__"] (defScope s_BadFee___init__) := NdefX.nscope_by (by decide +kernel)
theorem ok_BadFee {P : Program} {w : World} {K : PySem.W.Frag} {mg : Str → Option Value} {base : Heap} {C f cda cc : Addr} {kV doc pm ct oc : Value} {an od : Option Addr} {osl : Array (Option Value)}
    (lk : K.lookup f = some ⟨oc, od, .func (PySem.W.fnX "__init__" "BadFee.__init__" (defArgs s_BadFee___init__) (defBody s_BadFee___init__) (defScope s_BadFee___init__) [("__class__", cc)] .none kV doc pm an (.ref cda) ct), osl⟩) (hcd : PySem.W.codeIn K (.ref cda) "BadFee.__init__" = true)
    (T : SupF P K mg C f cda cc (defScope s_BadFee___init__)) (n1 : PySem.W.findIn K (.ref C) "value" = some none) :
    FnOk P w K mg base CX0 1 f (PySem.W.fnX "__init__" "BadFee.__init__" (defArgs s_BadFee___init__) (defBody s_BadFee___init__) (defScope s_BadFee___init__) [("__class__", cc)] .none kV doc pm an (.ref cda) ct) ["self", "value"] (spErr1 C "value") :=
  okErr1 (g1 := "value") (x := "value") rfl lk hcd T ns_BadFee rfl rfl (fun env _ => ⟨_, rfl⟩) (by decide) (by decide) n1 (fun env _ => rfl)
abbrev s_BadRule___init__ : Stmt := inClass (topS 23) 0
theorem ns_BadRule : NdefX.NScope ["self", "part", "__class__"] ["self", "part"] ["__class__"] (defScope s_BadRule___init__) := NdefX.nscope_by (by decide +kernel)
theorem ok_BadRule {P : Program} {w : World} {K : PySem.W.Frag} {mg : Str → Option Value} {base : Heap} {C f cda cc : Addr} {kV doc pm ct oc : Value} {an od : Option Addr} {osl : Array (Option Value)}
    (lk : K.lookup f = some ⟨oc, od, .func (PySem.W.fnX "__init__" "BadRule.__init__" (defArgs s_BadRule___init__) (defBody s_BadRule___init__) (defScope s_BadRule___init__) [("__class__", cc)] .none kV doc pm an (.ref cda) ct), osl⟩) (hcd : PySem.W.codeIn K (.ref cda) "BadRule.__init__" = true)
    (T : SupF P K mg C f cda cc (defScope s_BadRule___init__)) (n1 : PySem.W.findIn K (.ref C) "part" = some none) :
    FnOk P w K mg base CX0 1 f (PySem.W.fnX "__init__" "BadRule.__init__" (defArgs s_BadRule___init__) (defBody s_BadRule___init__) (defScope s_BadRule___init__) [("__class__", cc)] .none kV doc pm an (.ref cda) ct) ["self", "part"] (spErr1 C "part") :=
  okErr1 (g1 := "part") (x := "part") rfl lk hcd T ns_BadRule rfl rfl (fun env _ => ⟨_, rfl⟩) (by decide) (by decide) n1 (fun env _ => rfl)
end K72
end
section
namespace K72
open PySem PySem.Spec PyProof.Rows L2 L3 LamX
theorem fnMk {P : Program} {w : World} {K : PySem.W.Frag} {mg : Str → Option Value} {base : Heap} {CX : CXT} {k : Nat} {x qual : Str} {st : Stmt} {f : Addr} {fd : FuncData} {ps : List Str} {sp : Sp} (F : Fun K x qual st f fd) (ok : FnG P w K mg base CX k f fd ps sp) (m : mg x = some (.ref f))
    (hb : ∀ (kV doc pm : Value) (an : Option Addr) (cdv ct : Value) (us : List Value), us.length = ps.length → bindArgs (PySem.W.fnOf x qual (defArgs st) (defBody st) (defScope st) .none kV doc pm an cdv ct) ⟨us, []⟩ = pure (ps.zip us))
    (hk : ∀ (kV doc pm : Value) (an : Option Addr) (cdv ct : Value) (us : List Value), us.length = ps.length → bindArgs (PySem.W.fnOf x qual (defArgs st) (defBody st) (defScope st) .none kV doc pm an cdv ct) ⟨[], ps.zip us⟩ = pure (ps.zip us)) : Fn P w K mg base CX k x ps sp := by
  have kp := F.kp
  obtain ⟨oc, od, kV, doc, pm, an, cd, ct, sl, rfl, lk, hcd⟩ := F.ex
  exact ⟨⟨f, _, ok, m, kp, .all (hb kV doc pm an cd ct), fun s ws _ hl => .of_eq (hk kV doc pm an cd ct ws hl)⟩⟩
theorem bMk {K : PySem.W.Frag} {x qual : Str} {st : Stmt} {f : Addr} {fd : FuncData} {ps : List Str} (F : Fun K x qual st f fd)
    (hb : ∀ (kV doc pm : Value) (an : Option Addr) (cdv ct : Value) (us : List Value), us.length = ps.length → bindArgs (PySem.W.fnOf x qual (defArgs st) (defBody st) (defScope st) .none kV doc pm an cdv ct) ⟨us, []⟩ = pure (ps.zip us)) : L2.Binds K fd ps [] := by
  obtain ⟨oc, od, kV, doc, pm, an, cd, ct, sl, rfl, lk, hcd⟩ := F.ex
  exact .all (hb kV doc pm an cd ct)
theorem bkMk {K : PySem.W.Frag} {x qual : Str} {st : Stmt} {f : Addr} {fd : FuncData} {ps : List Str} (F : Fun K x qual st f fd)
    (hk : ∀ (kV doc pm : Value) (an : Option Addr) (cdv ct : Value) (us : List Value), us.length = ps.length → bindArgs (PySem.W.fnOf x qual (defArgs st) (defBody st) (defScope st) .none kV doc pm an cdv ct) ⟨[], ps.zip us⟩ = pure (ps.zip us)) : ∀ (s : Shared) (ws : List Value), K.In s.heap → ws.length = ps.length → BindsTo s fd ⟨[], ps.zip ws⟩ (ps.zip ws) := by
  obtain ⟨oc, od, kV, doc, pm, an, cd, ct, sl, rfl, lk, hcd⟩ := F.ex
  exact fun s ws _ hl => .of_eq (hk kV doc pm an cd ct ws hl)
theorem bkrMk {K : PySem.W.Frag} {x qual : Str} {st : Stmt} {f : Addr} {fd : FuncData} {ps : List Str} (F : Fun K x qual st f fd)
    (hk : ∀ (kV doc pm : Value) (an : Option Addr) (cdv ct : Value) (us : List Value), us.length = ps.length → bindArgs (PySem.W.fnOf x qual (defArgs st) (defBody st) (defScope st) .none kV doc pm an cdv ct) ⟨[], ps.reverse.zip us⟩ = pure (ps.zip us.reverse)) : ∀ (s : Shared) (ws : List Value), K.In s.heap → ws.length = ps.length → BindsTo s fd ⟨[], ps.reverse.zip ws⟩ (ps.zip ws.reverse) := by
  obtain ⟨oc, od, kV, doc, pm, an, cd, ct, sl, rfl, lk, hcd⟩ := F.ex
  exact fun s ws _ hl => .of_eq (hk kV doc pm an cd ct ws hl)
theorem bmMk {K : PySem.W.Frag} {x qual : Str} {st : Stmt} {f : Addr} {fd : FuncData} {c : Str} {ps : List Str} (F : Fun K x qual st f fd)
    (hk : ∀ (kV doc pm : Value) (an : Option Addr) (cdv ct : Value) (a : Value) (us : List Value), us.length = ps.length → bindArgs (PySem.W.fnOf x qual (defArgs st) (defBody st) (defScope st) .none kV doc pm an cdv ct) ⟨[a], ps.zip us⟩ = pure ((c :: ps).zip (a :: us))) : ∀ (s : Shared) (a : Value) (ws : List Value), K.In s.heap → ws.length = ps.length → BindsTo s fd ⟨[a], ps.zip ws⟩ ((c :: ps).zip (a :: ws)) := by
  obtain ⟨oc, od, kV, doc, pm, an, cd, ct, sl, rfl, lk, hcd⟩ := F.ex
  exact fun s a ws _ hl => .of_eq (hk kV doc pm an cd ct a ws hl)
theorem tab0 {H : Hp} {Pt : Addr} {q : Str} (h : H Pt = some (.tbl #[])) : TabS H Pt q := ⟨#[], h, trivial, fun pos cv hc => nomatch hc⟩
theorem tt_uniq : ∀ {ps : List (Addr × Str)} (h : (ps.map (·.1)).Nodup) {p q : Addr × Str} (hp : p ∈ ps) (hq : q ∈ ps) (e : p.1 = q.1), p.2 = q.2
  | [], _, _, _, hp, _, _ => nomatch hp
  | a :: r, h, p, q, hp, hq, e => by
    rw [List.map_cons, List.nodup_cons] at h
    rcases List.mem_cons.mp hp with e1 | hp1
    · rcases List.mem_cons.mp hq with e2 | hq1
      · rw [e1, e2]
      · exact (h.1 (List.mem_map.mpr ⟨q, hq1, by rw [← e1, e]⟩)).elim
    · rcases List.mem_cons.mp hq with e2 | hq1
      · exact (h.1 (List.mem_map.mpr ⟨p, hp1, by rw [← e2, e]⟩)).elim
      · exact tt_uniq h.2 hp1 hq1 e
theorem all_mk {l : PySem.W.OpenLaw} {w : World} {K : PySem.W.Frag} {h : Heap} {mg : Str → Option Value} {fa CB2 CE2 CT CD CRl CW CS CQ CB CC CM BN BS BW NW BR BE SE BA BF RU CL ct0 Pt : Addr} (X : K.In h) (G : h.Ns mainGlobals mg) (hfa : mg "law" = some (.ref fa))
    {f1 : Addr} {od1 an1 : Option Addr} {sl1 : Array (Option Value)} {oc1 kV1 dc1 pm1 cd1 ct1 : Value}
    {f2 : Addr} {od2 an2 : Option Addr} {sl2 : Array (Option Value)} {oc2 kV2 dc2 pm2 cd2 ct2 : Value}
    {f3 : Addr} {od3 an3 : Option Addr} {sl3 : Array (Option Value)} {oc3 kV3 dc3 pm3 cd3 ct3 : Value}
    {f4 : Addr} {od4 an4 : Option Addr} {sl4 : Array (Option Value)} {oc4 kV4 dc4 pm4 cd4 ct4 : Value}
    {f5 : Addr} {od5 an5 : Option Addr} {sl5 : Array (Option Value)} {oc5 kV5 dc5 pm5 cd5 ct5 : Value}
    {f6 : Addr} {od6 an6 : Option Addr} {sl6 : Array (Option Value)} {oc6 kV6 dc6 pm6 cd6 ct6 : Value}
    {f7 : Addr} {od7 an7 : Option Addr} {sl7 : Array (Option Value)} {oc7 kV7 dc7 pm7 cd7 ct7 : Value}
    {f8 : Addr} {od8 an8 : Option Addr} {sl8 : Array (Option Value)} {oc8 kV8 dc8 pm8 cd8 ct8 : Value}
    {f9 : Addr} {od9 an9 : Option Addr} {sl9 : Array (Option Value)} {oc9 kV9 dc9 pm9 cd9 ct9 : Value}
    {f10 : Addr} {od10 an10 : Option Addr} {sl10 : Array (Option Value)} {oc10 kV10 dc10 pm10 cd10 ct10 : Value}
    {f11 : Addr} {od11 an11 : Option Addr} {sl11 : Array (Option Value)} {oc11 kV11 dc11 pm11 cd11 ct11 : Value}
    {f12 : Addr} {od12 an12 : Option Addr} {sl12 : Array (Option Value)} {oc12 kV12 dc12 pm12 cd12 ct12 : Value}
    {f13 : Addr} {od13 an13 : Option Addr} {sl13 : Array (Option Value)} {oc13 kV13 dc13 pm13 cd13 ct13 : Value}
    {f14 : Addr} {od14 an14 : Option Addr} {sl14 : Array (Option Value)} {oc14 kV14 dc14 pm14 cd14 ct14 : Value}
    {f15 : Addr} {od15 an15 : Option Addr} {sl15 : Array (Option Value)} {oc15 kV15 dc15 pm15 cd15 ct15 : Value}
    {f16 : Addr} {od16 an16 : Option Addr} {sl16 : Array (Option Value)} {oc16 kV16 dc16 pm16 cd16 ct16 : Value}
    {f17 : Addr} {od17 an17 : Option Addr} {sl17 : Array (Option Value)} {oc17 kV17 dc17 pm17 cd17 ct17 : Value}
    {f18 : Addr} {od18 an18 : Option Addr} {sl18 : Array (Option Value)} {oc18 kV18 dc18 pm18 cd18 ct18 : Value}
    {f19 : Addr} {od19 an19 : Option Addr} {sl19 : Array (Option Value)} {oc19 kV19 dc19 pm19 cd19 ct19 : Value}
    {f20 : Addr} {od20 an20 : Option Addr} {sl20 : Array (Option Value)} {oc20 kV20 dc20 pm20 cd20 ct20 : Value}
    {f21 : Addr} {od21 an21 : Option Addr} {sl21 : Array (Option Value)} {oc21 kV21 dc21 pm21 cd21 ct21 : Value}
    {f22 : Addr} {od22 an22 : Option Addr} {sl22 : Array (Option Value)} {oc22 kV22 dc22 pm22 ct22 : Value}
    {f23 : Addr} {od23 an23 : Option Addr} {sl23 : Array (Option Value)} {oc23 kV23 dc23 pm23 cd23 ct23 : Value}
    {g_CW___init__ : Addr} {od_CW___init__ an_CW___init__ : Option Addr} {sl_CW___init__ : Array (Option Value)} {oc_CW___init__ kV_CW___init__ dc_CW___init__ pm_CW___init__ cd_CW___init__ ct_CW___init__ : Value}
    {g_CW___contains__ : Addr} {od_CW___contains__ an_CW___contains__ : Option Addr} {sl_CW___contains__ : Array (Option Value)} {oc_CW___contains__ kV_CW___contains__ dc_CW___contains__ pm_CW___contains__ cd_CW___contains__ ct_CW___contains__ : Value}
    {g_CW___getitem__ : Addr} {od_CW___getitem__ an_CW___getitem__ : Option Addr} {sl_CW___getitem__ : Array (Option Value)} {oc_CW___getitem__ kV_CW___getitem__ dc_CW___getitem__ pm_CW___getitem__ cd_CW___getitem__ ct_CW___getitem__ : Value}
    {p_CW_of : Addr} {rest_CW_of : List Value}
    {g_CW_of : Addr} {od_CW_of an_CW_of : Option Addr} {sl_CW_of : Array (Option Value)} {oc_CW_of kV_CW_of dc_CW_of pm_CW_of cd_CW_of ct_CW_of : Value}
    {g_CS_late_of : Addr} {od_CS_late_of an_CS_late_of : Option Addr} {sl_CS_late_of : Array (Option Value)} {oc_CS_late_of kV_CS_late_of dc_CS_late_of pm_CS_late_of cd_CS_late_of ct_CS_late_of : Value}
    {g_CS_straight : Addr} {od_CS_straight an_CS_straight : Option Addr} {sl_CS_straight : Array (Option Value)} {oc_CS_straight kV_CS_straight dc_CS_straight pm_CS_straight cd_CS_straight ct_CS_straight : Value}
    {g_CS_with_fee : Addr} {od_CS_with_fee an_CS_with_fee : Option Addr} {sl_CS_with_fee : Array (Option Value)} {oc_CS_with_fee kV_CS_with_fee dc_CS_with_fee pm_CS_with_fee cd_CS_with_fee ct_CS_with_fee : Value}
    {g_CQ___add__ : Addr} {od_CQ___add__ an_CQ___add__ : Option Addr} {sl_CQ___add__ : Array (Option Value)} {oc_CQ___add__ kV_CQ___add__ dc_CQ___add__ pm_CQ___add__ cd_CQ___add__ ct_CQ___add__ : Value}
    {g_CQ___radd__ : Addr} {od_CQ___radd__ an_CQ___radd__ : Option Addr} {sl_CQ___radd__ : Array (Option Value)} {oc_CQ___radd__ kV_CQ___radd__ dc_CQ___radd__ pm_CQ___radd__ cd_CQ___radd__ ct_CQ___radd__ : Value}
    {g_CQ___sub__ : Addr} {od_CQ___sub__ an_CQ___sub__ : Option Addr} {sl_CQ___sub__ : Array (Option Value)} {oc_CQ___sub__ kV_CQ___sub__ dc_CQ___sub__ pm_CQ___sub__ cd_CQ___sub__ ct_CQ___sub__ : Value}
    {g_CQ___rsub__ : Addr} {od_CQ___rsub__ an_CQ___rsub__ : Option Addr} {sl_CQ___rsub__ : Array (Option Value)} {oc_CQ___rsub__ kV_CQ___rsub__ dc_CQ___rsub__ pm_CQ___rsub__ cd_CQ___rsub__ ct_CQ___rsub__ : Value}
    {g_CQ___mul__ : Addr} {od_CQ___mul__ an_CQ___mul__ : Option Addr} {sl_CQ___mul__ : Array (Option Value)} {oc_CQ___mul__ kV_CQ___mul__ dc_CQ___mul__ pm_CQ___mul__ cd_CQ___mul__ ct_CQ___mul__ : Value}
    {g_CQ___rmul__ : Addr} {od_CQ___rmul__ an_CQ___rmul__ : Option Addr} {sl_CQ___rmul__ : Array (Option Value)} {oc_CQ___rmul__ kV_CQ___rmul__ dc_CQ___rmul__ pm_CQ___rmul__ cd_CQ___rmul__ ct_CQ___rmul__ : Value}
    {g_CQ___lt__ : Addr} {od_CQ___lt__ an_CQ___lt__ : Option Addr} {sl_CQ___lt__ : Array (Option Value)} {oc_CQ___lt__ kV_CQ___lt__ dc_CQ___lt__ pm_CQ___lt__ cd_CQ___lt__ ct_CQ___lt__ : Value}
    {g_CQ___gt__ : Addr} {od_CQ___gt__ an_CQ___gt__ : Option Addr} {sl_CQ___gt__ : Array (Option Value)} {oc_CQ___gt__ kV_CQ___gt__ dc_CQ___gt__ pm_CQ___gt__ cd_CQ___gt__ ct_CQ___gt__ : Value}
    {g_CQ___eq__ : Addr} {od_CQ___eq__ an_CQ___eq__ : Option Addr} {sl_CQ___eq__ : Array (Option Value)} {oc_CQ___eq__ kV_CQ___eq__ dc_CQ___eq__ pm_CQ___eq__ cd_CQ___eq__ ct_CQ___eq__ : Value}
    {g_CT___init__ : Addr} {od_CT___init__ an_CT___init__ : Option Addr} {sl_CT___init__ : Array (Option Value)} {oc_CT___init__ kV_CT___init__ dc_CT___init__ pm_CT___init__ cd_CT___init__ ct_CT___init__ : Value}
    {g_CT_batch_from : Addr} {od_CT_batch_from an_CT_batch_from : Option Addr} {sl_CT_batch_from : Array (Option Value)} {oc_CT_batch_from kV_CT_batch_from dc_CT_batch_from pm_CT_batch_from cd_CT_batch_from ct_CT_batch_from : Value}
    {g_CB2___init__ : Addr} {od_CB2___init__ an_CB2___init__ : Option Addr} {sl_CB2___init__ : Array (Option Value)} {oc_CB2___init__ kV_CB2___init__ dc_CB2___init__ pm_CB2___init__ cd_CB2___init__ ct_CB2___init__ : Value}
    {g_CE2___init__ : Addr} {od_CE2___init__ an_CE2___init__ : Option Addr} {sl_CE2___init__ : Array (Option Value)} {oc_CE2___init__ kV_CE2___init__ dc_CE2___init__ pm_CE2___init__ cd_CE2___init__ ct_CE2___init__ : Value}
    {g_CD___init__ : Addr} {od_CD___init__ an_CD___init__ : Option Addr} {sl_CD___init__ : Array (Option Value)} {oc_CD___init__ kV_CD___init__ dc_CD___init__ pm_CD___init__ cd_CD___init__ ct_CD___init__ : Value}
    {T_CS___init__ : Addr} {odT_CS___init__ : Option Addr} {slT_CS___init__ : Array (Option Value)} {ocT_CS___init__ : Value} {nT_CS___init__ : Nat} {t_CS___init__0 t_CS___init__1 t_CS___init__2 : Tok}
    {g_CS___init__ : Addr} {od_CS___init__ an_CS___init__ : Option Addr} {sl_CS___init__ : Array (Option Value)} {oc_CS___init__ kV_CS___init__ dc_CS___init__ pm_CS___init__ cd_CS___init__ ct_CS___init__ : Value}
    {p_CW_even T_CW_even : Addr} {rest_CW_even : List Value} {odT_CW_even : Option Addr} {slT_CW_even : Array (Option Value)} {ocT_CW_even : Value} {nT_CW_even : Nat} {t_CW_even0 : Tok}
    {g_CW_even : Addr} {od_CW_even an_CW_even : Option Addr} {sl_CW_even : Array (Option Value)} {oc_CW_even kV_CW_even dc_CW_even pm_CW_even cd_CW_even ct_CW_even : Value}
    {T_CQ___init__ : Addr} {odT_CQ___init__ : Option Addr} {slT_CQ___init__ : Array (Option Value)} {ocT_CQ___init__ : Value} {nT_CQ___init__ : Nat} {t_CQ___init__0 : Tok}
    {g_CQ___init__ : Addr} {od_CQ___init__ an_CQ___init__ : Option Addr} {sl_CQ___init__ : Array (Option Value)} {oc_CQ___init__ kV_CQ___init__ dc_CQ___init__ pm_CQ___init__ cd_CQ___init__ ct_CQ___init__ : Value}
    {fZB ccZB cdZB : Addr} {odZB anZB cldZB cddZB : Option Addr} {slZB cslZB ccsZB : Array (Option Value)} {ocZB kVZB dcZB pmZB ctZB clZB cclZB : Value} {vsZB : Array Value} {fileZB : Str} {tfZB : Tok}
    {fZC ccZC cdZC : Addr} {odZC anZC cldZC cddZC : Option Addr} {slZC cslZC ccsZC : Array (Option Value)} {ocZC kVZC dcZC pmZC ctZC clZC cclZC : Value} {vsZC : Array Value} {fileZC : Str} {tfZC : Tok}
    {fZM ccZM cdZM : Addr} {odZM anZM cldZM cddZM : Option Addr} {slZM cslZM ccsZM : Array (Option Value)} {ocZM kVZM dcZM pmZM ctZM clZM cclZM : Value} {vsZM : Array Value} {fileZM : Str} {tfZM : Tok}
    {fZNa ccZNa cdZNa : Addr} {odZNa anZNa cldZNa cddZNa : Option Addr} {slZNa cslZNa ccsZNa : Array (Option Value)} {ocZNa kVZNa dcZNa pmZNa ctZNa clZNa cclZNa : Value} {vsZNa : Array Value} {fileZNa : Str} {tfZNa : Tok}
    {fZSp ccZSp cdZSp : Addr} {odZSp anZSp cldZSp cddZSp : Option Addr} {slZSp cslZSp ccsZSp : Array (Option Value)} {ocZSp kVZSp dcZSp pmZSp ctZSp clZSp cclZSp : Value} {vsZSp : Array Value} {fileZSp : Str} {tfZSp : Tok}
    {fZCr ccZCr cdZCr : Addr} {odZCr anZCr cldZCr cddZCr : Option Addr} {slZCr cslZCr ccsZCr : Array (Option Value)} {ocZCr kVZCr dcZCr pmZCr ctZCr clZCr cclZCr : Value} {vsZCr : Array Value} {fileZCr : Str} {tfZCr : Tok}
    {fZNw ccZNw cdZNw : Addr} {odZNw anZNw cldZNw cddZNw : Option Addr} {slZNw cslZNw ccsZNw : Array (Option Value)} {ocZNw kVZNw dcZNw pmZNw ctZNw clZNw cclZNw : Value} {vsZNw : Array Value} {fileZNw : Str} {tfZNw : Tok}
    {fZQ ccZQ cdZQ : Addr} {odZQ anZQ cldZQ cddZQ : Option Addr} {slZQ cslZQ ccsZQ : Array (Option Value)} {ocZQ kVZQ dcZQ pmZQ ctZQ clZQ cclZQ : Value} {vsZQ : Array Value} {fileZQ : Str} {tfZQ : Tok}
    {fZRe ccZRe cdZRe : Addr} {odZRe anZRe cldZRe cddZRe : Option Addr} {slZRe cslZRe ccsZRe : Array (Option Value)} {ocZRe kVZRe dcZRe pmZRe ctZRe clZRe cclZRe : Value} {vsZRe : Array Value} {fileZRe : Str} {tfZRe : Tok}
    {fZSe ccZSe cdZSe : Addr} {odZSe anZSe cldZSe cddZSe : Option Addr} {slZSe cslZSe ccsZSe : Array (Option Value)} {ocZSe kVZSe dcZSe pmZSe ctZSe clZSe cclZSe : Value} {vsZSe : Array Value} {fileZSe : Str} {tfZSe : Tok}
    {fZCo ccZCo cdZCo : Addr} {odZCo anZCo cldZCo cddZCo : Option Addr} {slZCo cslZCo ccsZCo : Array (Option Value)} {ocZCo kVZCo dcZCo pmZCo ctZCo clZCo cclZCo : Value} {vsZCo : Array Value} {fileZCo : Str} {tfZCo : Tok}
    {fZFe ccZFe cdZFe : Addr} {odZFe anZFe cldZFe cddZFe : Option Addr} {slZFe cslZFe ccsZFe : Array (Option Value)} {ocZFe kVZFe dcZFe pmZFe ctZFe clZFe cclZFe : Value} {vsZFe : Array Value} {fileZFe : Str} {tfZFe : Tok}
    {fZRu ccZRu cdZRu : Addr} {odZRu anZRu cldZRu cddZRu : Option Addr} {slZRu cslZRu ccsZRu : Array (Option Value)} {ocZRu kVZRu dcZRu pmZRu ctZRu clZRu cclZRu : Value} {vsZRu : Array Value} {fileZRu : Str} {tfZRu : Tok}
    {aW : Addr} {odW : Option Addr} {slW : Array (Option Value)} {nW : Nat} {wt0 wt1 wt2 wt3 wt4 wt5 wt6 wt7 wt8 wt9 tSG tSP tMW : Tok}
    {tMCo tMFe : Tok}
    {tMOv tMDv tMAd : Tok}
    (a1 : PySem.W.nsIn K mainGlobals "is_integer" = some (some (.ref f1)))
    (l1 : K.lookup f1 = some ⟨oc1, od1, .func (PySem.W.fnOf "is_integer" "is_integer" (defArgs s_is_integer) (defBody s_is_integer) (defScope s_is_integer) .none kV1 dc1 pm1 an1 cd1 ct1), sl1⟩)
    (c1 : PySem.W.codeIn K cd1 "is_integer" = true)
    (k1 : PySem.W.keepIn K (.ref f1) = true)
    (a2 : PySem.W.nsIn K mainGlobals "is_within" = some (some (.ref f2)))
    (l2 : K.lookup f2 = some ⟨oc2, od2, .func (PySem.W.fnOf "is_within" "is_within" (defArgs s_is_within) (defBody s_is_within) (defScope s_is_within) .none kV2 dc2 pm2 an2 cd2 ct2), sl2⟩)
    (c2 : PySem.W.codeIn K cd2 "is_within" = true)
    (k2 : PySem.W.keepIn K (.ref f2) = true)
    (a3 : PySem.W.nsIn K mainGlobals "is_name" = some (some (.ref f3)))
    (l3 : K.lookup f3 = some ⟨oc3, od3, .func (PySem.W.fnOf "is_name" "is_name" (defArgs s_is_name) (defBody s_is_name) (defScope s_is_name) .none kV3 dc3 pm3 an3 cd3 ct3), sl3⟩)
    (c3 : PySem.W.codeIn K cd3 "is_name" = true)
    (k3 : PySem.W.keepIn K (.ref f3) = true)
    (a4 : PySem.W.nsIn K mainGlobals "is_speed" = some (some (.ref f4)))
    (l4 : K.lookup f4 = some ⟨oc4, od4, .func (PySem.W.fnOf "is_speed" "is_speed" (defArgs s_is_speed) (defBody s_is_speed) (defScope s_is_speed) .none kV4 dc4 pm4 an4 cd4 ct4), sl4⟩)
    (c4 : PySem.W.codeIn K cd4 "is_speed" = true)
    (k4 : PySem.W.keepIn K (.ref f4) = true)
    (a5 : PySem.W.nsIn K mainGlobals "need_speed" = some (some (.ref f5)))
    (l5 : K.lookup f5 = some ⟨oc5, od5, .func (PySem.W.fnOf "need_speed" "need_speed" (defArgs s_need_speed) (defBody s_need_speed) (defScope s_need_speed) .none kV5 dc5 pm5 an5 cd5 ct5), sl5⟩)
    (c5 : PySem.W.codeIn K cd5 "need_speed" = true)
    (k5 : PySem.W.keepIn K (.ref f5) = true)
    (a6 : PySem.W.nsIn K mainGlobals "need_speeds" = some (some (.ref f6)))
    (l6 : K.lookup f6 = some ⟨oc6, od6, .func (PySem.W.fnOf "need_speeds" "need_speeds" (defArgs s_need_speeds) (defBody s_need_speeds) (defScope s_need_speeds) .none kV6 dc6 pm6 an6 cd6 ct6), sl6⟩)
    (c6 : PySem.W.codeIn K cd6 "need_speeds" = true)
    (k6 : PySem.W.keepIn K (.ref f6) = true)
    (a7 : PySem.W.nsIn K mainGlobals "first_with" = some (some (.ref f7)))
    (l7 : K.lookup f7 = some ⟨oc7, od7, .func (PySem.W.fnOf "first_with" "first_with" (defArgs s_first_with) (defBody s_first_with) (defScope s_first_with) .none kV7 dc7 pm7 an7 cd7 ct7), sl7⟩)
    (c7 : PySem.W.codeIn K cd7 "first_with" = true)
    (k7 : PySem.W.keepIn K (.ref f7) = true)
    (a8 : PySem.W.nsIn K mainGlobals "common" = some (some (.ref f8)))
    (l8 : K.lookup f8 = some ⟨oc8, od8, .func (PySem.W.fnOf "common" "common" (defArgs s_common) (defBody s_common) (defScope s_common) .none kV8 dc8 pm8 an8 cd8 ct8), sl8⟩)
    (c8 : PySem.W.codeIn K cd8 "common" = true)
    (k8 : PySem.W.keepIn K (.ref f8) = true)
    (a9 : PySem.W.nsIn K mainGlobals "told_of" = some (some (.ref f9)))
    (l9 : K.lookup f9 = some ⟨oc9, od9, .func (PySem.W.fnOf "told_of" "told_of" (defArgs s_told_of) (defBody s_told_of) (defScope s_told_of) .none kV9 dc9 pm9 an9 cd9 ct9), sl9⟩)
    (c9 : PySem.W.codeIn K cd9 "told_of" = true)
    (k9 : PySem.W.keepIn K (.ref f9) = true)
    (a10 : PySem.W.nsIn K mainGlobals "need_spot" = some (some (.ref f10)))
    (l10 : K.lookup f10 = some ⟨oc10, od10, .func (PySem.W.fnOf "need_spot" "need_spot" (defArgs s_need_spot) (defBody s_need_spot) (defScope s_need_spot) .none kV10 dc10 pm10 an10 cd10 ct10), sl10⟩)
    (c10 : PySem.W.codeIn K cd10 "need_spot" = true)
    (k10 : PySem.W.keepIn K (.ref f10) = true)
    (a11 : PySem.W.nsIn K mainGlobals "rounded_up" = some (some (.ref f11)))
    (l11 : K.lookup f11 = some ⟨oc11, od11, .func (PySem.W.fnOf "rounded_up" "rounded_up" (defArgs s_rounded_up) (defBody s_rounded_up) (defScope s_rounded_up) .none kV11 dc11 pm11 an11 cd11 ct11), sl11⟩)
    (c11 : PySem.W.codeIn K cd11 "rounded_up" = true)
    (k11 : PySem.W.keepIn K (.ref f11) = true)
    (a12 : PySem.W.nsIn K mainGlobals "need_batched" = some (some (.ref f12)))
    (l12 : K.lookup f12 = some ⟨oc12, od12, .func (PySem.W.fnOf "need_batched" "need_batched" (defArgs s_need_batched) (defBody s_need_batched) (defScope s_need_batched) .none kV12 dc12 pm12 an12 cd12 ct12), sl12⟩)
    (c12 : PySem.W.codeIn K cd12 "need_batched" = true)
    (k12 : PySem.W.keepIn K (.ref f12) = true)
    (a13 : PySem.W.nsIn K mainGlobals "rise_of" = some (some (.ref f13)))
    (l13 : K.lookup f13 = some ⟨oc13, od13, .func (PySem.W.fnOf "rise_of" "rise_of" (defArgs s_rise_of) (defBody s_rise_of) (defScope s_rise_of) .none kV13 dc13 pm13 an13 cd13 ct13), sl13⟩)
    (c13 : PySem.W.codeIn K cd13 "rise_of" = true)
    (k13 : PySem.W.keepIn K (.ref f13) = true)
    (a14 : PySem.W.nsIn K mainGlobals "lates_from" = some (some (.ref f14)))
    (l14 : K.lookup f14 = some ⟨oc14, od14, .func (PySem.W.fnOf "lates_from" "lates_from" (defArgs s_lates_from) (defBody s_lates_from) (defScope s_lates_from) .none kV14 dc14 pm14 an14 cd14 ct14), sl14⟩)
    (c14 : PySem.W.codeIn K cd14 "lates_from" = true)
    (k14 : PySem.W.keepIn K (.ref f14) = true)
    (a15 : PySem.W.nsIn K mainGlobals "greatest_batched" = some (some (.ref f15)))
    (l15 : K.lookup f15 = some ⟨oc15, od15, .func (PySem.W.fnOf "greatest_batched" "greatest_batched" (defArgs s_greatest_batched) (defBody s_greatest_batched) (defScope s_greatest_batched) .none kV15 dc15 pm15 an15 cd15 ct15), sl15⟩)
    (c15 : PySem.W.codeIn K cd15 "greatest_batched" = true)
    (k15 : PySem.W.keepIn K (.ref f15) = true)
    (a16 : PySem.W.nsIn K mainGlobals "shows_batched" = some (some (.ref f16)))
    (l16 : K.lookup f16 = some ⟨oc16, od16, .func (PySem.W.fnOf "shows_batched" "shows_batched" (defArgs s_shows_batched) (defBody s_shows_batched) (defScope s_shows_batched) .none kV16 dc16 pm16 an16 cd16 ct16), sl16⟩)
    (c16 : PySem.W.codeIn K cd16 "shows_batched" = true)
    (k16 : PySem.W.keepIn K (.ref f16) = true)
    (a17 : PySem.W.nsIn K mainGlobals "is_bound" = some (some (.ref f17)))
    (l17 : K.lookup f17 = some ⟨oc17, od17, .func (PySem.W.fnOf "is_bound" "is_bound" (defArgs s_is_bound) (defBody s_is_bound) (defScope s_is_bound) .none kV17 dc17 pm17 an17 cd17 ct17), sl17⟩)
    (c17 : PySem.W.codeIn K cd17 "is_bound" = true)
    (k17 : PySem.W.keepIn K (.ref f17) = true)
    (a18 : PySem.W.nsIn K mainGlobals "_law_heard" = some (some (.ref f18)))
    (l18 : K.lookup f18 = some ⟨oc18, od18, .func (PySem.W.fnOf "_law_heard" "_law_heard" (defArgs s__law_heard) (defBody s__law_heard) (defScope s__law_heard) .none kV18 dc18 pm18 an18 cd18 ct18), sl18⟩)
    (c18 : PySem.W.codeIn K cd18 "_law_heard" = true)
    (k18 : PySem.W.keepIn K (.ref f18) = true)
    (a19 : PySem.W.nsIn K mainGlobals "_law_pen" = some (some (.ref f19)))
    (l19 : K.lookup f19 = some ⟨oc19, od19, .func (PySem.W.fnOf "_law_pen" "_law_pen" (defArgs s__law_pen) (defBody s__law_pen) (defScope s__law_pen) .none kV19 dc19 pm19 an19 cd19 ct19), sl19⟩)
    (c19 : PySem.W.codeIn K cd19 "_law_pen" = true)
    (k19 : PySem.W.keepIn K (.ref f19) = true)
    (a20 : PySem.W.nsIn K mainGlobals "_law_draw" = some (some (.ref f20)))
    (l20 : K.lookup f20 = some ⟨oc20, od20, .func (PySem.W.fnOf "_law_draw" "_law_draw" (defArgs s__law_draw) (defBody s__law_draw) (defScope s__law_draw) .none kV20 dc20 pm20 an20 cd20 ct20), sl20⟩)
    (c20 : PySem.W.codeIn K cd20 "_law_draw" = true)
    (k20 : PySem.W.keepIn K (.ref f20) = true)
    (a21 : PySem.W.nsIn K mainGlobals "_law_pick" = some (some (.ref f21)))
    (l21 : K.lookup f21 = some ⟨oc21, od21, .func (PySem.W.fnOf "_law_pick" "_law_pick" (defArgs s__law_pick) (defBody s__law_pick) (defScope s__law_pick) .none kV21 dc21 pm21 an21 cd21 ct21), sl21⟩)
    (c21 : PySem.W.codeIn K cd21 "_law_pick" = true)
    (k21 : PySem.W.keepIn K (.ref f21) = true)
    (a22 : PySem.W.nsIn K mainGlobals "_law_both" = some (some (.ref f22)))
    (l22 : K.lookup f22 = some ⟨oc22, od22, .func (PySem.W.fnOf "_law_both" "_law_both" (defArgs s__law_both) (defBody s__law_both) (defScope s__law_both) .none kV22 dc22 pm22 an22 (.ref ct0) ct22), sl22⟩)
    (c22 : PySem.W.codeIn K (.ref ct0) "_law_both" = true)
    (k22 : PySem.W.keepIn K (.ref f22) = true)
    (a23 : PySem.W.nsIn K mainGlobals "law" = some (some (.ref f23)))
    (l23 : K.lookup f23 = some ⟨oc23, od23, .func (PySem.W.fnOf "law" "law" (defArgs s_law) (defBody s_law) (defScope s_law) .none kV23 dc23 pm23 an23 cd23 ct23), sl23⟩)
    (c23 : PySem.W.codeIn K cd23 "law" = true)
    (k23 : PySem.W.keepIn K (.ref f23) = true)
    (a_CW : PySem.W.nsIn K mainGlobals "Crew" = some (some (.ref CW)))
    (a_CW___init__ : PySem.W.findIn K (.ref CW) "__init__" = some (some (.ref g_CW___init__)))
    (l_CW___init__ : K.lookup g_CW___init__ = some ⟨oc_CW___init__, od_CW___init__, .func (PySem.W.fnOf "__init__" "Crew.__init__" (defArgs s_Crew___init__) (defBody s_Crew___init__) (defScope s_Crew___init__) .none kV_CW___init__ dc_CW___init__ pm_CW___init__ an_CW___init__ cd_CW___init__ ct_CW___init__), sl_CW___init__⟩)
    (c_CW___init__ : PySem.W.codeIn K cd_CW___init__ "Crew.__init__" = true)
    (k_CW___init__ : PySem.W.keepIn K (.ref g_CW___init__) = true)
    (i_CW___init__ : PySem.W.isFn K (.ref g_CW___init__) = true)
    (a_CW___contains__ : PySem.W.findIn K (.ref CW) "__contains__" = some (some (.ref g_CW___contains__)))
    (l_CW___contains__ : K.lookup g_CW___contains__ = some ⟨oc_CW___contains__, od_CW___contains__, .func (PySem.W.fnOf "__contains__" "Crew.__contains__" (defArgs s_Crew___contains__) (defBody s_Crew___contains__) (defScope s_Crew___contains__) .none kV_CW___contains__ dc_CW___contains__ pm_CW___contains__ an_CW___contains__ cd_CW___contains__ ct_CW___contains__), sl_CW___contains__⟩)
    (c_CW___contains__ : PySem.W.codeIn K cd_CW___contains__ "Crew.__contains__" = true)
    (k_CW___contains__ : PySem.W.keepIn K (.ref g_CW___contains__) = true)
    (i_CW___contains__ : PySem.W.isFn K (.ref g_CW___contains__) = true)
    (a_CW___getitem__ : PySem.W.findIn K (.ref CW) "__getitem__" = some (some (.ref g_CW___getitem__)))
    (l_CW___getitem__ : K.lookup g_CW___getitem__ = some ⟨oc_CW___getitem__, od_CW___getitem__, .func (PySem.W.fnOf "__getitem__" "Crew.__getitem__" (defArgs s_Crew___getitem__) (defBody s_Crew___getitem__) (defScope s_Crew___getitem__) .none kV_CW___getitem__ dc_CW___getitem__ pm_CW___getitem__ an_CW___getitem__ cd_CW___getitem__ ct_CW___getitem__), sl_CW___getitem__⟩)
    (c_CW___getitem__ : PySem.W.codeIn K cd_CW___getitem__ "Crew.__getitem__" = true)
    (k_CW___getitem__ : PySem.W.keepIn K (.ref g_CW___getitem__) = true)
    (i_CW___getitem__ : PySem.W.isFn K (.ref g_CW___getitem__) = true)
    (mk_CW : PySem.W.makesIn K CW = true)
    (pg_CW : PySem.W.plainGet K CW Str.empty = true)
    (hd_CW : PySem.W.hasDictIn K CW = true)
    (po_CW : PySem.W.plainOver K CW = true)
    (sa_CW : PySem.W.findIn K (.ref CW) "__setattr__" = some (some (.builtin "object.__setattr__")))
    (kc_CW : PySem.W.keepIn K (.ref CW) = true)
    (ya_CW : PySem.W.findIn K (.ref CW) "__class__" = some (some (.builtin "object.__class__")))
    (yb : PySem.W.specialIn K (.builtin "object.__class__") "__get__" = some (some (.builtin "getset_descriptor.__get__")))
    (yc : PySem.W.takesIn K (.builtin "object.__class__") = some true)
    (yd_CW : PySem.W.mroIn K CW (.type "object") = some true)
    (yk_CW : PySem.W.kitOne K (.ref CW) (.ref CW) = some true)
    (n_CW_own_speeds : PySem.W.findIn K (.ref CW) "own_speeds" = some none)
    (n_CW_workers : PySem.W.findIn K (.ref CW) "workers" = some none)
    (n_CW_speed : PySem.W.findIn K (.ref CW) "speed" = some none)
    (n_CW_slowest : PySem.W.findIn K (.ref CW) "slowest" = some none)
    (n_CW_fastest : PySem.W.findIn K (.ref CW) "fastest" = some none)
    (sr_CW : PySem.W.readsIn K CW (.type "type") = true)
    (sg_CW : PySem.W.specialIn K (.ref CW) "__getattribute__" = some (some (.builtin "type.__getattribute__")))
    (sf_CW_of : PySem.W.findCls K (.ref CW) (.type "type") "of" = some (.get (.builtin "staticmethod.__get__") (.ref p_CW_of) .none (.ref CW)))
    (sc_CW_of : PySem.W.recIn K p_CW_of "staticmethod" = some (.ref g_CW_of :: rest_CW_of))
    (l_CW_of : K.lookup g_CW_of = some ⟨oc_CW_of, od_CW_of, .func (PySem.W.fnOf "of" "Crew.of" (defArgs s_Crew_of) (defBody s_Crew_of) (defScope s_Crew_of) .none kV_CW_of dc_CW_of pm_CW_of an_CW_of cd_CW_of ct_CW_of), sl_CW_of⟩)
    (c_CW_of : PySem.W.codeIn K cd_CW_of "Crew.of" = true)
    (k_CW_of : PySem.W.keepIn K (.ref g_CW_of) = true)
    (mk_CS : PySem.W.makesIn K CS = true)
    (a_CS : PySem.W.nsIn K mainGlobals "Setting" = some (some (.ref CS)))
    (a_CS_late_of : PySem.W.findIn K (.ref CS) "late_of" = some (some (.ref g_CS_late_of)))
    (l_CS_late_of : K.lookup g_CS_late_of = some ⟨oc_CS_late_of, od_CS_late_of, .func (PySem.W.fnOf "late_of" "Setting.late_of" (defArgs s_Setting_late_of) (defBody s_Setting_late_of) (defScope s_Setting_late_of) .none kV_CS_late_of dc_CS_late_of pm_CS_late_of an_CS_late_of cd_CS_late_of ct_CS_late_of), sl_CS_late_of⟩)
    (c_CS_late_of : PySem.W.codeIn K cd_CS_late_of "Setting.late_of" = true)
    (k_CS_late_of : PySem.W.keepIn K (.ref g_CS_late_of) = true)
    (i_CS_late_of : PySem.W.isFn K (.ref g_CS_late_of) = true)
    (a_CS_straight : PySem.W.findIn K (.ref CS) "straight" = some (some (.ref g_CS_straight)))
    (l_CS_straight : K.lookup g_CS_straight = some ⟨oc_CS_straight, od_CS_straight, .func (PySem.W.fnOf "straight" "Setting.straight" (defArgs s_Setting_straight) (defBody s_Setting_straight) (defScope s_Setting_straight) .none kV_CS_straight dc_CS_straight pm_CS_straight an_CS_straight cd_CS_straight ct_CS_straight), sl_CS_straight⟩)
    (c_CS_straight : PySem.W.codeIn K cd_CS_straight "Setting.straight" = true)
    (k_CS_straight : PySem.W.keepIn K (.ref g_CS_straight) = true)
    (i_CS_straight : PySem.W.isFn K (.ref g_CS_straight) = true)
    (a_CS_with_fee : PySem.W.findIn K (.ref CS) "with_fee" = some (some (.ref g_CS_with_fee)))
    (l_CS_with_fee : K.lookup g_CS_with_fee = some ⟨oc_CS_with_fee, od_CS_with_fee, .func (PySem.W.fnOf "with_fee" "Setting.with_fee" (defArgs s_Setting_with_fee) (defBody s_Setting_with_fee) (defScope s_Setting_with_fee) .none kV_CS_with_fee dc_CS_with_fee pm_CS_with_fee an_CS_with_fee cd_CS_with_fee ct_CS_with_fee), sl_CS_with_fee⟩)
    (c_CS_with_fee : PySem.W.codeIn K cd_CS_with_fee "Setting.with_fee" = true)
    (k_CS_with_fee : PySem.W.keepIn K (.ref g_CS_with_fee) = true)
    (i_CS_with_fee : PySem.W.isFn K (.ref g_CS_with_fee) = true)
    (pg_CS : PySem.W.plainGet K CS Str.empty = true)
    (hd_CS : PySem.W.hasDictIn K CS = true)
    (po_CS : PySem.W.plainOver K CS = true)
    (sa_CS : PySem.W.findIn K (.ref CS) "__setattr__" = some (some (.builtin "object.__setattr__")))
    (kc_CS : PySem.W.keepIn K (.ref CS) = true)
    (ya_CS : PySem.W.findIn K (.ref CS) "__class__" = some (some (.builtin "object.__class__")))
    (yd_CS : PySem.W.mroIn K CS (.type "object") = some true)
    (yk_CS : PySem.W.kitOne K (.ref CS) (.ref CS) = some true)
    (n_CS_crew : PySem.W.findIn K (.ref CS) "crew" = some none)
    (n_CS_least : PySem.W.findIn K (.ref CS) "least" = some none)
    (n_CS_most : PySem.W.findIn K (.ref CS) "most" = some none)
    (n_CS_fee : PySem.W.findIn K (.ref CS) "fee" = some none)
    (n_CS_own_slow : PySem.W.findIn K (.ref CS) "own_slow" = some none)
    (n_CS_own_fast : PySem.W.findIn K (.ref CS) "own_fast" = some none)
    (n_CS_lowest : PySem.W.findIn K (.ref CS) "lowest" = some none)
    (mk_CQ : PySem.W.makesIn K CQ = true)
    (a_CQ : PySem.W.nsIn K mainGlobals "Ratio" = some (some (.ref CQ)))
    (a_CQ___add__ : PySem.W.findIn K (.ref CQ) "__add__" = some (some (.ref g_CQ___add__)))
    (l_CQ___add__ : K.lookup g_CQ___add__ = some ⟨oc_CQ___add__, od_CQ___add__, .func (PySem.W.fnOf "__add__" "Ratio.__add__" (defArgs s_Ratio___add__) (defBody s_Ratio___add__) (defScope s_Ratio___add__) .none kV_CQ___add__ dc_CQ___add__ pm_CQ___add__ an_CQ___add__ cd_CQ___add__ ct_CQ___add__), sl_CQ___add__⟩)
    (c_CQ___add__ : PySem.W.codeIn K cd_CQ___add__ "Ratio.__add__" = true)
    (k_CQ___add__ : PySem.W.keepIn K (.ref g_CQ___add__) = true)
    (i_CQ___add__ : PySem.W.isFn K (.ref g_CQ___add__) = true)
    (a_CQ___radd__ : PySem.W.findIn K (.ref CQ) "__radd__" = some (some (.ref g_CQ___radd__)))
    (l_CQ___radd__ : K.lookup g_CQ___radd__ = some ⟨oc_CQ___radd__, od_CQ___radd__, .func (PySem.W.fnOf "__radd__" "Ratio.__radd__" (defArgs s_Ratio___radd__) (defBody s_Ratio___radd__) (defScope s_Ratio___radd__) .none kV_CQ___radd__ dc_CQ___radd__ pm_CQ___radd__ an_CQ___radd__ cd_CQ___radd__ ct_CQ___radd__), sl_CQ___radd__⟩)
    (c_CQ___radd__ : PySem.W.codeIn K cd_CQ___radd__ "Ratio.__radd__" = true)
    (k_CQ___radd__ : PySem.W.keepIn K (.ref g_CQ___radd__) = true)
    (i_CQ___radd__ : PySem.W.isFn K (.ref g_CQ___radd__) = true)
    (a_CQ___sub__ : PySem.W.findIn K (.ref CQ) "__sub__" = some (some (.ref g_CQ___sub__)))
    (l_CQ___sub__ : K.lookup g_CQ___sub__ = some ⟨oc_CQ___sub__, od_CQ___sub__, .func (PySem.W.fnOf "__sub__" "Ratio.__sub__" (defArgs s_Ratio___sub__) (defBody s_Ratio___sub__) (defScope s_Ratio___sub__) .none kV_CQ___sub__ dc_CQ___sub__ pm_CQ___sub__ an_CQ___sub__ cd_CQ___sub__ ct_CQ___sub__), sl_CQ___sub__⟩)
    (c_CQ___sub__ : PySem.W.codeIn K cd_CQ___sub__ "Ratio.__sub__" = true)
    (k_CQ___sub__ : PySem.W.keepIn K (.ref g_CQ___sub__) = true)
    (i_CQ___sub__ : PySem.W.isFn K (.ref g_CQ___sub__) = true)
    (a_CQ___rsub__ : PySem.W.findIn K (.ref CQ) "__rsub__" = some (some (.ref g_CQ___rsub__)))
    (l_CQ___rsub__ : K.lookup g_CQ___rsub__ = some ⟨oc_CQ___rsub__, od_CQ___rsub__, .func (PySem.W.fnOf "__rsub__" "Ratio.__rsub__" (defArgs s_Ratio___rsub__) (defBody s_Ratio___rsub__) (defScope s_Ratio___rsub__) .none kV_CQ___rsub__ dc_CQ___rsub__ pm_CQ___rsub__ an_CQ___rsub__ cd_CQ___rsub__ ct_CQ___rsub__), sl_CQ___rsub__⟩)
    (c_CQ___rsub__ : PySem.W.codeIn K cd_CQ___rsub__ "Ratio.__rsub__" = true)
    (k_CQ___rsub__ : PySem.W.keepIn K (.ref g_CQ___rsub__) = true)
    (i_CQ___rsub__ : PySem.W.isFn K (.ref g_CQ___rsub__) = true)
    (a_CQ___mul__ : PySem.W.findIn K (.ref CQ) "__mul__" = some (some (.ref g_CQ___mul__)))
    (l_CQ___mul__ : K.lookup g_CQ___mul__ = some ⟨oc_CQ___mul__, od_CQ___mul__, .func (PySem.W.fnOf "__mul__" "Ratio.__mul__" (defArgs s_Ratio___mul__) (defBody s_Ratio___mul__) (defScope s_Ratio___mul__) .none kV_CQ___mul__ dc_CQ___mul__ pm_CQ___mul__ an_CQ___mul__ cd_CQ___mul__ ct_CQ___mul__), sl_CQ___mul__⟩)
    (c_CQ___mul__ : PySem.W.codeIn K cd_CQ___mul__ "Ratio.__mul__" = true)
    (k_CQ___mul__ : PySem.W.keepIn K (.ref g_CQ___mul__) = true)
    (i_CQ___mul__ : PySem.W.isFn K (.ref g_CQ___mul__) = true)
    (a_CQ___rmul__ : PySem.W.findIn K (.ref CQ) "__rmul__" = some (some (.ref g_CQ___rmul__)))
    (l_CQ___rmul__ : K.lookup g_CQ___rmul__ = some ⟨oc_CQ___rmul__, od_CQ___rmul__, .func (PySem.W.fnOf "__rmul__" "Ratio.__rmul__" (defArgs s_Ratio___rmul__) (defBody s_Ratio___rmul__) (defScope s_Ratio___rmul__) .none kV_CQ___rmul__ dc_CQ___rmul__ pm_CQ___rmul__ an_CQ___rmul__ cd_CQ___rmul__ ct_CQ___rmul__), sl_CQ___rmul__⟩)
    (c_CQ___rmul__ : PySem.W.codeIn K cd_CQ___rmul__ "Ratio.__rmul__" = true)
    (k_CQ___rmul__ : PySem.W.keepIn K (.ref g_CQ___rmul__) = true)
    (i_CQ___rmul__ : PySem.W.isFn K (.ref g_CQ___rmul__) = true)
    (a_CQ___lt__ : PySem.W.findIn K (.ref CQ) "__lt__" = some (some (.ref g_CQ___lt__)))
    (l_CQ___lt__ : K.lookup g_CQ___lt__ = some ⟨oc_CQ___lt__, od_CQ___lt__, .func (PySem.W.fnOf "__lt__" "Ratio.__lt__" (defArgs s_Ratio___lt__) (defBody s_Ratio___lt__) (defScope s_Ratio___lt__) .none kV_CQ___lt__ dc_CQ___lt__ pm_CQ___lt__ an_CQ___lt__ cd_CQ___lt__ ct_CQ___lt__), sl_CQ___lt__⟩)
    (c_CQ___lt__ : PySem.W.codeIn K cd_CQ___lt__ "Ratio.__lt__" = true)
    (k_CQ___lt__ : PySem.W.keepIn K (.ref g_CQ___lt__) = true)
    (i_CQ___lt__ : PySem.W.isFn K (.ref g_CQ___lt__) = true)
    (a_CQ___gt__ : PySem.W.findIn K (.ref CQ) "__gt__" = some (some (.ref g_CQ___gt__)))
    (l_CQ___gt__ : K.lookup g_CQ___gt__ = some ⟨oc_CQ___gt__, od_CQ___gt__, .func (PySem.W.fnOf "__gt__" "Ratio.__gt__" (defArgs s_Ratio___gt__) (defBody s_Ratio___gt__) (defScope s_Ratio___gt__) .none kV_CQ___gt__ dc_CQ___gt__ pm_CQ___gt__ an_CQ___gt__ cd_CQ___gt__ ct_CQ___gt__), sl_CQ___gt__⟩)
    (c_CQ___gt__ : PySem.W.codeIn K cd_CQ___gt__ "Ratio.__gt__" = true)
    (k_CQ___gt__ : PySem.W.keepIn K (.ref g_CQ___gt__) = true)
    (i_CQ___gt__ : PySem.W.isFn K (.ref g_CQ___gt__) = true)
    (a_CQ___eq__ : PySem.W.findIn K (.ref CQ) "__eq__" = some (some (.ref g_CQ___eq__)))
    (l_CQ___eq__ : K.lookup g_CQ___eq__ = some ⟨oc_CQ___eq__, od_CQ___eq__, .func (PySem.W.fnOf "__eq__" "Ratio.__eq__" (defArgs s_Ratio___eq__) (defBody s_Ratio___eq__) (defScope s_Ratio___eq__) .none kV_CQ___eq__ dc_CQ___eq__ pm_CQ___eq__ an_CQ___eq__ cd_CQ___eq__ ct_CQ___eq__), sl_CQ___eq__⟩)
    (c_CQ___eq__ : PySem.W.codeIn K cd_CQ___eq__ "Ratio.__eq__" = true)
    (k_CQ___eq__ : PySem.W.keepIn K (.ref g_CQ___eq__) = true)
    (i_CQ___eq__ : PySem.W.isFn K (.ref g_CQ___eq__) = true)
    (pg_CQ : PySem.W.plainGet K CQ Str.empty = true)
    (hd_CQ : PySem.W.hasDictIn K CQ = true)
    (po_CQ : PySem.W.plainOver K CQ = true)
    (sa_CQ : PySem.W.findIn K (.ref CQ) "__setattr__" = some (some (.builtin "object.__setattr__")))
    (kc_CQ : PySem.W.keepIn K (.ref CQ) = true)
    (ya_CQ : PySem.W.findIn K (.ref CQ) "__class__" = some (some (.builtin "object.__class__")))
    (yd_CQ : PySem.W.mroIn K CQ (.type "object") = some true)
    (yk_CQ : PySem.W.kitOne K (.ref CQ) (.ref CQ) = some true)
    (n_CQ_over : PySem.W.findIn K (.ref CQ) "over" = some none)
    (n_CQ_under : PySem.W.findIn K (.ref CQ) "under" = some none)
    (cf1_CQ : (numTys.all fun T => PySem.W.notFirst K CQ (.type T)) = true)
    (cf2_CQ : PySem.W.notFirst K CQ (.ref CQ) = true)
    (cf3_CQ : (numTys.all fun T => decide (PySem.W.subIn K (.ref CQ) (.type T) = some false)) = true)
    (cf5_CQ : PySem.W.findIn K (.ref CQ) "__ne__" = some (some (.builtin "object.__ne__")))
    (a_CT : PySem.W.nsIn K mainGlobals "Batched" = some (some (.ref CT)))
    (a_CT___init__ : PySem.W.findIn K (.ref CT) "__init__" = some (some (.ref g_CT___init__)))
    (l_CT___init__ : K.lookup g_CT___init__ = some ⟨oc_CT___init__, od_CT___init__, .func (PySem.W.fnOf "__init__" "Batched.__init__" (defArgs s_Batched___init__) (defBody s_Batched___init__) (defScope s_Batched___init__) .none kV_CT___init__ dc_CT___init__ pm_CT___init__ an_CT___init__ cd_CT___init__ ct_CT___init__), sl_CT___init__⟩)
    (c_CT___init__ : PySem.W.codeIn K cd_CT___init__ "Batched.__init__" = true)
    (k_CT___init__ : PySem.W.keepIn K (.ref g_CT___init__) = true)
    (i_CT___init__ : PySem.W.isFn K (.ref g_CT___init__) = true)
    (a_CT_batch_from : PySem.W.findIn K (.ref CT) "batch_from" = some (some (.ref g_CT_batch_from)))
    (l_CT_batch_from : K.lookup g_CT_batch_from = some ⟨oc_CT_batch_from, od_CT_batch_from, .func (PySem.W.fnOf "batch_from" "Batched.batch_from" (defArgs s_Batched_batch_from) (defBody s_Batched_batch_from) (defScope s_Batched_batch_from) .none kV_CT_batch_from dc_CT_batch_from pm_CT_batch_from an_CT_batch_from cd_CT_batch_from ct_CT_batch_from), sl_CT_batch_from⟩)
    (c_CT_batch_from : PySem.W.codeIn K cd_CT_batch_from "Batched.batch_from" = true)
    (k_CT_batch_from : PySem.W.keepIn K (.ref g_CT_batch_from) = true)
    (i_CT_batch_from : PySem.W.isFn K (.ref g_CT_batch_from) = true)
    (mk_CT : PySem.W.makesIn K CT = true)
    (pg_CT : PySem.W.plainGet K CT Str.empty = true)
    (hd_CT : PySem.W.hasDictIn K CT = true)
    (po_CT : PySem.W.plainOver K CT = true)
    (sa_CT : PySem.W.findIn K (.ref CT) "__setattr__" = some (some (.builtin "object.__setattr__")))
    (kc_CT : PySem.W.keepIn K (.ref CT) = true)
    (ya_CT : PySem.W.findIn K (.ref CT) "__class__" = some (some (.builtin "object.__class__")))
    (yd_CT : PySem.W.mroIn K CT (.type "object") = some true)
    (yk_CT : PySem.W.kitOne K (.ref CT) (.ref CT) = some true)
    (n_CT_many : PySem.W.findIn K (.ref CT) "many" = some none)
    (n_CT_over : PySem.W.findIn K (.ref CT) "over" = some none)
    (a_CB2 : PySem.W.nsIn K mainGlobals "BatchBound" = some (some (.ref CB2)))
    (a_CB2___init__ : PySem.W.findIn K (.ref CB2) "__init__" = some (some (.ref g_CB2___init__)))
    (l_CB2___init__ : K.lookup g_CB2___init__ = some ⟨oc_CB2___init__, od_CB2___init__, .func (PySem.W.fnOf "__init__" "BatchBound.__init__" (defArgs s_BatchBound___init__) (defBody s_BatchBound___init__) (defScope s_BatchBound___init__) .none kV_CB2___init__ dc_CB2___init__ pm_CB2___init__ an_CB2___init__ cd_CB2___init__ ct_CB2___init__), sl_CB2___init__⟩)
    (c_CB2___init__ : PySem.W.codeIn K cd_CB2___init__ "BatchBound.__init__" = true)
    (k_CB2___init__ : PySem.W.keepIn K (.ref g_CB2___init__) = true)
    (i_CB2___init__ : PySem.W.isFn K (.ref g_CB2___init__) = true)
    (mk_CB2 : PySem.W.makesIn K CB2 = true)
    (pg_CB2 : PySem.W.plainGet K CB2 Str.empty = true)
    (hd_CB2 : PySem.W.hasDictIn K CB2 = true)
    (po_CB2 : PySem.W.plainOver K CB2 = true)
    (sa_CB2 : PySem.W.findIn K (.ref CB2) "__setattr__" = some (some (.builtin "object.__setattr__")))
    (kc_CB2 : PySem.W.keepIn K (.ref CB2) = true)
    (ya_CB2 : PySem.W.findIn K (.ref CB2) "__class__" = some (some (.builtin "object.__class__")))
    (yd_CB2 : PySem.W.mroIn K CB2 (.type "object") = some true)
    (yk_CB2 : PySem.W.kitOne K (.ref CB2) (.ref CB2) = some true)
    (n_CB2_late : PySem.W.findIn K (.ref CB2) "late" = some none)
    (n_CB2_rest : PySem.W.findIn K (.ref CB2) "rest" = some none)
    (n_CB2_spot : PySem.W.findIn K (.ref CB2) "spot" = some none)
    (a_CE2 : PySem.W.nsIn K mainGlobals "BatchEndless" = some (some (.ref CE2)))
    (a_CE2___init__ : PySem.W.findIn K (.ref CE2) "__init__" = some (some (.ref g_CE2___init__)))
    (l_CE2___init__ : K.lookup g_CE2___init__ = some ⟨oc_CE2___init__, od_CE2___init__, .func (PySem.W.fnOf "__init__" "BatchEndless.__init__" (defArgs s_BatchEndless___init__) (defBody s_BatchEndless___init__) (defScope s_BatchEndless___init__) .none kV_CE2___init__ dc_CE2___init__ pm_CE2___init__ an_CE2___init__ cd_CE2___init__ ct_CE2___init__), sl_CE2___init__⟩)
    (c_CE2___init__ : PySem.W.codeIn K cd_CE2___init__ "BatchEndless.__init__" = true)
    (k_CE2___init__ : PySem.W.keepIn K (.ref g_CE2___init__) = true)
    (i_CE2___init__ : PySem.W.isFn K (.ref g_CE2___init__) = true)
    (mk_CE2 : PySem.W.makesIn K CE2 = true)
    (pg_CE2 : PySem.W.plainGet K CE2 Str.empty = true)
    (hd_CE2 : PySem.W.hasDictIn K CE2 = true)
    (po_CE2 : PySem.W.plainOver K CE2 = true)
    (sa_CE2 : PySem.W.findIn K (.ref CE2) "__setattr__" = some (some (.builtin "object.__setattr__")))
    (kc_CE2 : PySem.W.keepIn K (.ref CE2) = true)
    (ya_CE2 : PySem.W.findIn K (.ref CE2) "__class__" = some (some (.builtin "object.__class__")))
    (yd_CE2 : PySem.W.mroIn K CE2 (.type "object") = some true)
    (yk_CE2 : PySem.W.kitOne K (.ref CE2) (.ref CE2) = some true)
    (n_CE2_spot : PySem.W.findIn K (.ref CE2) "spot" = some none)
    (n_CE2_rise : PySem.W.findIn K (.ref CE2) "rise" = some none)
    (a_CD : PySem.W.nsIn K mainGlobals "Divided" = some (some (.ref CD)))
    (a_CD___init__ : PySem.W.findIn K (.ref CD) "__init__" = some (some (.ref g_CD___init__)))
    (l_CD___init__ : K.lookup g_CD___init__ = some ⟨oc_CD___init__, od_CD___init__, .func (PySem.W.fnOf "__init__" "Divided.__init__" (defArgs s_Divided___init__) (defBody s_Divided___init__) (defScope s_Divided___init__) .none kV_CD___init__ dc_CD___init__ pm_CD___init__ an_CD___init__ cd_CD___init__ ct_CD___init__), sl_CD___init__⟩)
    (c_CD___init__ : PySem.W.codeIn K cd_CD___init__ "Divided.__init__" = true)
    (k_CD___init__ : PySem.W.keepIn K (.ref g_CD___init__) = true)
    (i_CD___init__ : PySem.W.isFn K (.ref g_CD___init__) = true)
    (mk_CD : PySem.W.makesIn K CD = true)
    (pg_CD : PySem.W.plainGet K CD Str.empty = true)
    (hd_CD : PySem.W.hasDictIn K CD = true)
    (po_CD : PySem.W.plainOver K CD = true)
    (sa_CD : PySem.W.findIn K (.ref CD) "__setattr__" = some (some (.builtin "object.__setattr__")))
    (kc_CD : PySem.W.keepIn K (.ref CD) = true)
    (ya_CD : PySem.W.findIn K (.ref CD) "__class__" = some (some (.builtin "object.__class__")))
    (yd_CD : PySem.W.mroIn K CD (.type "object") = some true)
    (yk_CD : PySem.W.kitOne K (.ref CD) (.ref CD) = some true)
    (n_CD_x : PySem.W.findIn K (.ref CD) "x" = some none)
    (n_CD_y : PySem.W.findIn K (.ref CD) "y" = some none)
    (n_CD_w : PySem.W.findIn K (.ref CD) "w" = some none)
    (n_CD_parts : PySem.W.findIn K (.ref CD) "parts" = some none)
    (n_CD_modulus : PySem.W.findIn K (.ref CD) "modulus" = some none)
    (a_CRl : PySem.W.nsIn K mainGlobals "Rule" = some (some (.ref CRl)))
    (a_CS___init__ : PySem.W.findIn K (.ref CS) "__init__" = some (some (.ref g_CS___init__)))
    (l_CS___init__ : K.lookup g_CS___init__ = some ⟨oc_CS___init__, od_CS___init__, .func (PySem.W.fnOf "__init__" "Setting.__init__" (defArgs s_Setting___init__) (defBody s_Setting___init__) (defScope s_Setting___init__) (.ref T_CS___init__) kV_CS___init__ dc_CS___init__ pm_CS___init__ an_CS___init__ cd_CS___init__ ct_CS___init__), sl_CS___init__⟩)
    (c_CS___init__ : PySem.W.codeIn K cd_CS___init__ "Setting.__init__" = true)
    (k_CS___init__ : PySem.W.keepIn K (.ref g_CS___init__) = true)
    (i_CS___init__ : PySem.W.isFn K (.ref g_CS___init__) = true)
    (lT_CS___init__ : K.lookup T_CS___init__ = some ⟨ocT_CS___init__, odT_CS___init__, .seq #[.int 1 t_CS___init__0, .int 1 t_CS___init__1, .int 0 t_CS___init__2] nT_CS___init__, slT_CS___init__⟩)
    (sf_CW_even : PySem.W.findCls K (.ref CW) (.type "type") "even" = some (.get (.builtin "staticmethod.__get__") (.ref p_CW_even) .none (.ref CW)))
    (sc_CW_even : PySem.W.recIn K p_CW_even "staticmethod" = some (.ref g_CW_even :: rest_CW_even))
    (l_CW_even : K.lookup g_CW_even = some ⟨oc_CW_even, od_CW_even, .func (PySem.W.fnOf "even" "Crew.even" (defArgs s_Crew_even) (defBody s_Crew_even) (defScope s_Crew_even) (.ref T_CW_even) kV_CW_even dc_CW_even pm_CW_even an_CW_even cd_CW_even ct_CW_even), sl_CW_even⟩)
    (c_CW_even : PySem.W.codeIn K cd_CW_even "Crew.even" = true)
    (k_CW_even : PySem.W.keepIn K (.ref g_CW_even) = true)
    (lT_CW_even : K.lookup T_CW_even = some ⟨ocT_CW_even, odT_CW_even, .seq #[.int 1 t_CW_even0] nT_CW_even, slT_CW_even⟩)
    (a_CQ___init__ : PySem.W.findIn K (.ref CQ) "__init__" = some (some (.ref g_CQ___init__)))
    (l_CQ___init__ : K.lookup g_CQ___init__ = some ⟨oc_CQ___init__, od_CQ___init__, .func (PySem.W.fnOf "__init__" "Ratio.__init__" (defArgs s_Ratio___init__) (defBody s_Ratio___init__) (defScope s_Ratio___init__) (.ref T_CQ___init__) kV_CQ___init__ dc_CQ___init__ pm_CQ___init__ an_CQ___init__ cd_CQ___init__ ct_CQ___init__), sl_CQ___init__⟩)
    (c_CQ___init__ : PySem.W.codeIn K cd_CQ___init__ "Ratio.__init__" = true)
    (k_CQ___init__ : PySem.W.keepIn K (.ref g_CQ___init__) = true)
    (i_CQ___init__ : PySem.W.isFn K (.ref g_CQ___init__) = true)
    (lT_CQ___init__ : K.lookup T_CQ___init__ = some ⟨ocT_CQ___init__, odT_CQ___init__, .seq #[.int 1 t_CQ___init__0] nT_CQ___init__, slT_CQ___init__⟩)
    (a_CL : PySem.W.nsIn K mainGlobals "LateError" = some (some (.ref CL)))
    (aZB : PySem.W.nsIn K mainGlobals "BadSize" = some (some (.ref CB)))
    (iZB : PySem.W.findIn K (.ref CB) "__init__" = some (some (.ref fZB)))
    (tZB : PySem.W.typeIn K (.ref fZB) = some (.type "function"))
    (lZB : K.lookup fZB = some ⟨ocZB, odZB, .func (PySem.W.fnX "__init__" "BadSize.__init__" (defArgs s_BadSize___init__) (defBody s_BadSize___init__) (defScope s_BadSize___init__) [("__class__", ccZB)] .none kVZB dcZB pmZB anZB (.ref cdZB) ctZB), slZB⟩)
    (cZB : PySem.W.codeIn K (.ref cdZB) "BadSize.__init__" = true)
    (eZB : ∃ nm q N bs bm sn sub ab col dd k0 k1 k2 k3 k5, K.lookup CB = some (excClassObj nm q CB N bs bm true sn sub ab col dd k0 k1 k2 k3 k5 "ValueError.__new__") ∧ PySem.HandSPX.refsVE bm = true)
    (sZB : PySem.W.findIn K (.ref CB) "__setattr__" = some (some (.builtin "object.__setattr__")))
    (xZB : PySem.W.subIn K (.ref CB) (.type "BaseException") = some true)
    (yZB : PySem.W.typeIn K (.ref CB) = some (.type "type"))
    (kZB : PySem.W.keepIn K (.ref CB) = true)
    (qZB : K.lookup ccZB = some ⟨clZB, cldZB, .cell (some (.ref CB)), cslZB⟩)
    (uZB : K.lookup cdZB = some ⟨cclZB, cddZB, .fields vsZB, ccsZB⟩)
    (vZB : vsZB[2]? = some (.str fileZB tfZB))
    (wZB : ((l.prog.main.file : Str) == fileZB) = true)
    (mZB : PySem.W.mroIn K CB (.ref CB) = some true)
    (pZB : PySem.W.ks_superIn K CB CB "__init__" = some (some (.builtin "ValueError.__init__")))
    (bZB : PySem.W.subIn K (.ref CB) (.type "ValueError") = some true)
    (zS : PySem.W.nsIn K mainGlobals "super" = some none)
    (tS : (l.prog.main.scope.names.lookup ("super" : Str)).isSome = false)
    (oB : PySem.W.nsIn K cStatics "thirdparty.any" = some none)
    (nZB_value : PySem.W.findIn K (.ref CB) "value" = some none)
    (gZB : PySem.W.findIn K (.ref CB) "__getattribute__" = some (some (.builtin "BaseException.__getattribute__")))
    (hZB : PySem.W.findIn K (.ref CB) "__getattr__" = some none)
    (dZB : PySem.W.hasDictIn K CB = true)
    (jZB : PySem.W.findIn K (.ref CB) "__class__" = some (some (.builtin "object.__class__")))
    (rZB : PySem.W.mroIn K CB (.type "object") = some true)
    (k1ZB : PySem.W.kitOne K (.ref CB) (.ref CB) = some true)
    (emZB : PySem.W.exmOne K (.ref CB) (.ref CL) = some true)
    (kVZB : PySem.W.kitOne K (.ref CB) (.type "ValueError") = some true)
    (aZC : PySem.W.nsIn K mainGlobals "BadChunks" = some (some (.ref CC)))
    (iZC : PySem.W.findIn K (.ref CC) "__init__" = some (some (.ref fZC)))
    (tZC : PySem.W.typeIn K (.ref fZC) = some (.type "function"))
    (lZC : K.lookup fZC = some ⟨ocZC, odZC, .func (PySem.W.fnX "__init__" "BadChunks.__init__" (defArgs s_BadChunks___init__) (defBody s_BadChunks___init__) (defScope s_BadChunks___init__) [("__class__", ccZC)] .none kVZC dcZC pmZC anZC (.ref cdZC) ctZC), slZC⟩)
    (cZC : PySem.W.codeIn K (.ref cdZC) "BadChunks.__init__" = true)
    (eZC : ∃ nm q N bs bm sn sub ab col dd k0 k1 k2 k3 k5, K.lookup CC = some (excClassObj nm q CC N bs bm true sn sub ab col dd k0 k1 k2 k3 k5 "ValueError.__new__") ∧ PySem.HandSPX.refsVE bm = true)
    (sZC : PySem.W.findIn K (.ref CC) "__setattr__" = some (some (.builtin "object.__setattr__")))
    (xZC : PySem.W.subIn K (.ref CC) (.type "BaseException") = some true)
    (yZC : PySem.W.typeIn K (.ref CC) = some (.type "type"))
    (kZC : PySem.W.keepIn K (.ref CC) = true)
    (qZC : K.lookup ccZC = some ⟨clZC, cldZC, .cell (some (.ref CC)), cslZC⟩)
    (uZC : K.lookup cdZC = some ⟨cclZC, cddZC, .fields vsZC, ccsZC⟩)
    (vZC : vsZC[2]? = some (.str fileZC tfZC))
    (wZC : ((l.prog.main.file : Str) == fileZC) = true)
    (mZC : PySem.W.mroIn K CC (.ref CC) = some true)
    (pZC : PySem.W.ks_superIn K CC CC "__init__" = some (some (.builtin "ValueError.__init__")))
    (bZC : PySem.W.subIn K (.ref CC) (.type "ValueError") = some true)
    (nZC_part : PySem.W.findIn K (.ref CC) "part" = some none)
    (gZC : PySem.W.findIn K (.ref CC) "__getattribute__" = some (some (.builtin "BaseException.__getattribute__")))
    (hZC : PySem.W.findIn K (.ref CC) "__getattr__" = some none)
    (dZC : PySem.W.hasDictIn K CC = true)
    (jZC : PySem.W.findIn K (.ref CC) "__class__" = some (some (.builtin "object.__class__")))
    (rZC : PySem.W.mroIn K CC (.type "object") = some true)
    (k1ZC : PySem.W.kitOne K (.ref CC) (.ref CC) = some true)
    (emZC : PySem.W.exmOne K (.ref CC) (.ref CL) = some true)
    (kVZC : PySem.W.kitOne K (.ref CC) (.type "ValueError") = some true)
    (aZM : PySem.W.nsIn K mainGlobals "TooMany" = some (some (.ref CM)))
    (iZM : PySem.W.findIn K (.ref CM) "__init__" = some (some (.ref fZM)))
    (tZM : PySem.W.typeIn K (.ref fZM) = some (.type "function"))
    (lZM : K.lookup fZM = some ⟨ocZM, odZM, .func (PySem.W.fnX "__init__" "TooMany.__init__" (defArgs s_TooMany___init__) (defBody s_TooMany___init__) (defScope s_TooMany___init__) [("__class__", ccZM)] .none kVZM dcZM pmZM anZM (.ref cdZM) ctZM), slZM⟩)
    (cZM : PySem.W.codeIn K (.ref cdZM) "TooMany.__init__" = true)
    (eZM : ∃ nm q N bs bm sn sub ab col dd k0 k1 k2 k3 k5, K.lookup CM = some (excClassObj nm q CM N bs bm true sn sub ab col dd k0 k1 k2 k3 k5 "ValueError.__new__") ∧ PySem.HandSPX.refsVE bm = true)
    (sZM : PySem.W.findIn K (.ref CM) "__setattr__" = some (some (.builtin "object.__setattr__")))
    (xZM : PySem.W.subIn K (.ref CM) (.type "BaseException") = some true)
    (yZM : PySem.W.typeIn K (.ref CM) = some (.type "type"))
    (kZM : PySem.W.keepIn K (.ref CM) = true)
    (qZM : K.lookup ccZM = some ⟨clZM, cldZM, .cell (some (.ref CM)), cslZM⟩)
    (uZM : K.lookup cdZM = some ⟨cclZM, cddZM, .fields vsZM, ccsZM⟩)
    (vZM : vsZM[2]? = some (.str fileZM tfZM))
    (wZM : ((l.prog.main.file : Str) == fileZM) = true)
    (mZM : PySem.W.mroIn K CM (.ref CM) = some true)
    (pZM : PySem.W.ks_superIn K CM CM "__init__" = some (some (.builtin "ValueError.__init__")))
    (bZM : PySem.W.subIn K (.ref CM) (.type "ValueError") = some true)
    (nZM_what : PySem.W.findIn K (.ref CM) "what" = some none)
    (nZM_most : PySem.W.findIn K (.ref CM) "most" = some none)
    (gZM : PySem.W.findIn K (.ref CM) "__getattribute__" = some (some (.builtin "BaseException.__getattribute__")))
    (hZM : PySem.W.findIn K (.ref CM) "__getattr__" = some none)
    (dZM : PySem.W.hasDictIn K CM = true)
    (jZM : PySem.W.findIn K (.ref CM) "__class__" = some (some (.builtin "object.__class__")))
    (rZM : PySem.W.mroIn K CM (.type "object") = some true)
    (k1ZM : PySem.W.kitOne K (.ref CM) (.ref CM) = some true)
    (emZM : PySem.W.exmOne K (.ref CM) (.ref CL) = some true)
    (kVZM : PySem.W.kitOne K (.ref CM) (.type "ValueError") = some true)
    (aZNa : PySem.W.nsIn K mainGlobals "BadName" = some (some (.ref BN)))
    (iZNa : PySem.W.findIn K (.ref BN) "__init__" = some (some (.ref fZNa)))
    (tZNa : PySem.W.typeIn K (.ref fZNa) = some (.type "function"))
    (lZNa : K.lookup fZNa = some ⟨ocZNa, odZNa, .func (PySem.W.fnX "__init__" "BadName.__init__" (defArgs s_BadName___init__) (defBody s_BadName___init__) (defScope s_BadName___init__) [("__class__", ccZNa)] .none kVZNa dcZNa pmZNa anZNa (.ref cdZNa) ctZNa), slZNa⟩)
    (cZNa : PySem.W.codeIn K (.ref cdZNa) "BadName.__init__" = true)
    (eZNa : ∃ nm q N bs bm sn sub ab col dd k0 k1 k2 k3 k5, K.lookup BN = some (excClassObj nm q BN N bs bm true sn sub ab col dd k0 k1 k2 k3 k5 "ValueError.__new__") ∧ PySem.HandSPX.refsVE bm = true)
    (sZNa : PySem.W.findIn K (.ref BN) "__setattr__" = some (some (.builtin "object.__setattr__")))
    (xZNa : PySem.W.subIn K (.ref BN) (.type "BaseException") = some true)
    (yZNa : PySem.W.typeIn K (.ref BN) = some (.type "type"))
    (kZNa : PySem.W.keepIn K (.ref BN) = true)
    (qZNa : K.lookup ccZNa = some ⟨clZNa, cldZNa, .cell (some (.ref BN)), cslZNa⟩)
    (uZNa : K.lookup cdZNa = some ⟨cclZNa, cddZNa, .fields vsZNa, ccsZNa⟩)
    (vZNa : vsZNa[2]? = some (.str fileZNa tfZNa))
    (wZNa : ((l.prog.main.file : Str) == fileZNa) = true)
    (mZNa : PySem.W.mroIn K BN (.ref BN) = some true)
    (pZNa : PySem.W.ks_superIn K BN BN "__init__" = some (some (.builtin "ValueError.__init__")))
    (bZNa : PySem.W.subIn K (.ref BN) (.type "ValueError") = some true)
    (nZNa_value : PySem.W.findIn K (.ref BN) "value" = some none)
    (gZNa : PySem.W.findIn K (.ref BN) "__getattribute__" = some (some (.builtin "BaseException.__getattribute__")))
    (hZNa : PySem.W.findIn K (.ref BN) "__getattr__" = some none)
    (dZNa : PySem.W.hasDictIn K BN = true)
    (jZNa : PySem.W.findIn K (.ref BN) "__class__" = some (some (.builtin "object.__class__")))
    (rZNa : PySem.W.mroIn K BN (.type "object") = some true)
    (k1ZNa : PySem.W.kitOne K (.ref BN) (.ref BN) = some true)
    (emZNa : PySem.W.exmOne K (.ref BN) (.ref CL) = some true)
    (kVZNa : PySem.W.kitOne K (.ref BN) (.type "ValueError") = some true)
    (aZSp : PySem.W.nsIn K mainGlobals "BadSpeed" = some (some (.ref BS)))
    (iZSp : PySem.W.findIn K (.ref BS) "__init__" = some (some (.ref fZSp)))
    (tZSp : PySem.W.typeIn K (.ref fZSp) = some (.type "function"))
    (lZSp : K.lookup fZSp = some ⟨ocZSp, odZSp, .func (PySem.W.fnX "__init__" "BadSpeed.__init__" (defArgs s_BadSpeed___init__) (defBody s_BadSpeed___init__) (defScope s_BadSpeed___init__) [("__class__", ccZSp)] .none kVZSp dcZSp pmZSp anZSp (.ref cdZSp) ctZSp), slZSp⟩)
    (cZSp : PySem.W.codeIn K (.ref cdZSp) "BadSpeed.__init__" = true)
    (eZSp : ∃ nm q N bs bm sn sub ab col dd k0 k1 k2 k3 k5, K.lookup BS = some (excClassObj nm q BS N bs bm true sn sub ab col dd k0 k1 k2 k3 k5 "ValueError.__new__") ∧ PySem.HandSPX.refsVE bm = true)
    (sZSp : PySem.W.findIn K (.ref BS) "__setattr__" = some (some (.builtin "object.__setattr__")))
    (xZSp : PySem.W.subIn K (.ref BS) (.type "BaseException") = some true)
    (yZSp : PySem.W.typeIn K (.ref BS) = some (.type "type"))
    (kZSp : PySem.W.keepIn K (.ref BS) = true)
    (qZSp : K.lookup ccZSp = some ⟨clZSp, cldZSp, .cell (some (.ref BS)), cslZSp⟩)
    (uZSp : K.lookup cdZSp = some ⟨cclZSp, cddZSp, .fields vsZSp, ccsZSp⟩)
    (vZSp : vsZSp[2]? = some (.str fileZSp tfZSp))
    (wZSp : ((l.prog.main.file : Str) == fileZSp) = true)
    (mZSp : PySem.W.mroIn K BS (.ref BS) = some true)
    (pZSp : PySem.W.ks_superIn K BS BS "__init__" = some (some (.builtin "ValueError.__init__")))
    (bZSp : PySem.W.subIn K (.ref BS) (.type "ValueError") = some true)
    (nZSp_value : PySem.W.findIn K (.ref BS) "value" = some none)
    (gZSp : PySem.W.findIn K (.ref BS) "__getattribute__" = some (some (.builtin "BaseException.__getattribute__")))
    (hZSp : PySem.W.findIn K (.ref BS) "__getattr__" = some none)
    (dZSp : PySem.W.hasDictIn K BS = true)
    (jZSp : PySem.W.findIn K (.ref BS) "__class__" = some (some (.builtin "object.__class__")))
    (rZSp : PySem.W.mroIn K BS (.type "object") = some true)
    (k1ZSp : PySem.W.kitOne K (.ref BS) (.ref BS) = some true)
    (emZSp : PySem.W.exmOne K (.ref BS) (.ref CL) = some true)
    (kVZSp : PySem.W.kitOne K (.ref BS) (.type "ValueError") = some true)
    (aZCr : PySem.W.nsIn K mainGlobals "BadCrew" = some (some (.ref BW)))
    (iZCr : PySem.W.findIn K (.ref BW) "__init__" = some (some (.ref fZCr)))
    (tZCr : PySem.W.typeIn K (.ref fZCr) = some (.type "function"))
    (lZCr : K.lookup fZCr = some ⟨ocZCr, odZCr, .func (PySem.W.fnX "__init__" "BadCrew.__init__" (defArgs s_BadCrew___init__) (defBody s_BadCrew___init__) (defScope s_BadCrew___init__) [("__class__", ccZCr)] .none kVZCr dcZCr pmZCr anZCr (.ref cdZCr) ctZCr), slZCr⟩)
    (cZCr : PySem.W.codeIn K (.ref cdZCr) "BadCrew.__init__" = true)
    (eZCr : ∃ nm q N bs bm sn sub ab col dd k0 k1 k2 k3 k5, K.lookup BW = some (excClassObj nm q BW N bs bm true sn sub ab col dd k0 k1 k2 k3 k5 "ValueError.__new__") ∧ PySem.HandSPX.refsVE bm = true)
    (sZCr : PySem.W.findIn K (.ref BW) "__setattr__" = some (some (.builtin "object.__setattr__")))
    (xZCr : PySem.W.subIn K (.ref BW) (.type "BaseException") = some true)
    (yZCr : PySem.W.typeIn K (.ref BW) = some (.type "type"))
    (kZCr : PySem.W.keepIn K (.ref BW) = true)
    (qZCr : K.lookup ccZCr = some ⟨clZCr, cldZCr, .cell (some (.ref BW)), cslZCr⟩)
    (uZCr : K.lookup cdZCr = some ⟨cclZCr, cddZCr, .fields vsZCr, ccsZCr⟩)
    (vZCr : vsZCr[2]? = some (.str fileZCr tfZCr))
    (wZCr : ((l.prog.main.file : Str) == fileZCr) = true)
    (mZCr : PySem.W.mroIn K BW (.ref BW) = some true)
    (pZCr : PySem.W.ks_superIn K BW BW "__init__" = some (some (.builtin "ValueError.__init__")))
    (bZCr : PySem.W.subIn K (.ref BW) (.type "ValueError") = some true)
    (nZCr_part : PySem.W.findIn K (.ref BW) "part" = some none)
    (gZCr : PySem.W.findIn K (.ref BW) "__getattribute__" = some (some (.builtin "BaseException.__getattribute__")))
    (hZCr : PySem.W.findIn K (.ref BW) "__getattr__" = some none)
    (dZCr : PySem.W.hasDictIn K BW = true)
    (jZCr : PySem.W.findIn K (.ref BW) "__class__" = some (some (.builtin "object.__class__")))
    (rZCr : PySem.W.mroIn K BW (.type "object") = some true)
    (k1ZCr : PySem.W.kitOne K (.ref BW) (.ref BW) = some true)
    (emZCr : PySem.W.exmOne K (.ref BW) (.ref CL) = some true)
    (kVZCr : PySem.W.kitOne K (.ref BW) (.type "ValueError") = some true)
    (aZNw : PySem.W.nsIn K mainGlobals "NoWorker" = some (some (.ref NW)))
    (iZNw : PySem.W.findIn K (.ref NW) "__init__" = some (some (.ref fZNw)))
    (tZNw : PySem.W.typeIn K (.ref fZNw) = some (.type "function"))
    (lZNw : K.lookup fZNw = some ⟨ocZNw, odZNw, .func (PySem.W.fnX "__init__" "NoWorker.__init__" (defArgs s_NoWorker___init__) (defBody s_NoWorker___init__) (defScope s_NoWorker___init__) [("__class__", ccZNw)] .none kVZNw dcZNw pmZNw anZNw (.ref cdZNw) ctZNw), slZNw⟩)
    (cZNw : PySem.W.codeIn K (.ref cdZNw) "NoWorker.__init__" = true)
    (eZNw : ∃ nm q N bs bm sn sub ab col dd k0 k1 k2 k3 k5, K.lookup NW = some (excClassObj nm q NW N bs bm true sn sub ab col dd k0 k1 k2 k3 k5 "ValueError.__new__") ∧ PySem.HandSPX.refsVE bm = true)
    (sZNw : PySem.W.findIn K (.ref NW) "__setattr__" = some (some (.builtin "object.__setattr__")))
    (xZNw : PySem.W.subIn K (.ref NW) (.type "BaseException") = some true)
    (yZNw : PySem.W.typeIn K (.ref NW) = some (.type "type"))
    (kZNw : PySem.W.keepIn K (.ref NW) = true)
    (qZNw : K.lookup ccZNw = some ⟨clZNw, cldZNw, .cell (some (.ref NW)), cslZNw⟩)
    (uZNw : K.lookup cdZNw = some ⟨cclZNw, cddZNw, .fields vsZNw, ccsZNw⟩)
    (vZNw : vsZNw[2]? = some (.str fileZNw tfZNw))
    (wZNw : ((l.prog.main.file : Str) == fileZNw) = true)
    (mZNw : PySem.W.mroIn K NW (.ref NW) = some true)
    (pZNw : PySem.W.ks_superIn K NW NW "__init__" = some (some (.builtin "ValueError.__init__")))
    (bZNw : PySem.W.subIn K (.ref NW) (.type "ValueError") = some true)
    (nZNw_name : PySem.W.findIn K (.ref NW) "name" = some none)
    (gZNw : PySem.W.findIn K (.ref NW) "__getattribute__" = some (some (.builtin "BaseException.__getattribute__")))
    (hZNw : PySem.W.findIn K (.ref NW) "__getattr__" = some none)
    (dZNw : PySem.W.hasDictIn K NW = true)
    (jZNw : PySem.W.findIn K (.ref NW) "__class__" = some (some (.builtin "object.__class__")))
    (rZNw : PySem.W.mroIn K NW (.type "object") = some true)
    (k1ZNw : PySem.W.kitOne K (.ref NW) (.ref NW) = some true)
    (emZNw : PySem.W.exmOne K (.ref NW) (.ref CL) = some true)
    (kVZNw : PySem.W.kitOne K (.ref NW) (.type "ValueError") = some true)
    (aZQ : PySem.W.nsIn K mainGlobals "BadRatio" = some (some (.ref BR)))
    (iZQ : PySem.W.findIn K (.ref BR) "__init__" = some (some (.ref fZQ)))
    (tZQ : PySem.W.typeIn K (.ref fZQ) = some (.type "function"))
    (lZQ : K.lookup fZQ = some ⟨ocZQ, odZQ, .func (PySem.W.fnX "__init__" "BadRatio.__init__" (defArgs s_BadRatio___init__) (defBody s_BadRatio___init__) (defScope s_BadRatio___init__) [("__class__", ccZQ)] .none kVZQ dcZQ pmZQ anZQ (.ref cdZQ) ctZQ), slZQ⟩)
    (cZQ : PySem.W.codeIn K (.ref cdZQ) "BadRatio.__init__" = true)
    (eZQ : ∃ nm q N bs bm sn sub ab col dd k0 k1 k2 k3 k5, K.lookup BR = some (excClassObj nm q BR N bs bm true sn sub ab col dd k0 k1 k2 k3 k5 "ValueError.__new__") ∧ PySem.HandSPX.refsVE bm = true)
    (sZQ : PySem.W.findIn K (.ref BR) "__setattr__" = some (some (.builtin "object.__setattr__")))
    (xZQ : PySem.W.subIn K (.ref BR) (.type "BaseException") = some true)
    (yZQ : PySem.W.typeIn K (.ref BR) = some (.type "type"))
    (kZQ : PySem.W.keepIn K (.ref BR) = true)
    (qZQ : K.lookup ccZQ = some ⟨clZQ, cldZQ, .cell (some (.ref BR)), cslZQ⟩)
    (uZQ : K.lookup cdZQ = some ⟨cclZQ, cddZQ, .fields vsZQ, ccsZQ⟩)
    (vZQ : vsZQ[2]? = some (.str fileZQ tfZQ))
    (wZQ : ((l.prog.main.file : Str) == fileZQ) = true)
    (mZQ : PySem.W.mroIn K BR (.ref BR) = some true)
    (pZQ : PySem.W.ks_superIn K BR BR "__init__" = some (some (.builtin "ValueError.__init__")))
    (bZQ : PySem.W.subIn K (.ref BR) (.type "ValueError") = some true)
    (nZQ_value : PySem.W.findIn K (.ref BR) "value" = some none)
    (gZQ : PySem.W.findIn K (.ref BR) "__getattribute__" = some (some (.builtin "BaseException.__getattribute__")))
    (hZQ : PySem.W.findIn K (.ref BR) "__getattr__" = some none)
    (dZQ : PySem.W.hasDictIn K BR = true)
    (jZQ : PySem.W.findIn K (.ref BR) "__class__" = some (some (.builtin "object.__class__")))
    (rZQ : PySem.W.mroIn K BR (.type "object") = some true)
    (k1ZQ : PySem.W.kitOne K (.ref BR) (.ref BR) = some true)
    (emZQ : PySem.W.exmOne K (.ref BR) (.ref CL) = some true)
    (kVZQ : PySem.W.kitOne K (.ref BR) (.type "ValueError") = some true)
    (aZRe : PySem.W.nsIn K mainGlobals "BadRest" = some (some (.ref BE)))
    (iZRe : PySem.W.findIn K (.ref BE) "__init__" = some (some (.ref fZRe)))
    (tZRe : PySem.W.typeIn K (.ref fZRe) = some (.type "function"))
    (lZRe : K.lookup fZRe = some ⟨ocZRe, odZRe, .func (PySem.W.fnX "__init__" "BadRest.__init__" (defArgs s_BadRest___init__) (defBody s_BadRest___init__) (defScope s_BadRest___init__) [("__class__", ccZRe)] .none kVZRe dcZRe pmZRe anZRe (.ref cdZRe) ctZRe), slZRe⟩)
    (cZRe : PySem.W.codeIn K (.ref cdZRe) "BadRest.__init__" = true)
    (eZRe : ∃ nm q N bs bm sn sub ab col dd k0 k1 k2 k3 k5, K.lookup BE = some (excClassObj nm q BE N bs bm true sn sub ab col dd k0 k1 k2 k3 k5 "ValueError.__new__") ∧ PySem.HandSPX.refsVE bm = true)
    (sZRe : PySem.W.findIn K (.ref BE) "__setattr__" = some (some (.builtin "object.__setattr__")))
    (xZRe : PySem.W.subIn K (.ref BE) (.type "BaseException") = some true)
    (yZRe : PySem.W.typeIn K (.ref BE) = some (.type "type"))
    (kZRe : PySem.W.keepIn K (.ref BE) = true)
    (qZRe : K.lookup ccZRe = some ⟨clZRe, cldZRe, .cell (some (.ref BE)), cslZRe⟩)
    (uZRe : K.lookup cdZRe = some ⟨cclZRe, cddZRe, .fields vsZRe, ccsZRe⟩)
    (vZRe : vsZRe[2]? = some (.str fileZRe tfZRe))
    (wZRe : ((l.prog.main.file : Str) == fileZRe) = true)
    (mZRe : PySem.W.mroIn K BE (.ref BE) = some true)
    (pZRe : PySem.W.ks_superIn K BE BE "__init__" = some (some (.builtin "ValueError.__init__")))
    (bZRe : PySem.W.subIn K (.ref BE) (.type "ValueError") = some true)
    (nZRe_value : PySem.W.findIn K (.ref BE) "value" = some none)
    (gZRe : PySem.W.findIn K (.ref BE) "__getattribute__" = some (some (.builtin "BaseException.__getattribute__")))
    (hZRe : PySem.W.findIn K (.ref BE) "__getattr__" = some none)
    (dZRe : PySem.W.hasDictIn K BE = true)
    (jZRe : PySem.W.findIn K (.ref BE) "__class__" = some (some (.builtin "object.__class__")))
    (rZRe : PySem.W.mroIn K BE (.type "object") = some true)
    (k1ZRe : PySem.W.kitOne K (.ref BE) (.ref BE) = some true)
    (emZRe : PySem.W.exmOne K (.ref BE) (.ref CL) = some true)
    (kVZRe : PySem.W.kitOne K (.ref BE) (.type "ValueError") = some true)
    (aZSe : PySem.W.nsIn K mainGlobals "BadSetting" = some (some (.ref SE)))
    (iZSe : PySem.W.findIn K (.ref SE) "__init__" = some (some (.ref fZSe)))
    (tZSe : PySem.W.typeIn K (.ref fZSe) = some (.type "function"))
    (lZSe : K.lookup fZSe = some ⟨ocZSe, odZSe, .func (PySem.W.fnX "__init__" "BadSetting.__init__" (defArgs s_BadSetting___init__) (defBody s_BadSetting___init__) (defScope s_BadSetting___init__) [("__class__", ccZSe)] .none kVZSe dcZSe pmZSe anZSe (.ref cdZSe) ctZSe), slZSe⟩)
    (cZSe : PySem.W.codeIn K (.ref cdZSe) "BadSetting.__init__" = true)
    (eZSe : ∃ nm q N bs bm sn sub ab col dd k0 k1 k2 k3 k5, K.lookup SE = some (excClassObj nm q SE N bs bm true sn sub ab col dd k0 k1 k2 k3 k5 "ValueError.__new__") ∧ PySem.HandSPX.refsVE bm = true)
    (sZSe : PySem.W.findIn K (.ref SE) "__setattr__" = some (some (.builtin "object.__setattr__")))
    (xZSe : PySem.W.subIn K (.ref SE) (.type "BaseException") = some true)
    (yZSe : PySem.W.typeIn K (.ref SE) = some (.type "type"))
    (kZSe : PySem.W.keepIn K (.ref SE) = true)
    (qZSe : K.lookup ccZSe = some ⟨clZSe, cldZSe, .cell (some (.ref SE)), cslZSe⟩)
    (uZSe : K.lookup cdZSe = some ⟨cclZSe, cddZSe, .fields vsZSe, ccsZSe⟩)
    (vZSe : vsZSe[2]? = some (.str fileZSe tfZSe))
    (wZSe : ((l.prog.main.file : Str) == fileZSe) = true)
    (mZSe : PySem.W.mroIn K SE (.ref SE) = some true)
    (pZSe : PySem.W.ks_superIn K SE SE "__init__" = some (some (.builtin "ValueError.__init__")))
    (bZSe : PySem.W.subIn K (.ref SE) (.type "ValueError") = some true)
    (nZSe_part : PySem.W.findIn K (.ref SE) "part" = some none)
    (gZSe : PySem.W.findIn K (.ref SE) "__getattribute__" = some (some (.builtin "BaseException.__getattribute__")))
    (hZSe : PySem.W.findIn K (.ref SE) "__getattr__" = some none)
    (dZSe : PySem.W.hasDictIn K SE = true)
    (jZSe : PySem.W.findIn K (.ref SE) "__class__" = some (some (.builtin "object.__class__")))
    (rZSe : PySem.W.mroIn K SE (.type "object") = some true)
    (k1ZSe : PySem.W.kitOne K (.ref SE) (.ref SE) = some true)
    (emZSe : PySem.W.exmOne K (.ref SE) (.ref CL) = some true)
    (kVZSe : PySem.W.kitOne K (.ref SE) (.type "ValueError") = some true)
    (aZCo : PySem.W.nsIn K mainGlobals "BadCost" = some (some (.ref BA)))
    (iZCo : PySem.W.findIn K (.ref BA) "__init__" = some (some (.ref fZCo)))
    (tZCo : PySem.W.typeIn K (.ref fZCo) = some (.type "function"))
    (lZCo : K.lookup fZCo = some ⟨ocZCo, odZCo, .func (PySem.W.fnX "__init__" "BadCost.__init__" (defArgs s_BadCost___init__) (defBody s_BadCost___init__) (defScope s_BadCost___init__) [("__class__", ccZCo)] .none kVZCo dcZCo pmZCo anZCo (.ref cdZCo) ctZCo), slZCo⟩)
    (cZCo : PySem.W.codeIn K (.ref cdZCo) "BadCost.__init__" = true)
    (eZCo : ∃ nm q N bs bm sn sub ab col dd k0 k1 k2 k3 k5, K.lookup BA = some (excClassObj nm q BA N bs bm true sn sub ab col dd k0 k1 k2 k3 k5 "ValueError.__new__") ∧ PySem.HandSPX.refsVE bm = true)
    (sZCo : PySem.W.findIn K (.ref BA) "__setattr__" = some (some (.builtin "object.__setattr__")))
    (xZCo : PySem.W.subIn K (.ref BA) (.type "BaseException") = some true)
    (yZCo : PySem.W.typeIn K (.ref BA) = some (.type "type"))
    (kZCo : PySem.W.keepIn K (.ref BA) = true)
    (qZCo : K.lookup ccZCo = some ⟨clZCo, cldZCo, .cell (some (.ref BA)), cslZCo⟩)
    (uZCo : K.lookup cdZCo = some ⟨cclZCo, cddZCo, .fields vsZCo, ccsZCo⟩)
    (vZCo : vsZCo[2]? = some (.str fileZCo tfZCo))
    (wZCo : ((l.prog.main.file : Str) == fileZCo) = true)
    (mZCo : PySem.W.mroIn K BA (.ref BA) = some true)
    (pZCo : PySem.W.ks_superIn K BA BA "__init__" = some (some (.builtin "ValueError.__init__")))
    (bZCo : PySem.W.subIn K (.ref BA) (.type "ValueError") = some true)
    (nZCo_value : PySem.W.findIn K (.ref BA) "value" = some none)
    (gZCo : PySem.W.findIn K (.ref BA) "__getattribute__" = some (some (.builtin "BaseException.__getattribute__")))
    (hZCo : PySem.W.findIn K (.ref BA) "__getattr__" = some none)
    (dZCo : PySem.W.hasDictIn K BA = true)
    (jZCo : PySem.W.findIn K (.ref BA) "__class__" = some (some (.builtin "object.__class__")))
    (rZCo : PySem.W.mroIn K BA (.type "object") = some true)
    (k1ZCo : PySem.W.kitOne K (.ref BA) (.ref BA) = some true)
    (emZCo : PySem.W.exmOne K (.ref BA) (.ref CL) = some true)
    (kVZCo : PySem.W.kitOne K (.ref BA) (.type "ValueError") = some true)
    (aZFe : PySem.W.nsIn K mainGlobals "BadFee" = some (some (.ref BF)))
    (iZFe : PySem.W.findIn K (.ref BF) "__init__" = some (some (.ref fZFe)))
    (tZFe : PySem.W.typeIn K (.ref fZFe) = some (.type "function"))
    (lZFe : K.lookup fZFe = some ⟨ocZFe, odZFe, .func (PySem.W.fnX "__init__" "BadFee.__init__" (defArgs s_BadFee___init__) (defBody s_BadFee___init__) (defScope s_BadFee___init__) [("__class__", ccZFe)] .none kVZFe dcZFe pmZFe anZFe (.ref cdZFe) ctZFe), slZFe⟩)
    (cZFe : PySem.W.codeIn K (.ref cdZFe) "BadFee.__init__" = true)
    (eZFe : ∃ nm q N bs bm sn sub ab col dd k0 k1 k2 k3 k5, K.lookup BF = some (excClassObj nm q BF N bs bm true sn sub ab col dd k0 k1 k2 k3 k5 "ValueError.__new__") ∧ PySem.HandSPX.refsVE bm = true)
    (sZFe : PySem.W.findIn K (.ref BF) "__setattr__" = some (some (.builtin "object.__setattr__")))
    (xZFe : PySem.W.subIn K (.ref BF) (.type "BaseException") = some true)
    (yZFe : PySem.W.typeIn K (.ref BF) = some (.type "type"))
    (kZFe : PySem.W.keepIn K (.ref BF) = true)
    (qZFe : K.lookup ccZFe = some ⟨clZFe, cldZFe, .cell (some (.ref BF)), cslZFe⟩)
    (uZFe : K.lookup cdZFe = some ⟨cclZFe, cddZFe, .fields vsZFe, ccsZFe⟩)
    (vZFe : vsZFe[2]? = some (.str fileZFe tfZFe))
    (wZFe : ((l.prog.main.file : Str) == fileZFe) = true)
    (mZFe : PySem.W.mroIn K BF (.ref BF) = some true)
    (pZFe : PySem.W.ks_superIn K BF BF "__init__" = some (some (.builtin "ValueError.__init__")))
    (bZFe : PySem.W.subIn K (.ref BF) (.type "ValueError") = some true)
    (nZFe_value : PySem.W.findIn K (.ref BF) "value" = some none)
    (gZFe : PySem.W.findIn K (.ref BF) "__getattribute__" = some (some (.builtin "BaseException.__getattribute__")))
    (hZFe : PySem.W.findIn K (.ref BF) "__getattr__" = some none)
    (dZFe : PySem.W.hasDictIn K BF = true)
    (jZFe : PySem.W.findIn K (.ref BF) "__class__" = some (some (.builtin "object.__class__")))
    (rZFe : PySem.W.mroIn K BF (.type "object") = some true)
    (k1ZFe : PySem.W.kitOne K (.ref BF) (.ref BF) = some true)
    (emZFe : PySem.W.exmOne K (.ref BF) (.ref CL) = some true)
    (kVZFe : PySem.W.kitOne K (.ref BF) (.type "ValueError") = some true)
    (aZRu : PySem.W.nsIn K mainGlobals "BadRule" = some (some (.ref RU)))
    (iZRu : PySem.W.findIn K (.ref RU) "__init__" = some (some (.ref fZRu)))
    (tZRu : PySem.W.typeIn K (.ref fZRu) = some (.type "function"))
    (lZRu : K.lookup fZRu = some ⟨ocZRu, odZRu, .func (PySem.W.fnX "__init__" "BadRule.__init__" (defArgs s_BadRule___init__) (defBody s_BadRule___init__) (defScope s_BadRule___init__) [("__class__", ccZRu)] .none kVZRu dcZRu pmZRu anZRu (.ref cdZRu) ctZRu), slZRu⟩)
    (cZRu : PySem.W.codeIn K (.ref cdZRu) "BadRule.__init__" = true)
    (eZRu : ∃ nm q N bs bm sn sub ab col dd k0 k1 k2 k3 k5, K.lookup RU = some (excClassObj nm q RU N bs bm true sn sub ab col dd k0 k1 k2 k3 k5 "ValueError.__new__") ∧ PySem.HandSPX.refsVE bm = true)
    (sZRu : PySem.W.findIn K (.ref RU) "__setattr__" = some (some (.builtin "object.__setattr__")))
    (xZRu : PySem.W.subIn K (.ref RU) (.type "BaseException") = some true)
    (yZRu : PySem.W.typeIn K (.ref RU) = some (.type "type"))
    (kZRu : PySem.W.keepIn K (.ref RU) = true)
    (qZRu : K.lookup ccZRu = some ⟨clZRu, cldZRu, .cell (some (.ref RU)), cslZRu⟩)
    (uZRu : K.lookup cdZRu = some ⟨cclZRu, cddZRu, .fields vsZRu, ccsZRu⟩)
    (vZRu : vsZRu[2]? = some (.str fileZRu tfZRu))
    (wZRu : ((l.prog.main.file : Str) == fileZRu) = true)
    (mZRu : PySem.W.mroIn K RU (.ref RU) = some true)
    (pZRu : PySem.W.ks_superIn K RU RU "__init__" = some (some (.builtin "ValueError.__init__")))
    (bZRu : PySem.W.subIn K (.ref RU) (.type "ValueError") = some true)
    (nZRu_part : PySem.W.findIn K (.ref RU) "part" = some none)
    (gZRu : PySem.W.findIn K (.ref RU) "__getattribute__" = some (some (.builtin "BaseException.__getattribute__")))
    (hZRu : PySem.W.findIn K (.ref RU) "__getattr__" = some none)
    (dZRu : PySem.W.hasDictIn K RU = true)
    (jZRu : PySem.W.findIn K (.ref RU) "__class__" = some (some (.builtin "object.__class__")))
    (rZRu : PySem.W.mroIn K RU (.type "object") = some true)
    (k1ZRu : PySem.W.kitOne K (.ref RU) (.ref RU) = some true)
    (emZRu : PySem.W.exmOne K (.ref RU) (.ref CL) = some true)
    (kVZRu : PySem.W.kitOne K (.ref RU) (.type "ValueError") = some true)
    (gWo : PySem.W.nsIn K mainGlobals "WORDS" = some (some (.ref aW)))
    (lWo : K.lookup aW = some ⟨.type "tuple", odW, .seq #[.str "cost" wt0, .str "fee" wt1, .str "none" wt2, .str "order" wt3, .str "ready" wt4, .str "self" wt5, .str "chunks" wt6, .str "crew" wt7, .str "late" wt8, .str "at" wt9] nW, slW⟩)
    (gSi : PySem.W.nsIn K mainGlobals "SIGNS" = some (some (.str "abcdefghijklmnopqrstuvwxyz" tSG)))
    (gSp : PySem.W.nsIn K mainGlobals "MOST_SPEED" = some (some (.int 60 tSP)))
    (gMW : PySem.W.nsIn K mainGlobals "MOST_WORKERS" = some (some (.int 8 tMW)))
    (gCo : PySem.W.nsIn K mainGlobals "MOST_COST" = some (some (.int 60 tMCo)))
    (gFe : PySem.W.nsIn K mainGlobals "MOST_FEE" = some (some (.int 1000000000000000000000000000000 tMFe)))
    (yoQ : odTys.all (fun T => decide (PySem.W.kitOne K (.type T) (.ref CQ) = some false)) = true)
    (yiQ : PySem.W.kitOne K (.type "int") (.ref CQ) = some false)
    (sfQ : PySem.W.selfFirst K CQ = true)
    (mrQ : (PySem.W.clsIn K CQ).map (·.mro) = some [.ref CQ, .type "object"])
    (sIQ : PySem.W.subIn K (.ref CQ) (.type "int") = some false)
    (sBQ : PySem.W.subIn K (.ref CQ) (.type "bool") = some false)
    (oQ_add : othersB K CQ .Add = true)
    (vQ_add : PySem.W.findIn K (.type "int") (dunderI (.Add : Operator).info.2) = some none)
    (uQ_add : PySem.W.findIn K (.ref CQ) (dunderI (.Add : Operator).info.2) = some none)
    (xQ_add : PySem.W.findIn K (.type "object") (dunderI (.Add : Operator).info.2) = some none)
    (oQ_sub : othersB K CQ .Sub = true)
    (vQ_sub : PySem.W.findIn K (.type "int") (dunderI (.Sub : Operator).info.2) = some none)
    (uQ_sub : PySem.W.findIn K (.ref CQ) (dunderI (.Sub : Operator).info.2) = some none)
    (xQ_sub : PySem.W.findIn K (.type "object") (dunderI (.Sub : Operator).info.2) = some none)
    (oQ_mul : othersB K CQ .Mult = true)
    (vQ_mul : PySem.W.findIn K (.type "int") (dunderI (.Mult : Operator).info.2) = some none)
    (uQ_mul : PySem.W.findIn K (.ref CQ) (dunderI (.Mult : Operator).info.2) = some none)
    (xQ_mul : PySem.W.findIn K (.type "object") (dunderI (.Mult : Operator).info.2) = some none)
    (ns_CW : PySem.W.noSeq K CW = true)
    (fi_CW : PySem.W.fnIn K g_CW___getitem__ = true)
    (kSR : PySem.W.kitOne K (.ref SE) (.ref RU) = some false)
    (kRS : PySem.W.kitOne K (.ref RU) (.ref SE) = some false)
    (kDT : PySem.W.kitOne K (.ref CD) (.ref CT) = some false)
    (kWT : PySem.W.kitOne K (.ref CW) (.ref CT) = some false)
    (kWS : PySem.W.kitOne K (.ref CW) (.ref CS) = some false)
    (kTS : PySem.W.kitOne K (.ref CT) (.ref CS) = some false)
    (kTR : PySem.W.kitOne K (.ref CT) (.ref CRl) = some false)
    (kn1 : PySem.W.kitOne K (.type "NoneType") (.ref CB2) = some false)
    (kn2 : PySem.W.kitOne K (.type "NoneType") (.ref CE2) = some false)
    (kn3 : PySem.W.kitOne K (.type "int") (.ref CB2) = some false)
    (kn4 : PySem.W.kitOne K (.type "int") (.ref CE2) = some false)
    (kT7T : (["int", "NoneType", "bool", "str", "tuple", "list", "dict"].all fun T => decide (PySem.W.kitOne K (.type T) (.ref CT) = some false)) = true)
    (kT7S : (["int", "NoneType", "bool", "str", "tuple", "list", "dict"].all fun T => decide (PySem.W.kitOne K (.type T) (.ref CS) = some false)) = true)
    (gMOv : PySem.W.nsIn K mainGlobals "MOST_OVER" = some (some (.int 24 tMOv)))
    (gMDv : PySem.W.nsIn K mainGlobals "MOST_DIVISOR" = some (some (.int 24 tMDv)))
    (gMAd : PySem.W.nsIn K mainGlobals "MOST_ADDED" = some (some (.int 1000 tMAd)))
    (z_isinstance : PySem.W.nsIn K mainGlobals "isinstance" = some none)
    (z_int : PySem.W.nsIn K mainGlobals "int" = some none)
    (z_bool : PySem.W.nsIn K mainGlobals "bool" = some none)
    (z_len : PySem.W.nsIn K mainGlobals "len" = some none)
    (z_abs : PySem.W.nsIn K mainGlobals "abs" = some none)
    (z_list : PySem.W.nsIn K mainGlobals "list" = some none)
    (z_tuple : PySem.W.nsIn K mainGlobals "tuple" = some none)
    (z_range : PySem.W.nsIn K mainGlobals "range" = some none)
    (z_repr : PySem.W.nsIn K mainGlobals "repr" = some none)
    (z_str : PySem.W.nsIn K mainGlobals "str" = some none)
    (z_zip : PySem.W.nsIn K mainGlobals "zip" = some none)
    (z_min : PySem.W.nsIn K mainGlobals "min" = some none)
    (z_max : PySem.W.nsIn K mainGlobals "max" = some none)
    (z_all : PySem.W.nsIn K mainGlobals "all" = some none)
    (z_any : PySem.W.nsIn K mainGlobals "any" = some none)
    (z_sorted : PySem.W.nsIn K mainGlobals "sorted" = some none)
    (z_enumerate : PySem.W.nsIn K mainGlobals "enumerate" = some none)
    (z_ValueError : PySem.W.nsIn K mainGlobals "ValueError" = some none)
    (z_dict : PySem.W.nsIn K mainGlobals "dict" = some none)
    (z_sum : PySem.W.nsIn K mainGlobals "sum" = some none)
    (hCPt : PySem.W.codeHdIn K ct0 Pt = true)
    (nPPt : K.lookup Pt = none)
    (tPPt : h.get? Pt = some { cls := .none, data := .fields #[] })
    (hPd0 : [Pt].Nodup)
    : LawG l w K CX0 15 63 "_law_script" mg fa h := by
  have e := hfa.symm.trans (PySem.W.mg_of X G a23)
  cases e
  have hPd : (([(Pt, lamQb)] : List (Addr × Str)).map (·.1)).Nodup := hPd0
  have F1 := fun_mk (st := s_is_integer) l1 c1 k1
  have F2 := fun_mk (st := s_is_within) l2 c2 k2
  have F3 := fun_mk (st := s_is_name) l3 c3 k3
  have F4 := fun_mk (st := s_is_speed) l4 c4 k4
  have F5 := fun_mk (st := s_need_speed) l5 c5 k5
  have F6 := fun_mk (st := s_need_speeds) l6 c6 k6
  have F7 := fun_mk (st := s_first_with) l7 c7 k7
  have F8 := fun_mk (st := s_common) l8 c8 k8
  have F9 := fun_mk (st := s_told_of) l9 c9 k9
  have F10 := fun_mk (st := s_need_spot) l10 c10 k10
  have F11 := fun_mk (st := s_rounded_up) l11 c11 k11
  have F12 := fun_mk (st := s_need_batched) l12 c12 k12
  have F13 := fun_mk (st := s_rise_of) l13 c13 k13
  have F14 := fun_mk (st := s_lates_from) l14 c14 k14
  have F15 := fun_mk (st := s_greatest_batched) l15 c15 k15
  have F16 := fun_mk (st := s_shows_batched) l16 c16 k16
  have F17 := fun_mk (st := s_is_bound) l17 c17 k17
  have F18 := fun_mk (st := s__law_heard) l18 c18 k18
  have F19 := fun_mk (st := s__law_pen) l19 c19 k19
  have F20 := fun_mk (st := s__law_draw) l20 c20 k20
  have F21 := fun_mk (st := s__law_pick) l21 c21 k21
  have F22 : FunC K "_law_both" "_law_both" s__law_both ct0 f22 _ := ⟨⟨_, _, _, _, _, _, _, _, rfl, l22, c22⟩⟩
  have F23 := fun_mk (st := s_law) l23 c23 k23
  have F_CW___init__ := fun_mk l_CW___init__ c_CW___init__ k_CW___init__
  have F_CW___contains__ := fun_mk l_CW___contains__ c_CW___contains__ k_CW___contains__
  have F_CW___getitem__ := fun_mk l_CW___getitem__ c_CW___getitem__ k_CW___getitem__
  have F_CW_of := fun_mk l_CW_of c_CW_of k_CW_of
  have F_CS_late_of := fun_mk l_CS_late_of c_CS_late_of k_CS_late_of
  have F_CS_straight := fun_mk l_CS_straight c_CS_straight k_CS_straight
  have F_CS_with_fee := fun_mk l_CS_with_fee c_CS_with_fee k_CS_with_fee
  have F_CQ___add__ := fun_mk l_CQ___add__ c_CQ___add__ k_CQ___add__
  have F_CQ___radd__ := fun_mk l_CQ___radd__ c_CQ___radd__ k_CQ___radd__
  have F_CQ___sub__ := fun_mk l_CQ___sub__ c_CQ___sub__ k_CQ___sub__
  have F_CQ___rsub__ := fun_mk l_CQ___rsub__ c_CQ___rsub__ k_CQ___rsub__
  have F_CQ___mul__ := fun_mk l_CQ___mul__ c_CQ___mul__ k_CQ___mul__
  have F_CQ___rmul__ := fun_mk l_CQ___rmul__ c_CQ___rmul__ k_CQ___rmul__
  have F_CQ___lt__ := fun_mk l_CQ___lt__ c_CQ___lt__ k_CQ___lt__
  have F_CQ___gt__ := fun_mk l_CQ___gt__ c_CQ___gt__ k_CQ___gt__
  have F_CQ___eq__ := fun_mk l_CQ___eq__ c_CQ___eq__ k_CQ___eq__
  have F_CT___init__ := fun_mk l_CT___init__ c_CT___init__ k_CT___init__
  have F_CT_batch_from := fun_mk l_CT_batch_from c_CT_batch_from k_CT_batch_from
  have F_CB2___init__ := fun_mk l_CB2___init__ c_CB2___init__ k_CB2___init__
  have F_CE2___init__ := fun_mk l_CE2___init__ c_CE2___init__ k_CE2___init__
  have F_CD___init__ := fun_mk l_CD___init__ c_CD___init__ k_CD___init__
  refine ⟨PySem.W.fnOf "law" "law" (defArgs s_law) (defBody s_law) (defScope s_law) .none kV23 dc23 pm23 an23 cd23 ct23, [(ct0, Pt)], spLaw K [(Pt, lamQb)], ?_, ?_, ?_, (fun s u => BindsTo.of_eq rfl), ?_, fun base kb nb tb => ?_⟩
  · intro p hp
    simp only [List.mem_cons, List.not_mem_nil, or_false] at hp
    rcases hp with rfl
    · exact tPPt
  · intro p hp
    simp only [List.mem_cons, List.not_mem_nil, or_false] at hp
    rcases hp with rfl
    · exact nPPt
  · intro p hp
    simp only [List.mem_cons, List.not_mem_nil, or_false] at hp
    rcases hp with rfl
    · exact PySem.W.codeHd_of_K X hCPt
  · intro H a ns hl hH hS
    refine ⟨a, ns, rfl, hS, hl, (fun p hp => ?_), fun _ => rfl⟩
    simp only [List.mem_cons, List.not_mem_nil, or_false] at hp
    rcases hp with rfl
    · exact tab0 (hH _ List.mem_cons_self)
  have TB := (⟨PySem.W.mg_none_of X G z_isinstance, PySem.W.mg_none_of X G z_int, PySem.W.mg_none_of X G z_bool⟩ : TxtB K mg)
  have TW := (⟨PySem.W.mg_none_of X G z_isinstance, PySem.W.mg_none_of X G z_int, PySem.W.mg_none_of X G z_bool, PySem.W.mg_none_of X G z_len, PySem.W.mg_none_of X G z_str, PySem.W.mg_none_of X G z_list, PySem.W.mg_none_of X G z_dict, PySem.W.mg_none_of X G z_tuple, PySem.W.mg_none_of X G z_sorted, PySem.W.mg_none_of X G z_sum, PySem.W.mg_none_of X G z_min, PySem.W.mg_none_of X G z_max, PySem.W.mg_none_of X G z_all, PySem.W.mg_none_of X G z_any, ⟨⟨_, PySem.W.mg_of X G a_CW, rfl⟩, ⟨pg_CW, hd_CW, po_CW, sa_CW⟩, yk_CW, ya_CW, yb, yc, yd_CW⟩, ⟨⟨_, PySem.W.mg_of X G aZNa, rfl⟩, ⟨gZNa, hZNa, xZNa, dZNa, jZNa, yb, yc, rZNa⟩, ⟨gZNa, hZNa, xZNa, dZNa⟩, (List.forall_mem_cons.mpr ⟨nZNa_value, (fun _ h => nomatch h)⟩), k1ZNa, emZNa, kVZNa⟩, ⟨⟨_, PySem.W.mg_of X G aZSp, rfl⟩, ⟨gZSp, hZSp, xZSp, dZSp, jZSp, yb, yc, rZSp⟩, ⟨gZSp, hZSp, xZSp, dZSp⟩, (List.forall_mem_cons.mpr ⟨nZSp_value, (fun _ h => nomatch h)⟩), k1ZSp, emZSp, kVZSp⟩, ⟨⟨_, PySem.W.mg_of X G aZCr, rfl⟩, ⟨gZCr, hZCr, xZCr, dZCr, jZCr, yb, yc, rZCr⟩, ⟨gZCr, hZCr, xZCr, dZCr⟩, (List.forall_mem_cons.mpr ⟨nZCr_part, (fun _ h => nomatch h)⟩), k1ZCr, emZCr, kVZCr⟩, ⟨⟨_, PySem.W.mg_of X G aZM, rfl⟩, ⟨gZM, hZM, xZM, dZM, jZM, yb, yc, rZM⟩, ⟨gZM, hZM, xZM, dZM⟩, (List.forall_mem_cons.mpr ⟨nZM_what, (List.forall_mem_cons.mpr ⟨nZM_most, (fun _ h => nomatch h)⟩)⟩), k1ZM, emZM, kVZM⟩, ⟨⟨_, PySem.W.mg_of X G aZNw, rfl⟩, ⟨gZNw, hZNw, xZNw, dZNw, jZNw, yb, yc, rZNw⟩, ⟨gZNw, hZNw, xZNw, dZNw⟩, (List.forall_mem_cons.mpr ⟨nZNw_name, (fun _ h => nomatch h)⟩), k1ZNw, emZNw, kVZNw⟩, n_CW_own_speeds, n_CW_workers, n_CW_speed, n_CW_slowest, n_CW_fastest, ⟨_, PySem.W.mg_of X G gWo, rfl⟩, fun H => .inr ⟨_, _, _, lWo, rfl, rfl, (show 10 ≤ sizeLine by decide), (.cons ⟨_, rfl⟩ (.cons ⟨_, rfl⟩ (.cons ⟨_, rfl⟩ (.cons ⟨_, rfl⟩ (.cons ⟨_, rfl⟩ (.cons ⟨_, rfl⟩ (.cons ⟨_, rfl⟩ (.cons ⟨_, rfl⟩ (.cons ⟨_, rfl⟩ (.cons ⟨_, rfl⟩ .nil))))))))))⟩, ⟨_, PySem.W.mg_of X G gSi, ⟨_, rfl⟩⟩, ⟨_, PySem.W.mg_of X G gSp, ⟨_, rfl⟩⟩, ⟨_, PySem.W.mg_of X G gMW, ⟨_, rfl⟩⟩⟩ : TxtW K mg CW BN BS BW CM NW CL aW)
  have TS := (⟨PySem.W.mg_none_of X G z_isinstance, ⟨⟨_, PySem.W.mg_of X G a_CS, rfl⟩, ⟨pg_CS, hd_CS, po_CS, sa_CS⟩, yk_CS, ya_CS, yb, yc, yd_CS⟩, ⟨_, PySem.W.mg_of X G a_CW, rfl⟩, ⟨_, PySem.W.mg_of X G a_CQ, rfl⟩, ⟨⟨_, PySem.W.mg_of X G aZRe, rfl⟩, ⟨gZRe, hZRe, xZRe, dZRe, jZRe, yb, yc, rZRe⟩, ⟨gZRe, hZRe, xZRe, dZRe⟩, (List.forall_mem_cons.mpr ⟨nZRe_value, (fun _ h => nomatch h)⟩), k1ZRe, emZRe, kVZRe⟩, ⟨⟨_, PySem.W.mg_of X G aZC, rfl⟩, ⟨gZC, hZC, xZC, dZC, jZC, yb, yc, rZC⟩, ⟨gZC, hZC, xZC, dZC⟩, (List.forall_mem_cons.mpr ⟨nZC_part, (fun _ h => nomatch h)⟩), k1ZC, emZC, kVZC⟩, ⟨⟨_, PySem.W.mg_of X G aZB, rfl⟩, ⟨gZB, hZB, xZB, dZB, jZB, yb, yc, rZB⟩, ⟨gZB, hZB, xZB, dZB⟩, (List.forall_mem_cons.mpr ⟨nZB_value, (fun _ h => nomatch h)⟩), k1ZB, emZB, kVZB⟩, ⟨⟨_, PySem.W.mg_of X G aZSe, rfl⟩, ⟨gZSe, hZSe, xZSe, dZSe, jZSe, yb, yc, rZSe⟩, ⟨gZSe, hZSe, xZSe, dZSe⟩, (List.forall_mem_cons.mpr ⟨nZSe_part, (fun _ h => nomatch h)⟩), k1ZSe, emZSe, kVZSe⟩, ⟨⟨_, PySem.W.mg_of X G aZCo, rfl⟩, ⟨gZCo, hZCo, xZCo, dZCo, jZCo, yb, yc, rZCo⟩, ⟨gZCo, hZCo, xZCo, dZCo⟩, (List.forall_mem_cons.mpr ⟨nZCo_value, (fun _ h => nomatch h)⟩), k1ZCo, emZCo, kVZCo⟩, ⟨⟨_, PySem.W.mg_of X G aZFe, rfl⟩, ⟨gZFe, hZFe, xZFe, dZFe, jZFe, yb, yc, rZFe⟩, ⟨gZFe, hZFe, xZFe, dZFe⟩, (List.forall_mem_cons.mpr ⟨nZFe_value, (fun _ h => nomatch h)⟩), k1ZFe, emZFe, kVZFe⟩, n_CS_crew, n_CS_least, n_CS_most, n_CS_fee, n_CS_own_slow, n_CS_own_fast, n_CS_lowest, ⟨pg_CW, hd_CW, po_CW, sa_CW⟩, ⟨⟨_, PySem.W.mg_of X G a_CW, rfl⟩, ⟨pg_CW, hd_CW, po_CW, sa_CW⟩, yk_CW, ya_CW, yb, yc, yd_CW⟩, n_CW_speed, n_CW_slowest, n_CW_fastest, ⟨_, PySem.W.mg_of X G gCo, ⟨_, rfl⟩⟩, ⟨_, PySem.W.mg_of X G gFe, ⟨_, rfl⟩⟩⟩ : TxtS K mg CS CW CQ BE CC CB SE BA BF CL)
  have TQ := (⟨PySem.W.mg_none_of X G z_isinstance, PySem.W.mg_none_of X G z_int, PySem.W.mg_none_of X G z_bool, PySem.W.mg_none_of X G z_len, PySem.W.mg_none_of X G z_abs, PySem.W.mg_none_of X G z_list, PySem.W.mg_none_of X G z_range, PySem.W.mg_none_of X G z_repr, ⟨_, PySem.W.mg_of X G a_CQ, rfl⟩, ⟨_, PySem.W.mg_of X G aZQ, rfl⟩, PySem.W.mg_of X G a_CL, ⟨pg_CQ, hd_CQ, po_CQ, sa_CQ⟩, n_CQ_over, n_CQ_under, yoQ, yiQ, yk_CQ, ya_CQ, yb, yc, yd_CQ, ⟨gZQ, hZQ, xZQ, dZQ, jZQ, yb, yc, rZQ⟩, ⟨gZQ, hZQ, xZQ, dZQ⟩, nZQ_value, k1ZQ, emZQ⟩ : TxtQ K mg CQ BR CL)
  have TB1 := (⟨PySem.W.mg_none_of X G z_isinstance, PySem.W.mg_none_of X G z_min, PySem.W.mg_none_of X G z_int, PySem.W.mg_none_of X G z_range, PySem.W.mg_none_of X G z_enumerate, ⟨_, PySem.W.mg_of X G gMOv, ⟨_, rfl⟩⟩, ⟨⟨_, PySem.W.mg_of X G a_CT, rfl⟩, ⟨pg_CT, hd_CT, po_CT, sa_CT⟩, yk_CT, ya_CT, yb, yc, yd_CT⟩, ⟨⟨_, PySem.W.mg_of X G a_CB2, rfl⟩, ⟨pg_CB2, hd_CB2, po_CB2, sa_CB2⟩, yk_CB2, ya_CB2, yb, yc, yd_CB2⟩, ⟨⟨_, PySem.W.mg_of X G a_CE2, rfl⟩, ⟨pg_CE2, hd_CE2, po_CE2, sa_CE2⟩, yk_CE2, ya_CE2, yb, yc, yd_CE2⟩, ⟨⟨_, PySem.W.mg_of X G a_CS, rfl⟩, ⟨pg_CS, hd_CS, po_CS, sa_CS⟩, yk_CS, ya_CS, yb, yc, yd_CS⟩, ⟨⟨_, PySem.W.mg_of X G aZRu, rfl⟩, ⟨gZRu, hZRu, xZRu, dZRu, jZRu, yb, yc, rZRu⟩, ⟨gZRu, hZRu, xZRu, dZRu⟩, (List.forall_mem_cons.mpr ⟨nZRu_part, (fun _ h => nomatch h)⟩), k1ZRu, emZRu, kVZRu⟩, ⟨⟨_, PySem.W.mg_of X G aZSe, rfl⟩, ⟨gZSe, hZSe, xZSe, dZSe, jZSe, yb, yc, rZSe⟩, ⟨gZSe, hZSe, xZSe, dZSe⟩, (List.forall_mem_cons.mpr ⟨nZSe_part, (fun _ h => nomatch h)⟩), k1ZSe, emZSe, kVZSe⟩, n_CT_many, n_CT_over, n_CS_fee, n_CB2_late, n_CB2_rest, n_CB2_spot, n_CE2_spot, n_CE2_rise⟩ : TxtB1 K mg (⟨CT, CS, CW, CQ, CC, SE, BE, CB, NW⟩ : LaA) CT RU CB2 CE2 CL)
  have TH := (⟨PySem.W.mg_none_of X G z_isinstance, PySem.W.mg_none_of X G z_len, PySem.W.mg_none_of X G z_ValueError, PySem.W.mg_of X G a_CL, ⟨⟨_, PySem.W.mg_of X G aZRu, rfl⟩, ⟨gZRu, hZRu, xZRu, dZRu, jZRu, yb, yc, rZRu⟩, ⟨gZRu, hZRu, xZRu, dZRu⟩, (List.forall_mem_cons.mpr ⟨nZRu_part, (fun _ h => nomatch h)⟩), k1ZRu, emZRu, kVZRu⟩, ⟨⟨_, PySem.W.mg_of X G aZSe, rfl⟩, ⟨gZSe, hZSe, xZSe, dZSe, jZSe, yb, yc, rZSe⟩, ⟨gZSe, hZSe, xZSe, dZSe⟩, (List.forall_mem_cons.mpr ⟨nZSe_part, (fun _ h => nomatch h)⟩), k1ZSe, emZSe, kVZSe⟩, kSR, kRS⟩ : TxtH K mg CL RU SE)
  have TD := (⟨⟨_, PySem.W.mg_of X G a_CD, rfl⟩, ⟨pg_CD, hd_CD, po_CD, sa_CD⟩, yk_CD, ya_CD, yb, yc, yd_CD⟩ : ClT K mg "Divided" CD)
  have TWc := (⟨⟨_, PySem.W.mg_of X G a_CW, rfl⟩, ⟨pg_CW, hd_CW, po_CW, sa_CW⟩, yk_CW, ya_CW, yb, yc, yd_CW⟩ : ClT K mg "Crew" CW)
  have AP : Ap72 K CT CD CW CS := ⟨kT7T, kT7S, kDT, kWT, kWS, kTS⟩
  have CFQ : CmpF K CQ := ⟨cf1_CQ, cf2_CQ, cf3_CQ, yd_CQ, cf5_CQ⟩
  have TP := (⟨PySem.W.mg_none_of X G z_list, PySem.W.mg_none_of X G z_int, PySem.W.mg_none_of X G z_len, PySem.W.mg_none_of X G z_abs⟩ : TxtP K mg)
  have SZB : SupF l.prog K mg CB fZB cdZB ccZB (defScope s_BadSize___init__) := ⟨⟨eZB, sZB, xZB, yZB, kZB⟩, ⟨_, _, _, qZB⟩, ⟨_, _, _, _, _, _, uZB, vZB, wZB⟩, mZB, PySem.W.mg_none_of X G zS, tS, oB, pZB, bZB, by decide +kernel, by decide +kernel⟩
  have e_BadSize : Er1 l.prog w K mg base "BadSize" CB "value" := ⟨⟨eZB, sZB, xZB, yZB, kZB⟩, PySem.W.mg_of X G aZB, fZB, _, "value", iZB, tZB, ok_BadSize lZB cZB SZB nZB_value, .all (fun us hl => match us, hl with | [_, _], _ => rfl)⟩
  have SZC : SupF l.prog K mg CC fZC cdZC ccZC (defScope s_BadChunks___init__) := ⟨⟨eZC, sZC, xZC, yZC, kZC⟩, ⟨_, _, _, qZC⟩, ⟨_, _, _, _, _, _, uZC, vZC, wZC⟩, mZC, PySem.W.mg_none_of X G zS, tS, oB, pZC, bZC, by decide +kernel, by decide +kernel⟩
  have e_BadChunks : Er1 l.prog w K mg base "BadChunks" CC "part" := ⟨⟨eZC, sZC, xZC, yZC, kZC⟩, PySem.W.mg_of X G aZC, fZC, _, "part", iZC, tZC, ok_BadChunks lZC cZC SZC nZC_part, .all (fun us hl => match us, hl with | [_, _], _ => rfl)⟩
  have SZM : SupF l.prog K mg CM fZM cdZM ccZM (defScope s_TooMany___init__) := ⟨⟨eZM, sZM, xZM, yZM, kZM⟩, ⟨_, _, _, qZM⟩, ⟨_, _, _, _, _, _, uZM, vZM, wZM⟩, mZM, PySem.W.mg_none_of X G zS, tS, oB, pZM, bZM, by decide +kernel, by decide +kernel⟩
  have e_TooMany : Er2 l.prog w K mg base "TooMany" CM "what" "most" := ⟨⟨eZM, sZM, xZM, yZM, kZM⟩, PySem.W.mg_of X G aZM, fZM, _, "what", "most", iZM, tZM, ok_TooMany lZM cZM SZM nZM_what nZM_most, .all (fun us hl => match us, hl with | [_, _, _], _ => rfl)⟩
  have SZNa : SupF l.prog K mg BN fZNa cdZNa ccZNa (defScope s_BadName___init__) := ⟨⟨eZNa, sZNa, xZNa, yZNa, kZNa⟩, ⟨_, _, _, qZNa⟩, ⟨_, _, _, _, _, _, uZNa, vZNa, wZNa⟩, mZNa, PySem.W.mg_none_of X G zS, tS, oB, pZNa, bZNa, by decide +kernel, by decide +kernel⟩
  have e_BadName : Er1 l.prog w K mg base "BadName" BN "value" := ⟨⟨eZNa, sZNa, xZNa, yZNa, kZNa⟩, PySem.W.mg_of X G aZNa, fZNa, _, "value", iZNa, tZNa, ok_BadName lZNa cZNa SZNa nZNa_value, .all (fun us hl => match us, hl with | [_, _], _ => rfl)⟩
  have SZSp : SupF l.prog K mg BS fZSp cdZSp ccZSp (defScope s_BadSpeed___init__) := ⟨⟨eZSp, sZSp, xZSp, yZSp, kZSp⟩, ⟨_, _, _, qZSp⟩, ⟨_, _, _, _, _, _, uZSp, vZSp, wZSp⟩, mZSp, PySem.W.mg_none_of X G zS, tS, oB, pZSp, bZSp, by decide +kernel, by decide +kernel⟩
  have e_BadSpeed : Er1 l.prog w K mg base "BadSpeed" BS "value" := ⟨⟨eZSp, sZSp, xZSp, yZSp, kZSp⟩, PySem.W.mg_of X G aZSp, fZSp, _, "value", iZSp, tZSp, ok_BadSpeed lZSp cZSp SZSp nZSp_value, .all (fun us hl => match us, hl with | [_, _], _ => rfl)⟩
  have SZCr : SupF l.prog K mg BW fZCr cdZCr ccZCr (defScope s_BadCrew___init__) := ⟨⟨eZCr, sZCr, xZCr, yZCr, kZCr⟩, ⟨_, _, _, qZCr⟩, ⟨_, _, _, _, _, _, uZCr, vZCr, wZCr⟩, mZCr, PySem.W.mg_none_of X G zS, tS, oB, pZCr, bZCr, by decide +kernel, by decide +kernel⟩
  have e_BadCrew : Er1 l.prog w K mg base "BadCrew" BW "part" := ⟨⟨eZCr, sZCr, xZCr, yZCr, kZCr⟩, PySem.W.mg_of X G aZCr, fZCr, _, "part", iZCr, tZCr, ok_BadCrew lZCr cZCr SZCr nZCr_part, .all (fun us hl => match us, hl with | [_, _], _ => rfl)⟩
  have SZNw : SupF l.prog K mg NW fZNw cdZNw ccZNw (defScope s_NoWorker___init__) := ⟨⟨eZNw, sZNw, xZNw, yZNw, kZNw⟩, ⟨_, _, _, qZNw⟩, ⟨_, _, _, _, _, _, uZNw, vZNw, wZNw⟩, mZNw, PySem.W.mg_none_of X G zS, tS, oB, pZNw, bZNw, by decide +kernel, by decide +kernel⟩
  have e_NoWorker : Er1 l.prog w K mg base "NoWorker" NW "name" := ⟨⟨eZNw, sZNw, xZNw, yZNw, kZNw⟩, PySem.W.mg_of X G aZNw, fZNw, _, "name", iZNw, tZNw, ok_NoWorker lZNw cZNw SZNw nZNw_name, .all (fun us hl => match us, hl with | [_, _], _ => rfl)⟩
  have SZQ : SupF l.prog K mg BR fZQ cdZQ ccZQ (defScope s_BadRatio___init__) := ⟨⟨eZQ, sZQ, xZQ, yZQ, kZQ⟩, ⟨_, _, _, qZQ⟩, ⟨_, _, _, _, _, _, uZQ, vZQ, wZQ⟩, mZQ, PySem.W.mg_none_of X G zS, tS, oB, pZQ, bZQ, by decide +kernel, by decide +kernel⟩
  have e_BadRatio : Er1 l.prog w K mg base "BadRatio" BR "value" := ⟨⟨eZQ, sZQ, xZQ, yZQ, kZQ⟩, PySem.W.mg_of X G aZQ, fZQ, _, "value", iZQ, tZQ, ok_BadRatio lZQ cZQ SZQ nZQ_value, .all (fun us hl => match us, hl with | [_, _], _ => rfl)⟩
  have SZRe : SupF l.prog K mg BE fZRe cdZRe ccZRe (defScope s_BadRest___init__) := ⟨⟨eZRe, sZRe, xZRe, yZRe, kZRe⟩, ⟨_, _, _, qZRe⟩, ⟨_, _, _, _, _, _, uZRe, vZRe, wZRe⟩, mZRe, PySem.W.mg_none_of X G zS, tS, oB, pZRe, bZRe, by decide +kernel, by decide +kernel⟩
  have e_BadRest : Er1 l.prog w K mg base "BadRest" BE "value" := ⟨⟨eZRe, sZRe, xZRe, yZRe, kZRe⟩, PySem.W.mg_of X G aZRe, fZRe, _, "value", iZRe, tZRe, ok_BadRest lZRe cZRe SZRe nZRe_value, .all (fun us hl => match us, hl with | [_, _], _ => rfl)⟩
  have SZSe : SupF l.prog K mg SE fZSe cdZSe ccZSe (defScope s_BadSetting___init__) := ⟨⟨eZSe, sZSe, xZSe, yZSe, kZSe⟩, ⟨_, _, _, qZSe⟩, ⟨_, _, _, _, _, _, uZSe, vZSe, wZSe⟩, mZSe, PySem.W.mg_none_of X G zS, tS, oB, pZSe, bZSe, by decide +kernel, by decide +kernel⟩
  have e_BadSetting : Er1 l.prog w K mg base "BadSetting" SE "part" := ⟨⟨eZSe, sZSe, xZSe, yZSe, kZSe⟩, PySem.W.mg_of X G aZSe, fZSe, _, "part", iZSe, tZSe, ok_BadSetting lZSe cZSe SZSe nZSe_part, .all (fun us hl => match us, hl with | [_, _], _ => rfl)⟩
  have SZCo : SupF l.prog K mg BA fZCo cdZCo ccZCo (defScope s_BadCost___init__) := ⟨⟨eZCo, sZCo, xZCo, yZCo, kZCo⟩, ⟨_, _, _, qZCo⟩, ⟨_, _, _, _, _, _, uZCo, vZCo, wZCo⟩, mZCo, PySem.W.mg_none_of X G zS, tS, oB, pZCo, bZCo, by decide +kernel, by decide +kernel⟩
  have e_BadCost : Er1 l.prog w K mg base "BadCost" BA "value" := ⟨⟨eZCo, sZCo, xZCo, yZCo, kZCo⟩, PySem.W.mg_of X G aZCo, fZCo, _, "value", iZCo, tZCo, ok_BadCost lZCo cZCo SZCo nZCo_value, .all (fun us hl => match us, hl with | [_, _], _ => rfl)⟩
  have SZFe : SupF l.prog K mg BF fZFe cdZFe ccZFe (defScope s_BadFee___init__) := ⟨⟨eZFe, sZFe, xZFe, yZFe, kZFe⟩, ⟨_, _, _, qZFe⟩, ⟨_, _, _, _, _, _, uZFe, vZFe, wZFe⟩, mZFe, PySem.W.mg_none_of X G zS, tS, oB, pZFe, bZFe, by decide +kernel, by decide +kernel⟩
  have e_BadFee : Er1 l.prog w K mg base "BadFee" BF "value" := ⟨⟨eZFe, sZFe, xZFe, yZFe, kZFe⟩, PySem.W.mg_of X G aZFe, fZFe, _, "value", iZFe, tZFe, ok_BadFee lZFe cZFe SZFe nZFe_value, .all (fun us hl => match us, hl with | [_, _], _ => rfl)⟩
  have SZRu : SupF l.prog K mg RU fZRu cdZRu ccZRu (defScope s_BadRule___init__) := ⟨⟨eZRu, sZRu, xZRu, yZRu, kZRu⟩, ⟨_, _, _, qZRu⟩, ⟨_, _, _, _, _, _, uZRu, vZRu, wZRu⟩, mZRu, PySem.W.mg_none_of X G zS, tS, oB, pZRu, bZRu, by decide +kernel, by decide +kernel⟩
  have e_BadRule : Er1 l.prog w K mg base "BadRule" RU "part" := ⟨⟨eZRu, sZRu, xZRu, yZRu, kZRu⟩, PySem.W.mg_of X G aZRu, fZRu, _, "part", iZRu, tZRu, ok_BadRule lZRu cZRu SZRu nZRu_part, .all (fun us hl => match us, hl with | [_, _], _ => rfl)⟩
  have c_is_integer : FnO l.prog w K mg base CX0 1 "is_integer" ["value"] (spIsI2 K) := ⟨⟨f1, _, ok_is_integer F1 TB, PySem.W.mg_of X G a1, k1, bMk F1 (fun _ _ _ _ _ _ us hl => match us, hl with | [_], _ => rfl)⟩⟩
  have c_is_within : FnO l.prog w K mg base CX0 2 "is_within" ["value", "least", "most"] (spWithin2 K) := ⟨⟨f2, _, ok_is_within F2 TB c_is_integer, PySem.W.mg_of X G a2, k2, bMk F2 (fun _ _ _ _ _ _ us hl => match us, hl with | [_, _, _], _ => rfl)⟩⟩
  have c_is_name : FnO l.prog w K mg base CX0 1 "is_name" ["value"] (spIsNm K) := ⟨⟨f3, _, ok_is_name F3 TW, PySem.W.mg_of X G a3, k3, bMk F3 (fun _ _ _ _ _ _ us hl => match us, hl with | [_], _ => rfl)⟩⟩
  have c_is_speed : FnO l.prog w K mg base CX0 3 "is_speed" ["value"] (spIn K 60) := ⟨⟨f4, _, ok_is_speed F4 TW c_is_within, PySem.W.mg_of X G a4, k4, bMk F4 (fun _ _ _ _ _ _ us hl => match us, hl with | [_], _ => rfl)⟩⟩
  have c_need_speed : FnO l.prog w K mg base (L2.CX l.prog w) 4 "need_speed" ["value"] (spNeedSpeed K BS) := ⟨⟨f5, _, ok_need_speed F5 TW c_is_speed e_BadSpeed, PySem.W.mg_of X G a5, k5, bMk F5 (fun _ _ _ _ _ _ us hl => match us, hl with | [_], _ => rfl)⟩⟩
  have c_need_speeds : FnO l.prog w K mg base (L2.CX l.prog w) 5 "need_speeds" ["speeds", "names"] (spNeedSps K BN BS) := ⟨⟨f6, _, ok_need_speeds F6 TW c_is_name c_need_speed e_BadName, PySem.W.mg_of X G a6, k6, bMk F6 (fun _ _ _ _ _ _ us hl => match us, hl with | [_, _], _ => rfl)⟩⟩
  have c_first_with : FnO l.prog w K mg base CX0 1 "first_with" ["speeds", "speed"] spFirst := ⟨⟨f7, _, ok_first_with F7 TW, PySem.W.mg_of X G a7, k7, bMk F7 (fun _ _ _ _ _ _ us hl => match us, hl with | [_, _], _ => rfl)⟩⟩
  have m_Crew_kv : McKw l.prog w K mg base (L2.CX l.prog w) 7 "Crew" CW "self" (spCrew CW BW CM) := ⟨⟨g_CW___init__, ok_Crew F_CW___init__ TW c_need_speeds c_first_with e_BadCrew e_TooMany, PySem.W.mg_of X G a_CW, ⟨mk_CW, a_CW___init__, i_CW___init__, kc_CW⟩⟩⟩
  have me_cont : Me l.prog w K mg base CW "__contains__" 1 ["self", "name"] (spContW K CW) := ⟨⟨g_CW___contains__, _, a_CW___contains__, i_CW___contains__, ok_wcont F_CW___contains__ TW, bMk F_CW___contains__ (fun _ _ _ _ _ _ us hl => match us, hl with | [_, _], _ => rfl)⟩⟩
  have get_i : GetM l.prog w K mg base CW 3 ["self", "name"] (spGetW K CW NW) := ⟨⟨g_CW___getitem__, _, a_CW___getitem__, i_CW___getitem__, fi_CW, ns_CW, rfl, ok_wget F_CW___getitem__ TW me_cont e_NoWorker, bMk F_CW___getitem__ (fun _ _ _ _ _ _ us hl => match us, hl with | [_, _], _ => rfl)⟩⟩
  have c_common : FnO l.prog w K mg base CX0 1 "common" ["one", "other"] spCommon := ⟨⟨f8, _, ok_common F8, PySem.W.mg_of X G a8, k8, bMk F8 (fun _ _ _ _ _ _ us hl => match us, hl with | [_, _], _ => rfl)⟩⟩
  have F_CQ___init__ : FunD K "__init__" "Ratio.__init__" (defArgs s_Ratio___init__) (defBody s_Ratio___init__) (defScope s_Ratio___init__) [.int 1] [] g_CQ___init__ _ := ⟨⟨_, _, _, _, _, _, _, _, _, _, rfl, l_CQ___init__, c_CQ___init__, .inr ⟨by simp, T_CQ___init__, _, [.int 1 t_CQ___init__0], nT_CQ___init__, rfl, lT_CQ___init__, rfl, (.cons ⟨_, rfl⟩ .nil)⟩, .inl rfl⟩, k_CQ___init__⟩
  have o_CQ := ok_ratio (P := l.prog) (w := w) (base := base) F_CQ___init__ TQ (isI_od c_is_integer) c_common e_BadRatio
  obtain ⟨dCQ2, vCQ2, bCQ2⟩ := F_CQ___init__.binds1 (ps := ["self", "over", "under"]) 3 1 (by simp) rfl fun T kV doc pm an cdv ct us its h1 h2 => match us, its, h1, h2 with | [_, _, _], [_], _, _ => ⟨_, rfl, rfl⟩
  have m_Ratio_2 : McO l.prog w K mg base (L2.CX l.prog w) 3 "Ratio" CQ ["self", "over", "under"] (spRatio CQ BR) [] := ⟨⟨g_CQ___init__, _, dCQ2, o_CQ, PySem.W.mg_of X G a_CQ, ⟨mk_CQ, a_CQ___init__, i_CQ___init__, kc_CQ⟩, bCQ2, vCQ2⟩⟩
  obtain ⟨dCQ1, vCQ1, bCQ1⟩ := F_CQ___init__.binds1 (ps := ["self", "over", "under"]) 2 0 (by simp) rfl fun T kV doc pm an cdv ct us its h1 h2 => match us, its, h1, h2 with | [_, _], [_], _, _ => ⟨_, rfl, rfl⟩
  have m_Ratio_1 : McO l.prog w K mg base (L2.CX l.prog w) 3 "Ratio" CQ ["self", "over", "under"] (spRatio CQ BR) [.int 1] := ⟨⟨g_CQ___init__, _, dCQ1, o_CQ, PySem.W.mg_of X G a_CQ, ⟨mk_CQ, a_CQ___init__, i_CQ___init__, kc_CQ⟩, bCQ1, vCQ1⟩⟩
  have c_told_of : FnO l.prog w K mg base (L2.CX l.prog w) 5 "told_of" ["value"] (spTold CQ BR) := ⟨⟨f9, _, ok_told F9 TQ (isI_od c_is_integer) m_Ratio_1 e_BadRatio, PySem.W.mg_of X G a9, k9, bMk F9 (fun _ _ _ _ _ _ us hl => match us, hl with | [_], _ => rfl)⟩⟩
  have c_add : BinM l.prog w K mg base CQ .Add 6 (spBin gAdd CQ BR) (spBin gAdd CQ BR) := ⟨⟨sfQ, oQ_add, sIQ, sBQ, vQ_add, uQ_add, xQ_add, mrQ⟩, g_CQ___add__, _, g_CQ___radd__, _, a_CQ___add__, a_CQ___radd__, i_CQ___add__, i_CQ___radd__, ok_add F_CQ___add__ TQ c_told_of m_Ratio_2, bMk F_CQ___add__ (fun _ _ _ _ _ _ us hl => match us, hl with | [_, _], _ => rfl), ok_radd F_CQ___radd__ TQ c_told_of m_Ratio_2, bMk F_CQ___radd__ (fun _ _ _ _ _ _ us hl => match us, hl with | [_, _], _ => rfl)⟩
  have c_sub : BinM l.prog w K mg base CQ .Sub 6 (spBin gDif CQ BR) (spBin gRdif CQ BR) := ⟨⟨sfQ, oQ_sub, sIQ, sBQ, vQ_sub, uQ_sub, xQ_sub, mrQ⟩, g_CQ___sub__, _, g_CQ___rsub__, _, a_CQ___sub__, a_CQ___rsub__, i_CQ___sub__, i_CQ___rsub__, ok_sub F_CQ___sub__ TQ c_told_of m_Ratio_2, bMk F_CQ___sub__ (fun _ _ _ _ _ _ us hl => match us, hl with | [_, _], _ => rfl), ok_rsub F_CQ___rsub__ TQ c_told_of m_Ratio_2, bMk F_CQ___rsub__ (fun _ _ _ _ _ _ us hl => match us, hl with | [_, _], _ => rfl)⟩
  have c_mul : BinM l.prog w K mg base CQ .Mult 6 (spBin gMul CQ BR) (spBin gMul CQ BR) := ⟨⟨sfQ, oQ_mul, sIQ, sBQ, vQ_mul, uQ_mul, xQ_mul, mrQ⟩, g_CQ___mul__, _, g_CQ___rmul__, _, a_CQ___mul__, a_CQ___rmul__, i_CQ___mul__, i_CQ___rmul__, ok_mul F_CQ___mul__ TQ c_told_of m_Ratio_2, bMk F_CQ___mul__ (fun _ _ _ _ _ _ us hl => match us, hl with | [_, _], _ => rfl), ok_rmul F_CQ___rmul__ TQ c_told_of m_Ratio_2, bMk F_CQ___rmul__ (fun _ _ _ _ _ _ us hl => match us, hl with | [_, _], _ => rfl)⟩
  have m_qlt : Me l.prog w K mg base CQ "__lt__" 6 ["self", "other"] (spCmp gLt CQ BR) := ⟨⟨g_CQ___lt__, _, a_CQ___lt__, i_CQ___lt__, ok_lt F_CQ___lt__ TQ c_told_of, bMk F_CQ___lt__ (fun _ _ _ _ _ _ us hl => match us, hl with | [_, _], _ => rfl)⟩⟩
  have m_qgt : Me l.prog w K mg base CQ "__gt__" 6 ["self", "other"] (spCmp gGt CQ BR) := ⟨⟨g_CQ___gt__, _, a_CQ___gt__, i_CQ___gt__, ok_gt F_CQ___gt__ TQ c_told_of, bMk F_CQ___gt__ (fun _ _ _ _ _ _ us hl => match us, hl with | [_, _], _ => rfl)⟩⟩
  have m_qeq : Me l.prog w K mg base CQ "__eq__" 2 ["self", "other"] (spEqR CQ) := ⟨⟨g_CQ___eq__, _, a_CQ___eq__, i_CQ___eq__, ok_eq F_CQ___eq__ TQ (isI_od c_is_integer), bMk F_CQ___eq__ (fun _ _ _ _ _ _ us hl => match us, hl with | [_, _], _ => rfl)⟩⟩
  have c_need_spot : FnO l.prog w K mg base (L2.CX l.prog w) 3 "need_spot" ["rest", "place"] (spSpot K BE CC) := ⟨⟨f10, _, ok_need_spot F10 TS c_is_integer e_BadRest e_BadChunks, PySem.W.mg_of X G a10, k10, bMk F10 (fun _ _ _ _ _ _ us hl => match us, hl with | [_, _], _ => rfl)⟩⟩
  have mt_late_of : Mt l.prog w K mg base (L2.CX l.prog w) 8 CS "late_of" "self" ["rest", "place", "size"] (spLate K CS CW CQ BE CC CB) := ⟨⟨g_CS_late_of, _, ⟨pg_CS, hd_CS, po_CS, sa_CS⟩, ⟨a_CS_late_of, i_CS_late_of, k_CS_late_of⟩, ok_late_of F_CS_late_of TS c_need_spot c_is_within m_Ratio_2 c_add e_BadSize, bMk F_CS_late_of (fun _ _ _ _ _ _ us hl => match us, hl with | [_, _, _, _], _ => rfl), bmMk F_CS_late_of (fun _ _ _ _ _ _ a us hl => match us, hl with | [_, _, _], _ => rfl)⟩⟩
  have F_CS___init__ : FunD K "__init__" "Setting.__init__" (defArgs s_Setting___init__) (defBody s_Setting___init__) (defScope s_Setting___init__) [.int 1, .int 1, .int 0] [] g_CS___init__ _ := ⟨⟨_, _, _, _, _, _, _, _, _, _, rfl, l_CS___init__, c_CS___init__, .inr ⟨by simp, T_CS___init__, _, [.int 1 t_CS___init__0, .int 1 t_CS___init__1, .int 0 t_CS___init__2], nT_CS___init__, rfl, lT_CS___init__, rfl, (.cons ⟨_, rfl⟩ (.cons ⟨_, rfl⟩ (.cons ⟨_, rfl⟩ .nil)))⟩, .inl rfl⟩, k_CS___init__⟩
  have o_CS := ok_Setting (P := l.prog) (w := w) (base := base) F_CS___init__ TS c_is_within get_i mt_late_of e_BadSetting e_BadCost e_BadFee
  obtain ⟨dCS4, vCS4, bCS4⟩ := F_CS___init__.binds1 (ps := ["self", "crew", "least", "most", "fee"]) 5 3 (by simp) rfl fun T kV doc pm an cdv ct us its h1 h2 => match us, its, h1, h2 with | [_, _, _, _, _], [_, _, _], _, _ => ⟨_, rfl, rfl⟩
  have m_Setting_4 : McO l.prog w K mg base (L2.CX l.prog w) 9 "Setting" CS ["self", "crew", "least", "most", "fee"] (spSet K CS CW CQ SE BA BF) [] := ⟨⟨g_CS___init__, _, dCS4, o_CS, PySem.W.mg_of X G a_CS, ⟨mk_CS, a_CS___init__, i_CS___init__, kc_CS⟩, bCS4, vCS4⟩⟩
  have st_cof : StM l.prog w K mg base (L2.CX l.prog w) 9 CW "of" ["speeds"] (spCrewOf CW) := ⟨⟨.type "type", p_CW_of, g_CW_of, _, rest_CW_of, ⟨sr_CW, sg_CW⟩, sf_CW_of, sc_CW_of, rfl, k_CW_of, ok_crew_of F_CW_of TW c_need_speeds m_Crew_kv e_BadCrew, bMk F_CW_of (fun _ _ _ _ _ _ us hl => match us, hl with | [_], _ => rfl), bkMk F_CW_of (fun _ _ _ _ _ _ us hl => match us, hl with | [_], _ => rfl)⟩⟩
  have mt_with_fee : Mt l.prog w K mg base (L2.CX l.prog w) 11 CS "with_fee" "self" ["fee"] (spWithFe K CS CW CQ BF) := ⟨⟨g_CS_with_fee, _, ⟨pg_CS, hd_CS, po_CS, sa_CS⟩, ⟨a_CS_with_fee, i_CS_with_fee, k_CS_with_fee⟩, ok_with_fee F_CS_with_fee TS m_Setting_4, bMk F_CS_with_fee (fun _ _ _ _ _ _ us hl => match us, hl with | [_, _], _ => rfl), bmMk F_CS_with_fee (fun _ _ _ _ _ _ a us hl => match us, hl with | [_], _ => rfl)⟩⟩
  have c_straight : MeK l.prog w K mg base CS "straight" 8 (spStraight K CS CW CQ SE) := ⟨⟨g_CS_straight, _, ⟨a_CS_straight, i_CS_straight, k_CS_straight⟩, ok_straight F_CS_straight TS m_Ratio_2 c_sub e_BadSetting, bMk F_CS_straight (fun _ _ _ _ _ _ us hl => match us, hl with | [_], _ => rfl)⟩⟩
  have c_rounded_up : FnO l.prog w K mg base CX0 1 "rounded_up" ["number", "by"] spUpDiv := ⟨⟨f11, _, ok_rup F11, PySem.W.mg_of X G a11, k11, bMk F11 (fun _ _ _ _ _ _ us hl => match us, hl with | [_, _], _ => rfl)⟩⟩
  have o_CB2 := ok_init_BB (P := l.prog) (w := w) (base := base) F_CB2___init__ TB1
  have m_BatchBound_3 : McO l.prog w K mg base (L2.CX l.prog w) 1 "BatchBound" CB2 ["self", "late", "rest", "spot"] (spInit CB2 ["late", "rest", "spot"]) [] := ⟨⟨g_CB2___init__, _, _, o_CB2, PySem.W.mg_of X G a_CB2, ⟨mk_CB2, a_CB2___init__, i_CB2___init__, kc_CB2⟩, bMk F_CB2___init__ (fun _ _ _ _ _ _ us hl => match us, hl with | [_, _, _, _], _ => rfl), .nil⟩⟩
  have o_CE2 := ok_init_BE (P := l.prog) (w := w) (base := base) F_CE2___init__ TB1
  have m_BatchEndless_2 : McO l.prog w K mg base (L2.CX l.prog w) 1 "BatchEndless" CE2 ["self", "spot", "rise"] (spInit CE2 ["spot", "rise"]) [] := ⟨⟨g_CE2___init__, _, _, o_CE2, PySem.W.mg_of X G a_CE2, ⟨mk_CE2, a_CE2___init__, i_CE2___init__, kc_CE2⟩, bMk F_CE2___init__ (fun _ _ _ _ _ _ us hl => match us, hl with | [_, _, _], _ => rfl), .nil⟩⟩
  have o_CT := ok_init_Bt F_CT___init__ TB1 c_is_within e_BadRule
  have m_Batched_2 : McO l.prog w K mg base (L2.CX l.prog w) 3 "Batched" CT ["self", "many", "over"] (spBtI CT) [] := ⟨⟨g_CT___init__, _, _, o_CT, PySem.W.mg_of X G a_CT, ⟨mk_CT, a_CT___init__, i_CT___init__, kc_CT⟩, bMk F_CT___init__ (fun _ _ _ _ _ _ us hl => match us, hl with | [_, _, _], _ => rfl), .nil⟩⟩
  have o_CD := ok_initDv F_CD___init__ TB1 ⟨pg_CD, hd_CD, po_CD, sa_CD⟩ ⟨_, PySem.W.mg_of X G gMDv, ⟨_, rfl⟩⟩ ⟨_, PySem.W.mg_of X G gMAd, ⟨_, rfl⟩⟩ n_CD_x n_CD_y n_CD_w n_CD_parts n_CD_modulus c_is_within e_BadRule
  have m_Divided_3 : McO l.prog w K mg base (L2.CX l.prog w) 3 "Divided" CD ["self", "x", "y", "w"] (spDv CD) [] := ⟨⟨g_CD___init__, _, _, o_CD, PySem.W.mg_of X G a_CD, ⟨mk_CD, a_CD___init__, i_CD___init__, kc_CD⟩, bMk F_CD___init__ (fun _ _ _ _ _ _ us hl => match us, hl with | [_, _, _, _], _ => rfl), .nil⟩⟩
  have mt_batch_from : Mt l.prog w K mg base (L2.CX l.prog w) 2 CT "batch_from" "self" ["rest"] (spBFrom CT) := ⟨⟨g_CT_batch_from, _, ⟨pg_CT, hd_CT, po_CT, sa_CT⟩, ⟨a_CT_batch_from, i_CT_batch_from, k_CT_batch_from⟩, ok_bfrom F_CT_batch_from TB1 c_rounded_up, bMk F_CT_batch_from (fun _ _ _ _ _ _ us hl => match us, hl with | [_, _], _ => rfl), bmMk F_CT_batch_from (fun _ _ _ _ _ _ a us hl => match us, hl with | [_], _ => rfl)⟩⟩
  have c_need_batched : FnO l.prog w K mg base (L2.CX l.prog w) 3 "need_batched" ["batched", "setting"] (spNeedB K (⟨CT, CS, CW, CQ, CC, SE, BE, CB, NW⟩ : LaA) CT RU) := ⟨⟨f12, _, ok_needB F12 TB1 e_BadRule e_BadSetting, PySem.W.mg_of X G a12, k12, bMk F12 (fun _ _ _ _ _ _ us hl => match us, hl with | [_, _], _ => rfl)⟩⟩
  have c_rise_of : FnO l.prog w K mg base (L2.CX l.prog w) 9 "rise_of" ["batched", "setting"] (spRiseB (⟨CT, CS, CW, CQ, CC, SE, BE, CB, NW⟩ : LaA) CT) := ⟨⟨f13, _, ok_riseB F13 TB1 c_straight c_sub c_mul, PySem.W.mg_of X G a13, k13, bMk F13 (fun _ _ _ _ _ _ us hl => match us, hl with | [_, _], _ => rfl)⟩⟩
  have c_lates_from : FnO l.prog w K mg base (L2.CX l.prog w) 9 "lates_from" ["batched", "setting", "rest"] (spLatB (⟨CT, CS, CW, CQ, CC, SE, BE, CB, NW⟩ : LaA) CT) := ⟨⟨f14, _, ok_lats F14 TB1 mt_batch_from mt_late_of, PySem.W.mg_of X G a14, k14, bMk F14 (fun _ _ _ _ _ _ us hl => match us, hl with | [_, _, _], _ => rfl)⟩⟩
  have c_greatest_batched : FnO l.prog w K mg base (L2.CX l.prog w) 10 "greatest_batched" ["batched", "setting"] (spGreatB K (⟨CT, CS, CW, CQ, CC, SE, BE, CB, NW⟩ : LaA) CT RU CB2 CE2) := ⟨⟨f15, _, ok_great F15 TB1 CFQ m_qgt m_qlt c_need_batched c_rise_of c_lates_from m_BatchBound_3 m_BatchEndless_2, PySem.W.mg_of X G a15, k15, bMk F15 (fun _ _ _ _ _ _ us hl => match us, hl with | [_, _], _ => rfl)⟩⟩
  have c_is_bound : FnO l.prog w K mg base (L2.CX l.prog w) 9 "is_bound" ["batched", "setting", "paper"] spVoid := ⟨⟨f17, _, sp_void (fun vs H Q E z => z.2.elim) 9, PySem.W.mg_of X G a17, k17, bMk F17 (fun _ _ _ _ _ _ us hl => match us, hl with | [_, _, _], _ => rfl)⟩⟩
  have c_shows_batched : FnO l.prog w K mg base (L2.CX l.prog w) 10 "shows_batched" ["batched", "setting", "value"] (spShB0 K (⟨CT, CS, CW, CQ, CC, SE, BE, CB, NW⟩ : LaA) CT RU CB2 CE2) := ⟨⟨f16, _, ok_showsB0 F16 TB1 ⟨_, PySem.W.mg_of X G a_CQ, rfl⟩ CFQ m_qgt m_qlt m_qeq c_is_integer c_need_batched c_rise_of c_is_bound, PySem.W.mg_of X G a16, k16, bMk F16 (fun _ _ _ _ _ _ us hl => match us, hl with | [_, _, _], _ => rfl)⟩⟩
  have r_greatest_batched : FnR l.prog w K mg base (L2.CX l.prog w) 10 "greatest_batched" ["batched", "setting"] (spGreatB K (⟨CT, CS, CW, CQ, CC, SE, BE, CB, NW⟩ : LaA) CT RU CB2 CE2) := ⟨⟨f15, _, ok_great F15 TB1 CFQ m_qgt m_qlt c_need_batched c_rise_of c_lates_from m_BatchBound_3 m_BatchEndless_2, PySem.W.mg_of X G a15, k15, bkrMk F15 (fun _ _ _ _ _ _ us hl => match us, hl with | [_, _], _ => rfl)⟩⟩
  have r_shows_batched : FnR l.prog w K mg base (L2.CX l.prog w) 10 "shows_batched" ["batched", "setting", "value"] (spShB0 K (⟨CT, CS, CW, CQ, CC, SE, BE, CB, NW⟩ : LaA) CT RU CB2 CE2) := ⟨⟨f16, _, ok_showsB0 F16 TB1 ⟨_, PySem.W.mg_of X G a_CQ, rfl⟩ CFQ m_qgt m_qlt m_qeq c_is_integer c_need_batched c_rise_of c_is_bound, PySem.W.mg_of X G a16, k16, bkrMk F16 (fun _ _ _ _ _ _ us hl => match us, hl with | [_, _, _], _ => rfl)⟩⟩
  have F_CW_even : FunD K "even" "Crew.even" (defArgs s_Crew_even) (defBody s_Crew_even) (defScope s_Crew_even) [.int 1] [] g_CW_even _ := ⟨⟨_, _, _, _, _, _, _, _, _, _, rfl, l_CW_even, c_CW_even, .inr ⟨by simp, T_CW_even, _, [.int 1 t_CW_even0], nT_CW_even, rfl, lT_CW_even, rfl, (.cons ⟨_, rfl⟩ .nil)⟩, .inl rfl⟩, k_CW_even⟩
  obtain ⟨d_ev, v_ev, b_ev⟩ := F_CW_even.binds1 (ps := ["many", "speed"]) 2 1 (by simp) rfl fun T kV doc pm an cdv ct us its h1 h2 => match us, its, h1, h2 with | [_, _], [_], _, _ => ⟨_, rfl, rfl⟩
  have std_even2 : StD l.prog w K mg base (L2.CX l.prog w) 10 CW "even" ["many", "speed"] (spEvenW CW) [] := ⟨⟨.type "type", p_CW_even, g_CW_even, _, rest_CW_even, d_ev, ⟨sr_CW, sg_CW⟩, sf_CW_even, sc_CW_even, rfl, k_CW_even, ok_weven F_CW_even TW c_is_within c_need_speed st_cof e_BadCrew, b_ev, v_ev⟩⟩
  have FH : HeF K mg := ⟨f18, _, F18, PySem.W.mg_of X G a18, bMk F18 (fun _ _ _ _ _ _ us hl => match us, hl with | [_], _ => rfl)⟩
  have c__law_pen : Fn l.prog w K mg base CX0 1 "_law_pen" ["_law_script"] (spPen K) := fnMk F19 (ok_pen F19 TP) (PySem.W.mg_of X G a19) (fun _ _ _ _ _ _ us hl => match us, hl with | [_], _ => rfl) (fun _ _ _ _ _ _ us hl => match us, hl with | [_], _ => rfl)
  have c__law_draw : Fn l.prog w K mg base CX0 1 "_law_draw" ["_law_pen_here", "_law_many"] spDraw := fnMk F20 (ok_draw F20 TP) (PySem.W.mg_of X G a20) (fun _ _ _ _ _ _ us hl => match us, hl with | [_, _], _ => rfl) (fun _ _ _ _ _ _ us hl => match us, hl with | [_, _], _ => rfl)
  have c__law_pick : Fn l.prog w K mg base CX0 2 "_law_pick" ["_law_pen_here", "_law_some"] spPick := fnMk F21 (ok_pick F21 TP c__law_draw) (PySem.W.mg_of X G a21) (fun _ _ _ _ _ _ us hl => match us, hl with | [_, _], _ => rfl) (fun _ _ _ _ _ _ us hl => match us, hl with | [_, _], _ => rfl)
  have c__law_both : Fn l.prog w K mg base CX0 14 "_law_both" ["_law_batched", "_law_setting"] (spBoth K (⟨CT, CS, CW, CQ, CC, SE, BE, CB, NW⟩ : LaA) CT RU CB2 CE2 [(Pt, lamQb)]) := fnMk (F22.fun k22) (ok_both F22 (tb _ List.mem_cons_self) List.mem_cons_self (fun p hp e => tt_uniq hPd hp List.mem_cons_self e) TH FH ⟨kn1, kn2, kn3, kn4⟩ c_greatest_batched r_greatest_batched c_shows_batched r_shows_batched) (PySem.W.mg_of X G a22) (fun _ _ _ _ _ _ us hl => match us, hl with | [_, _], _ => rfl) (fun _ _ _ _ _ _ us hl => match us, hl with | [_, _], _ => rfl)
  exact ok_law F23 TH TB1 AP TD TWc kTR ⟨_, PySem.W.mg_of X G a_CRl, rfl⟩ ⟨_, PySem.W.mg_of X G a_CW, rfl⟩ m_Batched_2 m_Divided_3 m_Setting_4 std_even2 mt_with_fee c__law_pen c__law_draw c__law_pick c__law_both
end K72
end
section
set_option maxRecDepth 100000 in
set_option maxHeartbeats 0 in
theorem PySem.Challenge.cw_latechunks_k72_judging_batches_refused_holds : PySem.Challenge.rw_latechunks_k72_judging_batches_refused.Holds :=
  K72H.head @K72.all_mk
end
